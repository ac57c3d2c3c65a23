import PyProof.Rows.All
import Wide.All
import OpenK.AllK
import Wide.FinOn
import HandS.ForMost
import HandS.ForExc
import HandS.Wide
import HandS.IsInst
import HandS.Flow
import HandS.Defaults
import HandS.Zip
import HandS.More
import HandS.HeadHook1
import HandS.TupAny
import HandS.Head0
import HandS.Head1
import HandS.Head2
import HandS.HeadEnd
import HandS.HeadHook2
import HandS.TupMul
import HandS.Deep
import KE.KRevSl
import HandS.Exc
import HandS.ExcOwn
import HandS.ExcValue
import KE.KExcIs
import HandS.CallSlots
import HandS.List
import HandS.Text
import HandS.Style
import HandS.FStr
import HandS.ExcInit
import HandS.ExcField
import HandS.TryOnly
import PySem.Challenge.RW_landsheets_k05_whole_meets_cut_and_carri
set_option Elab.async false
set_option linter.all false
set_option maxRecDepth 100000
set_option maxHeartbeats 4000000
/-! D3: the hand layer's readings without a heap. Values are data (PyData); lists that a def makes and changes are owned slots. -/
namespace L2
open PySem PySem.Spec PyProof.Rows
abbrev D3.Dt := PyData
open D3 (Dt)
/-! ### data stay when the heap grows -/
theorem sqT_mono {K : PySem.W.Frag} {H H' : Hp} {a : Addr} {xs : List V} (s : Same H H') (h : SqT K H a xs) : SqT K H' a xs := by
  rcases h with h | h
  · rcases h with h | ⟨o, h⟩
    · exact .inl (.inl (s _ _ h))
    · exact .inl (.inr ⟨o, s _ _ h⟩)
  · exact .inr h
end L2
namespace L2.D3
open PySem PySem.Spec PyProof.Rows
/-! ### values as data; a dict is data as long as it is empty; a pool is a list of one whole number from 0 on, which may change -/
def PoolO (a : Addr) : HO := .ext fun h => ∃ (n c : Nat) (t : Tok), h.get? a = some { cls := .type "list", data := .seq #[.int (n : Int) t] c }
/-- keys of dicts -/
def kD : Key → PyData
  | .inl i => .int i
  | .inr z => .str z
def ktD (ks : List Key) : PyData := .tuple (ks.map kD)
/-- a dict whose keys are ints and texts; one whose keys are tuples of such -/
def dkD (ks : List Key) (ds : List PyData) : PyData := .dict (List.zip (ks.map kD) ds)
def dtD (ks : List (List Key)) (ds : List PyData) : PyData := .dict ((.str "t", .none) :: List.zip (ks.map ktD) ds)
mutual
inductive Dp (K : PySem.W.Frag) (H : Hp) : V → PyData → Prop
  | non : Dp K H .non .none
  | bl (b : Bool) : Dp K H (.bl b) (.bool b)
  | int (i : Int) : Dp K H (.int i) (.int i)
  | str (z : Str) : Dp K H (.str z) (.str z)
  | lst {a : Addr} {us : List V} {es : List PyData} : SqL K H a us → DpAll K H us es → Dp K H (.ref a) (.list es)
  | tup {a : Addr} {us : List V} {es : List PyData} : SqT K H a us → DpAll K H us es → Dp K H (.ref a) (.tuple es)
  | dk {a : Addr} {ks : List Key} {us : List V} {es : List PyData} {m : List (PyData × PyData)} : H a = some (.dK (List.zip ks us)) → ks.length = us.length → DpAll K H us es → m = List.zip (ks.map kD) es → Dp K H (.ref a) (.dict m)
  | dt {a : Addr} {ks : List (List Key)} {us : List V} {es : List PyData} {m : List (PyData × PyData)} : H a = some (.dT (List.zip ks us)) → ks.length = us.length → DpAll K H us es → m = (.str "t", .none) :: List.zip (ks.map ktD) es → Dp K H (.ref a) (.dict m)
  | pool {a : Addr} : H a = some (PoolO a) → Dp K H (.ref a) (.dict [(.list [], .none)])
inductive DpAll (K : PySem.W.Frag) (H : Hp) : List V → List PyData → Prop
  | nil : DpAll K H [] []
  | cons {u : V} {us : List V} {e : PyData} {es : List PyData} : Dp K H u e → DpAll K H us es → DpAll K H (u :: us) (e :: es)
end
mutual
theorem dp_old {K : PySem.W.Frag} {H : Hp} : ∀ (d : Dt) (v : V), Dp K H v d → d.canLay0 = true → L2.Dp K H v d
  | .none, _, h, _ => by cases h; exact .non
  | .bool b, _, h, _ => by cases h; exact .bl b
  | .int i, _, h, _ => by cases h; exact .int i
  | .str x, _, h, _ => by cases h; exact .str x
  | .list ds, _, h, c => by
    cases h with
    | lst hs ha => exact .lst hs (dpAll_old ds _ ha (by simpa [PyData.canLay0] using c))
  | .tuple ds, _, h, c => by
    cases h with
    | tup hs ha => exact .tup hs (dpAll_old ds _ ha (by simpa [PyData.canLay0] using c))
  | .dict _, _, h, c => by simp [PyData.canLay0] at c
theorem dpAll_old {K : PySem.W.Frag} {H : Hp} : ∀ (ds : List Dt) (vs : List V), DpAll K H vs ds → PyData.canLayAll0 ds = true → L2.DpAll K H vs ds
  | [], _, h, _ => by cases h; exact .nil
  | d :: ds, _, h, c => by
    cases h with
    | cons h1 h2 =>
      have c2 : d.canLay0 = true ∧ PyData.canLayAll0 ds = true := by simpa [PyData.canLayAll0] using c
      exact .cons (dp_old d _ h1 c2.1) (dpAll_old ds _ h2 c2.2)
end
theorem Dp.old {K : PySem.W.Frag} {H : Hp} {v : V} {d : Dt} (h : Dp K H v d) (s : SeqAt.shaped d = true) : L2.Dp K H v d := dp_old d v h (by
  unfold SeqAt.shaped at s
  rw [Bool.and_eq_true] at s
  exact s.1)
mutual
theorem dp_mono {K : PySem.W.Frag} {H H' : Hp} (s : Same H H') {d : Dt} {v : V} : Dp K H v d → Dp K H' v d
  | .non => .non
  | .bl b => .bl b
  | .int i => .int i
  | .str z => .str z
  | .lst hs ha => .lst (s.seq hs) (dpAll_mono s ha)
  | .tup hs ha => .tup (sqT_mono s hs) (dpAll_mono s ha)
  | .dk h l ha e => .dk (s _ _ h) l (dpAll_mono s ha) e
  | .dt h l ha e => .dt (s _ _ h) l (dpAll_mono s ha) e
  | .pool e => .pool (s _ _ e)
theorem dpAll_mono {K : PySem.W.Frag} {H H' : Hp} (s : Same H H') {ds : List Dt} {vs : List V} : DpAll K H vs ds → DpAll K H' vs ds
  | .nil => .nil
  | .cons h1 h2 => .cons (dp_mono s h1) (dpAll_mono s h2)
end
theorem Dp.up {K : PySem.W.Frag} {H H' : Hp} {d : Dt} {v : V} (h : Dp K H v d) (s : Same H H') : Dp K H' v d := dp_mono s h
theorem DpAll.up {K : PySem.W.Frag} {H H' : Hp} {ds : List Dt} {vs : List V} (h : DpAll K H vs ds) (s : Same H H') : DpAll K H' vs ds := dpAll_mono s h
theorem DpAll.len {K : PySem.W.Frag} {H : Hp} : ∀ {ds : List Dt} {vs : List V}, DpAll K H vs ds → vs.length = ds.length
  | [], _, h => by cases h; rfl
  | d :: ds, _, h => by
    cases h with
    | cons h1 h2 => exact congrArg Nat.succ (DpAll.len h2)
theorem DpAll.get {K : PySem.W.Frag} {H : Hp} : ∀ {ds : List Dt} {vs : List V} {i : Nat} {d : Dt}, DpAll K H vs ds → ds[i]? = some d → ∃ v, vs[i]? = some v ∧ Dp K H v d
  | [], _, i, d, h, e => by simp at e
  | d0 :: ds, _, 0, d, h, e => by
    cases h with
    | cons h1 h2 =>
      have e' : d0 = d := Option.some.inj e
      subst e'
      exact ⟨_, rfl, h1⟩
  | d0 :: ds, _, i + 1, d, h, e => by
    cases h with
    | cons h1 h2 =>
      obtain ⟨v, q1, q2⟩ := DpAll.get (i := i) h2 (by simpa using e)
      exact ⟨v, by simpa using q1, q2⟩
theorem DpAll.app {K : PySem.W.Frag} {H : Hp} : ∀ {ds es : List Dt} {vs us : List V}, DpAll K H vs ds → DpAll K H us es → DpAll K H (vs ++ us) (ds ++ es)
  | [], es, _, us, h, g => by cases h; exact g
  | d :: ds, es, _, us, h, g => by
    cases h with
    | cons h1 h2 => exact .cons h1 (DpAll.app h2 g)
theorem DpAll.take {K : PySem.W.Frag} {H : Hp} : ∀ {ds : List Dt} {vs : List V} (n : Nat), DpAll K H vs ds → DpAll K H (vs.take n) (ds.take n)
  | [], _, n, h => by cases h; simp; exact .nil
  | d :: ds, _, 0, h => .nil
  | d :: ds, _, n + 1, h => by
    cases h with
    | cons h1 h2 => exact .cons h1 (DpAll.take n h2)
theorem DpAll.drop {K : PySem.W.Frag} {H : Hp} : ∀ {ds : List Dt} {vs : List V} (n : Nat), DpAll K H vs ds → DpAll K H (vs.drop n) (ds.drop n)
  | [], _, n, h => by cases h; simp; exact .nil
  | d :: ds, _, 0, h => h
  | d :: ds, _, n + 1, h => by
    cases h with
    | cons h1 h2 => exact DpAll.drop n h2
theorem DpAll.set {K : PySem.W.Frag} {H : Hp} {d : Dt} {v : V} (g : Dp K H v d) : ∀ {ds : List Dt} {vs : List V} (n : Nat), DpAll K H vs ds → DpAll K H (vs.set n v) (ds.set n d)
  | [], _, n, h => by cases h; exact .nil
  | d0 :: ds, _, 0, h => by
    cases h with
    | cons h1 h2 => exact .cons g h2
  | d0 :: ds, _, n + 1, h => by
    cases h with
    | cons h1 h2 => exact .cons h1 (DpAll.set g n h2)
theorem DpAll.one {K : PySem.W.Frag} {H : Hp} {d : Dt} {v : V} (g : Dp K H v d) : DpAll K H [v] [d] := .cons g .nil
theorem DpAll.reverse {K : PySem.W.Frag} {H : Hp} : ∀ {ds : List Dt} {vs : List V}, DpAll K H vs ds → DpAll K H vs.reverse ds.reverse
  | [], _, h => by cases h; exact .nil
  | d :: ds, _, h => by
    cases h with
    | cons h1 h2 =>
      rw [List.reverse_cons, List.reverse_cons]
      exact DpAll.app (DpAll.reverse h2) (.one h1)
theorem DpAll.ints {K : PySem.W.Frag} {H : Hp} : ∀ (ns : List Int), DpAll K H (ns.map V.int) (ns.map PyData.int)
  | [] => .nil
  | n :: ns => .cons (.int n) (DpAll.ints ns)
theorem same_new {H : Hp} {p : Addr} {o : HO} (h : H p = none) : Same H (upd H p o) := fun b x e => by
  rw [upd_ne (ne_of_none e h)]
  exact e
/-! ### the frame rule: what is changed here stands aside while an expression runs -/
def isMut : HO → Bool
  | .lst _ => true
  | .dK _ => true
  | .dT _ => true
  | _ => false
structure Fz (F H : Hp) : Prop where
  same : Same F H
  drop : ∀ a o, H a = some o → F a = some o ∨ (F a = none ∧ isMut o = true)
theorem Fz.refl (H : Hp) : Fz H H := ⟨Same.refl H, fun _ _ e => .inl e⟩
theorem Fz.keep {F H : Hp} (z : Fz F H) {a : Addr} {o : HO} (e : H a = some o) (n : isMut o = false) : F a = some o := by
  rcases z.drop a o e with q | ⟨_, q⟩
  · exact q
  · rw [n] at q; cases q
def glue (F H : Hp) : Hp := fun a => match F a with
  | some o => some o
  | none => H a
theorem glue_some {F H : Hp} {a : Addr} {o : HO} (e : F a = some o) : glue F H a = some o := by unfold glue; rw [e]
theorem glue_none {F H : Hp} {a : Addr} (e : F a = none) : glue F H a = H a := by unfold glue; rw [e]
def tFr (te : TE) : TE := fun σ H Q => ∃ F, Fz F H ∧ te σ F fun v F' => Same F F' ∧ ((∀ a o, H a = some o → F a = none → F' a = none) → Q v (glue F' H))
section
variable {X : Cx} {pins : List (Addr × Obj)} {σ : St} {H F : Hp} {s : Shared}
theorem stk_free (I : Inv X pins σ H s) {b : Addr} (hb : b ∈ X.fs) : H b = none := by
  have h := I.stkFree
  rcases I.ok.stk with e | ⟨e, _⟩
  · exact h b (by rw [e]; exact hb)
  · exact h b (by
      rw [e]
      unfold frs
      rw [List.filterMap_cons]
      split
      · exact hb
      · exact List.mem_cons_of_mem _ hb)
theorem obj_of_mut {P : Program} {w : World} {h : Heap} {a : Addr} {o : HO} (x : ObjOk P w H h a o) (m : isMut o = true) : ∃ ob, h.get? a = some ob ∧ ∀ v, ob.data ≠ .cell v := by
  cases o with
  | lst xs =>
    obtain ⟨_, its, n, _, e⟩ := x
    exact ⟨_, e, fun v z => by cases z⟩
  | dK kvs =>
    obtain ⟨_, _, vs, _, ob, es, ep, e, _, d, _⟩ := x
    exact ⟨_, e, fun v z => by rw [d] at z; cases z⟩
  | dT kvs =>
    obtain ⟨_, _, xs, _, ob, es, ep, e, _, d, _⟩ := x
    exact ⟨_, e, fun v z => by rw [d] at z; cases z⟩
  | _ => cases m
/-- what stands aside -/
def aside (h : Heap) (H F : Hp) : List (Addr × Obj) := (List.range h.objs.size).filterMap fun a => if (H a).isSome = true ∧ (F a).isSome = false then (h.get? a).map fun o => (a, o) else none
theorem mem_aside {h : Heap} {a : Addr} {o : HO} {ob : Obj} (e : H a = some o) (f : F a = none) (g : h.get? a = some ob) : (a, ob) ∈ aside h H F :=
  List.mem_filterMap.mpr ⟨a, List.mem_range.mpr (Heap.lt_size g), by rw [if_pos ⟨by rw [e]; rfl, by rw [f]; rfl⟩, g]; rfl⟩
theorem of_aside {h : Heap} {p : Addr × Obj} (hp : p ∈ aside h H F) : (∃ o, H p.1 = some o) ∧ F p.1 = none ∧ h.get? p.1 = some p.2 := by
  obtain ⟨b, _, e⟩ := List.mem_filterMap.mp hp
  split at e
  · rename_i c
    cases q : h.get? b with
    | none => rw [q] at e; cases e
    | some u =>
      rw [q] at e
      have e' : (b, u) = p := Option.some.inj e
      subst e'
      refine ⟨Option.isSome_iff_exists.mp c.1, ?_, q⟩
      cases z : F b with
      | none => rfl
      | some y => have z2 := c.2; rw [z] at z2; cases z2
  · cases e
theorem Inv.without (I : Inv X pins σ H s) (z : Fz F H) : Inv X (pins ++ aside s.heap H F) σ F s := by
  have low : ∀ b, H b = none → F b = none := fun b e => by
    cases q : F b with
    | none => rfl
    | some o => rw [z.same b o q] at e; cases e
  refine ⟨I.ok, I.os, I.bare, ⟨I.base.keep, I.base.slot, fun b o q n hx => low b (I.base.free b o q n hx), I.base.there, fun b xs q => z.keep (I.base.tups b xs q) rfl, fun b o u q => z.keep (I.base.frzs b o u q) rfl, fun b ps q => ?_⟩, I.loc, I.cell, low _ I.free, fun x c e => low _ (I.freeC x c e), fun p hp => ?_, fun a o e => ?_, I.len⟩
  · obtain ⟨more, q⟩ := I.base.tbls b ps q
    exact ⟨more, z.keep q rfl⟩
  · rcases List.mem_append.mp hp with h1 | h1
    · obtain ⟨a1, a2, a3⟩ := I.pin p (List.mem_append_left _ h1)
      exact ⟨a1, low _ a2, a3⟩
    · rcases List.mem_append.mp h1 with h1 | h1
      · obtain ⟨a1, a2, a3⟩ := I.pin p (List.mem_append_right _ h1)
        exact ⟨a1, low _ a2, a3⟩
      · obtain ⟨⟨o, e⟩, f, g⟩ := of_aside h1
        have m : isMut o = true := by
          rcases z.drop _ _ e with q | ⟨_, q⟩
          · rw [f] at q; cases q
          · exact q
        obtain ⟨ob, g2, nc⟩ := obj_of_mut (I.hok _ _ e) m
        rw [g] at g2
        cases g2
        refine ⟨g, f, fun q => ?_, fun q => ?_, nc⟩
        · rw [q, I.free] at e; cases e
        · rw [stk_free I q] at e; cases e
  · exact (I.hok a o (z.same a o e)).stay (fun _ _ _ q => q) (fun b q => z.keep q rfl) fun b xs q => z.keep q rfl
theorem Inv.back {F' : Hp} {s' : Shared} {σ' : St} (I : Inv X pins σ H s) (z : Fz F H) (sm : Same F F') (J : Inv X (pins ++ aside s.heap H F) σ' F' s') : Inv X pins σ' (glue F' H) s' ∧ ∀ a o, H a = some o → F a = none → F' a = none := by
  have pinned : ∀ a o, H a = some o → F a = none → F' a = none ∧ ∀ ob, s.heap.get? a = some ob → s'.heap.get? a = some ob := fun a o e f => by
    have m : isMut o = true := by
      rcases z.drop _ _ e with q | ⟨_, q⟩
      · rw [f] at q; cases q
      · exact q
    obtain ⟨ob, g, _⟩ := obj_of_mut (I.hok _ _ e) m
    obtain ⟨a1, a2, _⟩ := J.pin (a, ob) (List.mem_append_right _ (List.mem_append_right _ (mem_aside e f g)))
    refine ⟨a2, fun ob' g' => ?_⟩
    rw [g] at g'
    cases g'
    exact a1
  have up : ∀ b o, F' b = some o → glue F' H b = some o := fun b o e => glue_some e
  have tupsUp : ∀ b xs, H b = some (.tup xs) → glue F' H b = some (.tup xs) := fun b xs e => up b _ (sm b _ (z.keep e rfl))
  refine ⟨⟨I.ok, J.os, J.bare, ⟨J.base.keep, J.base.slot, fun b o q n hx => ?_, J.base.there, fun b xs q => up b _ (J.base.tups b xs q), fun b o u q => up b _ (J.base.frzs b o u q), fun b ps q => ?_⟩, J.loc, J.cell, ?_, fun x c e => ?_, fun p hp => ?_, fun a o e => ?_, J.len⟩, fun a o e f => (pinned a o e f).1⟩
  · rw [glue_none (J.base.free b o q n hx)]
    exact I.base.free b o q n hx
  · obtain ⟨more, q⟩ := J.base.tbls b ps q
    exact ⟨more, up b _ q⟩
  · rw [glue_none J.free]; exact I.free
  · rw [glue_none (J.freeC x c e)]; exact I.freeC x c e
  · have h1 : p ∈ X.pn ++ (pins ++ aside s.heap H F) := by
      rcases List.mem_append.mp hp with h | h
      · exact List.mem_append_left _ h
      · exact List.mem_append_right _ (List.mem_append_left _ h)
    obtain ⟨a1, a2, a3⟩ := J.pin p h1
    refine ⟨a1, ?_, a3⟩
    rw [glue_none a2]
    exact (I.pin p hp).2.1
  · cases q : F' a with
    | some o' =>
      rw [glue_some q] at e
      cases e
      exact (J.hok a _ q).stay (fun _ _ _ q => q) (fun b q => up b _ q) fun b xs q => up b _ q
    | none =>
      rw [glue_none q] at e
      have f : F a = none := by
        cases f : F a with
        | none => rfl
        | some o' => rw [sm a o' f] at q; cases q
      have m : isMut o = true := by
        rcases z.drop _ _ e with q | ⟨_, q⟩
        · rw [f] at q; cases q
        · exact q
      have k := (pinned a o e f).2
      have ok := I.hok a o e
      cases o with
      | lst xs =>
        obtain ⟨l, its, n, r, g⟩ := ok
        exact ⟨l, its, n, r, k _ g⟩
      | dK kvs =>
        obtain ⟨l, y, vs, r, ob, es, ep, g, c⟩ := ok
        exact ⟨l, y, vs, r, ob, es, ep, k _ g, c⟩
      | dT kvs =>
        obtain ⟨l, y, xs, r, ob, es, ep, g, c⟩ := ok
        exact ⟨l, y, xs, Paired.mapP r fun p q z => ⟨z.1, tupsUp _ _ z.2.1, z.2.2⟩, ob, es, ep, k _ g, c⟩
      | _ => cases m
theorem pe_frame {e : Expr} {te : TE} (h : PE X e te) : PE X e (tFr te) := by
  refine ⟨fun pins s σ H Q I hw => ?_⟩
  obtain ⟨F, z, ht⟩ := hw
  refine thn (h.run _ s σ F _ (Inv.without I z) ht) fun u s1 hh => ?_
  obtain ⟨v, F', J, r, sm, q⟩ := hh
  obtain ⟨K1, dj⟩ := Inv.back I z sm J
  exact ⟨v, glue F' H, K1, r, q dj⟩
end
end L2.D3
set_option maxHeartbeats 4000000
namespace L2.D3
open PySem PySem.Spec PyProof.Rows
/-! ### expressions over data -/
/-- what is known of a value and stays known while the heap grows -/
structure Ass where
  p : PySem.W.Frag → Hp → V → Prop
  up : ∀ K H H' v, Same H H' → p K H v → p K H' v
/-- a name: nothing known, a datum, something else -/
inductive Cl where
  | no
  | da (d : Dt)
  | an (A : Ass)
def Cl.d : Cl → Option Dt
  | .da d => some d
  | _ => none
def Cl.a : Cl → Option Ass
  | .an A => some A
  | _ => none
abbrev Fro := List Cl
def getF : Fro → Nat → Option Dt
  | [], _ => none
  | a :: _, 0 => a.d
  | _ :: r, n + 1 => getF r n
def getA : Fro → Nat → Option Ass
  | [], _ => none
  | a :: _, 0 => a.a
  | _ :: r, n + 1 => getA r n
def setF : Fro → Nat → Dt → Fro
  | [], _, _ => []
  | _ :: r, 0, d => .da d :: r
  | a :: r, n + 1, d => a :: setF r n d
theorem getF_setF : ∀ {φ : Fro} {i j : Nat} {d e : Dt}, getF (setF φ i d) j = some e → (j = i ∧ e = d) ∨ (j ≠ i ∧ getF φ j = some e)
  | [], i, j, d, e, h => by cases h
  | a :: r, 0, 0, d, e, h => .inl ⟨rfl, (Option.some.inj h).symm⟩
  | a :: r, 0, j + 1, d, e, h => .inr ⟨Nat.succ_ne_zero j, h⟩
  | a :: r, i + 1, 0, d, e, h => .inr ⟨(Nat.succ_ne_zero i).symm, h⟩
  | a :: r, i + 1, j + 1, d, e, h => by
    rcases getF_setF (φ := r) (i := i) (j := j) h with ⟨a1, a2⟩ | ⟨a1, a2⟩
    · exact .inl ⟨by rw [a1], a2⟩
    · exact .inr ⟨fun z => a1 (Nat.succ.inj z), a2⟩
theorem getA_setF : ∀ {φ : Fro} {i j : Nat} {d : Dt} {e : Ass}, getA (setF φ i d) j = some e → j ≠ i ∧ getA φ j = some e
  | [], i, j, d, e, h => by cases h
  | a :: r, 0, 0, d, e, h => by cases h
  | a :: r, 0, j + 1, d, e, h => ⟨Nat.succ_ne_zero j, h⟩
  | a :: r, i + 1, 0, d, e, h => ⟨(Nat.succ_ne_zero i).symm, h⟩
  | a :: r, i + 1, j + 1, d, e, h => by
    obtain ⟨a1, a2⟩ := getA_setF (φ := r) (i := i) (j := j) h
    exact ⟨fun z => a1 (Nat.succ.inj z), a2⟩
theorem setF_len : ∀ {φ : Fro} {i : Nat} {d : Dt}, (setF φ i d).length = φ.length
  | [], i, d => rfl
  | a :: r, 0, d => rfl
  | a :: r, i + 1, d => congrArg Nat.succ (setF_len (φ := r))
theorem getF_lt : ∀ {φ : Fro} {i : Nat} {d : Dt}, getF φ i = some d → i < φ.length
  | [], i, d, h => by cases h
  | a :: r, 0, d, h => Nat.zero_lt_succ _
  | a :: r, i + 1, d, h => Nat.succ_lt_succ (getF_lt (φ := r) h)
structure EnvF (K : PySem.W.Frag) (σ : St) (H : Hp) (φ : Fro) : Prop where
  len : φ.length ≤ σ.length
  at_ : ∀ i d, getF φ i = some d → ∃ v, σ[i]? = some (some v) ∧ Dp K H v d
  an : ∀ i A, getA φ i = some A → ∃ v, σ[i]? = some (some v) ∧ A.p K H v
theorem EnvF.up {K : PySem.W.Frag} {σ : St} {H H' : Hp} {φ : Fro} (h : EnvF K σ H φ) (s : Same H H') : EnvF K σ H' φ := ⟨h.len, fun i d e => by
  obtain ⟨v, a, b⟩ := h.at_ i d e
  exact ⟨v, a, b.up s⟩, fun i A e => by
  obtain ⟨v, a, b⟩ := h.an i A e
  exact ⟨v, a, A.up _ _ _ _ s b⟩⟩
theorem EnvF.set {K : PySem.W.Frag} {σ : St} {H : Hp} {φ : Fro} {i : Nat} {d : Dt} {v : V} (h : EnvF K σ H φ) (hv : Dp K H v d) : EnvF K (σ.set i (some v)) H (setF φ i d) := by
  refine ⟨by rw [setF_len, List.length_set]; exact h.len, fun j e q => ?_, fun j A q => ?_⟩
  · have hj := getF_lt q
    rw [setF_len] at hj
    have hl := Nat.lt_of_lt_of_le hj h.len
    rcases getF_setF q with ⟨rfl, rfl⟩ | ⟨a1, a2⟩
    · exact ⟨v, by rw [List.getElem?_set_self hl], hv⟩
    · obtain ⟨u, b1, b2⟩ := h.at_ j e a2
      exact ⟨u, by rw [List.getElem?_set_ne (Ne.symm a1)]; exact b1, b2⟩
  · obtain ⟨a1, a2⟩ := getA_setF q
    obtain ⟨u, b1, b2⟩ := h.an j A a2
    exact ⟨u, by rw [List.getElem?_set_ne (Ne.symm a1)]; exact b1, b2⟩
abbrev DE := Fro → (Dt → Prop) → Prop
abbrev DT := Fro → (Bool → Prop) → Prop
abbrev DA := Fro → (List Dt → Prop) → Prop
def SE (K : PySem.W.Frag) (te : TE) (de : DE) : Prop := ∀ (σ : St) (H : Hp) (φ : Fro) (Φ : Dt → Prop) (Q : VK), EnvF K σ H φ → de φ Φ → (∀ v H' d, Same H H' → Dp K H' v d → Φ d → Q v H') → te σ H Q
def ST (K : PySem.W.Frag) (tt : TT) (dt : DT) : Prop := ∀ (σ : St) (H : Hp) (φ : Fro) (Φ : Bool → Prop) (Q : Bool → Hp → Prop), EnvF K σ H φ → dt φ Φ → (∀ b H', Same H H' → Φ b → Q b H') → tt σ H Q
def SA (K : PySem.W.Frag) (n : Nat) (ta : TA) (da : DA) : Prop := ∀ (σ : St) (H : Hp) (φ : Fro) (Φ : List Dt → Prop) (Q : List V → Hp → Prop), EnvF K σ H φ → da φ Φ → (∀ vs H' ds, Same H H' → DpAll K H' vs ds → ds.length = n → Φ ds → Q vs H') → ta σ H Q
structure GE (X : Cx) (e : Expr) (de : DE) : Prop where
  ex : ∃ te, PE X e te ∧ SE X.K te de
structure GT (X : Cx) (e : Expr) (dt : DT) : Prop where
  ex : ∃ tt, PT X e tt ∧ ST X.K tt dt
structure GW (X : Cx) (e : Expr) (dt : DT) : Prop where
  ex : ∃ tt, PW X e tt ∧ ST X.K tt dt
structure GA (X : Cx) (es : List Expr) (da : DA) : Prop where
  ex : ∃ ta, PA X es ta ∧ SA X.K es.length ta da
/-! names, constants -/
def dV (i : Nat) : DE := fun φ Φ => match getF φ i with
  | some d => Φ d
  | none => False
def dC (d : Dt) : DE := fun _ Φ => Φ d
section
variable {X : Cx} {K : PySem.W.Frag}
theorem se_var (i : Nat) : SE K (tVar i) (dV i) := fun σ H φ Φ Q env h q => by
  unfold dV at h
  cases e : getF φ i with
  | none => rw [e] at h; exact h.elim
  | some d =>
    rw [e] at h
    obtain ⟨v, a, b⟩ := env.at_ i d e
    exact ⟨v, a, q v H d (Same.refl H) b h⟩
theorem gv (i : Nat) {x : Str} {pos : Pos} (hN : X.N[i]? = some x := by rfl) (hv : Vis X.env.scope x := by first | exact Or.inl rfl | exact Or.inr (Or.inl rfl) | exact Or.inr (Or.inr rfl)) (hd : (x == ("__debug__" : Str)) = false := by decide)
    (hcd : (x == ("__classdict__" : Str)) = false := by decide) : GE X (.Name x pos) (dV i) := ⟨_, pe_var hN hv hd hcd, se_var i⟩
theorem se_c {v : V} {d : Dt} (h : ∀ H, Dp K H v d) : SE K (tC v) (dC d) := fun σ H φ Φ Q env hd q => q v H d (Same.refl H) (h H) hd
theorem g_int {i : Int} {j pos} : GE X (.Constant (.int i) j pos) (dC (.int i)) := ⟨_, pe_int, se_c fun _ => .int i⟩
theorem g_bl {b : Bool} {j pos} : GE X (.Constant (.bool b) j pos) (dC (.bool b)) := ⟨_, pe_bl, se_c fun _ => .bl b⟩
theorem g_non {j pos} : GE X (.Constant .none j pos) (dC .none) := ⟨_, pe_non, se_c fun _ => .non⟩
theorem g_str {x j pos} : GE X (.Constant (.str x) j pos) (dC (.str x)) := ⟨_, pe_str, se_c fun _ => .str x⟩
/-! operators -/
abbrev DO := Dt → Dt → (Dt → Prop) → Prop
def RD (K : PySem.W.Frag) (r : R2) (o : DO) : Prop := ∀ (x y : V) (H : Hp) (Q : VK) (dx dy : Dt) (Φ : Dt → Prop), Dp K H x dx → Dp K H y dy → o dx dy Φ → (∀ v H' d, Same H H' → Dp K H' v d → Φ d → Q v H') → r x y H Q
structure OpG (X : Cx) (f : Value → Value → Sem Value) (o : DO) : Prop where
  ex : ∃ r, OpR X f r ∧ RD X.K r o
def dBin (o : DO) (da db : DE) : DE := fun φ Φ => da φ fun x => db φ fun y => o x y Φ
theorem se_op {r : R2} {o : DO} {ta tb : TE} {da db : DE} (hr : RD K r o) (ha : SE K ta da) (hb : SE K tb db) : SE K (tOp r ta tb) (dBin o da db) := fun σ H φ Φ Q env h q =>
  ha σ H φ _ _ env h fun x H1 dx s1 px h1 => hb σ H1 φ _ _ (env.up s1) h1 fun y H2 dy s2 py h2 => hr x y H2 Q dx dy Φ (px.up s2) py h2 fun v H' d s3 pv hd => q v H' d (s1.trans (s2.trans s3)) pv hd
theorem g_op {a b : Expr} {da db : DE} {op : Operator} {o : DO} {pos : Pos} (ho : OpG X (binaryOp op) o) (ha : GE X a da) (hb : GE X b db) : GE X (.BinOp a op b pos) (dBin o da db) := by
  obtain ⟨r, h1, h2⟩ := ho
  obtain ⟨ta, a1, a2⟩ := ha
  obtain ⟨tb, b1, b2⟩ := hb
  exact ⟨_, pe_op h1 a1 b1, se_op h2 a2 b2⟩
theorem g_cmp {a b : Expr} {da db : DE} {op : CmpOp} {o : DO} {pos : Pos} (ho : OpG X (compareOp op) o) (ha : GE X a da) (hb : GE X b db) (hm : behindInMarks op b = false := by first | rfl | exact nomark _) : GE X (.Compare a [op] [b] pos) (dBin o da db) := by
  obtain ⟨r, h1, h2⟩ := ho
  obtain ⟨ta, a1, a2⟩ := ha
  obtain ⟨tb, b1, b2⟩ := hb
  exact ⟨_, pe_cmpR h1 a1 b1 hm, se_op h2 a2 b2⟩
/-- a truth -/
def onB (Φ : Bool → Prop) : Dt → Prop
  | .bool b => Φ b
  | _ => False
def dTV (da : DE) : DT := fun φ Φ => da φ (onB Φ)
theorem st_test {te : TE} {de : DE} (h : SE K te de) : ST K (tTest te) (dTV de) := fun σ H φ Φ Q env hd q => h σ H φ _ _ env hd fun v H' d s pv hd => by
  cases d with
  | bool b => cases pv; exact ⟨b, rfl, q b H' s hd⟩
  | _ => exact False.elim hd
theorem t_cmp {a b : Expr} {da db : DE} {op : CmpOp} {o : DO} {pos : Pos} (ho : OpG X (compareOp op) o) (ha : GE X a da) (hb : GE X b db) (hm : behindInMarks op b = false := by first | rfl | exact nomark _) : GT X (.Compare a [op] [b] pos) (dTV (dBin o da db)) := by
  obtain ⟨r, h1, h2⟩ := ho
  obtain ⟨ta, a1, a2⟩ := ha
  obtain ⟨tb, b1, b2⟩ := hb
  exact ⟨_, pt_cmpR h1 a1 b1 hm, st_test (se_op h2 a2 b2)⟩
theorem t_val {e : Expr} {de : DE} (h : GE X e de) (he : ∀ whole, isTrue e X.env whole = (do let v ← whole; standAt e.pos; holding [v] (truthy v)) := by intro _; rfl) : GT X e (dTV de) := by
  obtain ⟨te, h1, h2⟩ := h
  exact ⟨_, pt_val h1 he, st_test h2⟩
/-! and, or, not -/
def dTAnd (t u : DT) : DT := fun φ Φ => t φ fun b => if b = true then u φ Φ else Φ false
def dTOr (t u : DT) : DT := fun φ Φ => t φ fun b => if b = true then Φ true else u φ Φ
def dTNot (t : DT) : DT := fun φ Φ => t φ fun b => Φ (!b)
theorem st_and {t u : TT} {d e : DT} (h1 : ST K t d) (h2 : ST K u e) : ST K (tAnd t u) (dTAnd d e) := fun σ H φ Φ Q env h q => h1 σ H φ _ _ env h fun b H1 s1 hb => by
  cases b with
  | true =>
    rw [if_pos rfl] at hb ⊢
    exact h2 σ H1 φ _ _ (env.up s1) hb fun b H2 s2 hb => q b H2 (s1.trans s2) hb
  | false =>
    rw [if_neg Bool.false_ne_true] at hb ⊢
    exact q false H1 s1 hb
theorem st_or {t u : TT} {d e : DT} (h1 : ST K t d) (h2 : ST K u e) : ST K (tOr t u) (dTOr d e) := fun σ H φ Φ Q env h q => h1 σ H φ _ _ env h fun b H1 s1 hb => by
  cases b with
  | true =>
    rw [if_pos rfl] at hb ⊢
    exact q true H1 s1 hb
  | false =>
    rw [if_neg Bool.false_ne_true] at hb ⊢
    exact h2 σ H1 φ _ _ (env.up s1) hb fun b H2 s2 hb => q b H2 (s1.trans s2) hb
theorem st_not {t : TT} {d : DT} (h1 : ST K t d) : ST K (tNot t) (dTNot d) := fun σ H φ Φ Q env h q => h1 σ H φ _ _ env h fun b H1 s1 hb => q (!b) H1 s1 hb
theorem w_and {a b : Expr} {rest : List Expr} {d e : DT} {pos : Pos} (ha : GT X a d) (hb : GW X (.BoolOp .And (b :: rest) pos) e) : GW X (.BoolOp .And (a :: b :: rest) pos) (dTAnd d e) := by
  obtain ⟨t, a1, a2⟩ := ha
  obtain ⟨u, b1, b2⟩ := hb
  exact ⟨_, pw_and a1 b1, st_and a2 b2⟩
theorem w_or {a b : Expr} {rest : List Expr} {d e : DT} {pos : Pos} (ha : GT X a d) (hb : GW X (.BoolOp .Or (b :: rest) pos) e) : GW X (.BoolOp .Or (a :: b :: rest) pos) (dTOr d e) := by
  obtain ⟨t, a1, a2⟩ := ha
  obtain ⟨u, b1, b2⟩ := hb
  exact ⟨_, pw_or a1 b1, st_or a2 b2⟩
theorem w_and1 {a : Expr} {d : DT} {pos : Pos} (ha : GT X a d) : GW X (.BoolOp .And [a] pos) d := by
  obtain ⟨t, a1, a2⟩ := ha
  exact ⟨_, pw_and1 a1, a2⟩
theorem w_or1 {a : Expr} {d : DT} {pos : Pos} (ha : GT X a d) : GW X (.BoolOp .Or [a] pos) d := by
  obtain ⟨t, a1, a2⟩ := ha
  exact ⟨_, pw_or1 a1, a2⟩
theorem GW.t {e : Expr} {d : DT} (h : GW X e d) : GT X e d := by
  obtain ⟨t, a1, a2⟩ := h
  exact ⟨_, a1.pt, a2⟩
theorem t_not {a : Expr} {d : DT} {pos : Pos} (ha : GT X a d) : GT X (.UnaryOp .Not a pos) (dTNot d) := by
  obtain ⟨t, a1, a2⟩ := ha
  exact ⟨_, pt_not a1, st_not a2⟩
/-! .. as values, of truths -/
def dAnd (da db : DE) : DE := fun φ Φ => da φ (onB fun b => if b = true then db φ Φ else Φ (.bool false))
def dOr (da db : DE) : DE := fun φ Φ => da φ (onB fun b => if b = true then Φ (.bool true) else db φ Φ)
def dNot (da : DE) : DE := fun φ Φ => da φ (onB fun b => Φ (.bool !b))
theorem onB_of {v : V} {H : Hp} {d : Dt} {Φ : Bool → Prop} (h : onB Φ d) (p : Dp K H v d) : ∃ b, v = .bl b ∧ Φ b := by
  cases d with
  | bool b => cases p; exact ⟨b, rfl, h⟩
  | _ => exact False.elim h
theorem se_and {ta tb : TE} {da db : DE} (ha : SE K ta da) (hb : SE K tb db) : SE K (tAndV ta tb) (dAnd da db) := fun σ H φ Φ Q env h q => ha σ H φ _ _ env h fun v H1 d s1 p1 h1 => by
  obtain ⟨b, rfl, h2⟩ := onB_of h1 p1
  refine ⟨b, rfl, ?_⟩
  cases b with
  | true =>
    rw [if_pos rfl] at h2 ⊢
    exact hb σ H1 φ _ _ (env.up s1) h2 fun v H2 d s2 pv hd => q v H2 d (s1.trans s2) pv hd
  | false =>
    rw [if_neg Bool.false_ne_true] at h2 ⊢
    exact q _ H1 _ s1 (.bl false) h2
theorem se_not {ta : TE} {da : DE} (ha : SE K ta da) : SE K (tNotV ta) (dNot da) := fun σ H φ Φ Q env h q => ha σ H φ _ _ env h fun v H1 d s1 p1 h1 => by
  obtain ⟨b, rfl, h2⟩ := onB_of h1 p1
  exact ⟨b, rfl, q _ H1 _ s1 (.bl _) h2⟩
theorem g_and {a b : Expr} {rest : List Expr} {da db : DE} {pos : Pos} (ha : GE X a da) (hb : GE X (.BoolOp .And (b :: rest) pos) db) : GE X (.BoolOp .And (a :: b :: rest) pos) (dAnd da db) := by
  obtain ⟨t, a1, a2⟩ := ha
  obtain ⟨u, b1, b2⟩ := hb
  exact ⟨_, pe_and a1 b1, se_and a2 b2⟩
theorem g_one {a : Expr} {op} {da : DE} {pos : Pos} (ha : GE X a da) : GE X (.BoolOp op [a] pos) da := by
  obtain ⟨t, a1, a2⟩ := ha
  exact ⟨_, pe_one a1, a2⟩
theorem g_not {a : Expr} {da : DE} {pos : Pos} (ha : GE X a da) : GE X (.UnaryOp .Not a pos) (dNot da) := by
  obtain ⟨t, a1, a2⟩ := ha
  exact ⟨_, pe_not a1, se_not a2⟩
def dIfE (t : DT) (da db : DE) : DE := fun φ Φ => t φ fun b => if b = true then da φ Φ else db φ Φ
/-! lists of arguments, displays -/
def dNil : DA := fun _ Φ => Φ []
def dCons (da : DE) (dr : DA) : DA := fun φ Φ => da φ fun x => dr φ fun xs => Φ (x :: xs)
theorem a_nil : GA X [] dNil := ⟨_, pa_nil, fun σ H φ Φ Q env h q => q [] H [] (Same.refl H) .nil rfl h⟩
theorem a_cons {e : Expr} {es : List Expr} {de : DE} {dr : DA} (he : GE X e de) (hr : GA X es dr) (hs : starEach (e :: es) X.env = (false, eval e X.env) :: starEach es X.env := by rfl) : GA X (e :: es) (dCons de dr) := by
  obtain ⟨te, a1, a2⟩ := he
  obtain ⟨tr, b1, b2⟩ := hr
  exact ⟨_, pa_cons a1 b1 hs, fun σ H φ Φ Q env h q => a2 σ H φ _ _ env h fun v H1 d s1 pv h1 => b2 σ H1 φ _ _ (env.up s1) h1 fun vs H2 ds s2 ps l h2 => q _ H2 _ (s1.trans s2) (.cons (pv.up s2) ps) (congrArg Nat.succ l) h2⟩
def dTup (da : DA) : DE := fun φ Φ => da φ fun ds => Φ (.tuple ds)
def dLst (da : DA) : DE := fun φ Φ => da φ fun ds => Φ (.list ds)
theorem g_tup {es : List Expr} {da : DA} {x1} {pos : Pos} (h : GA X es da) (hz : es.length ≤ sizeLine := by decide) : GE X (.Tuple es x1 pos) (dTup da) := by
  obtain ⟨t, a1, a2⟩ := h
  refine ⟨_, pe_tup a1, fun σ H φ Φ Q env h q => a2 σ H φ _ _ env h fun vs H1 ds s1 ps l h1 => ⟨by rw [ps.len, l]; exact hz, fun p hp => ?_⟩⟩
  have s2 := same_new (o := .tup vs) hp
  exact q _ _ _ (s1.trans s2) (.tup (SqT.of upd_same) (ps.up s2)) h1
theorem g_lst {es : List Expr} {da : DA} {pos : Pos} (h : GA X es da) (hz : es.length ≤ sizeLine := by decide) : GE X (.List es pos) (dLst da) := by
  obtain ⟨t, a1, a2⟩ := h
  refine ⟨_, pe_lst a1, fun σ H φ Φ Q env h q => a2 σ H φ _ _ env h fun vs H1 ds s1 ps l h1 => ⟨by rw [ps.len, l]; exact hz, fun p hp => ?_⟩⟩
  have s2 := same_new (o := .lst vs) hp
  exact q _ _ _ (s1.trans s2) (.lst (SqL.of upd_same) (ps.up s2)) h1
end
/-! ### the operators -/
section
variable {X : Cx} {K : PySem.W.Frag}
theorem OpR.or {f : Value → Value → Sem Value} {r r' : R2} (h : OpR X f r) (h' : OpR X f r') : OpR X f (fun x y H Q => r x y H Q ∨ r' x y H Q) := by
  intro pins s σ H x y v u Q I rx ry q
  rcases q with q | q
  · exact h pins s σ H x y v u Q I rx ry q
  · exact h' pins s σ H x y v u Q I rx ry q
/-- ints alone -/
def oI (f : Int → Int → Dt) : DO := fun x y Φ => match x, y with
  | .int i, .int j => Φ (f i j)
  | _, _ => False
def oIC (C : Int → Int → Prop) (f : Int → Int → Dt) : DO := fun x y Φ => match x, y with
  | .int i, .int j => C i j ∧ Φ (f i j)
  | _, _ => False
theorem oI_of {f : Int → Int → Dt} {x y : Dt} {Φ : Dt → Prop} (h : oI f x y Φ) : ∃ i j, x = .int i ∧ y = .int j ∧ Φ (f i j) := by
  cases x <;> cases y <;> first | exact ⟨_, _, rfl, rfl, h⟩ | exact False.elim h
theorem oIC_of {C : Int → Int → Prop} {f : Int → Int → Dt} {x y : Dt} {Φ : Dt → Prop} (h : oIC C f x y Φ) : ∃ i j, x = .int i ∧ y = .int j ∧ C i j ∧ Φ (f i j) := by
  cases x <;> cases y <;> first | exact ⟨_, _, rfl, rfl, h⟩ | exact False.elim h
theorem rd_I0 {g : Int → Int → V} {f : Int → Int → Dt} (h : ∀ i j H, Dp K H (g i j) (f i j)) : RD K (rI0 g) (oI f) := fun x y H Q dx dy Φ px py ho q => by
  obtain ⟨i, j, rfl, rfl, h1⟩ := oI_of ho
  cases px; cases py
  exact ⟨i, j, rfl, rfl, q _ H _ (Same.refl H) (h i j H) h1⟩
theorem rd_I {C : Int → Int → Prop} {g : Int → Int → V} {f : Int → Int → Dt} (h : ∀ i j H, Dp K H (g i j) (f i j)) : RD K (rI C g) (oIC C f) := fun x y H Q dx dy Φ px py ho q => by
  obtain ⟨i, j, rfl, rfl, h0, h1⟩ := oIC_of ho
  cases px; cases py
  exact ⟨i, j, rfl, rfl, h0, q _ H _ (Same.refl H) (h i j H) h1⟩
def oSubI : DO := oI fun i j => .int (i - j)
def oMulI : DO := oIC CMulW fun i j => .int (i * j)
def CFd (_ j : Int) : Prop := j ≠ 0 ∧ j.natAbs.log2 < 9000
def oFd : DO := oIC CFd fun i j => .int (i.fdiv j)
def oMd : DO := oIC (fun _ j => j ≠ 0) fun i j => .int (i.fmod j)
def oPw : DO := oIC CPow fun i j => .int (i ^ j.toNat)
def oLt : DO := oI fun i j => .bool (decide (i < j))
def oLe : DO := oI fun i j => .bool (decide (i ≤ j))
def oGt : DO := oI fun i j => .bool (decide (j < i))
def oGe : DO := oI fun i j => .bool (decide (j ≤ i))
theorem o_sub : OpG X (binaryOp .Sub) oSubI := ⟨_, op_sub, rd_I0 fun _ _ _ => .int _⟩
theorem op_fdZ : OpR X (binaryOp .FloorDiv) (rI CFd fun i j => .int (i.fdiv j)) := opI fun i j _ _ _ _ _ hc q => floordiv_int hc.1 q (.inl (PyProof.noPylong_of_log2 hc.2))
theorem o_fd : OpG X (binaryOp .FloorDiv) oFd := ⟨_, op_fdZ, rd_I fun _ _ _ => .int _⟩
theorem o_md : OpG X (binaryOp .Mod) oMd := ⟨_, op_modN, rd_I fun _ _ _ => .int _⟩
theorem o_pw : OpG X (binaryOp .Pow) oPw := ⟨_, op_pow, rd_I fun _ _ _ => .int _⟩
theorem o_lt : OpG X (compareOp .Lt) oLt := ⟨_, op_lt, rd_I0 fun _ _ _ => .bl _⟩
theorem o_gt : OpG X (compareOp .Gt) oGt := ⟨_, op_gt, rd_I0 fun _ _ _ => .bl _⟩
theorem o_ge : OpG X (compareOp .GtE) oGe := ⟨_, op_ge, rd_I0 fun _ _ _ => .bl _⟩
def oEq : DO := fun x y Φ => SeqAt.shaped x = true ∧ SeqAt.shaped y = true ∧ Φ (.bool (PyData.eqv x y))
def oNe : DO := fun x y Φ => SeqAt.shaped x = true ∧ SeqAt.shaped y = true ∧ Φ (.bool (!PyData.eqv x y))
theorem o_eq {k : Nat} (hr : Room k X.A) : OpG X (compareOp .Eq) oEq := ⟨_, op_eqD hr.units, fun x y H Q dx dy Φ px py ho q => ⟨dx, dy, px.old ho.1, py.old ho.2.1, ho.1, ho.2.1, q _ H _ (Same.refl H) (.bl _) ho.2.2⟩⟩
theorem o_ne {k : Nat} (hr : Room k X.A) : OpG X (compareOp .NotEq) oNe := ⟨_, op_neD hr.units, fun x y H Q dx dy Φ px py ho q => ⟨dx, dy, px.old ho.1, py.old ho.2.1, ho.1, ho.2.1, q _ H _ (Same.refl H) (.bl _) ho.2.2⟩⟩
def isN : Dt → Bool
  | .none => true
  | _ => false
theorem isN_of {v : V} {H : Hp} {d : Dt} (p : Dp K H v d) : decide (v = .non) = isN d := by
  cases p <;> simp [isN]
def dIsN (da : DE) : DE := fun φ Φ => da φ fun x => Φ (.bool (isN x))
def dNotN (da : DE) : DE := fun φ Φ => da φ fun x => Φ (.bool !isN x)
theorem se_isN {ta : TE} {da : DE} (ha : SE K ta da) : SE K (tIsN ta) (dIsN da) := fun σ H φ Φ Q env h q => ha σ H φ _ _ env h fun v H1 d s1 p1 h1 => by
  have e := isN_of p1
  rw [e]
  exact q _ H1 _ s1 (.bl _) h1
theorem se_notN {ta : TE} {da : DE} (ha : SE K ta da) : SE K (tNotN ta) (dNotN da) := fun σ H φ Φ Q env h q => ha σ H φ _ _ env h fun v H1 d s1 p1 h1 => by
  have e := isN_of p1
  rw [e]
  exact q _ H1 _ s1 (.bl _) h1
theorem g_isN {a : Expr} {da : DE} {j p2} {pos : Pos} (ha : GE X a da) : GE X (.Compare a [.Is] [.Constant .none j p2] pos) (dIsN da) := by
  obtain ⟨t, a1, a2⟩ := ha
  exact ⟨_, pe_cmp (pc_isN a1) rfl, se_isN a2⟩
/-! subscripts -/
def itemD (x : Dt) (i : Int) : Option Dt := match x with
  | .list ds => atI ds i
  | .tuple ds => atI ds i
  | .str z => (atI z.cps.toList i).map fun c => .str ⟨#[c]⟩
  | _ => none
def fitsD : Dt → Prop
  | .str z => z.length ≤ sizeLine
  | _ => True
/-- x[i] -/
def oIx : DO := fun x y Φ => match y with
  | .int i => fitsD x ∧ ∃ d, itemD x i = some d ∧ Φ d
  | _ => False
theorem atI_get {α : Type} {xs : List α} {i : Int} {d : α} (h : atI xs i = some d) : ∃ j, ixN xs.length i = some j ∧ xs[j]? = some d := by
  unfold atI at h
  cases e : ixN xs.length i with
  | none => rw [e] at h; cases h
  | some j => rw [e] at h; exact ⟨j, rfl, h⟩
theorem dp_atI {H : Hp} {vs : List V} {ds : List Dt} {i : Int} {d : Dt} (p : DpAll K H vs ds) (h : atI ds i = some d) : ∃ v, atI vs i = some v ∧ Dp K H v d := by
  obtain ⟨j, h1, h2⟩ := atI_get h
  obtain ⟨v, h3, h4⟩ := p.get h2
  refine ⟨v, ?_, h4⟩
  unfold atI
  rw [p.len, h1]
  exact h3
theorem rd_ix : RD K (rIx K) oIx := fun x y H Q dx dy Φ px py ho q => by
  cases dy with
  | int i =>
    cases py
    obtain ⟨hf, d, hd, hΦ⟩ := ho
    cases px with
    | lst hs ha =>
      obtain ⟨v, h1, h2⟩ := dp_atI ha hd
      exact .inl ⟨_, _, i, v, rfl, rfl, hs, h1, q v H d (Same.refl H) h2 hΦ⟩
    | tup hs ha =>
      obtain ⟨v, h1, h2⟩ := dp_atI ha hd
      exact .inr (.inl ⟨_, _, i, v, rfl, rfl, hs, h1, q v H d (Same.refl H) h2 hΦ⟩)
    | str z =>
      have hd' : (atI z.cps.toList i).map (fun c => PyData.str ⟨#[c]⟩) = some d := hd
      cases e : atI z.cps.toList i with
      | none => rw [e] at hd'; cases hd'
      | some c =>
        rw [e] at hd'
        have e2 : PyData.str ⟨#[c]⟩ = d := Option.some.inj hd'
        subst e2
        exact .inr (.inr ⟨z, i, c, rfl, rfl, hf, e, q _ H _ (Same.refl H) (.str _) hΦ⟩)
    | _ => cases hd
  | _ => exact False.elim ho
theorem g_ix {a b : Expr} {da db : DE} {pos : Pos} (ha : GE X a da) (hb : GE X b db) (hs : PlainIx b := by exact fun _ _ => rfl) : GE X (.Subscript a b pos) (dBin oIx da db) := by
  obtain ⟨ta, a1, a2⟩ := ha
  obtain ⟨tb, b1, b2⟩ := hb
  exact ⟨_, pe_ix ix_seq a1 b1 hs, se_op rd_ix a2 b2⟩
end
end L2.D3
set_option maxHeartbeats 4000000
namespace L2.D3
open PySem PySem.Spec PyProof.Rows
/-! ### slots -/
/-- an owned thing: its parts that may change are owned too -/
inductive Tr where
  | pu (d : Dt)
  | ls (ts : List Tr)
  | dk (ks : List Key) (ts : List Tr)
  | dt (ks : List (List Key)) (ts : List Tr)
mutual
def Tr.dat : Tr → Dt
  | .pu d => d
  | .ls ts => .list (Tr.dats ts)
  | .dk ks ts => dkD ks (Tr.dats ts)
  | .dt ks ts => dtD ks (Tr.dats ts)
def Tr.dats : List Tr → List Dt
  | [] => []
  | t :: ts => t.dat :: Tr.dats ts
end
mutual
inductive OwT (K : PySem.W.Frag) (F H : Hp) : V → Tr → List Addr → Prop
  | pu {v : V} {d : Dt} : Dp K F v d → OwT K F H v (.pu d) []
  | ls {a : Addr} {vs : List V} {ts : List Tr} {fp : List Addr} : H a = some (.lst vs) → F a = none → OwAll K F H vs ts fp → a ∉ fp → OwT K F H (.ref a) (.ls ts) (a :: fp)
  | dk {a : Addr} {ks : List Key} {vs : List V} {ts : List Tr} {fp : List Addr} : H a = some (.dK (List.zip ks vs)) → ks.length = vs.length → F a = none → OwAll K F H vs ts fp → a ∉ fp → OwT K F H (.ref a) (.dk ks ts) (a :: fp)
  | dt {a : Addr} {ks : List (List Key)} {vs : List V} {ts : List Tr} {fp : List Addr} : H a = some (.dT (List.zip ks vs)) → ks.length = vs.length → F a = none → OwAll K F H vs ts fp → a ∉ fp → OwT K F H (.ref a) (.dt ks ts) (a :: fp)
inductive OwAll (K : PySem.W.Frag) (F H : Hp) : List V → List Tr → List Addr → Prop
  | nil : OwAll K F H [] [] []
  | cons {v : V} {t : Tr} {f : List Addr} {vs : List V} {ts : List Tr} {fs : List Addr} : OwT K F H v t f → OwAll K F H vs ts fs → (∀ a ∈ f, a ∉ fs) → OwAll K F H (v :: vs) (t :: ts) (f ++ fs)
end
section
variable {K : PySem.W.Frag} {F F' H H' : Hp}
mutual
theorem owT_up (s : Same F F') {v : V} {t : Tr} {fp : List Addr} : OwT K F H v t fp → (∀ a ∈ fp, F' a = none) → (∀ a ∈ fp, H' a = H a) → OwT K F' H' v t fp
  | .pu h, _, _ => .pu (h.up s)
  | .ls h1 h2 h3 h4, n, k => .ls ((k _ List.mem_cons_self).trans h1) (n _ List.mem_cons_self) (owAll_up s h3 (fun a ha => n a (List.mem_cons_of_mem _ ha)) fun a ha => k a (List.mem_cons_of_mem _ ha)) h4
  | .dk h1 l h2 h3 h4, n, k => .dk ((k _ List.mem_cons_self).trans h1) l (n _ List.mem_cons_self) (owAll_up s h3 (fun a ha => n a (List.mem_cons_of_mem _ ha)) fun a ha => k a (List.mem_cons_of_mem _ ha)) h4
  | .dt h1 l h2 h3 h4, n, k => .dt ((k _ List.mem_cons_self).trans h1) l (n _ List.mem_cons_self) (owAll_up s h3 (fun a ha => n a (List.mem_cons_of_mem _ ha)) fun a ha => k a (List.mem_cons_of_mem _ ha)) h4
theorem owAll_up (s : Same F F') {vs : List V} {ts : List Tr} {fp : List Addr} : OwAll K F H vs ts fp → (∀ a ∈ fp, F' a = none) → (∀ a ∈ fp, H' a = H a) → OwAll K F' H' vs ts fp
  | .nil, _, _ => .nil
  | .cons h1 h2 d, n, k => .cons (owT_up s h1 (fun a ha => n a (List.mem_append_left _ ha)) fun a ha => k a (List.mem_append_left _ ha)) (owAll_up s h2 (fun a ha => n a (List.mem_append_right _ ha)) fun a ha => k a (List.mem_append_right _ ha)) d
end
mutual
theorem owT_mut {v : V} {t : Tr} {fp : List Addr} : OwT K F H v t fp → ∀ a ∈ fp, (∃ o, H a = some o ∧ isMut o = true) ∧ F a = none
  | .pu h, a, ha => by cases ha
  | .ls h1 h2 h3 h4, a, ha => by
    rcases List.mem_cons.mp ha with rfl | ha
    · exact ⟨⟨_, h1, rfl⟩, h2⟩
    · exact owAll_mut h3 a ha
  | .dk h1 l h2 h3 h4, a, ha => by
    rcases List.mem_cons.mp ha with rfl | ha
    · exact ⟨⟨_, h1, rfl⟩, h2⟩
    · exact owAll_mut h3 a ha
  | .dt h1 l h2 h3 h4, a, ha => by
    rcases List.mem_cons.mp ha with rfl | ha
    · exact ⟨⟨_, h1, rfl⟩, h2⟩
    · exact owAll_mut h3 a ha
theorem owAll_mut {vs : List V} {ts : List Tr} {fp : List Addr} : OwAll K F H vs ts fp → ∀ a ∈ fp, (∃ o, H a = some o ∧ isMut o = true) ∧ F a = none
  | .nil, a, ha => by cases ha
  | .cons h1 h2 d, a, ha => by
    rcases List.mem_append.mp ha with ha | ha
    · exact owT_mut h1 a ha
    · exact owAll_mut h2 a ha
end
mutual
/-- read as a datum, in a heap that holds it -/
theorem owT_dp (s : Same F F') {v : V} {t : Tr} {fp : List Addr} : OwT K F H v t fp → (∀ a ∈ fp, F' a = H a) → Dp K F' v t.dat
  | .pu h, _ => h.up s
  | .ls h1 h2 h3 h4, k => .lst (SqL.of ((k _ List.mem_cons_self).trans h1)) (owAll_dp s h3 fun a ha => k a (List.mem_cons_of_mem _ ha))
  | .dk h1 l h2 h3 h4, k => .dk ((k _ List.mem_cons_self).trans h1) l (owAll_dp s h3 fun a ha => k a (List.mem_cons_of_mem _ ha)) rfl
  | .dt h1 l h2 h3 h4, k => .dt ((k _ List.mem_cons_self).trans h1) l (owAll_dp s h3 fun a ha => k a (List.mem_cons_of_mem _ ha)) rfl
theorem owAll_dp (s : Same F F') {vs : List V} {ts : List Tr} {fp : List Addr} : OwAll K F H vs ts fp → (∀ a ∈ fp, F' a = H a) → DpAll K F' vs (Tr.dats ts)
  | .nil, _ => .nil
  | .cons h1 h2 d, k => .cons (owT_dp s h1 fun a ha => k a (List.mem_append_left _ ha)) (owAll_dp s h2 fun a ha => k a (List.mem_append_right _ ha))
end
end
section
variable {K K' : PySem.W.Frag} {F F' H H' : Hp}
theorem zip_snd {α : Type} : ∀ {ks ks' : List α} {vs vs' : List V}, ks.length = vs.length → ks'.length = vs'.length → List.zip ks vs = List.zip ks' vs' → vs = vs'
  | [], [], [], [], _, _, _ => rfl
  | [], k :: ks, [], v :: vs, _, _, h => by cases h
  | k :: ks, [], v :: vs, [], _, _, h => by cases h
  | k :: ks, k' :: ks', v :: vs, v' :: vs', l, l', h => by
    simp only [List.zip_cons_cons, List.cons.injEq, Prod.mk.injEq] at h
    rw [h.1.2, zip_snd (ks := ks) (ks' := ks') (by simpa using l) (by simpa using l') h.2]
mutual
theorem owT_fp {v : V} {t : Tr} {fp fp' : List Addr} : OwT K F H v t fp → OwT K' F' H' v t fp' → (∀ b o o', H b = some o → H' b = some o' → o = o') → fp = fp'
  | .pu _, g, _ => by cases g; rfl
  | .ls h1 _ h3 _, g, k => by
    cases g with
    | ls g1 _ g3 _ =>
      have e := k _ _ _ h1 g1
      cases e
      rw [owAll_fp h3 g3 k]
  | .dk h1 l _ h3 _, g, k => by
    cases g with
    | dk g1 l' _ g3 _ =>
      have e := k _ _ _ h1 g1
      have e2 := zip_snd l l' (HO.dK.inj e)
      subst e2
      rw [owAll_fp h3 g3 k]
  | .dt h1 l _ h3 _, g, k => by
    cases g with
    | dt g1 l' _ g3 _ =>
      have e := k _ _ _ h1 g1
      have e2 := zip_snd l l' (HO.dT.inj e)
      subst e2
      rw [owAll_fp h3 g3 k]
theorem owAll_fp {vs : List V} {ts : List Tr} {fp fp' : List Addr} : OwAll K F H vs ts fp → OwAll K' F' H' vs ts fp' → (∀ b o o', H b = some o → H' b = some o' → o = o') → fp = fp'
  | .nil, g, _ => by cases g; rfl
  | .cons h1 h2 _, g, k => by
    cases g with
    | cons g1 g2 _ => rw [owT_fp h1 g1 k, owAll_fp h2 g2 k]
end
end
inductive Slot where
  | un
  | pu (d : Dt)
  | ow (ds : List Dt)
  | an (A : Ass)
  | tr (t : Tr)
def Slot.dat : Slot → Dt
  | .pu d => d
  | .ow ds => .list ds
  | .tr t => t.dat
  | _ => .none
abbrev Rho := List Slot
def getS : Rho → Nat → Slot
  | [], _ => .un
  | a :: _, 0 => a
  | _ :: r, n + 1 => getS r n
def setS : Rho → Nat → Slot → Rho
  | [], _, _ => []
  | _ :: r, 0, d => d :: r
  | a :: r, n + 1, d => a :: setS r n d
theorem getS_setS_ne : ∀ {ρ : Rho} {i j : Nat} {d : Slot}, j ≠ i → getS (setS ρ i d) j = getS ρ j
  | [], i, j, d, h => rfl
  | a :: r, 0, 0, d, h => absurd rfl h
  | a :: r, 0, j + 1, d, h => rfl
  | a :: r, i + 1, 0, d, h => rfl
  | a :: r, i + 1, j + 1, d, h => getS_setS_ne (ρ := r) (fun z => h (by rw [z]))
theorem getS_setS_eq : ∀ {ρ : Rho} {i : Nat} {d : Slot}, i < ρ.length → getS (setS ρ i d) i = d
  | [], i, d, h => absurd h (Nat.not_lt_zero _)
  | a :: r, 0, d, h => rfl
  | a :: r, i + 1, d, h => getS_setS_eq (ρ := r) (Nat.lt_of_succ_lt_succ h)
theorem setS_len : ∀ {ρ : Rho} {i : Nat} {d : Slot}, (setS ρ i d).length = ρ.length
  | [], i, d => rfl
  | a :: r, 0, d => rfl
  | a :: r, i + 1, d => congrArg Nat.succ (setS_len (ρ := r))
theorem setS_out : ∀ {ρ : Rho} {i : Nat} {d : Slot}, ρ.length ≤ i → setS ρ i d = ρ
  | [], i, d, h => rfl
  | a :: r, 0, d, h => absurd h (by simp)
  | a :: r, i + 1, d, h => by
    show a :: setS r i d = a :: r
    rw [setS_out (ρ := r) (by simpa using h)]
theorem getS_out : ∀ {ρ : Rho} {i : Nat}, ρ.length ≤ i → getS ρ i = .un
  | [], i, h => rfl
  | a :: r, 0, h => absurd h (by simp)
  | a :: r, i + 1, h => getS_out (ρ := r) (by simpa using h)
def purF : Rho → Fro
  | [] => []
  | .pu d :: r => .da d :: purF r
  | .an A :: r => .an A :: purF r
  | _ :: r => .no :: purF r
def allF : Rho → Fro
  | [] => []
  | .pu d :: r => .da d :: allF r
  | .ow ds :: r => .da (.list ds) :: allF r
  | .an A :: r => .an A :: allF r
  | .tr t :: r => .da t.dat :: allF r
  | _ :: r => .no :: allF r
theorem getF_pur : ∀ {ρ : Rho} {i : Nat} {d : Dt}, getF (purF ρ) i = some d → getS ρ i = .pu d
  | [], i, d, h => by cases h
  | a :: r, 0, d, h => by
    cases a with
    | pu e => have h' : some e = some d := h; cases h'; rfl
    | _ => cases h
  | a :: r, i + 1, d, h => by
    cases a <;> exact getF_pur (ρ := r) (i := i) h
theorem getF_all : ∀ {ρ : Rho} {i : Nat} {d : Dt}, getF (allF ρ) i = some d → getS ρ i = .pu d ∨ (∃ ds, getS ρ i = .ow ds ∧ d = .list ds) ∨ ∃ t, getS ρ i = .tr t ∧ d = t.dat
  | [], i, d, h => by cases h
  | a :: r, 0, d, h => by
    cases a with
    | pu e => have h' : some e = some d := h; cases h'; exact .inl rfl
    | ow ds => have h' : some (PyData.list ds) = some d := h; cases h'; exact .inr (.inl ⟨ds, rfl, rfl⟩)
    | tr t => have h' : some t.dat = some d := h; cases h'; exact .inr (.inr ⟨t, rfl, rfl⟩)
    | _ => cases h
  | a :: r, i + 1, d, h => by
    cases a <;> exact getF_all (ρ := r) (i := i) h
theorem getA_pur : ∀ {ρ : Rho} {i : Nat} {A : Ass}, getA (purF ρ) i = some A → getS ρ i = .an A
  | [], i, A, h => by cases h
  | a :: r, 0, A, h => by
    cases a with
    | an B => have h' : some B = some A := h; cases h'; rfl
    | _ => cases h
  | a :: r, i + 1, A, h => by
    cases a <;> exact getA_pur (ρ := r) (i := i) h
theorem getA_all : ∀ {ρ : Rho} {i : Nat} {A : Ass}, getA (allF ρ) i = some A → getS ρ i = .an A
  | [], i, A, h => by cases h
  | a :: r, 0, A, h => by
    cases a with
    | an B => have h' : some B = some A := h; cases h'; rfl
    | _ => cases h
  | a :: r, i + 1, A, h => by
    cases a <;> exact getA_all (ρ := r) (i := i) h
/-- owned things, each with its own objects -/
def SepT (K : PySem.W.Frag) (F : Hp) (σ : St) (H : Hp) (ρ : Rho) : Prop := ∃ fp : Nat → List Addr, (∀ i t, getS ρ i = .tr t → ∃ v, σ[i]? = some (some v) ∧ OwT K F H v t (fp i)) ∧
  (∀ i j t u a, i ≠ j → getS ρ i = .tr t → getS ρ j = .tr u → a ∈ fp i → a ∉ fp j) ∧ ∀ i j t ds a, getS ρ i = .tr t → getS ρ j = .ow ds → a ∈ fp i → σ[j]? ≠ some (some (.ref a))
theorem sep_no {K : PySem.W.Frag} {F H : Hp} {σ : St} {ρ : Rho} (h : ∀ i t, getS ρ i ≠ .tr t) : SepT K F σ H ρ := ⟨fun _ => [], fun i t q => absurd q (h i t), fun i j t u a _ q => absurd q (h i t), fun i j t ds a q => absurd q (h i t)⟩
theorem sep_up {K : PySem.W.Frag} {F F' H H' : Hp} {σ : St} {ρ : Rho} (z : SepT K F σ H ρ) (s : Same F F') (n : ∀ i t a v fp, getS ρ i = .tr t → σ[i]? = some (some v) → OwT K F H v t fp → a ∈ fp → F' a = none ∧ H' a = H a) : SepT K F' σ H' ρ := by
  obtain ⟨fp, h1, h2, h3⟩ := z
  refine ⟨fp, fun i t q => ?_, h2, h3⟩
  obtain ⟨v, e, o⟩ := h1 i t q
  exact ⟨v, e, owT_up s o (fun a ha => (n i t a v _ q e o ha).1) fun a ha => (n i t a v _ q e o ha).2⟩
theorem sep_upA {K : PySem.W.Frag} {F F' H H' : Hp} {σ : St} {ρ : Rho} (z : SepT K F σ H ρ) (s : Same F F') (n : ∀ a o, H a = some o → F a = none → F' a = none ∧ H' a = some o) : SepT K F' σ H' ρ := sep_up z s fun i t a v fp q e o ha => by
  obtain ⟨⟨ob, h1, _⟩, h2⟩ := owT_mut o a ha
  obtain ⟨k1, k2⟩ := n a ob h1 h2
  exact ⟨k1, k2.trans h1.symm⟩
structure EnvO (K : PySem.W.Frag) (F : Hp) (σ : St) (H : Hp) (ρ : Rho) : Prop where
  fz : Fz F H
  len : ρ.length = σ.length
  pu : ∀ i d, getS ρ i = .pu d → ∃ v, σ[i]? = some (some v) ∧ Dp K F v d
  an : ∀ i A, getS ρ i = .an A → ∃ v, σ[i]? = some (some v) ∧ A.p K F v
  ow : ∀ i ds, getS ρ i = .ow ds → ∃ a vs, σ[i]? = some (some (.ref a)) ∧ H a = some (.lst vs) ∧ F a = none ∧ DpAll K F vs ds
  ne : ∀ i j ds es a, i ≠ j → getS ρ i = .ow ds → getS ρ j = .ow es → σ[i]? = some (some (.ref a)) → σ[j]? ≠ some (some (.ref a))
  sep : SepT K F σ H ρ
section
variable {K : PySem.W.Frag} {F F' H H' : Hp} {σ : St} {ρ : Rho}
theorem purF_len : ∀ {ρ : Rho}, (purF ρ).length = ρ.length
  | [] => rfl
  | a :: r => by cases a <;> exact congrArg Nat.succ (purF_len (ρ := r))
theorem allF_len : ∀ {ρ : Rho}, (allF ρ).length = ρ.length
  | [] => rfl
  | a :: r => by cases a <;> exact congrArg Nat.succ (allF_len (ρ := r))
theorem EnvO.pur (e : EnvO K F σ H ρ) : EnvF K σ F (purF ρ) := ⟨by rw [purF_len, e.len]; exact Nat.le_refl _, fun i d h => e.pu i d (getF_pur h), fun i A h => e.an i A (getA_pur h)⟩
theorem EnvO.all (e : EnvO K F σ H ρ) : EnvF K σ H (allF ρ) := ⟨by rw [allF_len, e.len]; exact Nat.le_refl _, fun i d h => by
  rcases getF_all h with g | ⟨ds, g, rfl⟩ | ⟨t, g, rfl⟩
  · obtain ⟨v, a, b⟩ := e.pu i d g
    exact ⟨v, a, b.up e.fz.same⟩
  · obtain ⟨a, vs, h1, h2, h3, h4⟩ := e.ow i ds g
    exact ⟨_, h1, .lst (SqL.of h2) (h4.up e.fz.same)⟩
  · obtain ⟨fp, h1, _, _⟩ := e.sep
    obtain ⟨v, q, o⟩ := h1 i t g
    exact ⟨v, q, owT_dp e.fz.same o fun _ _ => rfl⟩, fun i A h => by
  obtain ⟨v, a, b⟩ := e.an i A (getA_all h)
  exact ⟨v, a, A.up _ _ _ _ e.fz.same b⟩⟩
/-- a framed expression has run -/
theorem EnvO.grow (e : EnvO K F σ H ρ) (s : Same F F') (dj : ∀ a o, H a = some o → F a = none → F' a = none) : EnvO K F' σ (glue F' H) ρ := by
  refine ⟨⟨fun b o q => glue_some q, fun a o q => ?_⟩, e.len, fun i d h => ?_, fun i A h => ?_, fun i ds h => ?_, e.ne, sep_upA e.sep s fun a o h1 h2 => ⟨dj a o h1 h2, by rw [glue_none (dj a o h1 h2)]; exact h1⟩⟩
  · cases f : F' a with
    | some u => rw [glue_some f] at q; exact .inl q
    | none =>
      rw [glue_none f] at q
      rcases e.fz.drop a o q with z | ⟨_, z⟩
      · rw [s a o z] at f; cases f
      · exact .inr ⟨rfl, z⟩
  · obtain ⟨v, a, b⟩ := e.pu i d h
    exact ⟨v, a, b.up s⟩
  · obtain ⟨v, a, b⟩ := e.an i A h
    exact ⟨v, a, A.up _ _ _ _ s b⟩
  · obtain ⟨a, vs, h1, h2, h3, h4⟩ := e.ow i ds h
    have f := dj a _ h2 h3
    exact ⟨a, vs, h1, by rw [glue_none f]; exact h2, f, h4.up s⟩
/-- an expression over all has run -/
theorem EnvO.after (e : EnvO K F σ H ρ) (s : Same H H') : ∃ F', Same F F' ∧ EnvO K F' σ H' ρ := by
  classical
  refine ⟨fun a => if (∃ o, H a = some o) ∧ F a = none then none else H' a, fun b o q => ?_, ⟨⟨fun b o q => ?_, fun a o q => ?_⟩, e.len, fun i d h => ?_, fun i A h => ?_, fun i ds h => ?_, e.ne, ?_⟩⟩
  · show (if (∃ o, H b = some o) ∧ F b = none then none else H' b) = some o
    rw [if_neg (fun z => by rw [z.2] at q; cases q)]
    exact s b o (e.fz.same b o q)
  · by_cases c : (∃ o, H b = some o) ∧ F b = none
    · rw [if_pos c] at q; cases q
    · rw [if_neg c] at q; exact q
  · by_cases c : (∃ o, H a = some o) ∧ F a = none
    · refine .inr ⟨if_pos c, ?_⟩
      obtain ⟨⟨u, hu⟩, hf⟩ := c
      have z := s a u hu
      rw [q] at z
      cases z
      rcases e.fz.drop a _ hu with y | ⟨_, y⟩
      · rw [hf] at y; cases y
      · exact y
    · exact .inl (by rw [if_neg c]; exact q)
  all_goals
    have sm : Same F (fun a => if (∃ o, H a = some o) ∧ F a = none then none else H' a) := fun b o q => by
      show (if (∃ o, H b = some o) ∧ F b = none then none else H' b) = some o
      rw [if_neg (fun z => by rw [z.2] at q; cases q)]
      exact s b o (e.fz.same b o q)
  · obtain ⟨v, a, b⟩ := e.pu i d h
    exact ⟨v, a, b.up sm⟩
  · obtain ⟨v, a, b⟩ := e.an i A h
    exact ⟨v, a, A.up _ _ _ _ sm b⟩
  · obtain ⟨a, vs, h1, h2, h3, h4⟩ := e.ow i ds h
    exact ⟨a, vs, h1, s a _ h2, if_pos ⟨⟨_, h2⟩, h3⟩, h4.up sm⟩
  · exact sep_upA e.sep sm fun a o h1 h2 => ⟨if_pos ⟨⟨o, h1⟩, h2⟩, s a o h1⟩
theorem σset_ne {i j : Nat} {x : Option V} (h : j ≠ i) : (σ.set i x)[j]? = σ[j]? := List.getElem?_set_ne (Ne.symm h)
/-- a slot gets another thing that is no owned one -/
theorem EnvO.put (e : EnvO K F σ H ρ) (i : Nat) {x : Option V} {s : Slot} (hp : ∀ d, s = .pu d → ∃ v, x = some v ∧ Dp K F v d) (ha : ∀ A, s = .an A → ∃ v, x = some v ∧ A.p K F v)
    (ho : ∀ ds, s ≠ .ow ds) (ht : ∀ t, s ≠ .tr t) : EnvO K F (σ.set i x) H (setS ρ i s) := by
  by_cases hi : i < ρ.length
  · have hi2 : i < σ.length := by rw [← e.len]; exact hi
    have gi : getS (setS ρ i s) i = s := getS_setS_eq hi
    have si : (σ.set i x)[i]? = some x := List.getElem?_set_self hi2
    have nw : ∀ {j : Nat} {ds : List Dt}, getS (setS ρ i s) j = .ow ds → j ≠ i ∧ getS ρ j = .ow ds := fun {j ds} h => by
      by_cases c : j = i
      · subst c; rw [gi] at h; exact absurd h (ho ds)
      · rw [getS_setS_ne c] at h; exact ⟨c, h⟩
    have nt : ∀ {j : Nat} {t : Tr}, getS (setS ρ i s) j = .tr t → j ≠ i ∧ getS ρ j = .tr t := fun {j t} h => by
      by_cases c : j = i
      · subst c; rw [gi] at h; exact absurd h (ht t)
      · rw [getS_setS_ne c] at h; exact ⟨c, h⟩
    refine ⟨e.fz, by rw [setS_len, List.length_set]; exact e.len, fun j d h => ?_, fun j A h => ?_, fun j ds h => ?_, fun j k ds es a hjk h1 h2 h3 => ?_, ?_⟩
    · by_cases c : j = i
      · subst c
        rw [gi] at h
        obtain ⟨v, rfl, q⟩ := hp d h
        exact ⟨v, si, q⟩
      · rw [getS_setS_ne c] at h
        rw [σset_ne c]
        exact e.pu j d h
    · by_cases c : j = i
      · subst c
        rw [gi] at h
        obtain ⟨v, rfl, q⟩ := ha A h
        exact ⟨v, si, q⟩
      · rw [getS_setS_ne c] at h
        rw [σset_ne c]
        exact e.an j A h
    · obtain ⟨c, g⟩ := nw h
      rw [σset_ne c]
      exact e.ow j ds g
    · obtain ⟨c1, g1⟩ := nw h1
      obtain ⟨c2, g2⟩ := nw h2
      rw [σset_ne c1] at h3
      rw [σset_ne c2]
      exact e.ne j k ds es a hjk g1 g2 h3
    · obtain ⟨fp, z1, z2, z3⟩ := e.sep
      refine ⟨fp, fun j t h => ?_, fun j k t u a hjk h1 h2 => ?_, fun j k t ds a h1 h2 h3 => ?_⟩
      · obtain ⟨c, g⟩ := nt h
        rw [σset_ne c]
        exact z1 j t g
      · exact z2 j k t u a hjk (nt h1).2 (nt h2).2
      · obtain ⟨c2, g2⟩ := nw h2
        rw [σset_ne c2]
        exact z3 j k t ds a (nt h1).2 g2 h3
  · have h1 : ρ.length ≤ i := Nat.le_of_not_lt hi
    rw [setS_out h1, List.set_eq_of_length_le (by rw [← e.len]; exact h1)]
    exact e
theorem EnvO.putP (e : EnvO K F σ H ρ) (i : Nat) {v : V} {d : Dt} (h : Dp K F v d) : EnvO K F (σ.set i (some v)) H (setS ρ i (.pu d)) :=
  e.put i (fun d' q => by cases q; exact ⟨v, rfl, h⟩) (fun A q => nomatch q) (fun ds q => nomatch q) (fun t q => nomatch q)
theorem EnvO.putU (e : EnvO K F σ H ρ) (i : Nat) {x : Option V} : EnvO K F (σ.set i x) H (setS ρ i .un) :=
  e.put i (fun d' q => nomatch q) (fun A q => nomatch q) (fun ds q => nomatch q) (fun t q => nomatch q)
theorem setS_setS : ∀ {ρ : Rho} {i : Nat} {s t : Slot}, setS (setS ρ i s) i t = setS ρ i t
  | [], i, s, t => rfl
  | a :: r, 0, s, t => rfl
  | a :: r, i + 1, s, t => congrArg (a :: ·) (setS_setS (ρ := r))
/-- a slot that holds nothing gets an owned list -/
theorem EnvO.setO (e : EnvO K F σ H ρ) (i : Nat) (hu : getS ρ i = .un) {a : Addr} {vs : List V} {ds : List Dt} (h2 : H a = some (.lst vs)) (fn : F a = none) (hd : DpAll K F vs ds)
    (n1 : ∀ j es, getS ρ j = .ow es → σ[j]? ≠ some (some (.ref a))) (n2 : ∀ j t v fp, getS ρ j = .tr t → σ[j]? = some (some v) → OwT K F H v t fp → a ∉ fp) : EnvO K F (σ.set i (some (.ref a))) H (setS ρ i (.ow ds)) := by
  by_cases hi : i < ρ.length
  · have hi2 : i < σ.length := by rw [← e.len]; exact hi
    have gi : getS (setS ρ i (.ow ds)) i = .ow ds := getS_setS_eq hi
    have si : (σ.set i (some (.ref a)))[i]? = some (some (.ref a)) := List.getElem?_set_self hi2
    have ne_ : ∀ {j : Nat} {s : Slot}, (∀ es, s ≠ .ow es) → getS (setS ρ i (.ow ds)) j = s → j ≠ i ∧ getS ρ j = s := fun {j s} hs h => by
      by_cases c : j = i
      · subst c; rw [gi] at h; exact absurd h.symm (hs ds)
      · rw [getS_setS_ne c] at h; exact ⟨c, h⟩
    refine ⟨e.fz, by rw [setS_len, List.length_set]; exact e.len, fun j d h => ?_, fun j A h => ?_, fun j es h => ?_, fun j k ds1 es1 b hjk h1 h2' h3 => ?_, ?_⟩
    · obtain ⟨c, g⟩ := ne_ (by intro _ z; cases z) h
      rw [σset_ne c]; exact e.pu j d g
    · obtain ⟨c, g⟩ := ne_ (by intro _ z; cases z) h
      rw [σset_ne c]; exact e.an j A g
    · by_cases c : j = i
      · subst c
        rw [gi] at h
        cases h
        exact ⟨a, vs, si, h2, fn, hd⟩
      · rw [getS_setS_ne c] at h
        rw [σset_ne c]
        exact e.ow j es h
    · by_cases cj : j = i
      · subst cj
        have ck : k ≠ j := fun z => hjk z.symm
        rw [getS_setS_ne ck] at h2'
        rw [si] at h3
        have h3' : V.ref a = V.ref b := Option.some.inj (Option.some.inj h3)
        cases h3'
        rw [σset_ne ck]
        exact n1 k es1 h2'
      · rw [getS_setS_ne cj] at h1
        rw [σset_ne cj] at h3
        by_cases ck : k = i
        · subst ck
          rw [si]
          intro z
          have z' : V.ref a = V.ref b := Option.some.inj (Option.some.inj z)
          cases z'
          exact n1 j ds1 h1 h3
        · rw [getS_setS_ne ck] at h2'
          rw [σset_ne ck]
          exact e.ne j k ds1 es1 b hjk h1 h2' h3
    · obtain ⟨fp, z1, z2, z3⟩ := e.sep
      refine ⟨fp, fun j t h => ?_, fun j k t u b hjk h1 h2' => ?_, fun j k t es b h1 h2' h3 => ?_⟩
      · obtain ⟨c, g⟩ := ne_ (by intro _ z; cases z) h
        rw [σset_ne c]
        exact z1 j t g
      · exact z2 j k t u b hjk (ne_ (by intro _ z; cases z) h1).2 (ne_ (by intro _ z; cases z) h2').2
      · obtain ⟨c1, g1⟩ := ne_ (by intro _ z; cases z) h1
        by_cases ck : k = i
        · subst ck
          rw [si]
          intro z
          have z' : V.ref a = V.ref b := Option.some.inj (Option.some.inj z)
          cases z'
          obtain ⟨v, q1, q2⟩ := z1 j t g1
          exact n2 j t v _ g1 q1 q2 h3
        · rw [getS_setS_ne ck] at h2'
          rw [σset_ne ck]
          exact z3 j k t es b g1 h2' h3
  · have h1 : ρ.length ≤ i := Nat.le_of_not_lt hi
    rw [setS_out h1, List.set_eq_of_length_le (by rw [← e.len]; exact h1)]
    exact e
/-- a new object that nobody knows -/
theorem EnvO.fresh (e : EnvO K F σ H ρ) {a : Addr} {o : HO} (hn : H a = none) (hm : isMut o = true) : F a = none ∧ EnvO K F σ (upd H a o) ρ := by
  have fn : F a = none := by
    cases q : F a with
    | none => rfl
    | some u => rw [e.fz.same a u q] at hn; cases hn
  refine ⟨fn, ⟨fun b u q => ?_, fun b u q => ?_⟩, e.len, e.pu, e.an, fun j es h => ?_, e.ne, sep_upA e.sep (Same.refl F) fun b u h1 h2 => ⟨h2, by rw [upd_ne (ne_of_none h1 hn)]; exact h1⟩⟩
  · rw [upd_ne (fun z => by rw [z, fn] at q; cases q)]
    exact e.fz.same b u q
  · by_cases c : b = a
    · rw [c, upd_same] at q
      cases q
      exact .inr ⟨by rw [c]; exact fn, hm⟩
    · rw [upd_ne c] at q
      exact e.fz.drop b u q
  · obtain ⟨b, us, h1, h2, h3, h4⟩ := e.ow j es h
    exact ⟨b, us, h1, by rw [upd_ne (ne_of_none h2 hn)]; exact h2, h3, h4⟩
/-- a new list -/
theorem EnvO.putO (e : EnvO K F σ H ρ) (i : Nat) {a : Addr} {vs : List V} {ds : List Dt} (hn : H a = none) (hd : DpAll K F vs ds) : EnvO K F (σ.set i (some (.ref a))) (upd H a (.lst vs)) (setS ρ i (.ow ds)) := by
  obtain ⟨fn, e1⟩ := e.fresh (o := .lst vs) hn rfl
  have e2 := e1.putU i (x := some (.ref a))
  have hu : getS (setS ρ i .un) i = .un := by
    by_cases c : i < ρ.length
    · exact getS_setS_eq c
    · rw [setS_out (Nat.le_of_not_lt c)]; exact getS_out (Nat.le_of_not_lt c)
  have old : ∀ j, getS (setS ρ i .un) j ≠ .un → j ≠ i ∧ getS ρ j = getS (setS ρ i .un) j := fun j h => by
    by_cases c : j = i
    · subst c; exact absurd hu h
    · exact ⟨c, (getS_setS_ne c).symm⟩
  have e3 := e2.setO i hu (a := a) (vs := vs) (ds := ds) upd_same fn hd (fun j es h z => by
    obtain ⟨c, g⟩ := old j (by rw [h]; intro z; cases z)
    rw [h] at g
    rw [σset_ne c] at z
    obtain ⟨b, us, h1, h2, _⟩ := e.ow j es g
    rw [z] at h1
    have h1' : V.ref a = V.ref b := Option.some.inj (Option.some.inj h1)
    cases h1'
    rw [hn] at h2
    cases h2) (fun j t v fp h z o ha => by
    obtain ⟨c, g⟩ := old j (by rw [h]; intro z; cases z)
    rw [h] at g
    obtain ⟨fp', z1, _, _⟩ := e.sep
    rw [σset_ne c] at z
    obtain ⟨v', q1, q2⟩ := z1 j t g
    rw [z] at q1
    cases q1
    have := owT_fp o q2 (fun b x y w1 w2 => by
      by_cases cb : b = a
      · rw [cb, hn] at w2; cases w2
      · rw [upd_ne cb] at w1; rw [w1] at w2; exact Option.some.inj w2)
    rw [this] at ha
    obtain ⟨⟨ob, k1, _⟩, _⟩ := owT_mut q2 a ha
    rw [hn] at k1
    cases k1)
  rw [List.set_set, setS_setS] at e3
  exact e3
/-- an owned list changes -/
theorem EnvO.mut (e : EnvO K F σ H ρ) (i : Nat) {a : Addr} {vs : List V} {ds ds' : List Dt} (h : getS ρ i = .ow ds) (hs : σ[i]? = some (some (.ref a))) (hd : DpAll K F vs ds') : EnvO K F σ (upd H a (.lst vs)) (setS ρ i (.ow ds')) := by
  obtain ⟨b, us, h1, h2, h3, h4⟩ := e.ow i ds h
  rw [hs] at h1
  cases h1
  have hi : i < ρ.length := by
    by_cases c : i < ρ.length
    · exact c
    · rw [getS_out (Nat.le_of_not_lt c)] at h; cases h
  refine ⟨⟨fun b o q => ?_, fun b o q => ?_⟩, by rw [setS_len]; exact e.len, fun j d q => ?_, fun j A q => ?_, fun j es q => ?_, fun j k ds1 es1 a1 hjk q1 q2 q3 => ?_, ?_⟩
  · rw [upd_ne (fun z => by rw [z, h3] at q; cases q)]
    exact e.fz.same b o q
  · by_cases c : b = a
    · rw [c, upd_same] at q
      cases q
      exact .inr ⟨by rw [c]; exact h3, rfl⟩
    · rw [upd_ne c] at q
      exact e.fz.drop b o q
  · have c : j ≠ i := fun z => by rw [z, getS_setS_eq hi] at q; cases q
    rw [getS_setS_ne c] at q
    exact e.pu j d q
  · have c : j ≠ i := fun z => by rw [z, getS_setS_eq hi] at q; cases q
    rw [getS_setS_ne c] at q
    exact e.an j A q
  · by_cases c : j = i
    · subst c
      rw [getS_setS_eq hi] at q
      cases q
      exact ⟨a, vs, hs, upd_same, h3, hd⟩
    · rw [getS_setS_ne c] at q
      obtain ⟨b, us', g1, g2, g3, g4⟩ := e.ow j es q
      have nb : b ≠ a := fun z => by
        rw [z] at g1
        exact e.ne i j ds es a (fun y => c y.symm) h q hs g1
      exact ⟨b, us', g1, by rw [upd_ne nb]; exact g2, g3, g4⟩
  · have old : ∀ {n : Nat} {xs : List Dt}, getS (setS ρ i (.ow ds')) n = .ow xs → ∃ ys, getS ρ n = .ow ys := fun {n xs} z => by
      by_cases c : n = i
      · subst c; exact ⟨ds, h⟩
      · rw [getS_setS_ne c] at z; exact ⟨xs, z⟩
    obtain ⟨y1, z1⟩ := old q1
    obtain ⟨y2, z2⟩ := old q2
    exact e.ne j k y1 y2 a1 hjk z1 z2 q3
  · obtain ⟨fp, z1, z2, z3⟩ := e.sep
    have nt : ∀ {j : Nat} {t : Tr}, getS (setS ρ i (.ow ds')) j = .tr t → getS ρ j = .tr t := fun {j t} q => by
      have c : j ≠ i := fun z => by rw [z, getS_setS_eq hi] at q; cases q
      rw [getS_setS_ne c] at q
      exact q
    refine ⟨fp, fun j t q => ?_, fun j k t u b hjk q1 q2 => z2 j k t u b hjk (nt q1) (nt q2), fun j k t es b q1 q2 q3 => ?_⟩
    · obtain ⟨v, k1, k2⟩ := z1 j t (nt q)
      refine ⟨v, k1, owT_up (Same.refl F) k2 (fun b hb => (owT_mut k2 b hb).2) fun b hb => upd_ne fun z => ?_⟩
      subst z
      exact z3 j i t ds b (nt q) h hb hs
    · by_cases c : k = i
      · subst c
        exact z3 j k t ds b (nt q1) h q3
      · rw [getS_setS_ne c] at q2
        exact z3 j k t es b (nt q1) q2 q3
/-- an owned list is changed no more -/
theorem EnvO.freeze (e : EnvO K F σ H ρ) (i : Nat) {ds : List Dt} (h : getS ρ i = .ow ds) : ∃ F', Same F F' ∧ EnvO K F' σ H (setS ρ i (.pu (.list ds))) := by
  obtain ⟨a, vs, h1, h2, h3, h4⟩ := e.ow i ds h
  have s : Same F (upd F a (.lst vs)) := same_new h3
  have hi : i < ρ.length := by
    by_cases c : i < ρ.length
    · exact c
    · rw [getS_out (Nat.le_of_not_lt c)] at h; cases h
  have e1 : EnvO K (upd F a (.lst vs)) σ H (setS ρ i .un) := by
    refine ⟨⟨fun b o q => ?_, fun b o q => ?_⟩, by rw [setS_len]; exact e.len, fun j d q => ?_, fun j A q => ?_, fun j es q => ?_, fun j k ds1 es1 a1 hjk q1 q2 q3 => ?_, ?_⟩
    · by_cases c : b = a
      · rw [c, upd_same] at q; cases q; rw [c]; exact h2
      · rw [upd_ne c] at q; exact e.fz.same b o q
    · by_cases c : b = a
      · rw [c] at q ⊢
        rw [h2] at q
        cases q
        exact .inl upd_same
      · rw [upd_ne c]
        exact e.fz.drop b o q
    · have c : j ≠ i := fun z => by rw [z, getS_setS_eq hi] at q; cases q
      rw [getS_setS_ne c] at q
      obtain ⟨v, g1, g2⟩ := e.pu j d q
      exact ⟨v, g1, g2.up s⟩
    · have c : j ≠ i := fun z => by rw [z, getS_setS_eq hi] at q; cases q
      rw [getS_setS_ne c] at q
      obtain ⟨v, g1, g2⟩ := e.an j A q
      exact ⟨v, g1, A.up _ _ _ _ s g2⟩
    · have c : j ≠ i := fun z => by rw [z, getS_setS_eq hi] at q; cases q
      rw [getS_setS_ne c] at q
      obtain ⟨b, us', g1, g2, g3, g4⟩ := e.ow j es q
      have nb : b ≠ a := fun z => by
        rw [z] at g1
        exact e.ne i j ds es a (fun y => c y.symm) h q h1 g1
      exact ⟨b, us', g1, g2, by rw [upd_ne nb]; exact g3, g4.up s⟩
    · have cj : j ≠ i := fun z => by rw [z, getS_setS_eq hi] at q1; cases q1
      have ck : k ≠ i := fun z => by rw [z, getS_setS_eq hi] at q2; cases q2
      rw [getS_setS_ne cj] at q1
      rw [getS_setS_ne ck] at q2
      exact e.ne j k ds1 es1 a1 hjk q1 q2 q3
    · obtain ⟨fp, z1, z2, z3⟩ := e.sep
      have nt : ∀ {j : Nat} {t : Tr}, getS (setS ρ i .un) j = .tr t → getS ρ j = .tr t := fun {j t} q => by
        have c : j ≠ i := fun z => by rw [z, getS_setS_eq hi] at q; cases q
        rw [getS_setS_ne c] at q
        exact q
      refine ⟨fp, fun j t q => ?_, fun j k t u b hjk q1 q2 => z2 j k t u b hjk (nt q1) (nt q2), fun j k t es b q1 q2 q3 => ?_⟩
      · obtain ⟨v, k1, k2⟩ := z1 j t (nt q)
        refine ⟨v, k1, owT_up s k2 (fun b hb => ?_) fun b hb => rfl⟩
        rw [upd_ne fun z => by subst z; exact z3 j i t ds b (nt q) h hb h1]
        exact (owT_mut k2 b hb).2
      · have c : k ≠ i := fun z => by rw [z, getS_setS_eq hi] at q2; cases q2
        rw [getS_setS_ne c] at q2
        exact z3 j k t es b (nt q1) q2 q3
  have e2 := e1.putP i (v := .ref a) (d := .list ds) (.lst (SqL.of upd_same) (h4.up s))
  have q1 : setS (setS ρ i .un) i (.pu (.list ds)) = setS ρ i (.pu (.list ds)) := by
    clear e2 e1 h1 e h hi
    induction ρ generalizing i with
    | nil => rfl
    | cons x r ih => cases i with
      | zero => rfl
      | succ i => exact congrArg (x :: ·) (ih i)
  have q2 : σ.set i (some (.ref a)) = σ := by
    have hl : i < σ.length := by rw [← e.len]; exact hi
    rw [← List.getElem?_eq_some_iff.mp h1 |>.2]
    exact List.set_getElem_self hl
  rw [q1, q2] at e2
  exact ⟨_, s, e2⟩
end
end L2.D3
set_option maxHeartbeats 4000000
namespace L2.D3
open PySem PySem.Spec PyProof.Rows
/-! ### what a def promises, over data -/
/-- an exception: its class, the fields of its own -/
structure XD where
  cls : Str
  fs : List (Str × Dt)
def XAt (K : PySem.W.Frag) (H : Hp) (x : XD) (d : Option Addr) : Prop := match x.fs with
  | [] => d = none
  | fs => ∃ a vs, d = some a ∧ H a = some (.xd ((fs.map (·.1)).zip vs)) ∧ DpAll K H vs (fs.map (·.2))
abbrev DSp := List Dt → (Slot → Prop) → (XD → Prop) → Prop
structure RetOk (K : PySem.W.Frag) (H : Hp) (Φ : Slot → Prop) (Q : VK) : Prop where
  pu : ∀ v d H', Same H H' → Dp K H' v d → Φ (.pu d) → Q v H'
  ow : ∀ a vs ds H', Same H H' → H' a = none → DpAll K H' vs ds → Φ (.ow ds) → Q (.ref a) (upd H' a (.lst vs))
def RaiOk (K : PySem.W.Frag) (H : Hp) (Ξ : XD → Prop) (E : XK) : Prop := ∀ x d H', Same H H' → XAt K H' x d → Ξ x → E (.ref (He.ga K x.cls)) d H'
def lift (K : PySem.W.Frag) (dsp : DSp) : Sp := fun vs H Q E => ∃ ds Φ Ξ, DpAll K H vs ds ∧ dsp ds Φ Ξ ∧ RetOk K H Φ Q ∧ RaiOk K H Ξ E
/-- the module's name x is a def that keeps dsp -/
structure FN (P : Program) (w : World) (K : PySem.W.Frag) (mg : Str → Option Value) (base : Heap) (x : Str) (k : Nat) (dsp : DSp) : Prop where
  ex : ∃ f fd ps us dvs sp, FnOk P w K mg base (L2.CX P w) k f fd ps sp ∧ mg x = some (.ref f) ∧ PySem.W.keepIn K (.ref f) = true ∧ Binds K fd ps us ∧ Vals dvs us ∧ ∀ vs H Q E, lift K dsp vs H Q E → sp (vs ++ dvs) H Q E
def dCall (dsp : DSp) (da : DA) : DE := fun φ Φ => da φ fun ds => dsp ds (fun s => Φ s.dat) (fun _ => False)
section
variable {X : Cx} {K : PySem.W.Frag}
theorem retOk_data {H H1 : Hp} {Φ : Dt → Prop} {Q : VK} (s1 : Same H H1) (q : ∀ v H' d, Same H H' → Dp K H' v d → Φ d → Q v H') : RetOk K H1 (fun s => Φ s.dat) Q where
  pu := fun v d H' s p h => q v H' d (s1.trans s) p h
  ow := fun a vs ds H' s n p h => by
    have s2 := same_new (o := .lst vs) n
    exact q _ _ (.list ds) (s1.trans (s.trans s2)) (.lst (SqL.of upd_same) (p.up s2)) h
theorem g_call {x : Str} {k : Nat} {dsp : DSp} {e : Expr} {es : List Expr} {da : DA} {p pos : Pos} (N : FN X.prog X.w X.K X.mg X.base x k dsp) (hr : Room k X.A) (ha : GA X (e :: es) da) (hg : Gl X x := by rfl)
    (hdb : (x == ("__debug__" : Str)) = false := by decide) (he : starEach (e :: es) X.env = (false, eval e X.env) :: starEach es X.env := by rfl) (hpl : (backTo pos (starEach es X.env)).any (·.1) = false := by rfl) :
    GE X (.Call (.Name x p) (e :: es) [] pos) (dCall dsp da) := by
  obtain ⟨f, fd, ps, us, dvs, sp, F, hm, hk, hb, hd, hs⟩ := N
  obtain ⟨ta, a1, a2⟩ := ha
  refine ⟨_, pe_call F hr hg hm hk hb hd passL a1 hdb he hpl, fun σ H φ Φ Q env h q => a2 σ H φ _ _ env h fun vs H1 ds s1 ps l h1 => hs _ _ _ _ ?_⟩
  exact ⟨ds, _, _, ps, h1, retOk_data s1 q, fun x d H' s p z => z.elim⟩
/-! new lists -/
abbrev DF := Fro → (List Dt → Prop) → Prop
def SF (K : PySem.W.Frag) (te : TE) (df : DF) : Prop := ∀ (σ : St) (H : Hp) (φ : Fro) (Φ : List Dt → Prop) (Q : VK), EnvF K σ H φ → df φ Φ → (∀ a vs ds H', Same H H' → H' a = none → DpAll K H' vs ds → Φ ds → Q (.ref a) (upd H' a (.lst vs))) → te σ H Q
structure GF (X : Cx) (e : Expr) (df : DF) : Prop where
  ex : ∃ te, PE X e te ∧ SF X.K te df
def dFE (df : DF) : DE := fun φ Φ => df φ fun ds => Φ (.list ds)
theorem GF.g {e : Expr} {df : DF} (h : GF X e df) : GE X e (dFE df) := by
  obtain ⟨te, a1, a2⟩ := h
  refine ⟨te, a1, fun σ H φ Φ Q env h q => a2 σ H φ _ _ env h fun a vs ds H' s n p hd => ?_⟩
  have s2 := same_new (o := .lst vs) n
  exact q _ _ _ (s.trans s2) (.lst (SqL.of upd_same) (p.up s2)) hd
theorem f_lst {es : List Expr} {da : DA} {pos : Pos} (h : GA X es da) (hz : es.length ≤ sizeLine := by decide) : GF X (.List es pos) da := by
  obtain ⟨t, a1, a2⟩ := h
  exact ⟨_, pe_lst a1, fun σ H φ Φ Q env h q => a2 σ H φ _ _ env h fun vs H1 ds s1 ps l h1 => ⟨by rw [ps.len, l]; exact hz, fun p hp => q p vs ds H1 s1 hp ps h1⟩⟩
/-- a call whose end is a list of its own -/
def dCallF (dsp : DSp) (da : DA) : DF := fun φ Φ => da φ fun ds => dsp ds (fun s => match s with | .ow es => Φ es | _ => False) (fun _ => False)
end
/-! ### statements -/
structure DEnds where
  nx : Rho → Prop
  rt : Slot → Prop
  xr : XD → Rho → Prop
  bk : Rho → Prop := fun _ => False
  ct : Rho → Prop := fun _ => False
abbrev DS := DEnds → Rho → Prop
structure Meets (K : PySem.W.Frag) (W : WX) (F : Hp) (D : Ends) (E : DEnds) : Prop where
  nx : ∀ F' σ H ρ, Same F F' → EnvO K F' σ H ρ → E.nx ρ → D.nx σ H
  bk : ∀ F' σ H ρ, Same F F' → EnvO K F' σ H ρ → E.bk ρ → D.bk σ H
  ct : ∀ F' σ H ρ, Same F F' → EnvO K F' σ H ρ → E.ct ρ → D.ct σ H
  rt : ∀ F' H v d, Same F F' → Fz F' H → Dp K F' v d → E.rt (.pu d) → D.rt v H
  rtO : ∀ F' H a vs ds, Same F F' → Fz F' H → F' a = none → H a = some (.lst vs) → DpAll K F' vs ds → E.rt (.ow ds) → D.rt (.ref a) H
  xr : ∀ F' σ H ρ x d, Same F F' → EnvO K F' σ H ρ → XAt K F' x d → E.xr x ρ → W (.ref (He.ga K x.cls)) d σ H
theorem Meets.up {K : PySem.W.Frag} {W : WX} {F F' : Hp} {D : Ends} {E : DEnds} (m : Meets K W F D E) (s : Same F F') : Meets K W F' D E :=
  ⟨fun F2 σ H ρ s2 => m.nx F2 σ H ρ (s.trans s2), fun F2 σ H ρ s2 => m.bk F2 σ H ρ (s.trans s2), fun F2 σ H ρ s2 => m.ct F2 σ H ρ (s.trans s2), fun F2 H v d s2 => m.rt F2 H v d (s.trans s2), fun F2 H a vs ds s2 => m.rtO F2 H a vs ds (s.trans s2), fun F2 σ H ρ x d s2 => m.xr F2 σ H ρ x d (s.trans s2)⟩
def SS (K : PySem.W.Frag) (W : WX) (ts : TS) (ds : DS) : Prop := ∀ (D : Ends) (E : DEnds) (F : Hp) (σ : St) (H : Hp) (ρ : Rho), EnvO K F σ H ρ → ds E ρ → Meets K W F D E → ts D σ H
structure GS (X : Cx) (W : WX) (st : Stmt) (ds : DS) : Prop where
  ex : ∃ ts, PS X st ts ∧ SS X.K W ts ds
structure GSs (X : Cx) (W : WX) (st : List Stmt) (ds : DS) : Prop where
  ex : ∃ ts, PSs X st ts ∧ SS X.K W ts ds
def dNext : DS := fun E ρ => E.nx ρ
def dSeq (t u : DS) : DS := fun E ρ => t { E with nx := u E } ρ
section
variable {X : Cx} {K : PySem.W.Frag} {W : WX}
theorem s_nil : GSs X W [] dNext := ⟨_, pss_nil, fun D E F σ H ρ env h m => m.nx F σ H ρ (Same.refl F) env h⟩
theorem s_one {st : Stmt} {d : DS} (h : GS X W st d) : GSs X W [st] d := by
  obtain ⟨t, a1, a2⟩ := h
  exact ⟨_, pss_one a1, a2⟩
theorem s_cons {st : Stmt} {rest : List Stmt} {d e : DS} (h : GS X W st d) (hr : GSs X W rest e) : GSs X W (st :: rest) (dSeq d e) := by
  obtain ⟨t, a1, a2⟩ := h
  obtain ⟨u, b1, b2⟩ := hr
  exact ⟨_, pss_cons a1 b1, fun D E F σ H ρ env h m => a2 _ _ F σ H ρ env h ⟨fun F' σ' H' ρ' s env' h' => b2 D E F' σ' H' ρ' env' h' (m.up s), m.bk, m.ct, m.rt, m.rtO, m.xr⟩⟩
def dBreak : DS := fun E ρ => E.bk ρ
def dCont : DS := fun E ρ => E.ct ρ
/-! x = e -/
/-- by an expression that looks at no owned list -/
def dSetP (i : Nat) (de : DE) : DS := fun E ρ => de (purF ρ) fun d => E.nx (setS ρ i (.pu d))
def scalD : Dt → Prop
  | .list _ => False
  | .tuple _ => False
  | .dict _ => False
  | _ => True
/-- by an expression over all, its end a number, a text, a truth, None -/
def dSetS (i : Nat) (de : DE) : DS := fun E ρ => de (allF ρ) fun d => scalD d ∧ E.nx (setS ρ i (.pu d))
/-- by a new list -/
def dSetF (i : Nat) (df : DF) : DS := fun E ρ => df (purF ρ) fun ds => E.nx (setS ρ i (.ow ds))
theorem ss_frame {te : TE} {de : DE} (h : SE K te de) {k : V → St → Hp → Prop} {F : Hp} {σ : St} {H : Hp} {ρ : Rho} {Φ : Dt → Prop} (env : EnvO K F σ H ρ) (hd : de (purF ρ) Φ) (hk : ∀ F' H' v d, Same F F' → EnvO K F' σ H' ρ → Dp K F' v d → Φ d → k v σ H') :
    tFr te σ H fun v H' => k v σ H' := ⟨F, env.fz, h σ F (purF ρ) _ _ env.pur hd fun v F' d s p hΦ => ⟨s, fun dj => hk F' _ v d s (env.grow s dj) p hΦ⟩⟩
theorem ss_frameF {te : TE} {df : DF} (h : SF K te df) {k : V → St → Hp → Prop} {F : Hp} {σ : St} {H : Hp} {ρ : Rho} {Φ : List Dt → Prop} (env : EnvO K F σ H ρ) (hd : df (purF ρ) Φ)
    (hk : ∀ F' H' a vs ds, Same F F' → EnvO K F' σ H' ρ → H' a = none → DpAll K F' vs ds → Φ ds → k (.ref a) σ (upd H' a (.lst vs))) : tFr te σ H fun v H' => k v σ H' := by
  refine ⟨F, env.fz, h σ F (purF ρ) _ _ env.pur hd fun a vs ds F' s n p hΦ => ⟨s.trans (same_new n), fun dj => ?_⟩⟩
  have ha : H a = none := by
    cases q : H a with
    | none => rfl
    | some o =>
      rcases env.fz.drop a o q with z | ⟨z, _⟩
      · rw [s a o z] at n; cases n
      · have y := dj a o q z
        rw [upd_same] at y
        cases y
  have dj' : ∀ b o, H b = some o → F b = none → F' b = none := fun b o q z => by
    have y := dj b o q z
    rw [upd_ne (fun w => by rw [w, ha] at q; cases q)] at y
    exact y
  have e : glue (upd F' a (.lst vs)) H = upd (glue F' H) a (.lst vs) := by
    funext b
    by_cases c : b = a
    · rw [c, upd_same, glue_some upd_same]
    · rw [upd_ne c]
      unfold glue
      rw [upd_ne c]
  rw [e]
  exact hk F' _ a vs ds s (env.grow s dj') (by rw [glue_none n]; exact ha) p hΦ
theorem dp_scal {H H' : Hp} {v : V} {d : Dt} (p : Dp K H v d) (h : scalD d) : Dp K H' v d := by
  cases d with
  | none => cases p; exact .non
  | bool b => cases p; exact .bl b
  | int i => cases p; exact .int i
  | str x => cases p; exact .str x
  | list _ => exact h.elim
  | tuple _ => exact h.elim
  | dict _ => exact h.elim
section
variable {i : Nat} {x : Str} {e : Expr} {pos' pos : Pos}
theorem s_setP {de : DE} (hN : X.N.Nodup) (hi : X.N[i]? = some x) (he : GE X e de) (hx : Loc X.env.scope x := by first | exact Or.inl rfl | exact Or.inr rfl) (hs : swapsWith e (some (.Name x pos')) pos.line X.env = pure false := by rfl) (hf : X.fn x = true ∨ X.env.scope.names.lookup x = some .local := by first | exact .inl rfl | exact .inr rfl | assumption) :
    GS X W (.Assign [.Name x pos'] e pos) (dSetP i de) := by
  obtain ⟨te, a1, a2⟩ := he
  exact ⟨_, ps_set hN hi hx (pe_frame a1) hs hf, fun D E F σ H ρ env h m => ss_frame (k := fun v σ H' => D.nx (σ.set i (some v)) H') a2 env h fun F' H' v d s env' p hd => m.nx F' _ _ _ s (env'.putP i p) hd⟩
theorem s_setF {df : DF} (hN : X.N.Nodup) (hi : X.N[i]? = some x) (he : GF X e df) (hx : Loc X.env.scope x := by first | exact Or.inl rfl | exact Or.inr rfl) (hs : swapsWith e (some (.Name x pos')) pos.line X.env = pure false := by rfl) (hf : X.fn x = true ∨ X.env.scope.names.lookup x = some .local := by first | exact .inl rfl | exact .inr rfl | assumption) :
    GS X W (.Assign [.Name x pos'] e pos) (dSetF i df) := by
  obtain ⟨te, a1, a2⟩ := he
  exact ⟨_, ps_set hN hi hx (pe_frame a1) hs hf, fun D E F σ H ρ env h m => ss_frameF (k := fun v σ H' => D.nx (σ.set i (some v)) H') a2 env h fun F' H' a vs ds s env' n p hd => m.nx F' _ _ _ s (env'.putO i n p) hd⟩
end
/-! return -/
def dRet (de : DE) : DS := fun E ρ => de (allF ρ) fun d => E.rt (.pu d)
def dRetF (df : DF) : DS := fun E ρ => df (allF ρ) fun ds => E.rt (.ow ds)
def dRetO (i : Nat) : DS := fun E ρ => match getS ρ i with
  | .ow ds => E.rt (.ow ds)
  | _ => False
theorem s_ret {e : Expr} {de : DE} {pos : Pos} (he : GE X e de) : GS X W (.Return (some e) pos) (dRet de) := by
  obtain ⟨te, a1, a2⟩ := he
  exact ⟨_, ps_ret a1, fun D E F σ H ρ env h m => a2 σ H _ _ _ env.all h fun v H' d s p hd => m.rt H' H' v d (env.fz.same.trans s) (Fz.refl _) p hd⟩
theorem s_retO {x : Str} {p pos : Pos} (i : Nat) (hN : X.N[i]? = some x := by rfl) (hv : Vis X.env.scope x := by first | exact Or.inl rfl | exact Or.inr (Or.inl rfl) | exact Or.inr (Or.inr rfl)) (hd : (x == ("__debug__" : Str)) = false := by decide)
    (hcd : (x == ("__classdict__" : Str)) = false := by decide) : GS X W (.Return (some (.Name x p)) pos) (dRetO i) := by
  refine ⟨_, ps_ret (pe_var hN hv hd hcd), fun D E F σ H ρ env h m => ?_⟩
  unfold dRetO at h
  cases q : getS ρ i with
  | ow ds =>
    rw [q] at h
    obtain ⟨a, vs, h1, h2, h3, h4⟩ := env.ow i ds q
    exact ⟨_, h1, m.rtO F H a vs ds (Same.refl F) env.fz h3 h2 h4 h⟩
  | _ => rw [q] at h; exact h.elim
/-! if -/
def dIf (t : DT) (a b : DS) : DS := fun E ρ => t (allF ρ) fun c => if c = true then a E ρ else b E ρ
theorem s_if {c : Expr} {a b : List Stmt} {t : DT} {da db : DS} {pos : Pos} (hc : GT X c t) (ha : GSs X W a da) (hb : GSs X W b db) : GS X W (.If c a b pos) (dIf t da db) := by
  obtain ⟨tc, c1, c2⟩ := hc
  obtain ⟨ta, a1, a2⟩ := ha
  obtain ⟨tb, b1, b2⟩ := hb
  refine ⟨_, ps_if c1 a1 b1, fun D E F σ H ρ env h m => c2 σ H _ _ _ env.all h fun c H' s hc => ?_⟩
  obtain ⟨F', s', env'⟩ := env.after s
  cases c with
  | true =>
    rw [if_pos rfl] at hc ⊢
    exact a2 D E F' σ H' ρ env' hc (m.up s')
  | false =>
    rw [if_neg Bool.false_ne_true] at hc ⊢
    exact b2 D E F' σ H' ρ env' hc (m.up s')
/-! a list is changed no more -/
def dFrz (i : Nat) (t : DS) : DS := fun E ρ => match getS ρ i with
  | .ow ds => t E (setS ρ i (.pu (.list ds)))
  | _ => False
theorem s_frz {st : List Stmt} {d : DS} (i : Nat) (h : GSs X W st d) : GSs X W st (dFrz i d) := by
  obtain ⟨ts, a1, a2⟩ := h
  refine ⟨ts, a1, fun D E F σ H ρ env h m => ?_⟩
  unfold dFrz at h
  cases q : getS ρ i with
  | ow ds =>
    rw [q] at h
    obtain ⟨F', s, env'⟩ := env.freeze i q
    exact a2 D E F' σ H _ env' h (m.up s)
  | _ => rw [q] at h; exact h.elim
/-! while -/
def dWhile (t : DT) (b : DS) : DS := fun E ρ => ∃ Iv : Nat → Rho → Prop, (∃ m, Iv m ρ) ∧ ∀ m ρ', Iv m ρ' → t (allF ρ') fun c => if c = true then b { E with nx := fun ρ2 => ∃ m', m' < m ∧ Iv m' ρ2, ct := fun ρ2 => ∃ m', m' < m ∧ Iv m' ρ2, bk := E.nx } ρ' else E.nx ρ'
theorem s_while {c : Expr} {body : List Stmt} {t : DT} {db : DS} {pos : Pos} (hp : PassesOwn (model X.prog X.w) X.A X.env X.xe) (hc : GT X c t) (hb : GSs X W body db) : GS X W (.While c body [] pos) (dWhile t db) := by
  obtain ⟨tc, c1, c2⟩ := hc
  obtain ⟨tb, b1, b2⟩ := hb
  refine ⟨_, ps_while hp c1 b1, fun D E F σ H ρ env h m => ?_⟩
  obtain ⟨Iv, ⟨m0, i0⟩, turn⟩ := h
  refine ⟨fun n σ' H' => ∃ F' ρ', Same F F' ∧ EnvO X.K F' σ' H' ρ' ∧ Iv n ρ', ⟨m0, F, ρ, Same.refl F, env, i0⟩, fun n σ' H' hw => ?_⟩
  obtain ⟨F', ρ', s, env', iv⟩ := hw
  refine c2 σ' H' _ _ _ env'.all (turn n ρ' iv) fun c H2 s2 hc => ?_
  obtain ⟨F2, s3, env2⟩ := env'.after s2
  cases c with
  | true =>
    rw [if_pos rfl] at hc ⊢
    refine ⟨fun σ3 H3 => ∃ m', m' < n ∧ ∃ F' ρ', Same F F' ∧ EnvO X.K F' σ3 H3 ρ' ∧ Iv m' ρ', fun σ3 H3 z => z, ?_⟩
    have sF : Same F F2 := s.trans s3
    have go : ∀ F' σ H ρ, Same F2 F' → EnvO X.K F' σ H ρ → (∃ m', m' < n ∧ Iv m' ρ) → ∃ m', m' < n ∧ ∃ F' ρ', Same F F' ∧ EnvO X.K F' σ H ρ' ∧ Iv m' ρ' := fun F3 σ3 H3 ρ3 s4 env3 ⟨m', hm, iv'⟩ => ⟨m', hm, F3, ρ3, sF.trans s4, env3, iv'⟩
    exact b2 _ _ F2 σ' H2 ρ' env2 hc ⟨go, fun F' σ H ρ s4 env3 q => m.nx F' σ H ρ (sF.trans s4) env3 q, go, (m.up sF).rt, (m.up sF).rtO, (m.up sF).xr⟩
  | false =>
    rw [if_neg Bool.false_ne_true] at hc ⊢
    exact m.nx F2 σ' H2 ρ' (s.trans s3) env2 hc
end
/-! ### targets -/
abbrev DG := Dt → Rho → (Rho → Prop) → Prop
abbrev DGs := List Dt → Rho → (Rho → Prop) → Prop
def SG (K : PySem.W.Frag) (g : TG) (dg : DG) : Prop := ∀ (v : V) (d : Dt) (F : Hp) (σ : St) (H : Hp) (ρ : Rho) (Ψ : Rho → Prop) (Q : St → Hp → Prop), EnvO K F σ H ρ → Dp K F v d → dg d ρ Ψ → (∀ σ' ρ', EnvO K F σ' H ρ' → Ψ ρ' → Q σ' H) → g v σ H Q
structure GG (X : Cx) (tg : Expr) (dg : DG) : Prop where
  ex : ∃ g, PG X tg g ∧ SG X.K g dg
def dgN (i : Nat) : DG := fun d ρ Ψ => Ψ (setS ρ i (.pu d))
def dgNil : DGs := fun ds ρ Ψ => match ds with
  | [] => Ψ ρ
  | _ :: _ => False
def dgCons (g : DG) (gs : DGs) : DGs := fun ds ρ Ψ => match ds with
  | [] => False
  | d :: r => g d ρ fun ρ' => (gs r ρ' Ψ)
def seqD : Dt → Option (List Dt)
  | .list ds => some ds
  | .tuple ds => some ds
  | _ => none
def dgT (n : Nat) (gs : DGs) : DG := fun d ρ Ψ => match seqD d with
  | some ds => ds.length = n ∧ gs ds ρ Ψ
  | none => False
section
variable {X : Cx} {K : PySem.W.Frag}
theorem gg_name (i : Nat) {x : Str} {pos : Pos} (hN : X.N.Nodup) (hi : X.N[i]? = some x := by rfl) (hx : Loc X.env.scope x := by first | exact Or.inl rfl | exact Or.inr rfl) (hf : X.fn x = true ∨ X.env.scope.names.lookup x = some .local := by first | exact .inl rfl | exact .inr rfl | assumption) : GG X (.Name x pos) (dgN i) :=
  ⟨_, pg_name hN hi hx hf, fun v d F σ H ρ Ψ Q env p h q => q _ _ (env.putP i p) h⟩
theorem PG.or {tg : Expr} {g g' : TG} (h : PG X tg g) (h' : PG X tg g') : PG X tg (fun v σ H Q => g v σ H Q ∨ g' v σ H Q) := by
  refine ⟨fun pins s σ H v u Q I r hw => ?_⟩
  rcases hw with hw | hw
  · exact h.run pins s σ H v u Q I r hw
  · exact h'.run pins s σ H v u Q I r hw
def SGs' (K : PySem.W.Frag) (g : TGs) (dg : DGs) : Prop := ∀ (vs : List V) (ds : List Dt) (F : Hp) (σ : St) (H : Hp) (ρ : Rho) (Ψ : Rho → Prop) (Q : St → Hp → Prop), EnvO K F σ H ρ → DpAll K F vs ds → dg ds ρ Ψ → (∀ σ' ρ', EnvO K F σ' H ρ' → Ψ ρ' → Q σ' H) → g vs σ H Q
structure GG2 (X : Cx) (ts : List Expr) (dg : DGs) : Prop where
  ex : ∃ g, PGs X ts g ∧ SGs' X.K g dg
theorem ggs_nil : GG2 X [] dgNil := by
  refine ⟨_, pgs_nil, fun vs ds F σ H ρ Ψ Q env p h q => ?_⟩
  cases ds with
  | nil => cases p; exact ⟨rfl, q σ ρ env h⟩
  | cons _ _ => exact h.elim
theorem ggs_cons {e : Expr} {es : List Expr} {g : DG} {gs : DGs} (h : GG X e g) (hr : GG2 X es gs) (hs : (assignEach (e :: es) X.env).map (·.2) = assign e X.env :: (assignEach es X.env).map (·.2) := by rfl) : GG2 X (e :: es) (dgCons g gs) := by
  obtain ⟨t, a1, a2⟩ := h
  obtain ⟨u, b1, b2⟩ := hr
  refine ⟨_, pgs_cons a1 b1 hs, fun vs ds F σ H ρ Ψ Q env p h q => ?_⟩
  cases ds with
  | nil => exact h.elim
  | cons d r =>
    cases p with
    | cons p1 p2 => exact ⟨_, _, rfl, a2 _ d F σ H ρ _ _ env p1 h fun σ' ρ' env' h' => b2 _ r F σ' H ρ' Ψ Q env' p2 h' q⟩
theorem gg_tup {es : List Expr} {k : Nat} {gs : DGs} {n : Nat} {pos : Pos} (hc : X.calm = true) (h : GG2 X es gs) (hn : (assignEach es X.env).length = n := by rfl) (hst : (assignEach es X.env).findIdx? (·.1) = none := by rfl) : GG X (.Tuple es k pos) (dgT n gs) := by
  obtain ⟨g, a1, a2⟩ := h
  refine ⟨_, PG.or (pg_tup hc a1 hn hst) (pg_lst hc a1 hn hst), fun v d F σ H ρ Ψ Q env p h q => ?_⟩
  cases d with
  | list ds =>
    obtain ⟨hl, h⟩ : ds.length = n ∧ gs ds ρ Ψ := h
    cases p with
    | lst hs ha => exact .inr ⟨_, _, rfl, env.fz.same.seq hs, by rw [ha.len, hl], a2 _ ds F σ H ρ Ψ Q env ha h q⟩
  | tuple ds =>
    obtain ⟨hl, h⟩ : ds.length = n ∧ gs ds ρ Ψ := h
    cases p with
    | tup hs ha => exact .inl ⟨_, _, rfl, sqT_mono env.fz.same hs, by rw [ha.len, hl], a2 _ ds F σ H ρ Ψ Q env ha h q⟩
  | _ => exact h.elim
/-- target = e -/
def dAsg (de : DE) (g : DG) : DS := fun E ρ => de (purF ρ) fun d => g d ρ E.nx
variable {W : WX}
theorem s_asg {tg e : Expr} {de : DE} {g : DG} {pos : Pos} (he : GE X e de) (hg : GG X tg g) (hs : swapsWithSole [tg] e pos.line X.env = pure false := by rfl) (hw : swappedStores [tg] e X.env = pure none := by rfl)
    (h1 : (assignEach [tg] X.env).map (·.2) = [assign tg X.env] := by rfl) : GS X W (.Assign [tg] e pos) (dAsg de g) := by
  obtain ⟨te, a1, a2⟩ := he
  obtain ⟨tg', b1, b2⟩ := hg
  exact ⟨_, ps_asg (pe_frame a1) b1 hs hw h1, fun D E F σ H ρ env h m => ss_frame (k := fun v σ H' => tg' v σ H' D.nx) a2 env h fun F' H' v d s env' p hd => b2 v d F' σ H' ρ _ _ env' p hd fun σ' ρ' env2 hn => m.nx F' σ' H' ρ' s env2 hn⟩
/-- a, b = e1, e2 -/
def dPar (i j : Nat) (da : DA) : DS := fun E ρ => da (purF ρ) fun ds => match ds with
  | [d, e] => E.nx (setS (setS ρ i (.pu d)) j (.pu e))
  | _ => False
/-- .. over all, of numbers, texts, truths -/
def dParS (i j : Nat) (da : DA) : DS := fun E ρ => da (allF ρ) fun ds => match ds with
  | [d, e] => scalD d ∧ scalD e ∧ E.nx (setS (setS ρ i (.pu d)) j (.pu e))
  | _ => False
theorem s_parS {i j : Nat} {x y : Str} {a b : Expr} {da : DA} {px py pt : Pos} {kt k2 pt2} {pos : Pos} (hc : X.calm = true) (hN : X.N.Nodup) (hi : X.N[i]? = some x) (hj : X.N[j]? = some y) (hij : i ≠ j)
    (hx : X.env.scope.names.lookup x = some .local) (hy : X.env.scope.names.lookup y = some .local) (ha : GA X [a, b] da)
    (hw : swappedStores [.Tuple [.Name x px, .Name y py] kt pt] (.Tuple [a, b] k2 pt2) X.env = pure (some [x, y]))
    (hs : swapsWithSole [.Tuple [.Name x px, .Name y py] kt pt] (.Tuple [a, b] k2 pt2) pos.line X.env = pure false := by rfl) :
    GS X W (.Assign [.Tuple [.Name x px, .Name y py] kt pt] (.Tuple [a, b] k2 pt2) pos) (dParS i j da) := by
  obtain ⟨ta, a1, a2⟩ := ha
  refine ⟨_, ps_par hc hN hi hj hij hx hy a1 hw hs, fun D E F σ H ρ env h m => a2 σ H _ _ _ env.all h fun vs H' ds s p hl hd => ?_⟩
  obtain ⟨F', s', env'⟩ := env.after s
  match ds, hl, hd, p with
  | [d, e], _, hd, p =>
    cases p with
    | cons p1 p2 => cases p2 with
      | cons p2 p3 =>
        cases p3
        exact ⟨_, _, rfl, m.nx F' _ _ _ s' ((env'.putP i (dp_scal p1 hd.1)).putP j (dp_scal p2 hd.2.1)) hd.2.2⟩
end
end L2.D3
set_option maxHeartbeats 4000000
namespace L2.D3
open PySem PySem.Spec PyProof.Rows
/-! ### the frame rule for what is walked, for statements -/
def iFr (wi : TI) : TI := fun σ H R => ∃ F, Fz F H ∧ wi σ F fun J F' => Same F F' ∧ ((∀ a o, H a = some o → F a = none → F' a = none) → R J (glue F' H))
def sFr (ts : TS) : TS := fun D σ H => ∃ F, Fz F H ∧ ts
  { nx := fun σ' F' => Same F F' ∧ ((∀ a o, H a = some o → F a = none → F' a = none) → D.nx σ' (glue F' H))
    rt := fun v F' => Same F F' ∧ ((∀ a o, H a = some o → F a = none → F' a = none) → D.rt v (glue F' H))
    bk := fun σ' F' => Same F F' ∧ ((∀ a o, H a = some o → F a = none → F' a = none) → D.bk σ' (glue F' H))
    ct := fun σ' F' => Same F F' ∧ ((∀ a o, H a = some o → F a = none → F' a = none) → D.ct σ' (glue F' H)) } σ F
section
variable {X : Cx} {tg : Expr}
theorem pi_frame {e : Expr} {wi : TI} (h : PI X tg e wi) : PI X tg e (iFr wi) := by
  refine ⟨fun pins s σ H R I hw => ?_⟩
  obtain ⟨F, z, ht⟩ := hw
  refine thn (h.run _ s σ F _ (Inv.without I z) ht) fun v s1 h1 => thn h1 fun itv s2 h2 => ?_
  obtain ⟨it, fp, tn, J, F', e1, I2, T, st, fpo, sm, q⟩ := h2
  obtain ⟨I3, dj⟩ := Inv.back I z sm I2
  refine ⟨it, fp, tn, J, glue F' H, e1, I3, T, st, fun b hb => ?_, q dj⟩
  obtain ⟨b0, b1, b2, b3, b4, b5⟩ := fpo b hb
  refine ⟨?_, b1, b2, b3, b4, fun p hp => b5 p ?_⟩
  · rw [glue_none b0]
    cases c : H b with
    | none => rfl
    | some o =>
      rcases z.drop b o c with y | ⟨y, m⟩
      · rw [sm b o y] at b0; cases b0
      · obtain ⟨ob, g, _⟩ := obj_of_mut (I.hok _ _ c) m
        exact absurd rfl (b5 (b, ob) (List.mem_append_right _ (List.mem_append_right _ (mem_aside c y g))))
  · rcases List.mem_append.mp hp with y | y
    · exact List.mem_append_left _ y
    · exact List.mem_append_right _ (List.mem_append_left _ y)
theorem ps_frame {st : Stmt} {ts : TS} (h : PS X st ts) : PS X st (sFr ts) := by
  refine ⟨fun pins s σ H D I hw => ?_⟩
  obtain ⟨F, z, ht⟩ := hw
  refine thn (h.run _ s σ F _ (Inv.without I z) ht) fun f s1 q => ?_
  cases f with
  | next =>
    obtain ⟨σ', F', J, sm, q⟩ := q
    obtain ⟨I3, dj⟩ := Inv.back I z sm J
    exact ⟨_, _, I3, q dj⟩
  | brk =>
    obtain ⟨σ', F', J, sm, q⟩ := q
    obtain ⟨I3, dj⟩ := Inv.back I z sm J
    exact ⟨_, _, I3, q dj⟩
  | cont =>
    obtain ⟨σ', F', J, sm, q⟩ := q
    obtain ⟨I3, dj⟩ := Inv.back I z sm J
    exact ⟨_, _, I3, q dj⟩
  | ret u =>
    obtain ⟨v, σ', F', J, r, sm, q⟩ := q
    obtain ⟨I3, dj⟩ := Inv.back I z sm J
    exact ⟨_, _, _, I3, r, q dj⟩
end
/-! ### what is walked -/
def YOk (K : PySem.W.Frag) (F H : Hp) (d : Dt) (x : V) (H' : Hp) : Prop :=
  (H' = H ∧ Dp K F x d) ∨ ∃ T vs ds, x = .ref T ∧ H T = none ∧ H' = upd H T (.tup vs) ∧ d = .tuple ds ∧ DpAll K F vs ds
def Yields (K : PySem.W.Frag) (J : It) (F₀ : Hp) (ds : List Dt) : Prop := ∀ F H, Same F₀ F → Same F H → (∀ i d, ds[i]? = some d → J.go i H ∧ ∀ x H', J.yld i H x H' → YOk K F H d x H') ∧ J.stop ds.length H
abbrev DI := Fro → (List Dt → Prop) → Prop
def SI (K : PySem.W.Frag) (wi : TI) (di : DI) : Prop := ∀ (σ : St) (H : Hp) (φ : Fro) (Φ : List Dt → Prop) (R : It → Hp → Prop), EnvF K σ H φ → di φ Φ → (∀ J H' ds, Same H H' → Yields K J H' ds → Φ ds → R J H') → wi σ H R
structure GI (X : Cx) (tg iter : Expr) (di : DI) : Prop where
  ex : ∃ wi, PI X tg iter wi ∧ SI X.K wi di
theorem EnvO.newTup {K : PySem.W.Frag} {F H : Hp} {σ : St} {ρ : Rho} (e : EnvO K F σ H ρ) {T : Addr} {vs : List V} (n : H T = none) : EnvO K (upd F T (.tup vs)) σ (upd H T (.tup vs)) ρ ∧ Same F (upd F T (.tup vs)) := by
  have fn : F T = none := by
    cases q : F T with
    | none => rfl
    | some o => rw [e.fz.same T o q] at n; cases n
  have s := same_new (o := .tup vs) fn
  refine ⟨⟨⟨fun b o q => ?_, fun b o q => ?_⟩, e.len, fun i d h => ?_, fun i A h => ?_, fun i ds h => ?_, e.ne, sep_upA e.sep s fun a o h1 h2 => ⟨by rw [upd_ne (ne_of_none h1 n)]; exact h2, by rw [upd_ne (ne_of_none h1 n)]; exact h1⟩⟩, s⟩
  · by_cases c : b = T
    · rw [c, upd_same] at q ⊢; exact q
    · rw [upd_ne c] at q ⊢; exact e.fz.same b o q
  · by_cases c : b = T
    · rw [c, upd_same] at q ⊢; exact .inl q
    · rw [upd_ne c] at q ⊢; exact e.fz.drop b o q
  · obtain ⟨v, a, b⟩ := e.pu i d h
    exact ⟨v, a, b.up s⟩
  · obtain ⟨v, a, b⟩ := e.an i A h
    exact ⟨v, a, A.up _ _ _ _ s b⟩
  · obtain ⟨a, us, h1, h2, h3, h4⟩ := e.ow i ds h
    have na : a ≠ T := ne_of_none h2 n
    exact ⟨a, us, h1, by rw [upd_ne na]; exact h2, by rw [upd_ne na]; exact h3, h4.up s⟩
section
variable {X : Cx} {K : PySem.W.Frag} {tg : Expr}
def iSeq (K : PySem.W.Frag) (tl : TE) : TI := fun σ H R => tl σ H fun x H1 => (∃ a, x = .ref a ∧ (∃ xs, SqL K H1 a xs) ∧ R (Itl K a) H1) ∨ (∃ a, x = .ref a ∧ (∃ xs, SqT K H1 a xs) ∧ R (Itt K a) H1) ∨ ∃ z, x = .str z ∧ R (Its z) H1
theorem pi_seq {l : Expr} {tl : TE} (hl : PE X l tl) : PI X tg l (iSeq X.K tl) := by
  refine ⟨fun pins s σ H R I h => thn (hl.run pins s σ H _ I h) fun v s1 hq => ?_⟩
  obtain ⟨x, H1, I1, r1, q | q | q⟩ := hq
  · obtain ⟨a, rfl, ⟨xs, hs⟩, q⟩ := q
    cases r1
    obtain ⟨its, rv, p, _⟩ := I1.list hs
    exact wpAny_pyIter_list p.isList (pi_one (tk := s1.toks) I1 _ (turn_list a _) ⟨_, Heap.get?_push_size _ rfl, rfl, rfl⟩ q)
  · obtain ⟨a, rfl, ⟨xs, hs⟩, q⟩ := q
    cases r1
    obtain ⟨its, rv, p, _⟩ := I1.tuple hs
    exact wpAny_pyIter_tuple (show s1.heap.IsTuple a its.toArray from p) (pi_one (tk := s1.toks) I1 _ (turn_tuple a _) ⟨_, Heap.get?_push_size _ rfl, rfl, rfl⟩ q)
  · obtain ⟨z, rfl, q⟩ := q
    obtain ⟨t, rfl⟩ := r1
    cases ha : z.cps.all (· < 128) with
    | false => exact wpAny_pyIter_wide ha (pi_one (tk := s1.toks) I1 _ (turn_str _ z t "str_iterator" (.inr rfl)) ⟨_, Heap.get?_push_size _ rfl, rfl, rfl⟩ q)
    | true => exact wpAny_pyIter_ascii ha (pi_one (tk := s1.toks) I1 _ (turn_str _ z t "str_ascii_iterator" (.inl rfl)) ⟨_, Heap.get?_push_size _ rfl, rfl, rfl⟩ q)
/-- the things that are walked -/
def walkD : Dt → Option (List Dt)
  | .list ds => some ds
  | .tuple ds => some ds
  | .str z => some (z.cps.toList.map fun c => .str ⟨#[c]⟩)
  | _ => none
def diSeq (de : DE) : DI := fun φ Φ => de φ fun d => match walkD d with
  | some ds => Φ ds
  | none => False
theorem gi_seq {e : Expr} {de : DE} (he : GE X e de) : GI X tg e (diSeq de) := by
  obtain ⟨te, a1, a2⟩ := he
  refine ⟨_, pi_seq a1, fun σ H φ Φ R env h q => a2 σ H φ _ _ env h fun v H1 d s1 p hd => ?_⟩
  cases d with
  | list ds =>
    cases p with
    | lst hs ha =>
      refine .inl ⟨_, rfl, ⟨_, hs⟩, q _ H1 ds s1 (fun F H s0 s => ⟨fun i d hi => ?_, ⟨_, s.seq (s0.seq hs), by rw [ha.len]; exact Nat.le_refl _⟩⟩) hd⟩
      obtain ⟨v, h1, h2⟩ := ha.get hi
      refine ⟨⟨_, v, s.seq (s0.seq hs), h1⟩, fun x H' y => .inl ⟨y.1, ?_⟩⟩
      have e := y.2 _ (s.seq (s0.seq hs))
      rw [h1] at e
      cases e
      exact h2.up s0
  | tuple ds =>
    cases p with
    | tup hs ha =>
      refine .inr (.inl ⟨_, rfl, ⟨_, hs⟩, q _ H1 ds s1 (fun F H s0 s => ⟨fun i d hi => ?_, ⟨_, sqT_mono s (sqT_mono s0 hs), by rw [ha.len]; exact Nat.le_refl _⟩⟩) hd⟩)
      obtain ⟨v, h1, h2⟩ := ha.get hi
      refine ⟨⟨_, v, sqT_mono s (sqT_mono s0 hs), h1⟩, fun x H' y => .inl ⟨y.1, ?_⟩⟩
      have e := y.2 _ (sqT_mono s (sqT_mono s0 hs))
      rw [h1] at e
      cases e
      exact h2.up s0
  | str z =>
    cases p
    refine .inr (.inr ⟨z, rfl, q _ H1 _ s1 (fun F H s0 s => ⟨fun i d hi => ?_, ?_⟩) hd⟩)
    · rw [List.getElem?_map] at hi
      cases c : z.cps.toList[i]? with
      | none => rw [c] at hi; cases hi
      | some cc =>
        rw [c] at hi
        have e2 : PyData.str ⟨#[cc]⟩ = d := Option.some.inj hi
        subst e2
        have c2 : z.cps[i]? = some cc := by rw [← Array.getElem?_toList]; exact c
        refine ⟨(Array.getElem?_eq_some_iff.mp c2).1, fun x H' y => .inl ?_⟩
        obtain ⟨e1, c', h1, h2⟩ := y
        rw [c2] at h1
        cases h1
        subst h2
        exact ⟨e1, .str _⟩
    · show z.cps.size ≤ _
      rw [List.length_map, Array.length_toList]
      exact Nat.le_refl _
  | _ => exact hd.elim
def diRng1 (da : DA) : DI := fun φ Φ => da φ fun ds => match ds with
  | [.int j] => -(2 ^ 62) ≤ j ∧ j < 2 ^ 62 ∧ Φ ((List.range j.toNat).map fun (k : Nat) => .int k)
  | _ => False
theorem yields_rng {lo : Int} {n : Nat} {H : Hp} : Yields K (Itr lo n) H ((List.range n).map fun (k : Nat) => .int (lo + k)) := fun F H s0 s => by
  refine ⟨fun i d hi => ?_, ?_⟩
  · rw [List.getElem?_map] at hi
    cases c : (List.range n)[i]? with
    | none => rw [c] at hi; cases hi
    | some k =>
      rw [c] at hi
      obtain ⟨h1, h2⟩ := List.getElem?_eq_some_iff.mp c
      rw [List.getElem_range] at h2
      subst h2
      rw [List.length_range] at h1
      have e2 : PyData.int (lo + (i : Nat)) = d := Option.some.inj hi
      subst e2
      exact ⟨h1, fun x H' y => .inl ⟨y.1, by rw [y.2]; exact .int _⟩⟩
  · show n ≤ _
    rw [List.length_map, List.length_range]
    exact Nat.le_refl _
theorem gi_rng1 {a : Expr} {da : DA} {p pos : Pos} (hm : X.mg "range" = none) (ha : GA X [a] da) (hg : Gl X "range" := by rfl) (hs : starEach [a] X.env = [(false, eval a X.env)] := by rfl) : GI X tg (.Call (.Name "range" p) [a] [] pos) (diRng1 da) := by
  obtain ⟨ta, a1, a2⟩ := ha
  refine ⟨_, pi_range1 hg hm a1 hs, fun σ H φ Φ R env h q => a2 σ H φ _ _ env h fun vs H1 ds s1 p l hd => ?_⟩
  match ds, hd, p with
  | [.int j], hd, p =>
    cases p with
    | cons p1 p2 =>
      cases p1
      cases p2
      refine ⟨j, rfl, hd.1, hd.2.1, q _ H1 _ s1 ?_ hd.2.2⟩
      have y := yields_rng (K := X.K) (lo := 0) (n := j.toNat) (H := H1)
      have e : ((List.range j.toNat).map fun (k : Nat) => PyData.int ((0 : Int) + k)) = (List.range j.toNat).map fun (k : Nat) => PyData.int k := List.map_congr_left fun k _ => by rw [Int.zero_add]
      rw [e] at y
      exact y
/-- the pairs of zip -/
def zipD (xs ys : List Dt) : List Dt := List.zipWith (fun x y => .tuple [x, y]) xs ys
def diZip (da : DA) : DI := fun φ Φ => da φ fun ds => match ds with
  | [.list xs, .list ys] => Φ (zipD xs ys)
  | [.tuple xs, .tuple ys] => Φ (zipD xs ys)
  | _ => False
theorem zipD_get {xs ys : List Dt} {i : Nat} {d : Dt} (h : (zipD xs ys)[i]? = some d) : ∃ x y, xs[i]? = some x ∧ ys[i]? = some y ∧ d = .tuple [x, y] := by
  unfold zipD at h
  rw [List.getElem?_zipWith] at h
  cases c1 : xs[i]? with
  | none => rw [c1] at h; cases h
  | some x =>
    rw [c1] at h
    cases c2 : ys[i]? with
    | none => rw [c2] at h; cases h
    | some y => rw [c2] at h; exact ⟨x, y, rfl, rfl, (Option.some.inj h).symm⟩
theorem zipD_len {xs ys : List Dt} : (zipD xs ys).length = min xs.length ys.length := List.length_zipWith
theorem gi_zip {e e2 : Expr} {da : DA} {p pos tpos : Pos} {elts : List Expr} {kk : Nat} (hm : X.mg "zip" = none) (ha : GA X [e, e2] da) (hg : Gl X "zip" := by rfl)
    (hs : starEach [e, e2] X.env = (false, eval e X.env) :: starEach [e2] X.env := by rfl) (hpl : (backTo pos (starEach [e2] X.env)).any (·.1) = false := by rfl) : GI X (.Tuple elts kk tpos) (.Call (.Name "zip" p) [e, e2] [] pos) (diZip da) := by
  obtain ⟨ta, a1, a2⟩ := ha
  refine ⟨_, RZ.pi_zipA hg hm a1 hs hpl, fun σ H φ Φ R env h q => a2 σ H φ _ _ env h fun vs H1 ds s1 p l hd => ?_⟩
  match ds, hd, p with
  | [.list xs, .list ys], hd, p =>
    cases p with
    | cons p1 p2 =>
      cases p2 with
      | cons p2 p3 =>
        cases p3
        cases p1 with
        | lst hs1 ha1 =>
          cases p2 with
          | lst hs2 ha2 =>
            refine ⟨_, _, _, _, rfl, .inl ⟨hs1, hs2, q _ H1 _ s1 (fun F H s0 s => ⟨fun i d hi => ?_, ⟨_, _, s.seq (s0.seq hs1), s.seq (s0.seq hs2), ?_⟩⟩) hd⟩⟩
            · obtain ⟨x, y, h1, h2, rfl⟩ := zipD_get hi
              obtain ⟨u1, g1, g2⟩ := ha1.get h1
              obtain ⟨u2, k1, k2⟩ := ha2.get h2
              refine ⟨⟨_, _, u1, u2, s.seq (s0.seq hs1), s.seq (s0.seq hs2), g1, k1⟩, fun v H' y => ?_⟩
              obtain ⟨T, x1, x2, rfl, n, rfl, f1, f2⟩ := y
              have e1 := f1 _ (s.seq (s0.seq hs1))
              have e2 := f2 _ (s.seq (s0.seq hs2))
              rw [g1] at e1
              rw [k1] at e2
              cases e1; cases e2
              exact .inr ⟨T, _, _, rfl, n, rfl, rfl, .cons (g2.up s0) (.cons (k2.up s0) .nil)⟩
            · rw [zipD_len, ha1.len, ha2.len]; omega
  | [.tuple xs, .tuple ys], hd, p =>
    cases p with
    | cons p1 p2 =>
      cases p2 with
      | cons p2 p3 =>
        cases p3
        cases p1 with
        | tup hs1 ha1 =>
          cases p2 with
          | tup hs2 ha2 =>
            refine ⟨_, _, _, _, rfl, .inr ⟨hs1, hs2, q _ H1 _ s1 (fun F H s0 s => ⟨fun i d hi => ?_, ⟨_, _, sqT_mono s (sqT_mono s0 hs1), sqT_mono s (sqT_mono s0 hs2), ?_⟩⟩) hd⟩⟩
            · obtain ⟨x, y, h1, h2, rfl⟩ := zipD_get hi
              obtain ⟨u1, g1, g2⟩ := ha1.get h1
              obtain ⟨u2, k1, k2⟩ := ha2.get h2
              refine ⟨⟨_, _, u1, u2, sqT_mono s (sqT_mono s0 hs1), sqT_mono s (sqT_mono s0 hs2), g1, k1⟩, fun v H' y => ?_⟩
              obtain ⟨T, x1, x2, rfl, n, rfl, f1, f2⟩ := y
              have e1 := f1 _ (sqT_mono s (sqT_mono s0 hs1))
              have e2 := f2 _ (sqT_mono s (sqT_mono s0 hs2))
              rw [g1] at e1
              rw [k1] at e2
              cases e1; cases e2
              exact .inr ⟨T, _, _, rfl, n, rfl, rfl, .cons (g2.up s0) (.cons (k2.up s0) .nil)⟩
            · rw [zipD_len, ha1.len, ha2.len]; omega
/-! ### for -/
variable {W : WX}
def dFor (di : DI) (g : DG) (b : DS) : DS := fun E ρ => di (purF ρ) fun ds => ∃ Iv : Nat → Rho → Prop, Iv 0 ρ ∧
  (∀ k d ρ', ds[k]? = some d → Iv k ρ' → g d ρ' fun ρ2 => b { E with nx := Iv (k + 1), ct := Iv (k + 1), bk := E.nx } ρ2) ∧ ∀ ρ', Iv ds.length ρ' → E.nx ρ'
theorem for_core {J : It} {F₀ : Hp} {ds : List Dt} {g : TG} {dg : DG} {tb : TS} {db : DS} {D : Ends} {E : DEnds} {F : Hp} {σ : St} {H : Hp} {ρ : Rho} (hy : Yields K J F₀ ds) (hg : SG K g dg) (hb : SS K W tb db) (s0 : Same F₀ F) (env : EnvO K F σ H ρ) (m : Meets K W F D E)
    (h : ∃ Iv : Nat → Rho → Prop, Iv 0 ρ ∧ (∀ k d ρ', ds[k]? = some d → Iv k ρ' → dg d ρ' fun ρ2 => db { E with nx := Iv (k + 1), ct := Iv (k + 1), bk := E.nx } ρ2) ∧ ∀ ρ', Iv ds.length ρ' → E.nx ρ') :
    ∃ Wv : Nat → Nat → St → Hp → Prop, (∃ m, Wv 0 m σ H) ∧ ∀ i m σ H, Wv i m σ H → (J.stop i H ∧ D.nx σ H) ∨ (J.go i H ∧ ∃ N : St → Hp → Prop, (∀ σ' H', N σ' H' → ∃ m', m' < m ∧ Wv (i + 1) m' σ' H') ∧ ∀ x H', J.yld i H x H' → g x σ H' fun σ2 H2 => tb { D with nx := N, ct := N, bk := D.nx } σ2 H2) := by
  obtain ⟨Iv, i0, turn, fin⟩ := h
  refine ⟨fun i n σ' H' => ∃ F' ρ', Same F F' ∧ EnvO K F' σ' H' ρ' ∧ Iv i ρ' ∧ n = ds.length - i ∧ i ≤ ds.length, ⟨ds.length, F, ρ, Same.refl F, env, i0, rfl, Nat.zero_le _⟩, fun i n σ' H' hw => ?_⟩
  obtain ⟨F', ρ', s, env', iv, rfl, hi⟩ := hw
  obtain ⟨y1, y2⟩ := hy F' H' (s0.trans s) env'.fz.same
  by_cases c : i < ds.length
  · have e := List.getElem?_eq_getElem c
    obtain ⟨go, yl⟩ := y1 i _ e
    refine .inr ⟨go, fun σ2 H2 => ∃ F2 ρ2, Same F F2 ∧ EnvO K F2 σ2 H2 ρ2 ∧ Iv (i + 1) ρ2, fun σ2 H2 hN => ?_, fun x H2 y => ?_⟩
    · obtain ⟨F2, ρ2, s2, env2, iv2⟩ := hN
      exact ⟨ds.length - (i + 1), by omega, F2, ρ2, s2, env2, iv2, rfl, c⟩
    · have key : ∀ F2, Same F' F2 → EnvO K F2 σ' H2 ρ' → Dp K F2 x ds[i] → g x σ' H2 fun σ3 H3 => tb { D with nx := fun σ2 H2 => ∃ F2 ρ2, Same F F2 ∧ EnvO K F2 σ2 H2 ρ2 ∧ Iv (i + 1) ρ2, ct := fun σ2 H2 => ∃ F2 ρ2, Same F F2 ∧ EnvO K F2 σ2 H2 ρ2 ∧ Iv (i + 1) ρ2, bk := D.nx } σ3 H3 := fun F2 s2 env2 p => by
        refine hg x _ F2 σ' H2 ρ' _ _ env2 p (turn i _ ρ' e iv) fun σ3 ρ3 env3 hb3 => ?_
        have sF := s.trans s2
        exact hb _ _ F2 σ3 H2 ρ3 env3 hb3 ⟨fun F4 σ4 H4 ρ4 s4 env4 iv4 => ⟨F4, ρ4, sF.trans s4, env4, iv4⟩, fun F4 σ4 H4 ρ4 s4 env4 q => m.nx F4 σ4 H4 ρ4 (sF.trans s4) env4 q, fun F4 σ4 H4 ρ4 s4 env4 iv4 => ⟨F4, ρ4, sF.trans s4, env4, iv4⟩, (m.up sF).rt, (m.up sF).rtO, (m.up sF).xr⟩
      rcases yl x H2 y with ⟨rfl, p⟩ | ⟨T, vs, es, rfl, n, rfl, ed, pa⟩
      · exact key F' (Same.refl _) env' p
      · obtain ⟨env2, s2⟩ := env'.newTup (vs := vs) n
        exact key _ s2 env2 (by rw [ed]; exact .tup (SqT.of upd_same) (pa.up s2))
  · have e : i = ds.length := by omega
    subst e
    exact .inl ⟨y2, m.nx F' σ' H' ρ' s env' (fin ρ' iv)⟩
theorem s_for {iter : Expr} {body : List Stmt} {di : DI} {g : DG} {db : DS} {pos : Pos} (hp : PassesOwn (model X.prog X.w) X.A X.env X.xe) (hc : X.calm = true) (hi : GI X tg iter di) (hg : GG X tg g) (hb : GSs X W body db)
    (hs : ∀ x, foldedSetIterable iter X.env x = pure x := by intro _; rfl) : GS X W (.For tg iter body [] pos) (dFor di g db) := by
  obtain ⟨wi, i1, i2⟩ := hi
  obtain ⟨tg', g1, g2⟩ := hg
  obtain ⟨tb, b1, b2⟩ := hb
  refine ⟨_, ps_for hp hc (pi_frame i1) g1 b1 hs, fun D E F σ H ρ env h m => ?_⟩
  refine ⟨F, env.fz, i2 σ F (purF ρ) _ _ env.pur h fun J F' ds s hy hd => ⟨s, fun dj => ?_⟩⟩
  exact for_core hy g2 b2 (Same.refl _) (env.grow s dj) (m.up s) hd
end
/-! ### methods of owned lists -/
section
variable {X : Cx} {K : PySem.W.Frag} {W : WX}
/-- found.append(e) -/
def dApp (i : Nat) (de : DE) : DS := fun E ρ => match getS ρ i with
  | .ow ds => de (purF ρ) fun d => ds.length < sizeLine ∧ E.nx (setS ρ i (.ow (ds ++ [d])))
  | _ => False
def dAppS (i : Nat) (de : DE) : DS := fun E ρ => match getS ρ i with
  | .ow ds => de (allF ρ) fun d => scalD d ∧ ds.length < sizeLine ∧ E.nx (setS ρ i (.ow (ds ++ [d])))
  | _ => False
theorem s_app {i : Nat} {x : Str} {e : Expr} {de : DE} {p apos cpos pos : Pos} (he : GE X e de) (hN : X.N[i]? = some x := by rfl) (hv : Vis X.env.scope x := by first | exact Or.inl rfl | exact Or.inr (Or.inl rfl) | exact Or.inr (Or.inr rfl)) (hdb : (x == ("__debug__" : Str)) = false := by decide) (hcd : (x == ("__classdict__" : Str)) = false := by decide)
    (hbase : attributeBase (.Name x p) "append" X.env (eval (.Name x p) X.env) = eval (.Name x p) X.env := by rfl) (hst : starEach [e] X.env = (false, eval e X.env) :: starEach [] X.env := by rfl) (hline : (apos.endLine == cpos.line) = true := by rfl)
    (hfew : ((backTo cpos (starEach [e] X.env)).all (fun x => !x.1) && (backToKw cpos (keywordEach [] X.env)).all (fun x => x.1.isSome) && decide (([e] : List Expr).length + ([] : List Keyword).length + (if ([] : List Keyword).isEmpty then 0 else 1) < 30)) = true := by rfl)
    (hplain : (backTo cpos (starEach [] X.env)).any (·.1) = false := by rfl)
    (hs : swapsWith (.Call (.Attribute (.Name x p) "append" apos) [e] [] cpos) none pos.line X.env = pure false := by rfl) :
    GS X W (.Expr (.Call (.Attribute (.Name x p) "append" apos) [e] [] cpos) pos) (dApp i de) := by
  obtain ⟨te, a1, a2⟩ := he
  refine ⟨_, ps_expr (pe_bm PySem.F.plainAttrs_list PySem.F.slot_list_append PySem.F.type_list_append mt_append (pe_var hN hv hdb hcd) (pa_cons (pe_frame a1) pa_nil hst) hbase hfew hline hst hplain) hs, fun D E F σ H ρ env h m => ?_⟩
  unfold dApp at h
  cases q : getS ρ i with
  | ow ds =>
    rw [q] at h
    obtain ⟨a, us, h1, h2, h3, h4⟩ := env.ow i ds q
    refine ⟨_, h1, .inl ⟨rfl, _, SqL.of h2⟩, ss_frame (k := fun v σ H' => (tNil σ H' fun xs H2 => rAppend (.ref a) (v :: xs) H2 fun _ H1 => D.nx σ H1)) a2 env h fun F' H' v d s env' pv hd => ?_⟩
    obtain ⟨a', vs, g1, g2, g3, g4⟩ := env'.ow i ds q
    rw [h1] at g1
    cases g1
    exact ⟨a, vs, v, rfl, rfl, g2, by rw [g4.len]; exact hd.1, m.nx F' _ _ _ s (env'.mut i q h1 (g4.app (.one pv))) hd.2⟩
  | _ => rw [q] at h; exact h.elim
abbrev rIns : V → List V → Hp → VK → Prop := fun x vs H Q => ∃ (l : Addr) (xs : List V) (i : Int) (y : V), x = .ref l ∧ vs = [.int i, y] ∧ H l = some (.lst xs) ∧ xs.length < sizeLine ∧ 0 ≤ i ∧ i < 2 ^ 63 ∧ Q .non (upd H l (.lst (xs.take i.toNat ++ [y] ++ xs.drop i.toNat)))
/-- found.insert(k, e) -/
def dIns (i : Nat) (da : DA) : DS := fun E ρ => match getS ρ i with
  | .ow ds => da (purF ρ) fun es => match es with
    | [.int k, d] => ds.length < sizeLine ∧ 0 ≤ k ∧ k < 2 ^ 63 ∧ E.nx (setS ρ i (.ow (ds.take k.toNat ++ [d] ++ ds.drop k.toNat)))
    | _ => False
  | _ => False
theorem s_ins {i : Nat} {x : Str} {e e2 : Expr} {de de2 : DE} {p apos cpos pos : Pos} (he : GE X e de) (he2 : GE X e2 de2) (hN : X.N[i]? = some x := by rfl) (hv : Vis X.env.scope x := by first | exact Or.inl rfl | exact Or.inr (Or.inl rfl) | exact Or.inr (Or.inr rfl)) (hdb : (x == ("__debug__" : Str)) = false := by decide) (hcd : (x == ("__classdict__" : Str)) = false := by decide)
    (hbase : attributeBase (.Name x p) "insert" X.env (eval (.Name x p) X.env) = eval (.Name x p) X.env := by rfl) (hst : starEach [e, e2] X.env = (false, eval e X.env) :: starEach [e2] X.env := by rfl) (hst2 : starEach [e2] X.env = (false, eval e2 X.env) :: starEach [] X.env := by rfl) (hline : (apos.endLine == cpos.line) = true := by rfl)
    (hfew : ((backTo cpos (starEach [e, e2] X.env)).all (fun x => !x.1) && (backToKw cpos (keywordEach [] X.env)).all (fun x => x.1.isSome) && decide (([e, e2] : List Expr).length + ([] : List Keyword).length + (if ([] : List Keyword).isEmpty then 0 else 1) < 30)) = true := by rfl)
    (hplain : (backTo cpos (starEach [e2] X.env)).any (·.1) = false := by rfl)
    (hs : swapsWith (.Call (.Attribute (.Name x p) "insert" apos) [e, e2] [] cpos) none pos.line X.env = pure false := by rfl) :
    GS X W (.Expr (.Call (.Attribute (.Name x p) "insert" apos) [e, e2] [] cpos) pos) (dIns i (dCons de (dCons de2 dNil))) := by
  obtain ⟨te, a1, a2⟩ := he
  obtain ⟨te2, b1, b2⟩ := he2
  refine ⟨_, ps_expr (pe_bm PySem.F.plainAttrs_list PySem.F.slot_list_insert PySem.F.type_list_insert mt_insert (pe_var hN hv hdb hcd) (pa_cons (pe_frame a1) (pa_cons (pe_frame b1) pa_nil hst2) hst) hbase hfew hline hst hplain) hs, fun D E F σ H ρ env h m => ?_⟩
  unfold dIns at h
  cases q : getS ρ i with
  | ow ds =>
    rw [q] at h
    obtain ⟨a, us, h1, h2, h3, h4⟩ := env.ow i ds q
    refine ⟨_, h1, .inl ⟨rfl, _, SqL.of h2⟩, ?_⟩
    refine ss_frame (k := fun v σ H1 => tFr te2 σ H1 fun v2 H2 => rIns (.ref a) [v, v2] H2 fun _ H3 => D.nx σ H3) a2 env h fun F1 H1 v d s1 env1 pv hd => ?_
    refine ss_frame (k := fun v2 σ H2 => rIns (.ref a) [v, v2] H2 fun _ H3 => D.nx σ H3) b2 env1 hd fun F2 H2 v2 d2 s2 env2 pv2 hd2 => ?_
    obtain ⟨a', vs, g1, g2, g3, g4⟩ := env2.ow i ds q
    rw [h1] at g1
    cases g1
    cases d with
    | int k =>
      cases pv
      refine ⟨a, vs, k, v2, rfl, rfl, g2, by rw [g4.len]; exact hd2.1, hd2.2.1, hd2.2.2.1, m.nx F2 _ _ _ (s1.trans s2) (env2.mut i q h1 (((g4.take _).app (.one pv2)).app (g4.drop _))) hd2.2.2.2⟩
    | _ => exact hd2.elim
  | _ => rw [q] at h; exact h.elim
end
end L2.D3
set_option maxHeartbeats 4000000
namespace L2.D3
open PySem PySem.Spec PyProof.Rows
/-! ### the readings by themselves -/
def tD (K : PySem.W.Frag) (de : DE) : TE := fun σ H Q => ∃ φ Φ, EnvF K σ H φ ∧ de φ Φ ∧ ∀ v H' d, Same H H' → Dp K H' v d → Φ d → Q v H'
def tTD (K : PySem.W.Frag) (dt : DT) : TT := fun σ H Q => ∃ φ Φ, EnvF K σ H φ ∧ dt φ Φ ∧ ∀ b H', Same H H' → Φ b → Q b H'
theorem GE.pe {X : Cx} {e : Expr} {de : DE} (h : GE X e de) : PE X e (tD X.K de) := by
  obtain ⟨te, a1, a2⟩ := h
  refine ⟨fun pins s σ H Q I hw => ?_⟩
  obtain ⟨φ, Φ, env, hd, q⟩ := hw
  exact a1.run pins s σ H Q I (a2 σ H φ Φ Q env hd q)
theorem GT.pt {X : Cx} {e : Expr} {dt : DT} (h : GT X e dt) : PT X e (tTD X.K dt) := by
  obtain ⟨te, a1, a2⟩ := h
  refine ⟨fun pins s σ H Q I hw => ?_⟩
  obtain ⟨φ, Φ, env, hd, q⟩ := hw
  exact a1.run pins s σ H Q I (a2 σ H φ Φ Q env hd q)
/-! ### comprehensions -/
def noneF : Fro → Nat → Fro
  | [], _ => []
  | _ :: r, 0 => .no :: r
  | a :: r, n + 1 => a :: noneF r n
def wipeF (φ : Fro) : List Nat → Fro
  | [] => φ
  | v :: vs => noneF (wipeF φ vs) v
theorem getF_none : ∀ {φ : Fro} {i j : Nat} {d : Dt}, getF (noneF φ i) j = some d → j ≠ i ∧ getF φ j = some d
  | [], i, j, d, h => by cases h
  | a :: r, 0, 0, d, h => by cases h
  | a :: r, 0, j + 1, d, h => ⟨Nat.succ_ne_zero j, h⟩
  | a :: r, i + 1, 0, d, h => ⟨(Nat.succ_ne_zero i).symm, h⟩
  | a :: r, i + 1, j + 1, d, h => by
    obtain ⟨h1, h2⟩ := getF_none (φ := r) (i := i) (j := j) h
    exact ⟨fun z => h1 (Nat.succ.inj z), h2⟩
theorem getA_none : ∀ {φ : Fro} {i j : Nat} {d : Ass}, getA (noneF φ i) j = some d → j ≠ i ∧ getA φ j = some d
  | [], i, j, d, h => by cases h
  | a :: r, 0, 0, d, h => by cases h
  | a :: r, 0, j + 1, d, h => ⟨Nat.succ_ne_zero j, h⟩
  | a :: r, i + 1, 0, d, h => ⟨(Nat.succ_ne_zero i).symm, h⟩
  | a :: r, i + 1, j + 1, d, h => by
    obtain ⟨h1, h2⟩ := getA_none (φ := r) (i := i) (j := j) h
    exact ⟨fun z => h1 (Nat.succ.inj z), h2⟩
theorem noneF_len : ∀ {φ : Fro} {i : Nat}, (noneF φ i).length = φ.length
  | [], i => rfl
  | a :: r, 0 => rfl
  | a :: r, i + 1 => congrArg Nat.succ (noneF_len (φ := r))
theorem EnvF.wipe {K : PySem.W.Frag} {σ : St} {H : Hp} {φ : Fro} (h : EnvF K σ H φ) : ∀ vs : List Nat, EnvF K (L2.wipe σ vs) H (wipeF φ vs)
  | [] => h
  | v :: vs => by
    have ih := EnvF.wipe h vs
    refine ⟨by show (noneF (wipeF φ vs) v).length ≤ ((L2.wipe σ vs).set v none).length; rw [noneF_len, List.length_set]; exact ih.len, fun i d q => ?_, fun i A q => ?_⟩
    · obtain ⟨h1, h2⟩ := getF_none (φ := wipeF φ vs) q
      obtain ⟨u, a, b⟩ := ih.at_ i d h2
      exact ⟨u, by show ((L2.wipe σ vs).set v none)[i]? = _; rw [List.getElem?_set_ne (Ne.symm h1)]; exact a, b⟩
    · obtain ⟨h1, h2⟩ := getA_none (φ := wipeF φ vs) q
      obtain ⟨u, a, b⟩ := ih.an i A h2
      exact ⟨u, by show ((L2.wipe σ vs).set v none)[i]? = _; rw [List.getElem?_set_ne (Ne.symm h1)]; exact a, b⟩
theorem wipe_get {σ : St} {i : Nat} : ∀ {vs : List Nat}, i ∈ vs → i < σ.length → (L2.wipe σ vs)[i]? = some none
  | [], h, _ => by cases h
  | v :: vs, h, hl => by
    show ((L2.wipe σ vs).set v none)[i]? = some none
    by_cases c : v = i
    · subst c
      exact List.getElem?_set_self (by rw [wipe_length]; exact hl)
    · rw [List.getElem?_set_ne c]
      exact wipe_get (by rcases List.mem_cons.mp h with z | z; exact absurd z.symm c; exact z) hl
theorem wipe_same {σ σ' : St} {vs : List Nat} (hl : σ.length = σ'.length) (h : ∀ i, i ∉ vs → σ[i]? = σ'[i]?) : L2.wipe σ vs = L2.wipe σ' vs := by
  apply List.ext_getElem?
  intro i
  by_cases c : i ∈ vs
  · by_cases ci : i < σ.length
    · rw [wipe_get c ci, wipe_get c (by rw [← hl]; exact ci)]
    · rw [List.getElem?_eq_none (by rw [wipe_length]; omega), List.getElem?_eq_none (by rw [wipe_length]; omega)]
  · rw [wipe_out c, wipe_out c]
    exact h i c
theorem wipe_wipe {σ : St} {vs : List Nat} : L2.wipe (L2.wipe σ vs) vs = L2.wipe σ vs := wipe_same (wipe_length σ vs) fun _ hi => wipe_out hi
theorem wipe_set {σ : St} {vs : List Nat} {i : Nat} {x : Option V} (h : i ∈ vs) : L2.wipe (σ.set i x) vs = L2.wipe σ vs := wipe_same (List.length_set ..) fun j hj => List.getElem?_set_ne (fun z => hj (by rw [← z]; exact h))
/-- a target within a comprehension -/
abbrev DGc := Dt → Fro → (Fro → Prop) → Prop
def SGc (K : PySem.W.Frag) (vs : List Nat) (g : TG) (dg : DGc) : Prop := ∀ (v : V) (d : Dt) (σ : St) (F H : Hp) (φ : Fro) (Ψ : Fro → Prop) (Q : St → Hp → Prop), EnvF K σ F φ → Same F H → Dp K F v d → dg d φ Ψ → (∀ σ' φ', EnvF K σ' F φ' → L2.wipe σ' vs = L2.wipe σ vs → Ψ φ' → Q σ' H) → g v σ H Q
def dcN (i : Nat) : DGc := fun d φ Ψ => Ψ (setF φ i d)
section
variable {K : PySem.W.Frag} {vs : List Nat}
theorem sgc_name {i : Nat} (h : i ∈ vs) : SGc K vs (gName i) (dcN i) := fun v d σ F H φ Ψ Q env s p hd q => q _ _ (env.set p) (wipe_set h) hd
end
def dYes : DT := fun _ Φ => Φ true
def dLc (vs : List Nat) (di : DI) (g : DGc) (t : DT) (de : DE) : DF := fun φ Φ => di φ fun ds => ∃ Iv : Nat → List Dt → Prop, Iv 0 [] ∧
  (∀ k d acc, ds[k]? = some d → Iv k acc → g d (wipeF φ vs) fun φ2 => t φ2 fun b => if b = true then de φ2 fun y => acc.length < sizeLine ∧ Iv (k + 1) (acc ++ [y]) else Iv (k + 1) acc) ∧ ∀ acc, Iv ds.length acc → Φ acc
theorem erase_upd {H : Hp} {a : Addr} {o : HO} (h : H a = some o) : ∃ F : Hp, F a = none ∧ H = upd F a o := by
  refine ⟨fun b => if b = a then none else H b, if_pos rfl, ?_⟩
  funext b
  by_cases c : b = a
  · rw [c, upd_same, h]
  · rw [upd_ne c, if_neg c]
theorem same_erase {F F' : Hp} {a : Addr} {o : HO} (n : F a = none) (s : Same (upd F a o) (upd F' a o)) : Same F F' := fun b u e => by
  have c : b ≠ a := fun z => by rw [z, n] at e; cases e
  have q := s b u (by rw [upd_ne c]; exact e)
  rw [upd_ne c] at q
  exact q
theorem fz_upd {F : Hp} {a : Addr} {vs : List V} (n : F a = none) : Fz F (upd F a (.lst vs)) := ⟨same_new n, fun b o q => by
  by_cases c : b = a
  · rw [c, upd_same] at q
    cases q
    exact .inr ⟨by rw [c]; exact n, rfl⟩
  · rw [upd_ne c] at q
    exact .inl q⟩
theorem sf_lc {K : PySem.W.Frag} {wi : TI} {g : TG} {tt : TT} {de : DE} {vs : List Nat} {di : DI} {dg : DGc} {dt : DT} (hi : SI K wi di) (hg : SGc K vs g dg) (ht : ST K tt dt) : SF K (tLc wi g tt (tFr (tD K de)) vs) (dLc vs di dg dt de) := fun σ H φ Φ Q env h q =>
  hi σ H φ _ _ env h fun J H1 ds s1 hy hd => by
    intro D hD
    obtain ⟨Iv, i0, turn, fin⟩ := hd
    refine ⟨fun i m H' => ∃ F acc es, H' = upd F D (.lst acc) ∧ Same H1 F ∧ F D = none ∧ DpAll K F acc es ∧ Iv i es ∧ m = ds.length - i ∧ i ≤ ds.length, ⟨_, H1, [], [], rfl, Same.refl _, hD, .nil, i0, rfl, Nat.zero_le _⟩, fun i m H' hw => ?_⟩
    obtain ⟨F, acc, es, rfl, sF, nD, pa, iv, rfl, hle⟩ := hw
    obtain ⟨y1, y2⟩ := hy F (upd F D (.lst acc)) sF (same_new nD)
    by_cases c : i < ds.length
    · have e := List.getElem?_eq_getElem c
      obtain ⟨go, yl⟩ := y1 i _ e
      refine .inr ⟨go, fun H' => ∃ F acc es, H' = upd F D (.lst acc) ∧ Same H1 F ∧ F D = none ∧ DpAll K F acc es ∧ Iv (i + 1) es, fun H' hN => ?_, fun x H2 y => ?_⟩
      · obtain ⟨F2, acc2, es2, h1, h2, h3, h4, h5⟩ := hN
        exact ⟨ds.length - (i + 1), by omega, F2, acc2, es2, h1, h2, h3, h4, h5, rfl, c⟩
      · have key : ∀ F2, Same F F2 → F2 D = none → Dp K F2 x ds[i] → g x (L2.wipe σ vs) (upd F2 D (.lst acc)) fun σ2 H2 => L2.wipe σ2 vs = L2.wipe σ vs ∧ tt σ2 H2 fun b H3 => if b = true then tFr (tD K de) σ2 H3 fun y H4 => ∃ acc, H4 D = some (.lst acc) ∧ acc.length < sizeLine ∧ ∃ F acc' es, upd H4 D (.lst (acc ++ [y])) = upd F D (.lst acc') ∧ Same H1 F ∧ F D = none ∧ DpAll K F acc' es ∧ Iv (i + 1) es else ∃ F acc es, H3 = upd F D (.lst acc) ∧ Same H1 F ∧ F D = none ∧ DpAll K F acc es ∧ Iv (i + 1) es := fun F2 s2 n2 p => by
          refine hg x _ (L2.wipe σ vs) F2 (upd F2 D (.lst acc)) (wipeF φ vs) _ _ ((env.wipe vs).up (s1.trans (sF.trans s2))) (same_new n2) p (turn i _ es e iv) fun σ3 φ3 env3 w3 h3 => ⟨w3.trans wipe_wipe, ?_⟩
          refine ht σ3 _ φ3 _ _ (env3.up (same_new n2)) h3 fun b H3 s3 hb => ?_
          obtain ⟨F3, n3, rfl⟩ := erase_upd (s3 D _ upd_same)
          have s4 : Same F2 F3 := same_erase n2 s3
          cases b with
          | true =>
            rw [if_pos rfl] at hb ⊢
            refine ⟨F3, fz_upd n3, φ3, _, env3.up s4, hb, fun v F4 d s5 pv hv => ⟨s5, fun dj => ?_⟩⟩
            have n4 : F4 D = none := dj D _ upd_same n3
            have eg : glue F4 (upd F3 D (.lst acc)) = upd F4 D (.lst acc) := by
              funext b
              by_cases cb : b = D
              · rw [cb, upd_same, glue_none n4, upd_same]
              · rw [upd_ne cb]
                cases z : F4 b with
                | some o => rw [glue_some z]
                | none =>
                  rw [glue_none z, upd_ne cb]
                  cases z3 : F3 b with
                  | none => rfl
                  | some o => rw [s5 b o z3] at z; cases z
            rw [eg]
            have s6 := s2.trans (s4.trans s5)
            exact ⟨acc, upd_same, by rw [pa.len]; exact hv.1, F4, acc ++ [v], es ++ [d], upd_upd, sF.trans s6, n4, (pa.up s6).app (.one pv), hv.2⟩
          | false =>
            rw [if_neg Bool.false_ne_true] at hb ⊢
            have s6 := s2.trans s4
            exact ⟨F3, acc, es, rfl, sF.trans s6, n3, pa.up s6, hb⟩
        rcases yl x H2 y with ⟨rfl, p⟩ | ⟨T, us, es', rfl, n, rfl, ed, pd⟩
        · exact key F (Same.refl _) nD p
        · have cT : T ≠ D := fun z => by rw [z, upd_same] at n; cases n
          have nT : F T = none := by rw [upd_ne cT] at n; exact n
          have s2 := same_new (o := .tup us) nT
          have ec : upd (upd F D (.lst acc)) T (.tup us) = upd (upd F T (.tup us)) D (.lst acc) := by
            funext b
            by_cases c1 : b = T
            · rw [c1, upd_same, upd_ne cT, upd_same]
            · rw [upd_ne c1]
              by_cases c2 : b = D
              · rw [c2, upd_same, upd_same]
              · rw [upd_ne c2, upd_ne c2, upd_ne c1]
          rw [ec]
          exact key _ s2 (by rw [upd_ne (Ne.symm cT)]; exact nD) (by rw [ed]; exact .tup (SqT.of upd_same) (pd.up s2))
    · have e : i = ds.length := by omega
      subst e
      exact .inl ⟨y2, q D acc es F (s1.trans sF) nD pa (fin es iv)⟩
structure GTs (X : Cx) (ifs : List Expr) (dt : DT) : Prop where
  ex : PTs X ifs (tTD X.K dt)
section
variable {X : Cx}
theorem ts_nil : GTs X [] dYes := ⟨⟨fun pins s σ H Q I h => by
  obtain ⟨φ, Φ, env, h1, h2⟩ := h
  exact pts_nil.run pins s σ H Q I (h2 true H (Same.refl H) h1)⟩⟩
theorem st_tTD {K : PySem.W.Frag} {dt : DT} : ST K (tTD K dt) dt := fun σ H φ Φ Q env h q => ⟨φ, Φ, env, h, q⟩
theorem f_lc {elt tg iter : Expr} {ifs : List Expr} {scope : Scope} (own : List (Str × Nat)) {pos : Pos} {di : DI} {g : TG} {dg : DGc} {dt : DT} {de : DE} (hc : X.calm = true) (hN : X.N.Nodup) (hi : GI X tg iter di) (ok : BlkOk X.N X.env.scope scope own)
    (hg : ∀ (s : Shared) (H : Hp) (C : Addr) (cl : List (Str × Addr)) (fp : List Addr), PG (X.blk s H scope (compEnvC scope cl C X.env) fp) tg g) (sg : SGc X.K (own.map (·.2)) g dg)
    (ht : ∀ (s : Shared) (H : Hp) (C : Addr) (cl : List (Str × Addr)) (fp : List Addr), GTs (X.blk s H scope (compEnvC scope cl C X.env) fp) ifs dt)
    (he : ∀ (s : Shared) (H : Hp) (C : Addr) (cl : List (Str × Addr)) (fp : List Addr), GE (X.blk s H scope (compEnvC scope cl C X.env) fp) elt de) (hs : ∀ x, foldedSetIterable iter X.env x = pure x := by intro _; rfl) :
    GF X (.ListComp elt [⟨tg, iter, ifs, 0⟩] scope pos) (dLc (own.map (·.2)) di dg dt de) := by
  obtain ⟨wi, i1, i2⟩ := hi
  exact ⟨_, pe_lc (te := tFr (tD X.K de)) (tt := tTD X.K dt) hc hN i1 ok hg (fun s H C cl fp => (ht s H C cl fp).ex) (fun s H C cl fp => pe_frame (he s H C cl fp).pe) hs, sf_lc i2 sg st_tTD⟩
/-- y = [..] -/
theorem s_setLc {W : WX} {i : Nat} {y : Str} {py spos : Pos} {elt tg iter : Expr} {ifs : List Expr} {scope : Scope} (own : List (Str × Nat)) {pos : Pos} {di : DI} {g : TG} {dg : DGc} {dt : DT} {de : DE} (hc : X.calm = true) (hN : X.N.Nodup) (hy : X.N[i]? = some y) (hyl : X.env.scope.names.lookup y = some .local)
    (hsw : swapsWith (.ListComp elt [⟨tg, iter, ifs, 0⟩] scope pos) (some (.Name y py)) spos.line X.env = pure true) (hi : GI X tg iter di) (ok : BlkOk X.N X.env.scope scope own)
    (hg : ∀ (s : Shared) (H : Hp) (C : Addr) (cl : List (Str × Addr)) (fp : List Addr), PG (X.blk s H scope (compEnvC scope cl C X.env) fp) tg g) (sg : SGc X.K (own.map (·.2)) g dg)
    (ht : ∀ (s : Shared) (H : Hp) (C : Addr) (cl : List (Str × Addr)) (fp : List Addr), GTs (X.blk s H scope (compEnvC scope cl C X.env) fp) ifs dt)
    (he : ∀ (s : Shared) (H : Hp) (C : Addr) (cl : List (Str × Addr)) (fp : List Addr), GE (X.blk s H scope (compEnvC scope cl C X.env) fp) elt de) (hs : ∀ x, foldedSetIterable iter X.env x = pure x := by intro _; rfl) :
    GS X W (.Assign [.Name y py] (.ListComp elt [⟨tg, iter, ifs, 0⟩] scope pos) spos) (dSetF i (dLc (own.map (·.2)) di dg dt de)) := by
  obtain ⟨wi, i1, i2⟩ := hi
  refine ⟨_, ps_frame (ps_setLc (te := tFr (tD X.K de)) (tt := tTD X.K dt) hc hN hy hyl hsw i1 ok hg (fun s H C cl fp => (ht s H C cl fp).ex) (fun s H C cl fp => pe_frame (he s H C cl fp).pe) hs), fun D E F σ H ρ env h m => ?_⟩
  have k := ss_frameF (k := fun v σ H' => D.nx (σ.set i (some v)) H') (sf_lc i2 sg st_tTD) env h fun F' H' a vs ds s env' n p hd => m.nx F' _ _ _ s (env'.putO i n p) hd
  obtain ⟨F0, z, ht⟩ := k
  exact ⟨F0, z, ht⟩
end
/-! ### slices -/
def cutD {α : Type} (xs : List α) (lo hi : Option Int) : List α := (xs.drop (HT.sIx xs.length 0 lo)).take (HT.sIx xs.length xs.length hi - HT.sIx xs.length 0 lo)
def slD (x : Dt) (lo hi : Option Int) : Option Dt := match x with
  | .list ds => some (.list (cutD ds lo hi))
  | .tuple ds => some (.tuple (cutD ds lo hi))
  | .str z => some (.str (cutS z lo hi))
  | _ => none
abbrev DOp := Fro → (Option Int → Prop) → Prop
def dNoPart : DOp := fun _ Φ => Φ none
def dPart (de : DE) : DOp := fun φ Φ => de φ fun d => match d with
  | .int i => Φ (some i)
  | _ => False
def SO (K : PySem.W.Frag) (t : TO) (d : DOp) : Prop := ∀ (σ : St) (H : Hp) (φ : Fro) (Φ : Option Int → Prop) (Q : Option Int → Hp → Prop), EnvF K σ H φ → d φ Φ → (∀ i H', Same H H' → Φ i → Q i H') → t σ H Q
structure GO (X : Cx) (e : Option Expr) (d : DOp) : Prop where
  ex : ∃ t, PO X e t ∧ SO X.K t d
def dSl (de : DE) (lo hi : DOp) : DE := fun φ Φ => de φ fun x => lo φ fun l => hi φ fun u => fitsD x ∧ match slD x l u with
  | some d => Φ d
  | none => False
/-- a list's slice, a new list -/
def dSlF (de : DE) (lo hi : DOp) : DF := fun φ Φ => de φ fun x => lo φ fun l => hi φ fun u => match x with
  | .list ds => Φ (cutD ds l u)
  | _ => False
section
variable {X : Cx} {K : PySem.W.Frag}
theorem SlR.or {r r' : V → Option Int → Option Int → Hp → VK → Prop} (h : SlR X r) (h' : SlR X r') : SlR X (fun x l u H Q => r x l u H Q ∨ r' x l u H Q) := by
  intro pins s σ H x v vl vu lo hi sl Q I rx hs pl pu q
  rcases q with q | q
  · exact h pins s σ H x v vl vu lo hi sl Q I rx hs pl pu q
  · exact h' pins s σ H x v vl vu lo hi sl Q I rx hs pl pu q
theorem go_none : GO X none dNoPart := ⟨_, po_none, fun σ H φ Φ Q env h q => q none H (Same.refl H) h⟩
theorem go_some {e : Expr} {de : DE} (h : GE X e de) : GO X (some e) (dPart de) := by
  obtain ⟨te, a1, a2⟩ := h
  refine ⟨_, po_some a1, fun σ H φ Φ Q env h q => a2 σ H φ _ _ env h fun v H' d s p hd => ?_⟩
  cases d with
  | int i => cases p; exact ⟨i, rfl, q _ H' s hd⟩
  | _ => exact hd.elim
theorem dp_cut {H : Hp} {vs : List V} {ds : List Dt} {lo hi : Option Int} (p : DpAll K H vs ds) : DpAll K H (cutV vs lo hi) (cutD ds lo hi) := by
  unfold cutV cutD
  rw [p.len]
  exact (p.drop _).take _
theorem g_slice {e : Expr} {lo hi : Option Expr} {de : DE} {dl dh : DOp} {p2 pos : Pos} (he : GE X e de) (hl : GO X lo dl) (hu : GO X hi dh) : GE X (.Subscript e (.Slice lo hi none p2) pos) (dSl de dl dh) := by
  obtain ⟨te, a1, a2⟩ := he
  obtain ⟨tl, b1, b2⟩ := hl
  obtain ⟨th, c1, c2⟩ := hu
  refine ⟨_, pe_slice (SlR.or sl_list (SlR.or sl_tupA sl_str)) a1 b1 c1, fun σ H φ Φ Q env h q => a2 σ H φ _ _ env h fun v H1 d s1 p h1 => b2 σ H1 φ _ _ (env.up s1) h1 fun l H2 s2 h2 => c2 σ H2 φ _ _ (env.up (s1.trans s2)) h2 fun u H3 s3 h3 => ?_⟩
  have sA := s1.trans (s2.trans s3)
  have p3 := p.up (s2.trans s3)
  obtain ⟨hf, h3⟩ := h3
  cases d with
  | list ds =>
    cases p3 with
    | @lst a0 xs0 _ hs ha =>
      refine .inl ⟨_, _, rfl, hs, fun a n => ?_⟩
      have s4 := same_new (o := .lst (cutV xs0 l u)) n
      exact q _ _ _ (sA.trans s4) (.lst (SqL.of upd_same) ((dp_cut ha).up s4)) h3
  | tuple ds =>
    cases p3 with
    | @tup a0 xs0 _ hs ha =>
      refine .inr (.inl ⟨_, _, rfl, hs, fun z => ?_, fun z a n => ?_⟩)
      · have e : cutD ds l u = ds := by
          unfold cutD
          rw [← ha.len, z.1, z.2]
          rw [List.drop_zero, Nat.sub_zero, List.take_of_length_le (by rw [ha.len]; exact Nat.le_refl _)]
        have h3' : Φ (.tuple (cutD ds l u)) := h3
        rw [e] at h3'
        exact q _ _ _ sA (.tup hs ha) h3'
      · have s4 := same_new (o := .tup (cutV xs0 l u)) n
        exact q _ _ _ (sA.trans s4) (.tup (SqT.of upd_same) ((dp_cut ha).up s4)) h3
  | str z =>
    cases p3
    exact .inr (.inr ⟨z, rfl, hf, q _ _ _ sA (.str _) h3⟩)
  | _ => exact h3.elim
end
/-! ### built-ins -/
section
variable {X : Cx} {K : PySem.W.Frag}
def CD (K : PySem.W.Frag) (r : List V → Hp → VK → Prop) (o : List Dt → (Dt → Prop) → Prop) : Prop := ∀ (vs : List V) (H : Hp) (Q : VK) (ds : List Dt) (Φ : Dt → Prop), DpAll K H vs ds → o ds Φ → (∀ v H' d, Same H H' → Dp K H' v d → Φ d → Q v H') → r vs H Q
def dB (o : List Dt → (Dt → Prop) → Prop) (da : DA) : DE := fun φ Φ => da φ fun ds => o ds Φ
structure CallG (X : Cx) (f : Value) (o : List Dt → (Dt → Prop) → Prop) : Prop where
  ex : ∃ r, CallR X f r ∧ CD X.K r o
theorem g_callB {x : Str} {id : String} {o : List Dt → (Dt → Prop) → Prop} {e : Expr} {es : List Expr} {da : DA} {p pos : Pos} (hc : CallG X (.builtin id) o) (hm : X.mg x = none) (hv : bootBuiltins x = some (.builtin id)) (ha : GA X (e :: es) da) (hg : Gl X x := by rfl) (hn : x ≠ "__name__" := by decide) (hdb : (x == ("__debug__" : Str)) = false := by decide)
    (he : starEach (e :: es) X.env = (false, eval e X.env) :: starEach es X.env := by rfl) (hpl : (backTo pos (starEach es X.env)).any (·.1) = false := by rfl) : GE X (.Call (.Name x p) (e :: es) [] pos) (dB o da) := by
  obtain ⟨r, h1, h2⟩ := hc
  obtain ⟨ta, a1, a2⟩ := ha
  exact ⟨_, pe_callB h1 hg hm hv a1 hn hdb he hpl, fun σ H φ Φ Q env h q => a2 σ H φ _ _ env h fun vs H1 ds s1 p l h1 => h2 vs H1 Q ds Φ p h1 fun v H' d s pv hd => q v H' d (s1.trans s) pv hd⟩
theorem g_callT {x : Str} {T : String} {o : List Dt → (Dt → Prop) → Prop} {e : Expr} {es : List Expr} {da : DA} {p pos : Pos} (hc : CallG X (.type T) o) (hm : X.mg x = none) (hv : bootBuiltins x = some (.type T)) (ha : GA X (e :: es) da) (hg : Gl X x := by rfl) (hn : x ≠ "__name__" := by decide) (hdb : (x == ("__debug__" : Str)) = false := by decide)
    (he : starEach (e :: es) X.env = (false, eval e X.env) :: starEach es X.env := by rfl) (hpl : (backTo pos (starEach es X.env)).any (·.1) = false := by rfl) : GE X (.Call (.Name x p) (e :: es) [] pos) (dB o da) := by
  obtain ⟨r, h1, h2⟩ := hc
  obtain ⟨ta, a1, a2⟩ := ha
  exact ⟨_, pe_callTy h1 hg hm hv a1 hn hdb he hpl, fun σ H φ Φ Q env h q => a2 σ H φ _ _ env h fun vs H1 ds s1 p l h1 => h2 vs H1 Q ds Φ p h1 fun v H' d s pv hd => q v H' d (s1.trans s) pv hd⟩
def bLen : List Dt → (Dt → Prop) → Prop := fun ds Φ => match ds with
  | [.list es] => Φ (.int es.length)
  | [.tuple es] => Φ (.int es.length)
  | [.str z] => z.length ≤ sizeLine ∧ Φ (.int z.length)
  | _ => False
theorem c_len : CallG X (.builtin "len") bLen := by
  refine ⟨_, call_len, fun vs H Q ds Φ p h q => ?_⟩
  match ds, p, h with
  | [.list es], p, h =>
    cases p with
    | cons p1 p2 =>
      cases p2
      cases p1 with
      | lst hs ha => exact ⟨_, _, rfl, .inl ⟨_, hs, rfl⟩, q _ H _ (Same.refl H) (by rw [ha.len]; exact .int _) h⟩
  | [.tuple es], p, h =>
    cases p with
    | cons p1 p2 =>
      cases p2
      cases p1 with
      | tup hs ha => exact ⟨_, _, rfl, .inr ⟨_, hs, rfl⟩, q _ H _ (Same.refl H) (by rw [ha.len]; exact .int _) h⟩
  | [.str z], p, h =>
    cases p with
    | cons p1 p2 =>
      cases p2
      cases p1
      exact ⟨_, _, rfl, ⟨h.1, rfl⟩, q _ H _ (Same.refl H) (.int _) h.2⟩
def bAbs : List Dt → (Dt → Prop) → Prop := fun ds Φ => match ds with
  | [.int i] => Φ (.int (i.natAbs : Nat))
  | _ => False
theorem c_abs : CallG X (.builtin "abs") bAbs := by
  refine ⟨_, call_abs, fun vs H Q ds Φ p h q => ?_⟩
  match ds, p, h with
  | [.int i], p, h =>
    cases p with
    | cons p1 p2 =>
      cases p2
      cases p1
      refine ⟨i, rfl, ?_⟩
      have e : (if i < 0 then -i else i) = ((i.natAbs : Nat) : Int) := by split <;> omega
      rw [e]
      exact q _ H _ (Same.refl H) (.int _) h
def bInt : List Dt → (Dt → Prop) → Prop := fun ds Φ => match ds with
  | [.int i] => Φ (.int i)
  | [.bool b] => Φ (.int (if b then 1 else 0))
  | _ => False
theorem c_int : CallG X (.type "int") bInt := by
  refine ⟨_, call_int1, fun vs H Q ds Φ p h q => ?_⟩
  match ds, p, h with
  | [.int i], p, h =>
    cases p with
    | cons p1 p2 =>
      cases p2
      cases p1
      exact .inl ⟨i, rfl, q _ H _ (Same.refl H) (.int _) h⟩
  | [.bool b], p, h =>
    cases p with
    | cons p1 p2 =>
      cases p2
      cases p1
      exact .inr ⟨b, rfl, q _ H _ (Same.refl H) (.int _) h⟩
def bTup : List Dt → (Dt → Prop) → Prop := fun ds Φ => match ds with
  | [.list es] => Φ (.tuple es)
  | [.tuple es] => Φ (.tuple es)
  | _ => False
theorem c_tuple : CallG X (.type "tuple") bTup := by
  refine ⟨_, call_tuple_of, fun vs H Q ds Φ p h q => ?_⟩
  match ds, p, h with
  | [.list es], p, h =>
    cases p with
    | cons p1 p2 =>
      cases p2
      cases p1 with
      | @lst a0 xs0 _ hs ha =>
        refine ⟨_, _, rfl, .inl ⟨hs, fun l n => ?_⟩⟩
        have s := same_new (o := .tup xs0) n
        exact q _ _ _ s (.tup (SqT.of upd_same) (ha.up s)) h
  | [.tuple es], p, h =>
    cases p with
    | cons p1 p2 =>
      cases p2
      cases p1 with
      | tup hs ha => exact ⟨_, _, rfl, .inr ⟨hs, q _ _ _ (Same.refl H) (.tup hs ha) h⟩⟩
/-- list(x) -/
def dListF (da : DA) : DF := fun φ Φ => da φ fun ds => match ds with
  | [.list es] => Φ es
  | [.tuple es] => Φ es
  | _ => False
theorem f_list {x : Str} {e : Expr} {da : DA} {p pos : Pos} (hm : X.mg x = none) (hv : bootBuiltins x = some (.type "list")) (ha : GA X [e] da) (hg : Gl X x := by rfl) (hn : x ≠ "__name__" := by decide) (hdb : (x == ("__debug__" : Str)) = false := by decide)
    (he : starEach [e] X.env = (false, eval e X.env) :: starEach [] X.env := by rfl) (hpl : (backTo pos (starEach [] X.env)).any (·.1) = false := by rfl) : GF X (.Call (.Name x p) [e] [] pos) (dListF da) := by
  obtain ⟨ta, a1, a2⟩ := ha
  refine ⟨_, pe_callTy call_list_of hg hm hv a1 hn hdb he hpl, fun σ H φ Φ Q env h q => a2 σ H φ _ _ env h fun vs H1 ds s1 p l h1 => ?_⟩
  match ds, p, h1 with
  | [.list es], p, h =>
    cases p with
    | cons p1 p2 =>
      cases p2
      cases p1 with
      | lst hs ha => exact ⟨_, _, rfl, .inl hs, fun l n => q l _ _ H1 s1 n ha h⟩
  | [.tuple es], p, h =>
    cases p with
    | cons p1 p2 =>
      cases p2
      cases p1 with
      | tup hs ha => exact ⟨_, _, rfl, .inr hs, fun l n => q l _ _ H1 s1 n ha h⟩
/-- no datum of the plain kind -/
def spec : Dt → Bool
  | .dict (_ :: _) => true
  | _ => false
theorem nsp_none : spec .none = false := rfl
theorem nsp_bool (b : Bool) : spec (.bool b) = false := rfl
theorem nsp_int (i : Int) : spec (.int i) = false := rfl
theorem nsp_str (x : Str) : spec (.str x) = false := rfl
theorem nsp_list (xs : List Dt) : spec (.list xs) = false := rfl
theorem nsp_tuple (xs : List Dt) : spec (.tuple xs) = false := rfl
def dIsi (f : Dt → Bool) (de : DE) : DE := fun φ Φ => de φ fun d => spec d = false ∧ Φ (.bool (f d))
def isIntD : Dt → Bool
  | .int _ => true
  | .bool _ => true
  | _ => false
def isBoolD : Dt → Bool
  | .bool _ => true
  | _ => false
def isStrD : Dt → Bool
  | .str _ => true
  | _ => false
def isListD : Dt → Bool
  | .list _ => true
  | _ => false
def isTupD : Dt → Bool
  | .tuple _ => true
  | _ => false
end
end L2.D3
set_option maxHeartbeats 4000000
namespace L2.D3
open PySem PySem.Spec PyProof.Rows
/-! ### defs -/
def rho0 : List Str → List Dt → Rho
  | [], _ => []
  | _ :: r, [] => .un :: rho0 r []
  | _ :: r, d :: ds => .pu d :: rho0 r ds
theorem getS_rho0_nil : ∀ {N : List Str} {i : Nat}, getS (rho0 N []) i = .un
  | [], i => rfl
  | _ :: r, 0 => rfl
  | _ :: r, i + 1 => getS_rho0_nil (N := r)
theorem rho0_len : ∀ {N : List Str} {ds : List Dt}, (rho0 N ds).length = N.length
  | [], _ => rfl
  | _ :: r, [] => congrArg Nat.succ (rho0_len (N := r))
  | _ :: r, d :: ds => congrArg Nat.succ (rho0_len (N := r))
theorem getS_rho0 : ∀ {N : List Str} {ds : List Dt} {i : Nat}, getS (rho0 N ds) i = .un ∨ ∃ d, getS (rho0 N ds) i = .pu d ∧ ds[i]? = some d
  | [], _, i => .inl rfl
  | _ :: r, [], i => .inl getS_rho0_nil
  | _ :: r, d :: ds, 0 => .inr ⟨d, rfl, rfl⟩
  | _ :: r, d :: ds, i + 1 => by
    rcases getS_rho0 (N := r) (ds := ds) (i := i) with h | ⟨e, h1, h2⟩
    · exact .inl h
    · exact .inr ⟨e, h1, by simpa using h2⟩
theorem start_env {K : PySem.W.Frag} {H : Hp} {N : List Str} {vs : List V} {ds : List Dt} (p : DpAll K H vs ds) (hl : ds.length ≤ N.length) : EnvO K H (start N vs) H (rho0 N ds) := by
  have len : (rho0 N ds).length = (start N vs).length := by
    rw [rho0_len]
    unfold start
    rw [List.length_append, List.length_map, List.length_replicate, p.len]
    omega
  refine ⟨Fz.refl H, len, fun i d h => ?_, fun i A h => ?_, fun i es h => ?_, fun i j es es' a hij h => ?_, sep_no fun i t h => ?_⟩
  rotate_left 4
  · rcases getS_rho0 (N := N) (ds := ds) (i := i) with q | ⟨e, q1, q2⟩
    · rw [q] at h; cases h
    · rw [q1] at h; cases h
  · rcases getS_rho0 (N := N) (ds := ds) (i := i) with q | ⟨e, q1, q2⟩
    · rw [q] at h; cases h
    · rw [q1] at h
      cases h
      obtain ⟨v, g1, g2⟩ := p.get q2
      refine ⟨v, ?_, g2⟩
      unfold start
      rw [List.getElem?_append_left (by rw [List.length_map]; exact (List.getElem?_eq_some_iff.mp g1).1), List.getElem?_map, g1]
      rfl
  · rcases getS_rho0 (N := N) (ds := ds) (i := i) with q | ⟨e, q1, q2⟩
    · rw [q] at h; cases h
    · rw [q1] at h; cases h
  · rcases getS_rho0 (N := N) (ds := ds) (i := i) with q | ⟨e, q1, q2⟩
    · rw [q] at h; cases h
    · rw [q1] at h; cases h
  · rcases getS_rho0 (N := N) (ds := ds) (i := i) with q | ⟨e, q1, q2⟩
    · rw [q] at h; cases h
    · rw [q1] at h; cases h
theorem XAt.up {K : PySem.W.Frag} {H H' : Hp} {x : XD} {d : Option Addr} (h : XAt K H x d) (s : Same H H') : XAt K H' x d := by
  unfold XAt at h ⊢
  cases e : x.fs with
  | nil => rw [e] at h; exact h
  | cons f fs =>
    rw [e] at h
    obtain ⟨a, vs, h1, h2, h3⟩ := h
    exact ⟨a, vs, h1, s _ _ h2, h3.up s⟩
/-- the ends that a def's body has -/
def endsOf (Φ : Slot → Prop) (Ξ : XD → Prop) : DEnds := { nx := fun _ => Φ (.pu .none), rt := Φ, xr := fun x _ => Ξ x }
section
variable {P : Program} {w : World} {K : PySem.W.Frag} {mg : Str → Option Value} {base : Heap} {x qual : Str} {params : Arguments} {body : List Stmt} {scope : Scope} {f : Addr} {fd : FuncData}
theorem meets_def {H : Hp} {Q : VK} {E : XK} {Φ : Slot → Prop} {Ξ : XD → Prop} (r : RetOk K H Φ Q) (e : RaiOk K H Ξ E) : Meets K (fun cls d _ H => E cls d H) H { nx := fun _ H' => Q .non H', rt := Q } (endsOf Φ Ξ) where
  nx := fun F' σ H' ρ s env h => r.pu _ _ _ (s.trans env.fz.same) .non h
  bk := fun F' σ H' ρ s env h => h.elim
  ct := fun F' σ H' ρ s env h => h.elim
  rt := fun F' H' v d s z p h => r.pu v d H' (s.trans z.same) (p.up z.same) h
  rtO := fun F' H' a vs ds s z n q p h => by
    obtain ⟨G, g1, rfl⟩ := erase_upd q
    have s2 : Same F' G := fun b o e => by
      have c : b ≠ a := fun y => by rw [y, n] at e; cases e
      have q2 := z.same b o e
      rw [upd_ne c] at q2
      exact q2
    exact r.ow a vs ds G (s.trans s2) g1 (p.up s2) h
  xr := fun F' σ H' ρ x d s env hx h => e x d H' (s.trans env.fz.same) (hx.up env.fz.same) h
theorem fn_ok {N ps : List Str} {k : Nat} {dsp : DSp} {dvs : List V} {kws : List (Str × V)} (F : FunD K x qual params body scope dvs kws f fd) (S : FnScope N ps scope) (hps : ps.length ≤ N.length) (len : ∀ ds Φ Ξ, dsp ds Φ Ξ → ds.length = ps.length)
    (hb : ∀ (cdv : Value) (A : Around) (outer : List Env) (s : Shared) (H : Hp) (E : XK), Room k (A.deeper (envOfC qual scope s.heap.objs.size f cdv)) →
      ∃ d, GSs (cxOf (L2.CX P w) P w K mg base N qual scope f cdv A outer s H E) (fun cls d _ H => E cls d H) body d ∧ ∀ ds Φ Ξ, dsp ds Φ Ξ → d (endsOf Φ Ξ) (rho0 N ds)) : FnOk P w K mg base (L2.CX P w) (k + 1) f fd ps (lift K dsp) := by
  refine F.ok S (fun vs H Q E h => ?_) (fun cdv A outer s H vs Q E hr h => ?_)
  · obtain ⟨ds, Φ, Ξ, p, h1, _⟩ := h
    rw [p.len]
    exact len ds Φ Ξ h1
  · obtain ⟨ds, Φ, Ξ, p, h1, r, e⟩ := h
    obtain ⟨d, ⟨ts, a1, a2⟩, hd⟩ := hb cdv A outer s H E hr
    exact ⟨ts, a1, a2 _ (endsOf Φ Ξ) H _ H _ (start_env p (by rw [len ds Φ Ξ h1]; exact hps)) (hd ds Φ Ξ h1) (meets_def r e)⟩
theorem mkFN {ps : List Str} {k : Nat} {dsp : DSp} {dvs : List V} {kws : List (Str × V)} (F : FunD K x qual params body scope dvs kws f fd) (hm : mg x = some (.ref f)) (ok : FnOk P w K mg base (L2.CX P w) k f fd ps (lift K dsp)) (b : Binds K fd ps []) : FN P w K mg base x k dsp := ⟨f, fd, ps, [], [], _, ok, hm, F.kp, b, .nil, fun vs H Q E h => by rw [List.append_nil]; exact h⟩
end
/-- what leaves a def that wishes nothing -/
theorem cx_no {P : Program} {w : World} (H : Hp) (s : Shared) (e : Value) (s' : Shared) (h : L2.CX P w [] H s (fun _ _ _ => False) e s') : False := by
  obtain ⟨_, _, _, _, _, _, _, _, _, _, _, _, z⟩ := h
  exact z
/-- the law's promise: True of every script -/
def dspLaw (n : Nat) : DSp := fun ds Φ _ => ∃ ns : List Int, ns.length ≤ n ∧ ds = [.list (ns.map .int)] ∧ Φ (.pu (.bool true))
theorem lift_law {K : PySem.W.Frag} {n : Nat} {H : Hp} {a : Addr} {ns : List Int} (hl : ns.length ≤ n) (hS : SqL K H a (ns.map V.int)) : lift K (dspLaw n) [.ref a] H (fun v _ => v = .bl true) fun _ _ _ => False :=
  ⟨_, fun s => s = .pu (.bool true), fun _ => False, .one (.lst hS (DpAll.ints ns)), ⟨ns, hl, rfl, rfl⟩, ⟨fun v d H' s p e => by cases e; cases p; rfl, fun a vs ds H' s n p e => nomatch e⟩, fun x d H' s p z => z⟩
abbrev FnP (K : PySem.W.Frag) (x : Str) (st : Stmt) (f : Addr) (fd : FuncData) (dvs : List V := []) : Prop := FunD K x x (defArgs st) (defBody st) (defScope st) dvs [] f fd
end L2.D3
set_option maxHeartbeats 4000000
namespace L2.D3
open PySem PySem.Spec PyProof.Rows
section
variable {X : Cx} {K : PySem.W.Frag} {W : WX}
/-! ### + and * of any kind, -x, in -/
def rCatL (K : PySem.W.Frag) : R2 := fun x y H Q => ∃ a b xs ys, x = .ref a ∧ y = .ref b ∧ SqL K H a xs ∧ SqL K H b ys ∧ xs.length + ys.length ≤ sizeLine ∧ ∀ p, H p = none → Q (.ref p) (upd H p (.lst (xs ++ ys)))
theorem op_catL : OpR X (binaryOp .Add) (rCatL X.K) := by
  intro pins s σ H x y v u Q I rx ry h
  obtain ⟨a, b, xs, ys, rfl, rfl, ha, hb, hz, q⟩ := h
  cases rx
  cases ry
  obtain ⟨its, r, p1, z1⟩ := I.list ha
  obtain ⟨its2, r2, p2, z2⟩ := I.list hb
  have l1 := r.length
  have l2 := r2.length
  obtain ⟨⟨k1, dd1, dt1, sl1⟩, n1, g1, c1, d1, e1⟩ := p1
  obtain ⟨⟨k2, dd2, dt2, sl2⟩, n2, g2, c2, d2, e2⟩ := p2
  simp only at c1 e1 c2 e2
  subst c1 e1 c2 e2
  refine concat_meets ⟨_, g1, rfl⟩ ⟨_, g2, rfl⟩ noFill_list_add seq_list_add PySem.F.slot_list_add PySem.F.entry_list_add (PySem.F.args_list_add_2 _ _) (list_addW a b its.toArray its2.toArray n1 n2 dd1 dd2 sl1 sl2 (by rw [List.size_toArray, List.size_toArray]; omega)) ⟨g1, g2, ?_⟩
  have ea : its.toArray ++ its2.toArray = (its ++ its2).toArray := by simp
  rw [ea]
  exact ⟨.ref _, _, I.lnew (t' := s.toks) (r.append r2) (by rw [List.length_append]; omega), rfl, q _ I.fresh⟩
def oAddU : DO := fun x y Φ => match x, y with
  | .int i, .int j => Φ (.int (i + j))
  | .str a, .str b => a.length + b.length ≤ sizeLine ∧ Φ (.str (a ++ b))
  | .list xs, .list ys => xs.length + ys.length ≤ sizeLine ∧ Φ (.list (xs ++ ys))
  | .tuple xs, .tuple ys => xs.length + ys.length ≤ sizeLine ∧ Φ (.tuple (xs ++ ys))
  | _, _ => False
theorem o_addU : OpG X (binaryOp .Add) oAddU := by
  refine ⟨_, OpR.or op_add (OpR.or op_add_str (OpR.or op_catL op_catA)), fun x y H Q dx dy Φ px py ho q => ?_⟩
  cases dx with
  | int i =>
    cases dy with
    | int j => cases px; cases py; exact .inl ⟨i, j, rfl, rfl, q _ H _ (Same.refl H) (.int _) ho⟩
    | _ => exact ho.elim
  | str a =>
    cases dy with
    | str b => cases px; cases py; exact .inr (.inl ⟨a, b, rfl, rfl, ho.1, q _ H _ (Same.refl H) (.str _) ho.2⟩)
    | _ => exact ho.elim
  | list xs =>
    cases dy with
    | list ys =>
      cases px with
      | @lst a us _ hs ha =>
        cases py with
        | @lst b ws _ hs2 ha2 =>
          refine .inr (.inr (.inl ⟨a, b, us, ws, rfl, rfl, hs, hs2, by rw [ha.len, ha2.len]; exact ho.1, fun p n => ?_⟩))
          have s := same_new (o := .lst (us ++ ws)) n
          exact q _ _ _ s (.lst (SqL.of upd_same) ((ha.app ha2).up s)) ho.2
    | _ => exact ho.elim
  | tuple xs =>
    cases dy with
    | tuple ys =>
      cases px with
      | @tup a us _ hs ha =>
        cases py with
        | @tup b ws _ hs2 ha2 =>
          refine .inr (.inr (.inr ⟨a, b, us, ws, rfl, rfl, hs, hs2, by rw [ha.len, ha2.len]; exact ho.1, fun e => ?_, fun e1 e2 => ?_, fun e1 e2 p n => ?_⟩))
          · subst e
            cases xs with
            | nil => exact q _ _ _ (Same.refl H) (.tup hs2 ha2) ho.2
            | cons _ _ => cases ha
          · subst e2
            cases ys with
            | nil =>
              have h2 := ho.2
              rw [List.append_nil] at h2
              exact q _ _ _ (Same.refl H) (.tup hs ha) h2
            | cons _ _ => cases ha2
          · have s := same_new (o := .tup (us ++ ws)) n
            exact q _ _ _ s (.tup (SqT.of upd_same) ((ha.app ha2).up s)) ho.2
    | _ => exact ho.elim
  | _ => exact ho.elim
/-- a text n times -/
def strRep (a : Str) (n : Nat) : Str := ⟨(List.replicate n a.cps).foldl (· ++ ·) #[]⟩
theorem rep_size (a : Array Nat) : ∀ (n : Nat) (acc : Array Nat), ((List.replicate n a).foldl (· ++ ·) acc).size = acc.size + n * a.size
  | 0, acc => by simp
  | n + 1, acc => by
    rw [List.replicate_succ, List.foldl_cons, rep_size a n, Array.size_append, Nat.succ_mul]
    omega
def rRepS : R2 := fun x y H Q => ∃ (a : Str) (k : Int), x = .str a ∧ y = .int k ∧ 2 ≤ k ∧ k ≤ 1000 ∧ a.length = 1 ∧ Q (.str (strRep a k.toNat)) H
theorem op_repS : OpR X (binaryOp .Mult) rRepS := by
  intro pins s σ H x y v u Q I rx ry h
  obtain ⟨a, k, rfl, rfl, h1, h2, h3, q⟩ := h
  obtain ⟨t, rfl⟩ := rx
  obtain ⟨t2, rfl⟩ := ry
  have n1 : ¬ k < 1 := by omega
  have n2 : (k == 1 || a.length == 0) = false := by rw [h3]; simp; omega
  have hz : (1000 : Nat) ≤ sizeLine := by decide
  refine PySem.P.mul_str (by rw [decide_eq_false (by omega), decide_eq_false (by omega)]; rfl) (fun _ _ => ?_) (fun _ _ => ?_) ?_
  · rw [h3]
    have : 1 ≤ ((2 : Int) ^ 63 - 1) / k := by
      rw [Int.le_ediv_iff_mul_le (by omega)]
      omega
    omega
  · rw [h3, Nat.one_mul]
    unfold Builtin.Str.tooLong
    exact decide_eq_false (by omega)
  · rw [if_neg n1, n2]
    refine ⟨?_, .str (strRep a k.toNat), H, I.tok _, ⟨_, rfl⟩, q⟩
    show (strRep a k.toNat).cps.size ≤ sizeLine
    have e : a.cps.size = 1 := h3
    unfold strRep
    rw [rep_size, e]
    simp
    omega
def oMulU : DO := fun x y Φ => match x, y with
  | .int i, .int j => CMulW i j ∧ Φ (.int (i * j))
  | .tuple xs, .int k => xs ≠ [] ∧ 2 ≤ k ∧ k ≤ 1000 ∧ xs.length ≤ 1000 ∧ Φ (.tuple (List.replicate k.toNat xs).flatten)
  | .str a, .int k => 2 ≤ k ∧ k ≤ 1000 ∧ a.length = 1 ∧ Φ (.str (strRep a k.toNat))
  | _, _ => False
theorem DpAll.rep {H : Hp} {ds : List Dt} {vs : List V} (h : DpAll K H vs ds) : ∀ n : Nat, DpAll K H (List.replicate n vs).flatten (List.replicate n ds).flatten
  | 0 => .nil
  | n + 1 => by
    rw [List.replicate_succ, List.replicate_succ, List.flatten_cons, List.flatten_cons]
    exact h.app (DpAll.rep h n)
theorem o_mulU : OpG X (binaryOp .Mult) oMulU := by
  refine ⟨_, OpR.or op_mulW (OpR.or op_repT op_repS), fun x y H Q dx dy Φ px py ho q => ?_⟩
  cases dx with
  | int i =>
    cases dy with
    | int j => cases px; cases py; exact .inl ⟨i, j, rfl, rfl, ho.1, q _ H _ (Same.refl H) (.int _) ho.2⟩
    | _ => exact ho.elim
  | tuple xs =>
    cases dy with
    | int k =>
      cases py
      cases px with
      | @tup a us _ hs ha =>
        obtain ⟨h0, h1, h2, h3, hΦ⟩ := ho
        refine .inr (.inl ⟨a, k, us, rfl, rfl, hs, ?_, h1, h2, by rw [ha.len]; exact h3, fun p n => ?_⟩)
        · intro z
          rw [z] at ha
          cases ha
          exact h0 rfl
        · have s := same_new (o := .tup (List.replicate k.toNat us).flatten) n
          exact q _ _ _ s (.tup (SqT.of upd_same) ((ha.rep _).up s)) hΦ
    | _ => exact ho.elim
  | str a =>
    cases dy with
    | int k =>
      cases px; cases py
      obtain ⟨h1, h2, h3, hΦ⟩ := ho
      exact .inr (.inr ⟨a, k, rfl, rfl, h1, h2, h3, q _ H _ (Same.refl H) (.str _) hΦ⟩)
    | _ => exact ho.elim
  | _ => exact ho.elim
def dNeg (da : DE) : DE := fun φ Φ => da φ fun x => match x with
  | .int i => Φ (.int (-i))
  | _ => False
theorem g_neg {a : Expr} {da : DE} {pos : Pos} (ha : GE X a da) : GE X (.UnaryOp .USub a pos) (dNeg da) := by
  obtain ⟨ta, a1, a2⟩ := ha
  refine ⟨_, pe_un un_neg a1, fun σ H φ Φ Q env h q => a2 σ H φ _ _ env h fun v H1 d s1 p h1 => ?_⟩
  cases d with
  | int i => cases p; exact ⟨i, rfl, q _ H1 _ s1 (.int _) h1⟩
  | _ => exact h1.elim
/-- x in y, y a list or tuple of data -/
def oIn : DO := fun x y Φ => SeqAt.shaped x = true ∧ SeqAt.shaped y = true ∧ match y with
  | .list ds => Φ (.bool (ds.any fun z => PyData.eqv z x))
  | .tuple ds => Φ (.bool (ds.any fun z => PyData.eqv z x))
  | .str z => match x with
    | .str c => c.length = 1 ∧ Φ (.bool (decide (c.cps.getD 0 0 ∈ z.cps.toList)))
    | _ => False
  | _ => False
def rInTD (K : PySem.W.Frag) : R2 := fun x y H Q => ∃ d ds, Dp K H x d ∧ Dp K H y (.tuple ds) ∧ SeqAt.shaped d = true ∧ SeqAt.shaped (.tuple ds) = true ∧ Q (.bl (ds.any fun z => PyData.eqv z d)) H
theorem op_inTD (hu : X.A.units + 65 < cLine) : OpR X (compareOp .In) (rInTD X.K) := by
  intro pins s σ H x y v u Q I rx ry h
  obtain ⟨d, ds, hd, he, sd, se, q⟩ := h
  obtain ⟨as, r1⟩ := L2.Dp.reads I d x v (hd.old sd) rx
  obtain ⟨bs, r2⟩ := L2.Dp.reads I (.tuple ds) y u (he.old se) ry
  exact SeqAt.in_tuple_reads r2 r1 (SeqAt.canLay_of_shaped se) (SeqAt.canLay_of_shaped sd) (room_in_shaped sd hu) ⟨.bl _, H, I, rfl, q⟩
theorem str_one {c : Str} (h : c.length = 1) : c = ⟨#[c.cps.getD 0 0]⟩ := by
  obtain ⟨l⟩ := c
  obtain ⟨l⟩ := l
  match l, h with
  | [a], _ => rfl
theorem room65 {k : Nat} {A : Around} (hr : Room k A) : A.units + 65 < cLine := by have := hr.un; omega
theorem o_in {k : Nat} (hr : Room k X.A) : OpG X (compareOp .In) oIn := by
  refine ⟨_, OpR.or (op_inD (room65 hr)) (OpR.or (op_inTD (room65 hr)) op_in_sign), fun x y H Q dx dy Φ px py ho q => ?_⟩
  obtain ⟨h1, h2, h3⟩ := ho
  cases dy with
  | list ds => exact .inl ⟨dx, ds, px.old h1, py.old h2, h1, h2, q _ H _ (Same.refl H) (.bl _) h3⟩
  | tuple ds => exact .inr (.inl ⟨dx, ds, px, py, h1, h2, q _ H _ (Same.refl H) (.bl _) h3⟩)
  | str z =>
    cases dx with
    | str c =>
      cases px; cases py
      exact .inr (.inr ⟨c.cps.getD 0 0, z, congrArg V.str (str_one h3.1), rfl, q _ H _ (Same.refl H) (.bl _) h3.2⟩)
    | _ => exact h3.elim
  | _ => exact h3.elim
/-! ### a, b = e1, e2 of anything -/
theorem s_par {i j : Nat} {x y : Str} {a b : Expr} {da : DA} {px py pt : Pos} {kt k2 pt2} {pos : Pos} (hc : X.calm = true) (hN : X.N.Nodup) (hi : X.N[i]? = some x) (hj : X.N[j]? = some y) (hij : i ≠ j)
    (hx : X.env.scope.names.lookup x = some .local) (hy : X.env.scope.names.lookup y = some .local) (ha : GA X [a, b] da)
    (hw : swappedStores [.Tuple [.Name x px, .Name y py] kt pt] (.Tuple [a, b] k2 pt2) X.env = pure (some [x, y]))
    (hs : swapsWithSole [.Tuple [.Name x px, .Name y py] kt pt] (.Tuple [a, b] k2 pt2) pos.line X.env = pure false := by rfl) :
    GS X W (.Assign [.Tuple [.Name x px, .Name y py] kt pt] (.Tuple [a, b] k2 pt2) pos) (dPar i j da) := by
  obtain ⟨ta, a1, a2⟩ := ha
  refine ⟨_, ps_frame (ps_par hc hN hi hj hij hx hy a1 hw hs), fun D E F σ H ρ env h m => ⟨F, env.fz, a2 σ F _ _ _ env.pur h fun vs F' ds s p hl hd => ?_⟩⟩
  match ds, hl, hd, p with
  | [d, e], _, hd, p =>
    cases p with
    | cons p1 p2 => cases p2 with
      | cons p2 p3 =>
        cases p3
        exact ⟨_, _, rfl, s, fun dj => m.nx F' _ _ _ s (((env.grow s dj).putP i p1).putP j p2) hd⟩
/-! ### x += e -/
/-! ### more methods of owned lists -/
def dClear (i : Nat) : DS := fun E ρ => match getS ρ i with
  | .ow _ => E.nx (setS ρ i (.ow []))
  | _ => False
def dReverse (i : Nat) : DS := fun E ρ => match getS ρ i with
  | .ow ds => E.nx (setS ρ i (.ow ds.reverse))
  | _ => False
def dPop (i : Nat) : DS := fun E ρ => match getS ρ i with
  | .ow ds => ds ≠ [] ∧ E.nx (setS ρ i (.ow ds.dropLast))
  | _ => False
theorem DpAll.dropLast {H : Hp} : ∀ {ds : List Dt} {vs : List V}, DpAll K H vs ds → DpAll K H vs.dropLast ds.dropLast := fun {ds vs} h => by
  rw [List.dropLast_eq_take, List.dropLast_eq_take, h.len]
  exact h.take _
end
end L2.D3
set_option maxHeartbeats 4000000
namespace L2.D3
open PySem PySem.Spec PyProof.Rows
/-! ### no list stands in the written part -/
def NoL (K : PySem.W.Frag) : Prop := ∀ a o, K.lookup a = some o → o.cls ≠ .type "list"
def noLB (K : PySem.W.Frag) : Bool := K.all fun p => !decide (p.2.cls = .type "list")
theorem lookup_memF {a : Addr} {o : Obj} : ∀ {l : List (Addr × Obj)}, l.lookup a = some o → (a, o) ∈ l
  | [], h => by cases h
  | (b, u) :: r, h => by
    by_cases c : (a == b) = true
    · have h' : some u = some o := by simpa [List.lookup, c] using h
      cases h'
      rw [beq_iff_eq.mp c]
      exact List.mem_cons_self
    · have c2 : (a == b) = false := by simpa using c
      have h' : List.lookup a r = some o := by simpa [List.lookup, c2] using h
      exact List.mem_cons_of_mem _ (lookup_memF h')
theorem noL_of {K : PySem.W.Frag} (h : noLB K = true) : NoL K := fun a o e z => by
  have q := List.all_eq_true.mp h (a, o) (lookup_memF e)
  rw [decide_eq_true z] at q
  cases q
/-! ### the head's facts, with a truth more -/
def hookX (n : Nat) (fa : List He.Fa) (fn : List He.DefD) (xt : PySem.W.Frag → Bool) : PySem.W.Hook where
  α := Bool × He.AlD
  obs := fun s => (xt (He.frG s.heap.get? (He.asD s.heap.get? n)), He.obsDG n fa fn s.heap.get?)
  val := fun _ => (true, He.valD fn)
  says := fun _ h => ∃ K : PySem.W.Frag, K.In h ∧ He.SaysD fa fn K ∧ xt K = true
  of := fun _ _ e => ⟨_, He.frG_in, congrArg Prod.snd e, congrArg Prod.fst e⟩
  keeps := fun _ _ _ ⟨K, hK, c⟩ k => ⟨K, PySem.W.Frag.In.keeps hK k, c⟩
def obsX (n : Nat) (fa : List He.Fa) (fn : List He.DefD) (xt : PySem.W.Frag → Bool) (g : Addr → Option Obj) : Bool × He.AlD := (xt (He.frG g (He.asD g n)), He.obsDG n fa fn g)
theorem obsX_eq {n : Nat} {fa : List He.Fa} {fn : List He.DefD} {xt : PySem.W.Frag → Bool} {g : Addr → Option Obj} {s : Shared} (h : ∀ a, g a = s.heap.get? a) : obsX n fa fn xt g = (hookX n fa fn xt).obs s := by
  have e : g = s.heap.get? := funext h
  rw [e]
  rfl
/-! ### found.extend(e) -/
section
variable {X : Cx} {K : PySem.W.Frag} {W : WX}
def dExtend (i : Nat) (de : DE) : DS := fun E ρ => match getS ρ i with
  | .ow ds => de (purF ρ) fun d => match d with
    | .list es => ds.length + es.length ≤ sizeLine ∧ E.nx (setS ρ i (.ow (ds ++ es)))
    | _ => False
  | _ => False
/-! ### int(x) -/
abbrev bIntU := bInt
theorem c_intU {X : Cx} : CallG X (.type "int") bIntU := c_int
end
end L2.D3
set_option maxHeartbeats 4000000
namespace L2.D3
open PySem PySem.Spec PyProof.Rows
section
variable {prog : Program} {w : World} {A : Around} {E : Value → Shared → Prop} {s : Shared}
theorem back_places (n : Nat) : Builtin.Slice.slicePlaces ((n : Int) - 1) (-1) (-1) = n := by
  unfold Builtin.Slice.slicePlaces
  have h1 : ¬ ((-1 : Int) > 0) := by omega
  have h2 : (- -1 : Int) = 1 := by decide
  simp only [h1, if_false, h2, Int.ediv_one]
  split <;> omega
theorem back_adjust (n : Nat) : Builtin.Slice.sliceAdjust none none (-1) (n : Int) = ((n : Int) - 1, -1) := by
  unfold Builtin.Slice.sliceAdjust
  simp
theorem back_applied {sl : Addr} {vk : Value} {n : Nat} {Q : Int × Int × Nat → Shared → Prop} (hs : s.heap.IsSliceOf sl .none .none vk) (pk : IsPart vk (some (-1))) (h : Q ((n : Int) - 1, -1, n) s) : wpAny (model prog w) A (Builtin.Slice.sliceApplied (.ref sl) (pure (n : Int))) Q E s := by
  obtain ⟨os, hos, hcs, hds⟩ := id hs
  unfold Builtin.Slice.sliceApplied Builtin.Slice.sliceFields
  refine wpAny_bind (wpAny_bind (wpAny_field hos hds (x := .none) rfl (wpAny_bind (wpAny_field hos hds (x := .none) rfl (wpAny_bind (wpAny_field hos hds (x := vk) rfl (wpAny_pure ?_)))))))
  refine wpAny_bind (HT.slicePart_ pk ?_)
  show wpAny _ _ (if ((-1 : Int) == 0) = true then _ else _) _ _ s
  rw [if_neg (by decide)]
  refine wpAny_bind (slicePart_none (wpAny_bind (slicePart_none (wpAny_bind (wpAny_pure ?_)))))
  show wpAny _ _ (match Builtin.Slice.sliceAdjust none none (-1) (n : Int) with | (lo, hi) => pure (lo, (-1 : Int), Builtin.Slice.slicePlaces lo hi (-1))) _ _ s
  rw [back_adjust n]
  show wpAny _ _ (pure ((n : Int) - 1, (-1 : Int), Builtin.Slice.slicePlaces ((n : Int) - 1) (-1) (-1))) _ _ s
  rw [back_places]
  exact wpAny_pure h
theorem back_pick (xs : Array Value) : ((List.range xs.size).filterMap fun (k : Nat) => xs[((xs.size : Int) - 1 + (k : Int) * (-1)).toNat]?).toArray = xs.toList.reverse.toArray := by
  have e : ((List.range xs.size).filterMap fun (k : Nat) => xs[((xs.size : Int) - 1 + (k : Int) * (-1)).toNat]?) = (((List.range xs.size).map fun k => xs.size - 1 - k).filterMap (xs[·]?)) := by
    rw [List.filterMap_map]
    have key : ∀ l : List Nat, (∀ k ∈ l, k < xs.size) → l.filterMap (fun (k : Nat) => xs[((xs.size : Int) - 1 + (k : Int) * (-1)).toNat]?) = l.filterMap ((fun x => xs[x]?) ∘ fun k => xs.size - 1 - k) := by
      intro l
      induction l with
      | nil => intro _; rfl
      | cons k r ih =>
        intro h
        have hk := h k List.mem_cons_self
        have e2 : ((xs.size : Int) - 1 + (k : Int) * (-1)).toNat = xs.size - 1 - k := by omega
        rw [List.filterMap_cons, List.filterMap_cons, ih fun j hj => h j (List.mem_cons_of_mem _ hj), e2]
        rfl
    exact key _ fun k hk => List.mem_range.mp hk
  rw [e, PySem.W.krv_range, List.filterMap_reverse, PySem.W.krv_all]
theorem back_tuple {t sl : Addr} {items : Array Value} {vk : Value} {Q : Value → Shared → Prop} (ht : IsTup s.heap t items) (hs : s.heap.IsSliceOf sl .none .none vk) (pk : IsPart vk (some (-1)))
    (h : Q (.ref s.heap.objs.size) { s with heap := s.heap.push { cls := .type "tuple", data := .seq items.toList.reverse.toArray } }) (hsz : items.size ≤ sizeLine) : wpAny (model prog w) A (getItem (.ref t) (.ref sl)) Q E s := by
  have fits : sizeOk (.seq items.toList.reverse.toArray) := by
    show items.toList.reverse.toArray.size ≤ sizeLine
    rw [List.size_toArray, List.length_reverse, Array.length_toList]
    exact hsz
  obtain ⟨os, hos, hcs, hds⟩ := id hs
  have hTs : s.TypeIs (.ref sl) "slice" := ⟨os, hos, hcs⟩
  unfold getItem
  try with_reducible refine wpAny_holding ?_
  first | refine wpAny_bind (wpAny_pure ?_) | skip
  refine wpAny_bind (wpAny_sequenceKey ht.typeIs (by decide) ?_)
  refine wpAny_bind (wpAny_callSpecial?_slot (name := Str.ofString "__getitem__") ht.typeIs PyProof.Rows.slot_tuple_getitem (wpAny_call_entry PyProof.Rows.slot_tuple_getitem ht.typeIs entry_tuple_getitem ?_ (args_tuple_getitem _ _)))
  show wpAny _ _ (Builtin.Tuple.tupleItemsOf (.ref t) >>= _) _ _ s
  refine wpAny_bind (tupleItemsOf_ ht ?_)
  refine wpAny_bind (wpAny_typeOf hTs ?_)
  rw [if_pos (by decide)]
  refine wpAny_bind (back_applied hs pk ?_)
  have no : ¬ ((((items.size : Int) - 1) == 0 && (-1 : Int) == 1 && items.size == items.size) = true) := by
    intro q
    rw [Bool.and_eq_true, Bool.and_eq_true] at q
    exact absurd q.1.2 (by decide)
  show wpAny _ _ (if (((items.size : Int) - 1) == 0 && (-1 : Int) == 1 && items.size == items.size) = true then _ else _) _ _ s
  rw [if_neg no, back_pick]
  first
    | exact wpAny_bind (m := Builtin.Tuple.tupleExact _) (wpAny_newObj_type (wpAny_pure ⟨_, rfl, wpAny_pure h⟩) fits)
    | exact wpAny_bind (m := Builtin.Tuple.tupleExact _) (wpAny_newObj_type (wpAny_bind (wpAny_pure (wpAny_pure ⟨_, rfl, wpAny_pure h⟩))) fits)
    | exact wpAny_bind (wpAny_bind (m := Builtin.Tuple.tupleExact _) (wpAny_newObj_type (wpAny_pure (wpAny_pure ⟨_, rfl, wpAny_pure h⟩)) fits))
    | exact wpAny_bind (wpAny_bind (m := Builtin.Tuple.tupleExact _) (wpAny_newObj_type (wpAny_pure ⟨_, rfl, wpAny_pure h⟩) fits))
end
section
variable {X : Cx} {K : PySem.W.Frag}
/-! ### xs[::-1] -/
def tRev (K : PySem.W.Frag) (te : TE) : TE := fun σ H Q => te σ H fun x H1 => (∃ a xs, x = .ref a ∧ SqL K H1 a xs ∧ ∀ p, H1 p = none → Q (.ref p) (upd H1 p (.lst xs.reverse))) ∨ ∃ a xs, x = .ref a ∧ SqT K H1 a xs ∧ ∀ p, H1 p = none → Q (.ref p) (upd H1 p (.tup xs.reverse))
theorem pe_rev {e : Expr} {te : TE} {j p1 p3 p2 pos} (he : PE X e te) : PE X (.Subscript e (.Slice none none (some (.UnaryOp .USub (.Constant (.int 1) j p1) p3)) p2) pos) (tRev X.K te) := by
  refine ⟨fun pins s σ H Q I h => Subscript_ (thn (he.run pins s σ H _ I h) fun v s1 hq => ?_)⟩
  obtain ⟨x, H1, I1, r1, hq⟩ := hq
  have hst : PO X (some (.UnaryOp .USub (.Constant (.int 1) j p1) p3)) _ := po_some (pe_un un_neg pe_int)
  refine wpAny_Slice ?_
  rw [evalPart_none]
  refine wpAny_pure (wpAny_pure (thn (hst.run pins s1 σ H1 (fun o H' => o = some (-1) ∧ H' = H1) I1 ⟨1, rfl, _, rfl, rfl, rfl⟩) fun vk s2 hk => ?_))
  obtain ⟨o, H2, I2, pk, rfl, rfl⟩ := hk
  have I3 : Inv X pins σ H2 { s2 with heap := s2.heap.push { cls := .type "slice", data := .fields #[.none, .none, vk] } } := I2.kept (t' := s2.toks) fun b ob q => Heap.get?_push_of_some _ q
  rcases hq with ⟨a, xs, rfl, hs, q⟩ | ⟨a, xs, rfl, hs, q⟩
  · cases r1
    obtain ⟨its, rv, pl, hz⟩ := I3.list hs
    have hl := rv.length
    refine tail_any (ops := [.ref a, .ref s2.heap.objs.size]) pl.isList.typeIs slot_list_getitem.lookup ?_ (by rfl)
    refine wpAny_getItem_list_slice pl.isList (Heap.IsSliceOf.new ..) .none .none pk (by decide) ?_ (by rw [List.size_toArray]; omega)
    rw [PySem.W.krv_pick]
    have ev : its.toArray.toList.reverse = its.reverse := by simp
    rw [ev]
    exact ⟨.ref _, _, I3.lnew (t' := s2.toks) (Vals.reverse rv) (by rw [List.length_reverse]; exact hz), rfl, q _ I3.fresh⟩
  · cases r1
    obtain ⟨its, rv, pl, hz⟩ := I3.tuple hs
    have hl := rv.length
    refine tail_any (ops := [.ref a, .ref s2.heap.objs.size]) pl.typeIs PyProof.Rows.slot_tuple_getitem.lookup ?_ (by rfl)
    refine back_tuple pl (Heap.IsSliceOf.new ..) pk ?_ (by rw [List.size_toArray]; omega)
    have ev : its.toArray.toList.reverse = its.reverse := by simp
    rw [ev]
    refine ⟨.ref _, _, I3.laid (t' := s2.toks) (o := .tup xs.reverse) (fun b ob q => Heap.get?_push_of_some _ q) (Nat.le_refl _) ?_, rfl, q _ I3.fresh⟩
    exact ⟨by rw [List.length_reverse]; exact hz, _, Vals.reverse rv, IsTup.new _ _⟩
def dRev (da : DE) : DE := fun φ Φ => da φ fun d => match d with
  | .list ds => Φ (.list ds.reverse)
  | .tuple ds => Φ (.tuple ds.reverse)
  | _ => False
theorem g_rev {e : Expr} {de : DE} {j p1 p3 p2 pos} (he : GE X e de) : GE X (.Subscript e (.Slice none none (some (.UnaryOp .USub (.Constant (.int 1) j p1) p3)) p2) pos) (dRev de) := by
  obtain ⟨te, a1, a2⟩ := he
  refine ⟨_, pe_rev a1, fun σ H φ Φ Q env h q => a2 σ H φ _ _ env h fun v H1 d s1 p h1 => ?_⟩
  cases d with
  | list ds =>
    cases p with
    | @lst a xs _ hs ha =>
      refine .inl ⟨a, xs, rfl, hs, fun l n => ?_⟩
      have s := same_new (o := .lst xs.reverse) n
      exact q _ _ _ (s1.trans s) (.lst (SqL.of upd_same) (ha.reverse.up s)) h1
  | tuple ds =>
    cases p with
    | @tup a xs _ hs ha =>
      refine .inr ⟨a, xs, rfl, hs, fun l n => ?_⟩
      have s := same_new (o := .tup xs.reverse) n
      exact q _ _ _ (s1.trans s) (.tup (SqT.of upd_same) (ha.reverse.up s)) h1
  | _ => exact h1.elim
end
end L2.D3
set_option maxHeartbeats 4000000
/-! The end of a law, where what is caught may hang on the world. -/
namespace L2.D3
open PySem PySem.Spec PyProof.Rows
theorem walk_ofW {lw : PySem.W.OpenLaw} {m k : Nat} {qv : Program} {ls : List Str} {X1 : (Str → Option Value) → Heap → Prop} {Y1 : World → Heap → Prop} {dr : DefRec} {C : World → CXT} {x : Str} (hm : lw.most = some m) (hm2 : m ≤ sizeLine) (hdf : dr.params.defaults = []) (hroom : Room k callerA)
    (hall : ∀ (w : World) (mg : Str → Option Value) (fa : Addr) (h : Heap), Y1 w h → h.Ns mainGlobals mg → mg dr.name = some (.ref fa) → ∃ (K : PySem.W.Frag) (fd : FuncData) (sp : Sp), K.In h ∧ (∀ (s : Shared) (u : Value), BindsTo s fd ⟨[u], []⟩ [(x, u)]) ∧
        (∀ (H : Hp) (a : Addr) (ns : List Int), ns.length ≤ m → Only H → SqL K H a (ns.map V.int) → sp [.ref a] H (fun v _ => v = .bl true) fun _ _ _ => False) ∧ ∀ base : Heap, K.In base → base.Ns mainGlobals mg → FnOk lw.prog w K mg base (C w) k fa fd [x] sp)
    (hno : ∀ (w : World) (H : Hp) (s : Shared) (e : Value) (s2 : Shared), C w [] H s (fun _ _ _ => False) e s2 → False) : PySem.W.WalkO qv ls X1 Y1 lw.row.toRowW dr [] (fun f vs => PySem.call f vs) := by
  refine Att.attach_call hm hdf fun w s0 s1 mg mb fa ob pm cd doc a us ns G hY _ _ _ hmg hobj hints hlen hg => ?_
  obtain ⟨K, fd, sp, hK, hb, hsp, hfn⟩ := hall w mg fa _ hY G.T.g hmg
  exact law_call hK G.T.g G.T.b G.T.builtins G.T.nolimit hg hobj hints (Nat.le_trans hlen hm2) hroom hfn hb (fun H hO hS => hsp H a ns hlen hO hS) fun H e s2 => hno w H s1 e s2
end L2.D3
set_option maxHeartbeats 4000000
/-! Exceptions: raised, let through, caught, asked. -/
namespace L2.D3
open PySem PySem.Spec PyProof.Rows
/-- an exception that was caught, at a -/
def ExC (cls : Value) (d : Option Addr) (a : Addr) : HO := .ext fun h => ∃ (ob : Obj) (fv : Array Value), h.get? a = some ob ∧ Zc cls d ob ∧ ob.data = .fields fv
def ExAt (K : PySem.W.Frag) (H : Hp) (a : Addr) (x : XD) : Prop := ∃ d, H a = some (ExC (.ref (He.ga K x.cls)) d a) ∧ XAt K H x d
def exA (x : XD) : Ass := ⟨fun K H v => ∃ a, v = .ref a ∧ ExAt K H a x, fun K H H' v s ⟨a, e, d, h1, h2⟩ => ⟨a, e, d, s _ _ h1, h2.up s⟩⟩
end L2.D3
set_option maxHeartbeats 4000000
/-! Exceptions at the level of data. -/
namespace L2.D3
open PySem PySem.Spec PyProof.Rows
/-! raise -/
def dRaise (x : XD) : DS := fun E ρ => E.xr x ρ
/-- an own exception class without an __init__ of its own -/
structure ExF (K : PySem.W.Frag) (x : Str) : Prop where
  ex : PySem.W.excIn K (He.ga K x) He.veBase "ValueError.__new__" = true
  kp : PySem.W.keepIn K (.ref (He.ga K x)) = true
  sb : PySem.W.subIn K (.ref (He.ga K x)) (.type "BaseException") = some true
  ty : PySem.W.typeIn K (.ref (He.ga K x)) = some (.type "type")
section
variable {X : Cx} {W : WX}
theorem s_raise {x m : Str} {j : Nat} {p p2 pos pos2 : Pos} (hc : X.calm = true) (tk : Takes X W) (c : ExF X.K x) (gC : X.mg x = some (.ref (He.ga X.K x))) (hg : Gl X x := by rfl) (hdb : (x == ("__debug__" : Str)) = false := by decide) :
    GS X W (.Raise (some (.Call (.Name x p) [.Constant (.str m) j p2] [] pos)) none pos2) (dRaise ⟨x, []⟩) :=
  ⟨_, ps_raise hc tk (pmk_own PySem.F.excBase_ValueError c.ex gC c.kp (raises_own c.sb c.ty) hg hdb), fun D E F σ H ρ env h m => m.xr F σ H ρ ⟨x, []⟩ none (Same.refl F) env rfl h⟩
/-! calls that may raise -/
def noOw : Rho → Prop
  | [] => True
  | .ow _ :: _ => False
  | .tr _ :: _ => False
  | _ :: r => noOw r
section
variable {f : Str} {k : Nat} {dsp : DSp} {e : Expr} {es : List Expr} {da : DA} {p pos : Pos}
def dSetX (i : Nat) (dsp : DSp) (da : DA) : DS := fun E ρ => noOw ρ ∧ da (allF ρ) fun ds => dsp ds (fun s => E.nx (setS ρ i (.pu s.dat))) (fun x => E.xr x ρ)
def dCallX (dsp : DSp) (da : DA) : DS := fun E ρ => noOw ρ ∧ da (allF ρ) fun ds => dsp ds (fun _ => E.nx ρ) (fun x => E.xr x ρ)
def dRetX (dsp : DSp) (da : DA) : DS := fun E ρ => noOw ρ ∧ da (allF ρ) fun ds => dsp ds (fun s => E.rt (.pu s.dat)) (fun x => E.xr x ρ)
end
/-! try .. except C as n: .. -/
def dTry (tb : List (Str × Bool)) (i : Nat) (body suite : DS) : DS := fun E ρ => body { E with xr := fun x ρ2 => match tb.lookup x.cls with
  | some true => suite { nx := fun ρ3 => E.nx (setS ρ3 i .un), rt := E.rt, bk := fun ρ3 => E.bk (setS ρ3 i .un), ct := fun ρ3 => E.ct (setS ρ3 i .un), xr := fun _ _ => False } (setS ρ2 i (.an (exA x)))
  | some false => E.xr x ρ2
  | none => False } ρ
end
end L2.D3
set_option maxHeartbeats 4000000
/-! isinstance of a caught exception. -/
namespace L2.D3
open PySem PySem.Spec PyProof.Rows
/-- an exception as isinstance meets it -/
def DictOk (H : Hp) (d : Option Addr) : Prop := d = none ∨ ∃ dd fs, d = some dd ∧ H dd = some (.xd fs)
theorem XAt.dict {K : PySem.W.Frag} {H : Hp} {x : XD} {d : Option Addr} (h : XAt K H x d) : DictOk H d := by
  unfold XAt at h
  cases e : x.fs with
  | nil => rw [e] at h; exact .inl h
  | cons f fs =>
    rw [e] at h
    obtain ⟨a, vs, h1, h2, _⟩ := h
    exact .inr ⟨a, _, h1, h2⟩
/-- what is asked for: an own class, a built-in one -/
inductive Tg where
  | own (x : Str)
  | ty (T : String)
def Tg.v (K : PySem.W.Frag) : Tg → V
  | .own x => .ref (He.ga K x)
  | .ty T => .ty T
def Tg.u (K : PySem.W.Frag) : Tg → Value
  | .own x => .ref (He.ga K x)
  | .ty T => .type T
theorem Tg.cls (K : PySem.W.Frag) : ∀ g : Tg, ClsV (g.v K) (g.u K)
  | .own x => .own _
  | .ty T => .ty T
theorem exF_of {K : PySem.W.Frag} {x : Str} (c : (He.Fa.exc x).ok K = true) : ExF K x := by
  obtain ⟨a, b, c, d⟩ := He.exc_ok c
  exact ⟨a, b, c, d⟩
section
variable {X : Cx}
/-! y = x, of what is no datum -/
def dCpy (i j : Nat) : DS := fun E ρ => match getS ρ j with
  | .an A => E.nx (setS ρ i (.an A))
  | _ => False
end
end L2.D3
set_option maxHeartbeats 4000000
/-! Pools (lists of one number that defs change), the empty dict, .. -/
namespace L2.D3
open PySem PySem.Spec PyProof.Rows
def plainO : HO → Bool
  | .lst _ => true
  | .dK _ => true
  | .dT _ => true
  | .ext _ => true
  | _ => false
section
variable {X : Cx} {pins : List (Addr × Obj)} {σ : St} {H : Hp} {s : Shared}
/-- another description of an object -/
theorem Inv.swap {a : Addr} {o o' : HO} (I : Inv X pins σ H s) (ha : H a = some o) (hp : plainO o = true) (new : ObjOk X.prog X.w (upd H a o') s.heap a o') : Inv X pins σ (upd H a o') s := by
  have ne : ∀ {b : Addr} {u : HO}, H b = some u → plainO u = false → b ≠ a := fun {b u} e n z => by
    rw [z, ha] at e
    cases e
    rw [hp] at n
    cases n
  have no : ∀ {b : Addr}, H b = none → b ≠ a := fun {b} e z => by rw [z, ha] at e; cases e
  refine ⟨I.ok, I.os, I.bare, ⟨I.base.keep, I.base.slot, fun b u e n hx => ?_, I.base.there, fun b xs q => ?_, fun b u v q => ?_, fun b ps q => ?_⟩, I.loc, I.cell, ?_, fun x c e => ?_, fun p hp => ?_, fun b u e => ?_, I.len⟩
  · have z := I.base.free b u e n hx
    rw [upd_ne (no z)]; exact z
  · have z := I.base.tups b xs q
    rw [upd_ne (ne z rfl)]; exact z
  · have z := I.base.frzs b u v q
    rw [upd_ne (ne z rfl)]; exact z
  · obtain ⟨m, z⟩ := I.base.tbls b ps q
    exact ⟨m, by rw [upd_ne (ne z rfl)]; exact z⟩
  · rw [upd_ne (no I.free)]; exact I.free
  · have z := I.freeC x c e
    rw [upd_ne (no z)]; exact z
  · obtain ⟨p1, p2, p3⟩ := I.pin p hp
    exact ⟨p1, by rw [upd_ne (no p2)]; exact p2, p3⟩
  · by_cases c : b = a
    · subst c
      rw [upd_same] at e
      cases e
      exact new
    · rw [upd_ne c] at e
      exact (I.hok b u e).stay (fun _ _ _ q => q) (fun d q => by rw [upd_ne (ne q rfl)]; exact q) fun d xs q => by rw [upd_ne (ne q rfl)]; exact q
theorem pool_ok {P : Program} {w : World} {h : Heap} {a : Addr} {n c : Nat} {t : Tok} (e : h.get? a = some { cls := .type "list", data := .seq #[.int (n : Int) t] c }) : ObjOk P w H h a (PoolO a) :=
  ⟨⟨n, c, t, e⟩, ⟨_, e⟩, fun _ _ ⟨m, c', t', q⟩ k => ⟨m, c', t', k _ q⟩⟩
theorem Inv.pool {a : Addr} {n : Nat} (I : Inv X pins σ H s) (ha : H a = some (.lst [.int n])) : Inv X pins σ (upd H a (PoolO a)) s := by
  obtain ⟨_, its, c, r, e⟩ := I.hok a _ ha
  cases r with
  | cons r1 r2 =>
    cases r2
    obtain ⟨t, rfl⟩ := r1
    exact Inv.swap I ha rfl (pool_ok (n := n) (c := c) (t := t) e)
end
end L2.D3
namespace L2.D3
open PySem PySem.Spec PyProof.Rows
end L2.D3
set_option maxHeartbeats 4000000
/-! Texts: their methods; is of truths; rows repeated. -/
namespace L2.D3
open PySem PySem.Spec PyProof.Rows
section
variable {X : Cx}
/-! x is True, x is not True -/
def oIsB : DO := fun x y Φ => match x, y with
  | .bool a, .bool b => Φ (.bool (decide (a = b)))
  | _, _ => False
def oNotB : DO := fun x y Φ => match x, y with
  | .bool a, .bool b => Φ (.bool (!decide (a = b)))
  | _, _ => False
/-! methods of texts -/
/-- text.m(x): the text, the argument, what is asked of both -/
def dTx (P : Str → Dt → (Dt → Prop) → Prop) (de df : DE) : DE := fun φ Φ => de φ fun x => match x with
  | .str a => df φ fun y => P a y Φ
  | _ => False
def pJoin : Str → Dt → (Dt → Prop) → Prop := fun a y Φ => ∃ ys : List Str, (y = .list (ys.map .str) ∨ y = .tuple (ys.map .str)) ∧ (ys.map (·.length)).sum + ys.length * a.length ≤ 16777216 ∧ Φ (.str (Txt.join a ys))
def pSplit : Str → Dt → (Dt → Prop) → Prop := fun a y Φ => ∃ b : Str, y = .str b ∧ (b.length == 0) = false ∧ a.length + 2 ≤ sizeLine ∧ Φ (.list ((Txt.split a b).map .str))
def pPart : Str → Dt → (Dt → Prop) → Prop := fun a y Φ => ∃ b : Str, y = .str b ∧ (b.length == 0) = false ∧ a.length ≤ sizeLine ∧ Φ (.tuple [.str (Txt.partition a b).1, .str (Txt.partition a b).2.1, .str (Txt.partition a b).2.2])
def pStarts : Str → Dt → (Dt → Prop) → Prop := fun a y Φ => ∃ b : Str, y = .str b ∧ Φ (.bool (Txt.startswith a b))
/-! str(x), int(x) of a text -/
def bStr : List Dt → (Dt → Prop) → Prop := fun ds Φ => match ds with
  | [.int i] => i.natAbs.log2 < 1920 ∧ Φ (.str (toString i))
  | _ => False
def bIntS : List Dt → (Dt → Prop) → Prop := fun ds Φ => match ds with
  | [.str a] => ∃ n, PySem.intText? a = some n ∧ a.length ≤ 640 ∧ Φ (.int n)
  | _ => False
/-! f'..' -/
def dFmt (de : DE) : DE := fun φ Φ => de φ fun x => match x with
  | .str y => y.length ≤ sizeLine ∧ Φ (.str y)
  | .int i => i.natAbs.log2 < 1920 ∧ Φ (.str (toString i))
  | _ => False
def dJs : List DE → Str → DE
  | [], acc => fun _ Φ => Φ (.str acc)
  | d :: ds, acc => fun φ Φ => d φ fun x => ∃ y : Str, x = .str y ∧ (acc ++ y).length ≤ sizeLine ∧ dJs ds (acc ++ y) φ Φ
inductive GJ (X : Cx) : List Expr → List DE → Prop where
  | nil : GJ X [] []
  | cons {e : Expr} {d : DE} {es : List Expr} {ds : List DE} (h : GE X e d) (r : GJ X es ds) : GJ X (e :: es) (d :: ds)
theorem GJ.ex {es : List Expr} {ds : List DE} (h : GJ X es ds) : ∃ ts, PJ X es ts ∧ ∀ acc σ H φ Φ (Q : Str → Hp → Prop), EnvF X.K σ H φ → dJs ds acc φ Φ → (∀ y H', Same H H' → Φ (.str y) → Q y H') → tJs ts acc σ H Q := by
  induction h with
  | nil => exact ⟨[], .nil, fun acc σ H φ Φ Q env h q => q acc H (Same.refl H) h⟩
  | @cons e d es ds he r ih =>
    obtain ⟨te, a1, a2⟩ := he
    obtain ⟨ts, b1, b2⟩ := ih
    refine ⟨te :: ts, .cons a1 b1, fun acc σ H φ Φ Q env h q => a2 σ H φ _ _ env h fun x H1 dx s1 px hx => ?_⟩
    obtain ⟨y, rfl, hl, hx⟩ := hx
    cases px
    exact ⟨y, rfl, hl, b2 (acc ++ y) σ H1 φ Φ Q (env.up s1) hx fun z H' s2 hz => q z H' (s1.trans s2) hz⟩
end
end L2.D3
namespace L2.D3
open PySem PySem.Spec PyProof.Rows
/-! ### expressions whose end is data beside the owned lists -/
abbrev DX := Rho → (Dt → Prop) → Prop
def dXi (i : Nat) (db : DE) : DX := fun ρ Φ => match getS ρ i with
  | .ow ds => db (allF ρ) fun k => match k with
    | .int j => ∃ d, atI ds j = some d ∧ Φ d
    | _ => False
  | _ => False
section
variable {X : Cx} {W : WX}
/-- x = e -/
def dSetG (i : Nat) (dx : DX) : DS := fun E ρ => dx ρ fun d => E.nx (setS ρ i (.pu d))
/-- ys.append(e) -/
def dAppG (i : Nat) (dx : DX) : DS := fun E ρ => match getS ρ i with
  | .ow ds => dx ρ fun d => ds.length < sizeLine ∧ E.nx (setS ρ i (.ow (ds ++ [d])))
  | _ => False
end
end L2.D3
set_option maxHeartbeats 4000000
/-! Exceptions with a field of their own; calls beside owned lists. -/
namespace L2.D3
open PySem PySem.Spec PyProof.Rows
/-! ### SheetError.__init__(self, ..) -/
/-! ### the class's own __init__: SheetError.__init__(self, m); self.f = y -/
/-! raise C(e) -/
end L2.D3
namespace L2.D3
open PySem PySem.Spec PyProof.Rows
theorem t_isN {X : Cx} {a : Expr} {da : DE} {j p2} {pos : Pos} (ha : GE X a da) : GT X (.Compare a [.Is] [.Constant .none j p2] pos) (dTV (dIsN da)) := by
  obtain ⟨t, a1, a2⟩ := ha
  exact ⟨_, pt_cmp (pc_isN a1) rfl, st_test (se_isN a2)⟩
theorem t_notN {X : Cx} {a : Expr} {da : DE} {j p2} {pos : Pos} (ha : GE X a da) : GT X (.Compare a [.IsNot] [.Constant .none j p2] pos) (dTV (dNotN da)) := by
  obtain ⟨t, a1, a2⟩ := ha
  exact ⟨_, pt_cmp (pc_notN a1) rfl, st_test (se_notN a2)⟩
end L2.D3
set_option maxHeartbeats 4000000
/-! try .. except C: without a name. -/
namespace L2.D3
open PySem PySem.Spec PyProof.Rows
end L2.D3
set_option maxHeartbeats 4000000
/-! What is written stands apart from what is tracked; a value is one datum; expressions over all whose end holds no owned list. -/
namespace L2.D3
open PySem PySem.Spec PyProof.Rows
/-! what a datum holds -/
/-! the data of the parts of an owned thing that may change -/
/-! the readings' steps, kind by kind -/
theorem add_ii (i j : Int) (Φ : Dt → Prop) : oAddU (.int i) (.int j) Φ = Φ (.int (i + j)) := rfl
theorem add_ss (a b : Str) (Φ : Dt → Prop) : oAddU (.str a) (.str b) Φ = (a.length + b.length ≤ sizeLine ∧ Φ (.str (a ++ b))) := rfl
theorem add_ll (a b : List Dt) (Φ : Dt → Prop) : oAddU (.list a) (.list b) Φ = (a.length + b.length ≤ sizeLine ∧ Φ (.list (a ++ b))) := rfl
theorem add_tt (a b : List Dt) (Φ : Dt → Prop) : oAddU (.tuple a) (.tuple b) Φ = (a.length + b.length ≤ sizeLine ∧ Φ (.tuple (a ++ b))) := rfl
theorem len_l (a : List Dt) (Φ : Dt → Prop) : bLen [.list a] Φ = Φ (.int a.length) := rfl
theorem len_t (a : List Dt) (Φ : Dt → Prop) : bLen [.tuple a] Φ = Φ (.int a.length) := rfl
theorem len_s (a : Str) (Φ : Dt → Prop) : bLen [.str a] Φ = (a.length ≤ sizeLine ∧ Φ (.int a.length)) := rfl
theorem sl_l (a : List Dt) (lo hi : Option Int) : slD (.list a) lo hi = some (.list (cutD a lo hi)) := rfl
theorem tup_l (a : List Dt) (Φ : Dt → Prop) : bTup [.list a] Φ = Φ (.tuple a) := rfl
theorem tup_t (a : List Dt) (Φ : Dt → Prop) : bTup [.tuple a] Φ = Φ (.tuple a) := rfl
end L2.D3
set_option maxHeartbeats 4000000
/-! found.extend(t), t a tuple. -/
namespace PySem.ExtTup
open PySem PySem.AutoSeq1 Builtin
theorem extT (l : Addr) (xs : Array Value) (n : Nat) (b : Addr) (ys : Array Value) (m : Nat) (dd : Option Addr) (sl) (h0 : ¬ (!xs.isEmpty && Builtin.List.listTooLong (xs.size + ys.size)) = true) (h1 : xs.size ≤ sizeLine) (h2 : xs.size + ys.size ≤ sizeLine + 1) :
    Meets (Builtin.«list.extend» ⟨[.ref l, .ref b], []⟩) (fun _ R s => s.heap.get? l = some { cls := .type "list", dict := none, data := .seq xs n, slots := #[] } ∧ s.heap.get? b = some { cls := .type "tuple", dict := dd, data := .seq ys m, slots := sl } ∧
      R (.ok (.ret Value.none)) { s with heap := s.heap.update l (Obj.mapSeq fun x => x ++ ys), toks := s.toks }) := .of_wp fun prog w A R s h => by
  obtain ⟨hp, g, d, tk, os⟩ := s
  obtain ⟨hl, hb, h⟩ := h
  have f1 := idx_int
  have f2 := sub_tuple_tuple
  have f3 := sub_list_list
  have f4 := sub_tuple_list
  have f5 := sub_list_tuple
  have hz : (xs ++ ys).size ≤ sizeLine + 1 := by rw [Array.size_append]; exact h2
  wp_walk using (wpAny_updateSeq hl rfl (hz := h1) (_hz' := hz)), wpAny_loadPart' hl, wpAny_loadPart' hb
  exact ⟨_, rfl, h⟩
end PySem.ExtTup
namespace L2.D3
open PySem PySem.Spec PyProof.Rows
section
variable {X : Cx} {W : WX}
def rExtT (K : PySem.W.Frag) : V → List V → Hp → VK → Prop := fun x vs H Q => ∃ l b xs zs, x = .ref l ∧ vs = [.ref b] ∧ H l = some (.lst xs) ∧ SqT K H b zs ∧ xs.length + zs.length ≤ sizeLine ∧ Q .non (upd H l (.lst (xs ++ zs)))
theorem mt_extT : MtM X "list.extend" (rExtT X.K) := by
  intro pins s σ H x vs v us Q I rx rv h
  obtain ⟨l, b, xs, zs, rfl, rfl, hH, hB, hz, q⟩ := h
  cases rx
  obtain ⟨u, rfl, ru⟩ := rv.one
  cases ru
  obtain ⟨z, its, n, r, hl, e⟩ := I.lstM hH
  obtain ⟨its2, r2, ⟨⟨k2, dd2, dt2, sl2⟩, e2, c2, n2, d2⟩, z2⟩ := I.tuple hB
  simp only at c2 d2
  subst c2 d2
  have hl2 := r2.length
  have sz : its.toArray.size + its2.toArray.size ≤ sizeLine := by rw [List.size_toArray, List.size_toArray]; omega
  have nolong : ¬ (!its.toArray.isEmpty && Builtin.List.listTooLong (its.toArray.size + its2.toArray.size)) = true := fun y => by
    rw [notLongL sz, Bool.and_false] at y
    cases y
  refine call_meets F.slot_list_extend ⟨_, e, rfl⟩ F.entry_list_extend (F.args_list_extend_2 _ _) (PySem.ExtTup.extT l its.toArray n b its2.toArray n2 dd2 sl2 nolong (by rw [List.size_toArray]; omega) (by omega)) ⟨e, e2, ?_⟩
  exact ⟨.non, _, I.lset (its' := its ++ its2) hH e (by simp) (r.append r2) (by rw [List.length_append]; omega), rfl, q⟩
def dExtT (i : Nat) (de : DE) : DS := fun E ρ => match getS ρ i with
  | .ow ds => de (purF ρ) fun d => match d with
    | .tuple es => ds.length + es.length ≤ sizeLine ∧ E.nx (setS ρ i (.ow (ds ++ es)))
    | _ => False
  | _ => False
theorem s_extT {i : Nat} {x : Str} {e : Expr} {de : DE} {p apos cpos pos : Pos} (he : GE X e de) (hN : X.N[i]? = some x := by rfl) (hv : Vis X.env.scope x := by first | exact Or.inl rfl | exact Or.inr (Or.inl rfl) | exact Or.inr (Or.inr rfl)) (hdb : (x == ("__debug__" : Str)) = false := by decide) (hcd : (x == ("__classdict__" : Str)) = false := by decide)
    (hbase : attributeBase (.Name x p) "extend" X.env (eval (.Name x p) X.env) = eval (.Name x p) X.env := by rfl) (hst : starEach [e] X.env = (false, eval e X.env) :: starEach [] X.env := by rfl) (hline : (apos.endLine == cpos.line) = true := by rfl)
    (hfew : ((backTo cpos (starEach [e] X.env)).all (fun x => !x.1) && (backToKw cpos (keywordEach [] X.env)).all (fun x => x.1.isSome) && decide (([e] : List Expr).length + ([] : List Keyword).length + (if ([] : List Keyword).isEmpty then 0 else 1) < 30)) = true := by rfl)
    (hplain : (backTo cpos (starEach [] X.env)).any (·.1) = false := by rfl)
    (hs : swapsWith (.Call (.Attribute (.Name x p) "extend" apos) [e] [] cpos) none pos.line X.env = pure false := by rfl) :
    GS X W (.Expr (.Call (.Attribute (.Name x p) "extend" apos) [e] [] cpos) pos) (dExtT i de) := by
  obtain ⟨te, a1, a2⟩ := he
  refine ⟨_, ps_expr (pe_bm PySem.F.plainAttrs_list PySem.F.slot_list_extend PySem.F.type_list_extend mt_extT (pe_var hN hv hdb hcd) (pa_cons (pe_frame a1) pa_nil hst) hbase hfew hline hst hplain) hs, fun D E F σ H ρ env h m => ?_⟩
  unfold dExtT at h
  cases q : getS ρ i with
  | ow ds =>
    rw [q] at h
    obtain ⟨a, us, h1, h2, h3, h4⟩ := env.ow i ds q
    refine ⟨_, h1, .inl ⟨rfl, _, SqL.of h2⟩, ss_frame (k := fun v σ H' => (tNil σ H' fun xs H2 => rExtT X.K (.ref a) (v :: xs) H2 fun _ H1 => D.nx σ H1)) a2 env h fun F' H' v d s env' pv hd => ?_⟩
    obtain ⟨a', vs, g1, g2, g3, g4⟩ := env'.ow i ds q
    rw [h1] at g1
    cases g1
    cases d with
    | tuple es =>
      cases pv with
      | @tup b0 zs0 _ hs ha => exact ⟨a, _, vs, _, rfl, rfl, g2, sqT_mono env'.fz.same hs, by rw [g4.len, ha.len]; exact hd.1, m.nx F' _ _ _ s (env'.mut i q h1 (g4.app ha)) hd.2⟩
    | _ => exact hd.elim
  | _ => rw [q] at h; exact h.elim
end
end L2.D3
set_option maxHeartbeats 4000000
/-! Numbers as Rat, points, sides; sizes; what equals what. -/
namespace L2.D3
open PySem PySem.Spec PyProof.Rows
/-! ### numbers as data -/
def eQ (q : Rat) : Dt := .tuple [.int q.num, .int q.den]
abbrev Pt := Rat × Rat
def eP (p : Pt) : Dt := .tuple [eQ p.1, eQ p.2]
abbrev Sd := Pt × Pt
def eS (s : Sd) : Dt := .tuple [eP s.1, eP s.2]
theorem nsp_eQ (q : Rat) : spec (eQ q) = false := rfl
theorem nsp_eP (p : Pt) : spec (eP p) = false := rfl
theorem nsp_eS (s : Sd) : spec (eS s) = false := rfl
theorem eqv_eQ (a b : Rat) : PyData.eqv (eQ a) (eQ b) = decide (a = b) := by
  unfold eQ
  simp only [PyData.eqv, PyData.eqvAll, Bool.and_true]
  by_cases h : a = b
  · subst h; simp
  · rw [decide_eq_false h, Bool.and_eq_false_iff]
    by_cases h1 : a.num = b.num
    · right
      have h2 : a.den ≠ b.den := fun z => h (Rat.ext h1 z)
      rw [beq_eq_false_iff_ne]
      exact fun z => h2 (by exact_mod_cast z)
    · left
      rw [beq_eq_false_iff_ne]
      exact h1
theorem eqv_eP (a b : Pt) : PyData.eqv (eP a) (eP b) = decide (a = b) := by
  unfold eP
  simp only [PyData.eqv, PyData.eqvAll, Bool.and_true, eqv_eQ]
  by_cases h : a = b
  · subst h; simp
  · rw [decide_eq_false h, Bool.and_eq_false_iff]
    by_cases h1 : a.1 = b.1
    · right; exact decide_eq_false fun z => h (Prod.ext h1 z)
    · left; exact decide_eq_false h1
theorem eqv_eS (a b : Sd) : PyData.eqv (eS a) (eS b) = decide (a = b) := by
  unfold eS
  simp only [PyData.eqv, PyData.eqvAll, Bool.and_true, eqv_eP]
  by_cases h : a = b
  · subst h; simp
  · rw [decide_eq_false h, Bool.and_eq_false_iff]
    by_cases h1 : a.1 = b.1
    · right; exact decide_eq_false fun z => h (Prod.ext h1 z)
    · left; exact decide_eq_false h1
theorem eqvAll_map {α : Type} [DecidableEq α] {f : α → Dt} (hf : ∀ a b, PyData.eqv (f a) (f b) = decide (a = b)) : ∀ xs ys : List α, PyData.eqvAll (xs.map f) (ys.map f) = decide (xs = ys)
  | [], [] => rfl
  | [], _ :: _ => rfl
  | _ :: _, [] => rfl
  | x :: xs, y :: ys => by
    show (PyData.eqv (f x) (f y) && PyData.eqvAll (xs.map f) (ys.map f)) = _
    rw [hf, eqvAll_map hf xs ys]
    by_cases h1 : x = y
    · by_cases h2 : xs = ys
      · simp [h1, h2]
      · simp [h1, h2]
    · simp [h1]
theorem eqv_list {α : Type} [DecidableEq α] {f : α → Dt} (hf : ∀ a b, PyData.eqv (f a) (f b) = decide (a = b)) (xs ys : List α) : PyData.eqv (.list (xs.map f)) (.list (ys.map f)) = decide (xs = ys) := eqvAll_map hf xs ys
/-! shaped -/
theorem shaped_iff {d : Dt} : SeqAt.shaped d = true ↔ d.canLay0 = true ∧ d.depth ≤ 64 := by
  unfold SeqAt.shaped
  rw [Bool.and_eq_true, decide_eq_true_iff]
/-- laid at most n deep -/
def Sh (n : Nat) (d : Dt) : Prop := d.canLay0 = true ∧ d.depth ≤ n
theorem Sh.shaped {n : Nat} {d : Dt} (h : Sh n d) (hn : n ≤ 64) : SeqAt.shaped d = true := shaped_iff.mpr ⟨h.1, Nat.le_trans h.2 hn⟩
theorem Sh.mono {n m : Nat} {d : Dt} (h : Sh n d) (hn : n ≤ m) : Sh m d := ⟨h.1, Nat.le_trans h.2 hn⟩
theorem sh_int (n : Nat) (i : Int) : Sh n (.int i) := ⟨by simp [PyData.canLay0], by simp [PyData.depth]⟩
theorem sh_bool (n : Nat) (i : Bool) : Sh n (.bool i) := ⟨by simp [PyData.canLay0], by simp [PyData.depth]⟩
theorem sh_none (n : Nat) : Sh n .none := ⟨by simp [PyData.canLay0], by simp [PyData.depth]⟩
theorem shAll {n : Nat} : ∀ {ds : List Dt}, (∀ d ∈ ds, Sh n d) → PyData.canLayAll0 ds = true ∧ PyData.depthAll ds ≤ n
  | [], _ => ⟨by simp [PyData.canLayAll0], by simp [PyData.depthAll]⟩
  | d :: ds, h => by
    obtain ⟨h1, h2⟩ := h d List.mem_cons_self
    obtain ⟨h3, h4⟩ := shAll (ds := ds) fun e he => h e (List.mem_cons_of_mem _ he)
    refine ⟨by simp [PyData.canLayAll0, h1, h3], ?_⟩
    simp only [PyData.depthAll]
    omega
theorem sh_tuple {n : Nat} {ds : List Dt} (h : ∀ d ∈ ds, Sh n d) : Sh (n + 1) (.tuple ds) := by
  obtain ⟨h1, h2⟩ := shAll h
  exact ⟨by simp only [PyData.canLay0]; exact h1, by simp only [PyData.depth]; omega⟩
theorem sh_list {n : Nat} {ds : List Dt} (h : ∀ d ∈ ds, Sh n d) : Sh (n + 1) (.list ds) := by
  obtain ⟨h1, h2⟩ := shAll h
  exact ⟨by simp only [PyData.canLay0]; exact h1, by simp only [PyData.depth]; omega⟩
theorem sh_eQ (q : Rat) : Sh 1 (eQ q) := sh_tuple fun d hd => by
  simp only [List.mem_cons, List.not_mem_nil, or_false] at hd
  rcases hd with rfl | rfl <;> exact sh_int 0 _
theorem sh_eP (p : Pt) : Sh 2 (eP p) := sh_tuple fun d hd => by
  simp only [List.mem_cons, List.not_mem_nil, or_false] at hd
  rcases hd with rfl | rfl <;> exact sh_eQ _
theorem sh_eS (p : Sd) : Sh 3 (eS p) := sh_tuple fun d hd => by
  simp only [List.mem_cons, List.not_mem_nil, or_false] at hd
  rcases hd with rfl | rfl <;> exact sh_eP _
theorem sh_map {α : Type} {n : Nat} {f : α → Dt} (h : ∀ a, Sh n (f a)) (xs : List α) : ∀ d ∈ xs.map f, Sh n d := fun d hd => by
  obtain ⟨a, _, rfl⟩ := List.mem_map.mp hd
  exact h a
theorem shp_int (i : Int) : SeqAt.shaped (.int i) = true := (sh_int 0 i).shaped (by decide)
theorem shp_bool (i : Bool) : SeqAt.shaped (.bool i) = true := (sh_bool 0 i).shaped (by decide)
theorem shp_none : SeqAt.shaped .none = true := (sh_none 0).shaped (by decide)
theorem shp_eQ (q : Rat) : SeqAt.shaped (eQ q) = true := (sh_eQ q).shaped (by decide)
theorem shp_eP (q : Pt) : SeqAt.shaped (eP q) = true := (sh_eP q).shaped (by decide)
theorem shp_eS (q : Sd) : SeqAt.shaped (eS q) = true := (sh_eS q).shaped (by decide)
theorem shp_ps (xs : List Pt) : SeqAt.shaped (.list (xs.map eP)) = true := (sh_list (sh_map sh_eP xs)).shaped (by decide)
theorem shp_pt (xs : List Pt) : SeqAt.shaped (.tuple (xs.map eP)) = true := (sh_tuple (sh_map sh_eP xs)).shaped (by decide)
theorem shp_ss (xs : List Sd) : SeqAt.shaped (.list (xs.map eS)) = true := (sh_list (sh_map sh_eS xs)).shaped (by decide)
theorem shp_is (xs : List Int) : SeqAt.shaped (.list (xs.map .int)) = true := (sh_list (sh_map (sh_int 0) xs)).shaped (by decide)
theorem eqv_int (a b : Int) : PyData.eqv (.int a) (.int b) = decide (a = b) := by
  simp only [PyData.eqv]
  by_cases h : a = b
  · subst h; simp
  · rw [decide_eq_false h]; exact beq_eq_false_iff_ne.mpr h
theorem eqv_bool (a b : Bool) : PyData.eqv (.bool a) (.bool b) = decide (a = b) := by
  cases a <;> cases b <;> rfl
/-! items -/
theorem it_eQ0 (q : Rat) : itemD (eQ q) 0 = some (.int q.num) := rfl
theorem it_eQ1 (q : Rat) : itemD (eQ q) 1 = some (.int q.den) := rfl
theorem it_eP0 (q : Pt) : itemD (eP q) 0 = some (eQ q.1) := rfl
theorem it_eP1 (q : Pt) : itemD (eP q) 1 = some (eQ q.2) := rfl
theorem it_eS0 (q : Sd) : itemD (eS q) 0 = some (eP q.1) := rfl
theorem it_eS1 (q : Sd) : itemD (eS q) 1 = some (eP q.2) := rfl
theorem fits_eQ (q : Rat) : fitsD (eQ q) := trivial
theorem fits_eP (q : Pt) : fitsD (eP q) := trivial
theorem fits_eS (q : Sd) : fitsD (eS q) := trivial
/-! ### sizes -/
/-- top and bottom below 2 ^ n -/
def Bd (n : Nat) (q : Rat) : Prop := q.num.natAbs < 2 ^ n ∧ q.den < 2 ^ n
theorem Bd.mono {n m : Nat} {q : Rat} (h : Bd n q) (hn : n ≤ m) : Bd m q :=
  ⟨Nat.lt_of_lt_of_le h.1 (Nat.pow_le_pow_right (by decide) hn), Nat.lt_of_lt_of_le h.2 (Nat.pow_le_pow_right (by decide) hn)⟩
theorem Bd.pos {n : Nat} {q : Rat} (h : Bd n q) : 0 < n := by
  cases n with
  | zero =>
    have h1 := h.2
    have h2 := q.den_pos
    simp at h1
    omega
  | succ n => exact Nat.succ_pos n
theorem bd_divInt {t b : Int} {n : Nat} (ht : t.natAbs < 2 ^ n) (hb : b.natAbs < 2 ^ n) (h0 : b ≠ 0) : Bd n (Rat.divInt t b) := by
  have hb0 : b.natAbs ≠ 0 := by omega
  refine ⟨?_, ?_⟩
  · rw [Rat.num_divInt]
    have h1 : (b.sign * t / (b.gcd t : Nat)).natAbs ≤ (b.sign * t).natAbs := Int.natAbs_ediv_le_natAbs _ _
    have h2 : (b.sign * t).natAbs ≤ t.natAbs := by
      rw [Int.natAbs_mul]
      have h3 : b.sign.natAbs ≤ 1 := by
        rcases Int.lt_trichotomy b 0 with h | h | h
        · rw [Int.sign_eq_neg_one_of_neg h]; decide
        · rw [h]; decide
        · rw [Int.sign_eq_one_of_pos h]; decide
      calc b.sign.natAbs * t.natAbs ≤ 1 * t.natAbs := Nat.mul_le_mul_right _ h3
        _ = t.natAbs := Nat.one_mul _
    omega
  · rw [Rat.den_divInt, if_neg h0]
    exact Nat.lt_of_le_of_lt (Nat.div_le_self _ _) hb
theorem den_ne (q : Rat) : (q.den : Int) ≠ 0 := by have := q.den_pos; omega
theorem mul_lt2 {a b : Int} {n m : Nat} (ha : a.natAbs < 2 ^ n) (hb : b.natAbs < 2 ^ m) : (a * b).natAbs < 2 ^ (n + m) := wide_lt ha hb
theorem bd_num {n : Nat} {q : Rat} (h : Bd n q) : q.num.natAbs < 2 ^ n := h.1
theorem bd_den {n : Nat} {q : Rat} (h : Bd n q) : ((q.den : Int)).natAbs < 2 ^ n := by rw [Int.natAbs_natCast]; exact h.2
theorem add_lt2 {a b : Int} {n : Nat} (ha : a.natAbs < 2 ^ n) (hb : b.natAbs < 2 ^ n) : (a + b).natAbs < 2 ^ (n + 1) := by
  rw [Nat.pow_succ]
  omega
theorem sub_lt2 {a b : Int} {n : Nat} (ha : a.natAbs < 2 ^ n) (hb : b.natAbs < 2 ^ n) : (a - b).natAbs < 2 ^ (n + 1) := by
  rw [Nat.pow_succ]
  omega
theorem add_div (a b : Rat) : a + b = Rat.divInt (a.num * b.den + b.num * a.den) (a.den * b.den) := by
  rw [Rat.add_def', ← Rat.divInt_ofNat, Int.natCast_mul]
theorem sub_div (a b : Rat) : a - b = Rat.divInt (a.num * b.den - b.num * a.den) (a.den * b.den) := by
  rw [Rat.sub_def', ← Rat.divInt_ofNat, Int.natCast_mul]
theorem mul_div (a b : Rat) : a * b = Rat.divInt (a.num * b.num) (a.den * b.den) := by
  rw [Rat.mul_def', ← Rat.divInt_ofNat, Int.natCast_mul]
theorem div_div (a b : Rat) : a / b = Rat.divInt (a.num * b.den) (a.den * b.num) := by
  rw [Rat.div_def, Rat.inv_def]
  conv => lhs; rw [← Rat.num_divInt_den a]
  exact Rat.divInt_mul_divInt _ _
theorem Bd.add {n m : Nat} {a b : Rat} (ha : Bd n a) (hb : Bd m b) : Bd (n + m + 1) (a + b) := by
  rw [add_div]
  have k1 := mul_lt2 (bd_num ha) (bd_den hb)
  have k2 := mul_lt2 (bd_num hb) (bd_den ha)
  rw [Nat.add_comm] at k2
  refine bd_divInt (add_lt2 k1 k2) ?_ (Int.mul_ne_zero (den_ne a) (den_ne b))
  exact Nat.lt_trans (mul_lt2 (bd_den ha) (bd_den hb)) (Nat.pow_lt_pow_right (by decide) (Nat.lt_succ_self _))
theorem Bd.sub {n m : Nat} {a b : Rat} (ha : Bd n a) (hb : Bd m b) : Bd (n + m + 1) (a - b) := by
  rw [sub_div]
  have k1 := mul_lt2 (bd_num ha) (bd_den hb)
  have k2 := mul_lt2 (bd_num hb) (bd_den ha)
  rw [Nat.add_comm] at k2
  refine bd_divInt (sub_lt2 k1 k2) ?_ (Int.mul_ne_zero (den_ne a) (den_ne b))
  exact Nat.lt_trans (mul_lt2 (bd_den ha) (bd_den hb)) (Nat.pow_lt_pow_right (by decide) (Nat.lt_succ_self _))
theorem Bd.mul {n m : Nat} {a b : Rat} (ha : Bd n a) (hb : Bd m b) : Bd (n + m) (a * b) := by
  rw [mul_div]
  exact bd_divInt (mul_lt2 (bd_num ha) (bd_num hb)) (mul_lt2 (bd_den ha) (bd_den hb)) (Int.mul_ne_zero (den_ne a) (den_ne b))
theorem Bd.div {n m : Nat} {a b : Rat} (ha : Bd n a) (hb : Bd m b) (h0 : b ≠ 0) : Bd (n + m) (a / b) := by
  rw [div_div]
  have hn : b.num ≠ 0 := fun z => h0 (Rat.num_eq_zero.mp z)
  exact bd_divInt (mul_lt2 (bd_num ha) (bd_den hb)) (mul_lt2 (bd_den ha) (bd_num hb)) (Int.mul_ne_zero (den_ne a) hn)
theorem cm {a b : Int} {n m : Nat} (ha : a.natAbs < 2 ^ n) (hb : b.natAbs < 2 ^ m) (h : n + m ≤ 900000) : CMulW a b :=
  wide_mul (Nat.lt_of_lt_of_le ha (Nat.pow_le_pow_right (by decide) (Nat.le_succ n))) (Nat.lt_of_lt_of_le hb (Nat.pow_le_pow_right (by decide) (Nat.le_succ m))) (Nat.succ_pos n) (Nat.succ_pos m) (by omega)
theorem cfd {a b : Int} {m : Nat} (h0 : b ≠ 0) (hb : b.natAbs < 2 ^ m) (h : m ≤ 8999) : CFd a b :=
  ⟨h0, Nat.lt_of_lt_of_le (PySem.Flt.log2_lt_of (Nat.succ_pos m) (Nat.lt_of_lt_of_le hb (Nat.pow_le_pow_right (by decide) (Nat.le_succ m)))) (by omega)⟩
/-! ### the greatest common divisor by remainders -/
theorem gcd_step (h l : Int) (hl : 0 < l) : Int.gcd l (h.fmod l) = Int.gcd h l := by
  rw [Int.fmod_eq_emod_of_nonneg h (Int.le_of_lt hl), Int.gcd_comm l, Int.emod_def]
  have e : h - l * (h / l) = h + (-(h / l)) * l := by rw [Int.neg_mul, Int.mul_comm l, Int.sub_eq_add_neg]
  rw [e]
  exact Int.gcd_add_mul_right_left l h (-(h / l))
/-- top and bottom by the greatest common divisor -/
theorem low_num {t b : Int} {g : Int} (hg : g = if b < 0 then 0 - ((Int.gcd t b : Nat) : Int) else ((Int.gcd t b : Nat) : Int)) (h0 : b ≠ 0) : PyData.tuple [.int (t.fdiv g), .int (b.fdiv g)] = eQ (Rat.divInt t b) := by
  have hd0 : (Int.gcd t b) ≠ 0 := fun z => h0 (Int.gcd_eq_zero_iff.mp z).2
  have e1 : Int.gcd b t = Int.gcd t b := Int.gcd_comm b t
  obtain ⟨t', ht⟩ : ((Int.gcd t b : Nat) : Int) ∣ t := Int.gcd_dvd_left ..
  obtain ⟨b', hb⟩ : ((Int.gcd t b : Nat) : Int) ∣ b := Int.gcd_dvd_right ..
  have hdpos : (0 : Int) < (Int.gcd t b : Nat) := by omega
  unfold eQ
  rw [Rat.num_divInt, Rat.den_divInt, if_neg h0, e1]
  by_cases hb0 : b < 0
  · rw [if_pos hb0] at hg
    have hs : b.sign = -1 := Int.sign_eq_neg_one_of_neg hb0
    have f1 : t.fdiv g = b.sign * t / ((Int.gcd t b : Nat) : Int) := by
      rw [hs, hg]
      generalize ((Int.gcd t b : Nat) : Int) = d at *
      subst ht
      have : (-1 : Int) * (d * t') = d * (-t') := by rw [Int.neg_one_mul, Int.mul_neg]
      rw [this, Int.mul_ediv_cancel_left _ (by omega)]
      have e2 : d * t' = (0 - d) * (-t') := by rw [Int.zero_sub, Int.neg_mul_neg]
      rw [e2, Int.mul_fdiv_cancel_left _ (by omega)]
    have f2 : b.fdiv g = ((b.natAbs / Int.gcd t b : Nat) : Int) := by
      have e3 : ((b.natAbs / Int.gcd t b : Nat) : Int) = (-b) / ((Int.gcd t b : Nat) : Int) := by
        rw [Int.natCast_ediv]
        congr 1
        omega
      rw [e3, hg]
      generalize ((Int.gcd t b : Nat) : Int) = d at *
      have e4 : -b = d * (-b') := by rw [hb, Int.mul_neg]
      have e5 : b = (0 - d) * (-b') := by rw [Int.zero_sub, Int.neg_mul_neg]; exact hb
      rw [e4, Int.mul_ediv_cancel_left _ (by omega)]
      conv => lhs; rw [e5]
      rw [Int.mul_fdiv_cancel_left _ (by omega)]
    rw [f1, f2]
  · rw [if_neg hb0] at hg
    have hs : b.sign = 1 := Int.sign_eq_one_of_pos (by omega)
    have f1 : t.fdiv g = b.sign * t / ((Int.gcd t b : Nat) : Int) := by
      rw [hs, hg, Int.one_mul, Int.fdiv_eq_ediv_of_nonneg _ (Int.le_of_lt hdpos)]
    have f2 : b.fdiv g = ((b.natAbs / Int.gcd t b : Nat) : Int) := by
      have e3 : ((b.natAbs / Int.gcd t b : Nat) : Int) = b / ((Int.gcd t b : Nat) : Int) := by
        rw [Int.natCast_ediv]
        congr 1
        omega
      rw [e3, hg, Int.fdiv_eq_ediv_of_nonneg _ (Int.le_of_lt hdpos)]
    rw [f1, f2]
end L2.D3
set_option maxHeartbeats 4000000
/-! The contracts and readings of numbers and points. -/
namespace L2.D3
open PySem PySem.Spec PyProof.Rows
def sp_great_part : DSp := fun ds Φ _ => ∃ a b : Int, ds = [.int a, .int b] ∧ Φ (.pu (.int (Int.gcd a b : Nat)))
def sp_lowest : DSp := fun ds Φ _ => ∃ t b : Int, ds = [.int t, .int b] ∧ b ≠ 0 ∧ b.natAbs < 2 ^ 8990 ∧ Φ (.pu (eQ (Rat.divInt t b)))
def sp_plus : DSp := fun ds Φ _ => ∃ (a b : Rat) (n m : Nat), ds = [eQ a, eQ b] ∧ Bd n a ∧ Bd m b ∧ n + m ≤ 8990 ∧ Φ (.pu (eQ (a + b)))
def sp_minus : DSp := fun ds Φ _ => ∃ (a b : Rat) (n m : Nat), ds = [eQ a, eQ b] ∧ Bd n a ∧ Bd m b ∧ n + m ≤ 8990 ∧ Φ (.pu (eQ (a - b)))
def sp_times : DSp := fun ds Φ _ => ∃ (a b : Rat) (n m : Nat), ds = [eQ a, eQ b] ∧ Bd n a ∧ Bd m b ∧ n + m ≤ 8990 ∧ Φ (.pu (eQ (a * b)))
def sp_below : DSp := fun ds Φ _ => ∃ (a b : Rat) (n m : Nat), ds = [eQ a, eQ b] ∧ Bd n a ∧ Bd m b ∧ n + m ≤ 100000 ∧ Φ (.pu (.bool (decide (a < b))))
abbrev N_great_part : List Str := ["one", "other", "high", "low"]
def d_great_part : DS := (dSeq (dPar 2 3 (dCons (dB bAbs (dCons (dV 0) dNil)) (dCons (dB bAbs (dCons (dV 1) dNil)) dNil)))
  (dSeq (dWhile (dTV (dBin oGt (dV 3) (dC (.int 0)))) (dPar 2 3 (dCons (dV 3) (dCons (dBin oMd (dV 2) (dV 3)) dNil))))
  (dRet (dV 2))))
abbrev N_lowest : List Str := ["top", "bottom", "shared"]
def d_lowest : DS := (dSeq (dSetP 2 (dCall sp_great_part (dCons (dV 0) (dCons (dV 1) dNil))))
  (dSeq (dIf (dTV (dBin oLt (dV 1) (dC (.int 0)))) (dSetP 2 (dBin oSubI (dC (.int 0)) (dV 2))) dNext)
  (dRet (dTup (dCons (dBin oFd (dV 0) (dV 2)) (dCons (dBin oFd (dV 1) (dV 2)) dNil))))))
abbrev N_plus : List Str := ["a", "b"]
def d_plus : DS := (dRet (dCall sp_lowest (dCons (dBin oAddU (dBin oMulU (dBin oIx (dV 0) (dC (.int 0))) (dBin oIx (dV 1) (dC (.int 1)))) (dBin oMulU (dBin oIx (dV 1) (dC (.int 0))) (dBin oIx (dV 0) (dC (.int 1))))) (dCons (dBin oMulU (dBin oIx (dV 0) (dC (.int 1))) (dBin oIx (dV 1) (dC (.int 1)))) dNil))))
abbrev N_minus : List Str := ["a", "b"]
def d_minus : DS := (dRet (dCall sp_lowest (dCons (dBin oSubI (dBin oMulU (dBin oIx (dV 0) (dC (.int 0))) (dBin oIx (dV 1) (dC (.int 1)))) (dBin oMulU (dBin oIx (dV 1) (dC (.int 0))) (dBin oIx (dV 0) (dC (.int 1))))) (dCons (dBin oMulU (dBin oIx (dV 0) (dC (.int 1))) (dBin oIx (dV 1) (dC (.int 1)))) dNil))))
abbrev N_times : List Str := ["a", "b"]
def d_times : DS := (dRet (dCall sp_lowest (dCons (dBin oMulU (dBin oIx (dV 0) (dC (.int 0))) (dBin oIx (dV 1) (dC (.int 0)))) (dCons (dBin oMulU (dBin oIx (dV 0) (dC (.int 1))) (dBin oIx (dV 1) (dC (.int 1)))) dNil))))
abbrev N_below : List Str := ["a", "b"]
def d_below : DS := (dRet (dBin oLt (dBin oMulU (dBin oIx (dV 0) (dC (.int 0))) (dBin oIx (dV 1) (dC (.int 1)))) (dBin oMulU (dBin oIx (dV 1) (dC (.int 0))) (dBin oIx (dV 0) (dC (.int 1))))))
theorem rd_great_part (ds : List Dt) (Φ : Slot → Prop) (Ξ : XD → Prop) (h : sp_great_part ds Φ Ξ) : d_great_part (endsOf Φ Ξ) (rho0 N_great_part ds) := by
  obtain ⟨a, b, rfl, h⟩ := h
  simp only [d_great_part, N_great_part, dRet, dRetF, dSetX, dCallX, dRetX, noOw, dTry, dCpy, dRaise, dRetO, dSetP, dSetS, dSetF, dSeq, dIf, dNext, dCall, dCallF, dB, dBin, dCons, dNil, dTup, dLst, dV, dC, dTV, onB, dTAnd, dTOr, dTNot, dAnd, dOr, dNot, dIfE, dIsN, dNotN, isN, dSl, dSlF, dNoPart, dPart, dPar, dParS, dAsg, dgN, dgT, dgCons, dgNil, seqD, dFE, dIsi, dListF, dNeg, dRev, dFrz, dApp, dAppS, dIns, dExtend, dClear, dReverse, dPop, oIx, oI, oIC, oAddU, oSubI, oMulU, oMulI, oFd, oMd, oPw, oLt, oLe, oGt, oGe, oEq, oNe, getF, setF, Cl.d, getS, setS, purF, allF, rho0, endsOf, scalD, bLen, bAbs, bInt, bIntU, bTup, Slot.dat, true_and, and_true, Option.some.injEq, exists_eq_left', decide_eq_true_eq, Bool.not_eq_true', decide_eq_false_iff_not, it_eQ0, it_eQ1, it_eP0, it_eP1, it_eS0, it_eS1, fits_eQ, fits_eP, fits_eS, eqv_eQ, eqv_eP, eqv_eS, eqv_int, eqv_bool, shp_int, shp_bool, shp_none, shp_eQ, shp_eP, shp_eS, dCont, dBreak, dXi, dSetG, dAppG, oIsB, oNotB, dTx, pJoin, pSplit, pPart, pStarts, bStr, bIntS, dFmt, dJs, ↓reduceIte, nsp_none, nsp_bool, nsp_int, nsp_str, nsp_list, nsp_tuple, nsp_eQ, nsp_eP, nsp_eS, dWhile]
  refine ⟨fun m ρ => ∃ h l : Nat, ρ = [.pu (.int a), .pu (.int b), .pu (.int h), .pu (.int l)] ∧ m = l ∧ Int.gcd h l = Int.gcd a b, ⟨_, _, _, rfl, rfl, ?_⟩, ?_⟩
  · simp [Int.gcd]
  · rintro m ρ' ⟨h1, l, rfl, rfl, hg⟩
    simp only [dRet, dRetF, dSetX, dCallX, dRetX, noOw, dTry, dCpy, dRaise, dRetO, dSetP, dSetS, dSetF, dSeq, dIf, dNext, dCall, dCallF, dB, dBin, dCons, dNil, dTup, dLst, dV, dC, dTV, onB, dTAnd, dTOr, dTNot, dAnd, dOr, dNot, dIfE, dIsN, dNotN, isN, dSl, dSlF, dNoPart, dPart, dPar, dParS, dAsg, dgN, dgT, dgCons, dgNil, seqD, dFE, dIsi, dListF, dNeg, dRev, dFrz, dApp, dAppS, dIns, dExtend, dClear, dReverse, dPop, oIx, oI, oIC, oAddU, oSubI, oMulU, oMulI, oFd, oMd, oPw, oLt, oLe, oGt, oGe, oEq, oNe, getF, setF, Cl.d, getS, setS, purF, allF, rho0, endsOf, scalD, bLen, bAbs, bInt, bIntU, bTup, Slot.dat, true_and, and_true, Option.some.injEq, exists_eq_left', decide_eq_true_eq, Bool.not_eq_true', decide_eq_false_iff_not, it_eQ0, it_eQ1, it_eP0, it_eP1, it_eS0, it_eS1, fits_eQ, fits_eP, fits_eS, eqv_eQ, eqv_eP, eqv_eS, eqv_int, eqv_bool, shp_int, shp_bool, shp_none, shp_eQ, shp_eP, shp_eS, dCont, dBreak, dXi, dSetG, dAppG, oIsB, oNotB, dTx, pJoin, pSplit, pPart, pStarts, bStr, bIntS, dFmt, dJs, ↓reduceIte, nsp_none, nsp_bool, nsp_int, nsp_str, nsp_list, nsp_tuple, nsp_eQ, nsp_eP, nsp_eS]
    split
    · rename_i hl
      refine ⟨by omega, (Int.fmod h1 m).toNat, ?_, m, _, ?_, rfl, ?_⟩
      · have h0 : (0 : Int) ≤ (h1 : Int).fmod m := Int.fmod_nonneg_of_pos _ (by omega)
        have h2 : (h1 : Int).fmod m < m := Int.fmod_lt_of_pos _ (by omega)
        omega
      · have h0 : (0 : Int) ≤ (h1 : Int).fmod m := Int.fmod_nonneg_of_pos _ (by omega)
        rw [Int.toNat_of_nonneg h0]
      · have h0 : (0 : Int) ≤ (h1 : Int).fmod m := Int.fmod_nonneg_of_pos _ (by omega)
        rw [Int.toNat_of_nonneg h0, gcd_step _ _ (by omega)]
        exact hg
    · rename_i hl
      have e : m = 0 := by omega
      subst e
      rw [show ((0 : Nat) : Int) = 0 from rfl, Int.gcd_zero_right] at hg
      have hg' : h1 = Int.gcd a b := by simpa using hg
      rw [hg']
      exact h
theorem rd_lowest (ds : List Dt) (Φ : Slot → Prop) (Ξ : XD → Prop) (h : sp_lowest ds Φ Ξ) : d_lowest (endsOf Φ Ξ) (rho0 N_lowest ds) := by
  obtain ⟨t, b, rfl, h0, hb, h⟩ := h
  have hd0 : (Int.gcd t b) ≠ 0 := fun z => h0 (Int.gcd_eq_zero_iff.mp z).2
  have hgl : Int.gcd t b ≤ b.natAbs := Nat.le_of_dvd (by omega) (Int.gcd_dvd_natAbs_right t b)
  have hlt : Int.gcd t b < 2 ^ 8990 := Nat.lt_of_le_of_lt hgl hb
  simp only [d_lowest, N_lowest, dRet, dRetF, dSetX, dCallX, dRetX, noOw, dTry, dCpy, dRaise, dRetO, dSetP, dSetS, dSetF, dSeq, dIf, dNext, dCall, dCallF, dB, dBin, dCons, dNil, dTup, dLst, dV, dC, dTV, onB, dTAnd, dTOr, dTNot, dAnd, dOr, dNot, dIfE, dIsN, dNotN, isN, dSl, dSlF, dNoPart, dPart, dPar, dParS, dAsg, dgN, dgT, dgCons, dgNil, seqD, dFE, dIsi, dListF, dNeg, dRev, dFrz, dApp, dAppS, dIns, dExtend, dClear, dReverse, dPop, oIx, oI, oIC, oAddU, oSubI, oMulU, oMulI, oFd, oMd, oPw, oLt, oLe, oGt, oGe, oEq, oNe, getF, setF, Cl.d, getS, setS, purF, allF, rho0, endsOf, scalD, bLen, bAbs, bInt, bIntU, bTup, Slot.dat, true_and, and_true, Option.some.injEq, exists_eq_left', decide_eq_true_eq, Bool.not_eq_true', decide_eq_false_iff_not, it_eQ0, it_eQ1, it_eP0, it_eP1, it_eS0, it_eS1, fits_eQ, fits_eP, fits_eS, eqv_eQ, eqv_eP, eqv_eS, eqv_int, eqv_bool, shp_int, shp_bool, shp_none, shp_eQ, shp_eP, shp_eS, dCont, dBreak, dXi, dSetG, dAppG, oIsB, oNotB, dTx, pJoin, pSplit, pPart, pStarts, bStr, bIntS, dFmt, dJs, ↓reduceIte, nsp_none, nsp_bool, nsp_int, nsp_str, nsp_list, nsp_tuple, nsp_eQ, nsp_eP, nsp_eS]
  refine ⟨t, b, rfl, ?_⟩
  simp only [dRet, dRetF, dSetX, dCallX, dRetX, noOw, dTry, dCpy, dRaise, dRetO, dSetP, dSetS, dSetF, dSeq, dIf, dNext, dCall, dCallF, dB, dBin, dCons, dNil, dTup, dLst, dV, dC, dTV, onB, dTAnd, dTOr, dTNot, dAnd, dOr, dNot, dIfE, dIsN, dNotN, isN, dSl, dSlF, dNoPart, dPart, dPar, dParS, dAsg, dgN, dgT, dgCons, dgNil, seqD, dFE, dIsi, dListF, dNeg, dRev, dFrz, dApp, dAppS, dIns, dExtend, dClear, dReverse, dPop, oIx, oI, oIC, oAddU, oSubI, oMulU, oMulI, oFd, oMd, oPw, oLt, oLe, oGt, oGe, oEq, oNe, getF, setF, Cl.d, getS, setS, purF, allF, rho0, endsOf, scalD, bLen, bAbs, bInt, bIntU, bTup, Slot.dat, true_and, and_true, Option.some.injEq, exists_eq_left', decide_eq_true_eq, Bool.not_eq_true', decide_eq_false_iff_not, it_eQ0, it_eQ1, it_eP0, it_eP1, it_eS0, it_eS1, fits_eQ, fits_eP, fits_eS, eqv_eQ, eqv_eP, eqv_eS, eqv_int, eqv_bool, shp_int, shp_bool, shp_none, shp_eQ, shp_eP, shp_eS, dCont, dBreak, dXi, dSetG, dAppG, oIsB, oNotB, dTx, pJoin, pSplit, pPart, pStarts, bStr, bIntS, dFmt, dJs, ↓reduceIte, nsp_none, nsp_bool, nsp_int, nsp_str, nsp_list, nsp_tuple, nsp_eQ, nsp_eP, nsp_eS]
  split
  · rename_i hc
    refine ⟨cfd (m := 8990) (by omega) (by rw [Int.zero_sub, Int.natAbs_neg, Int.natAbs_natCast]; exact hlt) (by decide), cfd (m := 8990) (by omega) (by rw [Int.zero_sub, Int.natAbs_neg, Int.natAbs_natCast]; exact hlt) (by decide), ?_⟩
    rw [low_num (g := 0 - ((Int.gcd t b : Nat) : Int)) (by rw [if_pos hc]) h0]
    exact h
  · rename_i hc
    refine ⟨cfd (m := 8990) (by omega) (by rw [Int.natAbs_natCast]; exact hlt) (by decide), cfd (m := 8990) (by omega) (by rw [Int.natAbs_natCast]; exact hlt) (by decide), ?_⟩
    rw [low_num (g := ((Int.gcd t b : Nat) : Int)) (by rw [if_neg hc]) h0]
    exact h
theorem rd_minus (ds : List Dt) (Φ : Slot → Prop) (Ξ : XD → Prop) (h : sp_minus ds Φ Ξ) : d_minus (endsOf Φ Ξ) (rho0 N_minus ds) := by
  obtain ⟨a, b, n, m, rfl, ha, hb, hl, h⟩ := h
  simp only [d_minus, N_minus, dRet, dRetF, dSetX, dCallX, dRetX, noOw, dTry, dCpy, dRaise, dRetO, dSetP, dSetS, dSetF, dSeq, dIf, dNext, dCall, dCallF, dB, dBin, dCons, dNil, dTup, dLst, dV, dC, dTV, onB, dTAnd, dTOr, dTNot, dAnd, dOr, dNot, dIfE, dIsN, dNotN, isN, dSl, dSlF, dNoPart, dPart, dPar, dParS, dAsg, dgN, dgT, dgCons, dgNil, seqD, dFE, dIsi, dListF, dNeg, dRev, dFrz, dApp, dAppS, dIns, dExtend, dClear, dReverse, dPop, oIx, oI, oIC, oAddU, oSubI, oMulU, oMulI, oFd, oMd, oPw, oLt, oLe, oGt, oGe, oEq, oNe, getF, setF, Cl.d, getS, setS, purF, allF, rho0, endsOf, scalD, bLen, bAbs, bInt, bIntU, bTup, Slot.dat, true_and, and_true, Option.some.injEq, exists_eq_left', decide_eq_true_eq, Bool.not_eq_true', decide_eq_false_iff_not, it_eQ0, it_eQ1, it_eP0, it_eP1, it_eS0, it_eS1, fits_eQ, fits_eP, fits_eS, eqv_eQ, eqv_eP, eqv_eS, eqv_int, eqv_bool, shp_int, shp_bool, shp_none, shp_eQ, shp_eP, shp_eS, dCont, dBreak, dXi, dSetG, dAppG, oIsB, oNotB, dTx, pJoin, pSplit, pPart, pStarts, bStr, bIntS, dFmt, dJs, ↓reduceIte, nsp_none, nsp_bool, nsp_int, nsp_str, nsp_list, nsp_tuple, nsp_eQ, nsp_eP, nsp_eS]
  refine ⟨cm (bd_num ha) (bd_den hb) (by omega), cm (bd_num hb) (bd_den ha) (by omega), cm (bd_den ha) (bd_den hb) (by omega), _, _, rfl, Int.mul_ne_zero (den_ne a) (den_ne b), ?_, ?_⟩
  · exact Nat.lt_of_lt_of_le (mul_lt2 (bd_den ha) (bd_den hb)) (Nat.pow_le_pow_right (by decide) hl)
  · rw [← sub_div]; exact h
theorem rd_plus (ds : List Dt) (Φ : Slot → Prop) (Ξ : XD → Prop) (h : sp_plus ds Φ Ξ) : d_plus (endsOf Φ Ξ) (rho0 N_plus ds) := by
  obtain ⟨a, b, n, m, rfl, ha, hb, hl, h⟩ := h
  simp only [d_plus, N_plus, dRet, dRetF, dSetX, dCallX, dRetX, noOw, dTry, dCpy, dRaise, dRetO, dSetP, dSetS, dSetF, dSeq, dIf, dNext, dCall, dCallF, dB, dBin, dCons, dNil, dTup, dLst, dV, dC, dTV, onB, dTAnd, dTOr, dTNot, dAnd, dOr, dNot, dIfE, dIsN, dNotN, isN, dSl, dSlF, dNoPart, dPart, dPar, dParS, dAsg, dgN, dgT, dgCons, dgNil, seqD, dFE, dIsi, dListF, dNeg, dRev, dFrz, dApp, dAppS, dIns, dExtend, dClear, dReverse, dPop, oIx, oI, oIC, oAddU, oSubI, oMulU, oMulI, oFd, oMd, oPw, oLt, oLe, oGt, oGe, oEq, oNe, getF, setF, Cl.d, getS, setS, purF, allF, rho0, endsOf, scalD, bLen, bAbs, bInt, bIntU, bTup, Slot.dat, true_and, and_true, Option.some.injEq, exists_eq_left', decide_eq_true_eq, Bool.not_eq_true', decide_eq_false_iff_not, it_eQ0, it_eQ1, it_eP0, it_eP1, it_eS0, it_eS1, fits_eQ, fits_eP, fits_eS, eqv_eQ, eqv_eP, eqv_eS, eqv_int, eqv_bool, shp_int, shp_bool, shp_none, shp_eQ, shp_eP, shp_eS, dCont, dBreak, dXi, dSetG, dAppG, oIsB, oNotB, dTx, pJoin, pSplit, pPart, pStarts, bStr, bIntS, dFmt, dJs, ↓reduceIte, nsp_none, nsp_bool, nsp_int, nsp_str, nsp_list, nsp_tuple, nsp_eQ, nsp_eP, nsp_eS]
  refine ⟨cm (bd_num ha) (bd_den hb) (by omega), cm (bd_num hb) (bd_den ha) (by omega), cm (bd_den ha) (bd_den hb) (by omega), _, _, rfl, Int.mul_ne_zero (den_ne a) (den_ne b), ?_, ?_⟩
  · exact Nat.lt_of_lt_of_le (mul_lt2 (bd_den ha) (bd_den hb)) (Nat.pow_le_pow_right (by decide) hl)
  · rw [← add_div]; exact h
theorem rd_times (ds : List Dt) (Φ : Slot → Prop) (Ξ : XD → Prop) (h : sp_times ds Φ Ξ) : d_times (endsOf Φ Ξ) (rho0 N_times ds) := by
  obtain ⟨a, b, n, m, rfl, ha, hb, hl, h⟩ := h
  simp only [d_times, N_times, dRet, dRetF, dSetX, dCallX, dRetX, noOw, dTry, dCpy, dRaise, dRetO, dSetP, dSetS, dSetF, dSeq, dIf, dNext, dCall, dCallF, dB, dBin, dCons, dNil, dTup, dLst, dV, dC, dTV, onB, dTAnd, dTOr, dTNot, dAnd, dOr, dNot, dIfE, dIsN, dNotN, isN, dSl, dSlF, dNoPart, dPart, dPar, dParS, dAsg, dgN, dgT, dgCons, dgNil, seqD, dFE, dIsi, dListF, dNeg, dRev, dFrz, dApp, dAppS, dIns, dExtend, dClear, dReverse, dPop, oIx, oI, oIC, oAddU, oSubI, oMulU, oMulI, oFd, oMd, oPw, oLt, oLe, oGt, oGe, oEq, oNe, getF, setF, Cl.d, getS, setS, purF, allF, rho0, endsOf, scalD, bLen, bAbs, bInt, bIntU, bTup, Slot.dat, true_and, and_true, Option.some.injEq, exists_eq_left', decide_eq_true_eq, Bool.not_eq_true', decide_eq_false_iff_not, it_eQ0, it_eQ1, it_eP0, it_eP1, it_eS0, it_eS1, fits_eQ, fits_eP, fits_eS, eqv_eQ, eqv_eP, eqv_eS, eqv_int, eqv_bool, shp_int, shp_bool, shp_none, shp_eQ, shp_eP, shp_eS, dCont, dBreak, dXi, dSetG, dAppG, oIsB, oNotB, dTx, pJoin, pSplit, pPart, pStarts, bStr, bIntS, dFmt, dJs, ↓reduceIte, nsp_none, nsp_bool, nsp_int, nsp_str, nsp_list, nsp_tuple, nsp_eQ, nsp_eP, nsp_eS]
  refine ⟨cm (bd_num ha) (bd_num hb) (by omega), cm (bd_den ha) (bd_den hb) (by omega), _, _, rfl, Int.mul_ne_zero (den_ne a) (den_ne b), ?_, ?_⟩
  · exact Nat.lt_of_lt_of_le (mul_lt2 (bd_den ha) (bd_den hb)) (Nat.pow_le_pow_right (by decide) hl)
  · rw [← mul_div]; exact h
theorem rd_below (ds : List Dt) (Φ : Slot → Prop) (Ξ : XD → Prop) (h : sp_below ds Φ Ξ) : d_below (endsOf Φ Ξ) (rho0 N_below ds) := by
  obtain ⟨a, b, n, m, rfl, ha, hb, hl, h⟩ := h
  simp only [d_below, N_below, dRet, dRetF, dSetX, dCallX, dRetX, noOw, dTry, dCpy, dRaise, dRetO, dSetP, dSetS, dSetF, dSeq, dIf, dNext, dCall, dCallF, dB, dBin, dCons, dNil, dTup, dLst, dV, dC, dTV, onB, dTAnd, dTOr, dTNot, dAnd, dOr, dNot, dIfE, dIsN, dNotN, isN, dSl, dSlF, dNoPart, dPart, dPar, dParS, dAsg, dgN, dgT, dgCons, dgNil, seqD, dFE, dIsi, dListF, dNeg, dRev, dFrz, dApp, dAppS, dIns, dExtend, dClear, dReverse, dPop, oIx, oI, oIC, oAddU, oSubI, oMulU, oMulI, oFd, oMd, oPw, oLt, oLe, oGt, oGe, oEq, oNe, getF, setF, Cl.d, getS, setS, purF, allF, rho0, endsOf, scalD, bLen, bAbs, bInt, bIntU, bTup, Slot.dat, true_and, and_true, Option.some.injEq, exists_eq_left', decide_eq_true_eq, Bool.not_eq_true', decide_eq_false_iff_not, it_eQ0, it_eQ1, it_eP0, it_eP1, it_eS0, it_eS1, fits_eQ, fits_eP, fits_eS, eqv_eQ, eqv_eP, eqv_eS, eqv_int, eqv_bool, shp_int, shp_bool, shp_none, shp_eQ, shp_eP, shp_eS, dCont, dBreak, dXi, dSetG, dAppG, oIsB, oNotB, dTx, pJoin, pSplit, pPart, pStarts, bStr, bIntS, dFmt, dJs, ↓reduceIte, nsp_none, nsp_bool, nsp_int, nsp_str, nsp_list, nsp_tuple, nsp_eQ, nsp_eP, nsp_eS]
  refine ⟨cm (bd_num ha) (bd_den hb) (by omega), cm (bd_num hb) (bd_den ha) (by omega), ?_⟩
  simp only [← Rat.lt_iff]
  exact h
end L2.D3
set_option maxHeartbeats 4000000
/-! Points: their order, their turns. -/
namespace L2.D3
open PySem PySem.Spec PyProof.Rows
def BdP (n : Nat) (p : Pt) : Prop := Bd n p.1 ∧ Bd n p.2
def BdS (n : Nat) (s : Sd) : Prop := BdP n s.1 ∧ BdP n s.2
theorem BdP.mono {n m : Nat} {p : Pt} (h : BdP n p) (hn : n ≤ m) : BdP m p := ⟨h.1.mono hn, h.2.mono hn⟩
theorem BdS.mono {n m : Nat} {p : Sd} (h : BdS n p) (hn : n ≤ m) : BdS m p := ⟨h.1.mono hn, h.2.mono hn⟩
/-- ahead of another point -/
def ltP (p q : Pt) : Prop := p.1 < q.1 ∨ (p.1 = q.1 ∧ p.2 < q.2)
instance (p q : Pt) : Decidable (ltP p q) := by unfold ltP; exact inferInstance
theorem ltP_irrefl (p : Pt) : ¬ ltP p p := by unfold ltP; grind
theorem ltP_trans {p q r : Pt} (h : ltP p q) (g : ltP q r) : ltP p r := by unfold ltP at *; grind
theorem ltP_total (p q : Pt) : ltP p q ∨ p = q ∨ ltP q p := by
  obtain ⟨a, b⟩ := p
  obtain ⟨c, d⟩ := q
  unfold ltP
  simp only [Prod.mk.injEq]
  grind
theorem ltP_asymm {p q : Pt} (h : ltP p q) : ¬ ltP q p := fun g => ltP_irrefl p (ltP_trans h g)
def crossQ (a b c : Pt) : Rat := (b.1 - a.1) * (c.2 - a.2) - (b.2 - a.2) * (c.1 - a.1)
def sgnQ (q : Rat) : Int := if 0 < q then 1 else if q < 0 then -1 else 0
theorem it_map {α : Type} [Inhabited α] {f : α → Dt} {xs : List α} {i : Int} (h0 : 0 ≤ i) (h1 : i < xs.length) : itemD (.list (xs.map f)) i = some (f (xs.getD i.toNat default)) := by
  show atI (xs.map f) i = _
  have h2 : i.toNat < xs.length := by omega
  have e : i = ((i.toNat : Nat) : Int) := by omega
  have g : (xs.map f)[i.toNat]? = some (f (xs.getD i.toNat default)) := by
    rw [List.getElem?_map, List.getElem?_eq_getElem h2, List.getD_eq_getElem?_getD, List.getElem?_eq_getElem h2]
    rfl
  rw [e]
  exact atI_nat g
theorem getD_mem {α : Type} [Inhabited α] {xs : List α} {i : Nat} (h : i < xs.length) : xs.getD i default ∈ xs := by
  rw [List.getD_eq_getElem?_getD, List.getElem?_eq_getElem h]
  exact List.getElem_mem h
theorem fits_list (ds : List Dt) : fitsD (.list ds) := trivial
theorem fits_tuple (ds : List Dt) : fitsD (.tuple ds) := trivial
/-! ### a sorted list of points, each once -/
def Srt (ps : List Pt) : Prop := ps.Pairwise ltP
/-- how many come ahead of p -/
def ahead (p : Pt) (ps : List Pt) : Nat := (ps.filter fun q => decide (ltP q p)).length
def insP (p : Pt) (ps : List Pt) : List Pt := if p ∈ ps then ps else ps.take (ahead p ps) ++ [p] ++ ps.drop (ahead p ps)
def inOrd (ps : List Pt) : List Pt := ps.foldl (fun acc p => insP p acc) []
theorem ahead_le (p : Pt) (ps : List Pt) : ahead p ps ≤ ps.length := List.length_filter_le _ _
theorem ahead_cons (p q : Pt) (ps : List Pt) : ahead p (q :: ps) = (if ltP q p then 1 else 0) + ahead p ps := by
  unfold ahead
  rw [List.filter_cons]
  by_cases c : ltP q p
  · rw [if_pos (decide_eq_true c), if_pos c, List.length_cons]; omega
  · rw [if_neg (by simpa using c), if_neg c]; omega
theorem ahead_none {p : Pt} : ∀ {ps : List Pt}, (∀ q ∈ ps, ¬ ltP q p) → ahead p ps = 0
  | [], _ => rfl
  | q :: ps, h => by
    rw [ahead_cons, if_neg (h q List.mem_cons_self), ahead_none fun r hr => h r (List.mem_cons_of_mem _ hr)]
/-- in a sorted list just the first ones come ahead of p -/
theorem lt_ahead {p : Pt} : ∀ {ps : List Pt} (_ : Srt ps) {i : Nat} {q : Pt}, ps[i]? = some q → (ltP q p ↔ i < ahead p ps)
  | [], _, i, q, h => by simp at h
  | a :: ps, hs, 0, q, h => by
    have e : a = q := Option.some.inj h
    subst e
    rw [ahead_cons]
    by_cases c : ltP a p
    · rw [if_pos c]; exact ⟨fun _ => by omega, fun _ => c⟩
    · rw [if_neg c]
      have hz : ahead p ps = 0 := ahead_none fun r hr z => c (ltP_trans ((List.pairwise_cons.mp hs).1 r hr) z)
      rw [hz]
      exact ⟨fun z => absurd z c, fun z => absurd z (by omega)⟩
  | a :: ps, hs, i + 1, q, h => by
    have hs' := (List.pairwise_cons.mp hs).2
    have h' : ps[i]? = some q := by simpa using h
    have ih := lt_ahead (p := p) hs' h'
    rw [ahead_cons]
    by_cases c : ltP a p
    · rw [if_pos c]
      exact ⟨fun z => by have := ih.mp z; omega, fun z => ih.mpr (by omega)⟩
    · rw [if_neg c]
      have hz : ahead p ps = 0 := ahead_none fun r hr z => c (ltP_trans ((List.pairwise_cons.mp hs).1 r hr) z)
      rw [hz] at ih ⊢
      exact ⟨fun z => absurd (ih.mp z) (by omega), fun z => absurd z (by omega)⟩
theorem mem_ahead {p : Pt} {ps : List Pt} (hs : Srt ps) : p ∈ ps ↔ ps[ahead p ps]? = some p := by
  constructor
  · intro h
    obtain ⟨i, hi, e⟩ := List.mem_iff_getElem.mp h
    have e' : ps[i]? = some p := by rw [List.getElem?_eq_getElem hi, e]
    have h1 : ¬ i < ahead p ps := fun z => ltP_irrefl p ((lt_ahead hs e').mpr z)
    have h2 : ahead p ps ≤ i := by omega
    by_cases c : ahead p ps = i
    · rw [c]; exact e'
    · have h3 : ahead p ps < ps.length := by omega
      have e3 : ps[ahead p ps]? = some ps[ahead p ps] := List.getElem?_eq_getElem h3
      have h4 : ltP ps[ahead p ps] p := by
        have := List.pairwise_iff_getElem.mp hs (ahead p ps) i h3 hi (by omega)
        rw [e] at this
        exact this
      exact absurd ((lt_ahead hs e3).mp h4) (by omega)
  · intro h
    exact List.mem_of_getElem? h
theorem ins_srt {p : Pt} {ps : List Pt} (hs : Srt ps) : Srt (insP p ps) := by
  unfold insP
  by_cases c : p ∈ ps
  · rw [if_pos c]; exact hs
  · rw [if_neg c]
    unfold Srt
    rw [List.append_assoc, List.pairwise_append]
    have t1 : ∀ a ∈ ps.take (ahead p ps), ltP a p := fun a ha => by
      obtain ⟨i, hi, e⟩ := List.mem_iff_getElem.mp ha
      rw [List.length_take] at hi
      have e' : ps[i]? = some a := by
        rw [List.getElem_take] at e
        rw [List.getElem?_eq_getElem (by omega), e]
      exact (lt_ahead hs e').mpr (by omega)
    have t2 : ∀ b ∈ ps.drop (ahead p ps), ltP p b := fun b hb => by
      obtain ⟨i, hi, e⟩ := List.mem_iff_getElem.mp hb
      rw [List.length_drop] at hi
      have e' : ps[ahead p ps + i]? = some b := by
        rw [List.getElem_drop] at e
        rw [List.getElem?_eq_getElem (by omega), e]
      have h1 : ¬ ltP b p := fun z => absurd ((lt_ahead hs e').mp z) (by omega)
      rcases ltP_total p b with z | z | z
      · exact z
      · exact absurd (by rw [z]; exact List.mem_of_getElem? e') c
      · exact absurd z h1
    refine ⟨List.Pairwise.sublist (List.take_sublist _ _) hs, ?_, fun a ha b hb => ?_⟩
    · rw [List.singleton_append, List.pairwise_cons]
      exact ⟨t2, List.Pairwise.sublist (List.drop_sublist _ _) hs⟩
    · rw [List.singleton_append, List.mem_cons] at hb
      rcases hb with rfl | hb
      · exact t1 a ha
      · exact ltP_trans (t1 a ha) (t2 b hb)
theorem mem_ins {p q : Pt} {ps : List Pt} : q ∈ insP p ps ↔ q = p ∨ q ∈ ps := by
  unfold insP
  by_cases c : p ∈ ps
  · rw [if_pos c]
    exact ⟨fun h => .inr h, fun h => h.elim (fun e => by rw [e]; exact c) id⟩
  · rw [if_neg c, List.append_assoc, List.mem_append, List.singleton_append, List.mem_cons]
    constructor
    · rintro (h | h | h)
      · exact .inr (List.mem_of_mem_take h)
      · exact .inl h
      · exact .inr (List.mem_of_mem_drop h)
    · rintro (h | h)
      · exact .inr (.inl h)
      · rw [← List.take_append_drop (ahead p ps) ps, List.mem_append] at h
        rcases h with h | h
        · exact .inl h
        · exact .inr (.inr h)
theorem ins_len {p : Pt} {ps : List Pt} : (insP p ps).length ≤ ps.length + 1 := by
  unfold insP
  split
  · omega
  · have := ahead_le p ps
    rw [List.length_append, List.length_append, List.length_take, List.length_drop, List.length_singleton]
    omega
theorem inOrd_snoc (ps : List Pt) (p : Pt) : inOrd (ps ++ [p]) = insP p (inOrd ps) := by
  unfold inOrd
  rw [List.foldl_append]
  rfl
theorem inOrd_take {ps : List Pt} {k : Nat} {p : Pt} (h : ps[k]? = some p) : inOrd (ps.take (k + 1)) = insP p (inOrd (ps.take k)) := by
  rw [List.take_add_one, h]
  exact inOrd_snoc _ _
theorem inOrd_take_srt (ps : List Pt) : ∀ k, Srt (inOrd (ps.take k))
  | 0 => by rw [List.take_zero]; exact List.Pairwise.nil
  | k + 1 => by
    by_cases c : k < ps.length
    · rw [inOrd_take (List.getElem?_eq_getElem c)]
      exact ins_srt (inOrd_take_srt ps k)
    · have e : ps.take (k + 1) = ps.take k := by rw [List.take_of_length_le (by omega), List.take_of_length_le (by omega)]
      rw [e]
      exact inOrd_take_srt ps k
theorem inOrd_take_len (ps : List Pt) : ∀ k, (inOrd (ps.take k)).length ≤ k
  | 0 => by rw [List.take_zero]; exact Nat.le_refl 0
  | k + 1 => by
    by_cases c : k < ps.length
    · rw [inOrd_take (List.getElem?_eq_getElem c)]
      have := inOrd_take_len ps k
      have := ins_len (p := ps[k]) (ps := inOrd (ps.take k))
      omega
    · have e : ps.take (k + 1) = ps.take k := by rw [List.take_of_length_le (by omega), List.take_of_length_le (by omega)]
      rw [e]
      have := inOrd_take_len ps k
      omega
theorem mem_foldl {q : Pt} : ∀ (ps acc : List Pt), q ∈ ps.foldl (fun acc p => insP p acc) acc ↔ q ∈ acc ∨ q ∈ ps
  | [], acc => by simp
  | p :: ps, acc => by
    rw [List.foldl_cons, mem_foldl ps, mem_ins, List.mem_cons]
    constructor
    · rintro ((h | h) | h)
      · exact .inr (.inl h)
      · exact .inl h
      · exact .inr (.inr h)
    · rintro (h | h | h)
      · exact .inl (.inr h)
      · exact .inl (.inl h)
      · exact .inr h
theorem mem_inOrd {q : Pt} {ps : List Pt} : q ∈ inOrd ps ↔ q ∈ ps := by
  unfold inOrd
  rw [mem_foldl]
  simp
theorem inOrd_two {a b : Pt} (h : ltP a b) : inOrd [a, b] = [a, b] := by
  show insP b (insP a []) = _
  have h1 : insP a [] = [a] := rfl
  rw [h1]
  unfold insP
  have ne : b ≠ a := fun z => by rw [z] at h; exact ltP_irrefl a h
  rw [if_neg (by simpa using ne)]
  have e : ahead b [a] = 1 := by rw [ahead_cons, if_pos h]; rfl
  rw [e]
  rfl
theorem inOrd_two' {a b : Pt} (h : ltP b a) : inOrd [a, b] = [b, a] := by
  show insP b (insP a []) = _
  have h1 : insP a [] = [a] := rfl
  rw [h1]
  unfold insP
  have ne : b ≠ a := fun z => by rw [z] at h; exact ltP_irrefl a h
  rw [if_neg (by simpa using ne)]
  have e : ahead b [a] = 0 := by rw [ahead_cons, if_neg (ltP_asymm h)]; rfl
  rw [e]
  rfl
/-- the lesser, the greater end -/
def loP (s : Sd) : Pt := if ltP s.2 s.1 then s.2 else s.1
def hiP (s : Sd) : Pt := if ltP s.2 s.1 then s.1 else s.2
theorem inOrd_side {s : Sd} (h : s.1 ≠ s.2) : inOrd [s.1, s.2] = [loP s, hiP s] := by
  unfold loP hiP
  by_cases c : ltP s.2 s.1
  · rw [if_pos c, if_pos c]; exact inOrd_two' c
  · rw [if_neg c, if_neg c]
    rcases ltP_total s.1 s.2 with z | z | z
    · exact inOrd_two z
    · exact absurd z h
    · exact absurd z c
/-! ### contracts -/
def sp_before : DSp := fun ds Φ _ => ∃ (p q : Pt) (n : Nat), ds = [eP p, eP q] ∧ BdP n p ∧ BdP n q ∧ n ≤ 40000 ∧ Φ (.pu (.bool (decide (ltP p q))))
def sp_in_order : DSp := fun ds Φ _ => ∃ (ps : List Pt) (n : Nat), (ds = [.list (ps.map eP)] ∨ ds = [.tuple (ps.map eP)]) ∧ (∀ p ∈ ps, BdP n p) ∧ n ≤ 40000 ∧ ps.length ≤ 1000000 ∧ Φ (.ow ((inOrd ps).map eP))
def sp_cross_of : DSp := fun ds Φ _ => ∃ (a b c : Pt) (n : Nat), ds = [eP a, eP b, eP c] ∧ BdP n a ∧ BdP n b ∧ BdP n c ∧ n ≤ 1000 ∧ Φ (.pu (eQ (crossQ a b c)))
def sp_sign_of : DSp := fun ds Φ _ => ∃ q : Rat, ds = [eQ q] ∧ Φ (.pu (.int (sgnQ q)))
def sp_side_of : DSp := fun ds Φ _ => ∃ (s : Sd) (c : Pt) (n : Nat), ds = [eS s, eP c] ∧ BdS n s ∧ BdP n c ∧ n ≤ 1000 ∧ Φ (.pu (.int (sgnQ (crossQ s.1 s.2 c))))
/-- the point lies on the side -/
def onS (s : Sd) (p : Pt) : Prop := crossQ s.1 s.2 p = 0 ∧ ¬ ltP p (loP s) ∧ ¬ ltP (hiP s) p
instance (s : Sd) (p : Pt) : Decidable (onS s p) := by unfold onS; exact inferInstance
def sp_is_on : DSp := fun ds Φ _ => ∃ (s : Sd) (c : Pt) (n : Nat), ds = [eS s, eP c] ∧ s.1 ≠ s.2 ∧ BdS n s ∧ BdP n c ∧ n ≤ 1000 ∧ Φ (.pu (.bool (decide (onS s c))))
abbrev N_before : List Str := ["a", "b"]
def d_before : DS := (dSeq (dIf (dTV (dBin oNe (dBin oIx (dV 0) (dC (.int 0))) (dBin oIx (dV 1) (dC (.int 0))))) (dRet (dCall sp_below (dCons (dBin oIx (dV 0) (dC (.int 0))) (dCons (dBin oIx (dV 1) (dC (.int 0))) dNil)))) dNext)
  (dRet (dCall sp_below (dCons (dBin oIx (dV 0) (dC (.int 1))) (dCons (dBin oIx (dV 1) (dC (.int 1))) dNil)))))
abbrev N_in_order : List Str := ["points", "found", "point", "low", "high", "middle"]
def d_in_order : DS := (dSeq (dSetF 1 dNil)
  (dSeq (dFor (diSeq (dV 0)) (dgN 2) (dSeq (dParS 3 4 (dCons (dC (.int 0)) (dCons (dB bLen (dCons (dV 1) dNil)) dNil)))
  (dSeq (dWhile (dTV (dBin oLt (dV 3) (dV 4))) (dSeq (dSetP 5 (dBin oFd (dBin oAddU (dV 3) (dV 4)) (dC (.int 2))))
  (dIf (dTV (dCall sp_before (dCons (dBin oIx (dV 1) (dV 5)) (dCons (dV 2) dNil)))) (dSetP 3 (dBin oAddU (dV 5) (dC (.int 1)))) (dSetP 4 (dV 5)))))
  (dIf (dTOr (dTV (dBin oEq (dV 3) (dB bLen (dCons (dV 1) dNil)))) (dTV (dBin oNe (dBin oIx (dV 1) (dV 3)) (dV 2)))) (dIns 1 (dCons (dV 3) (dCons (dV 2) dNil))) dNext))))
  (dRetO 1)))
abbrev N_cross_of : List Str := ["a", "b", "c", "first", "second"]
def d_cross_of : DS := (dSeq (dSetP 3 (dCall sp_times (dCons (dCall sp_minus (dCons (dBin oIx (dV 1) (dC (.int 0))) (dCons (dBin oIx (dV 0) (dC (.int 0))) dNil))) (dCons (dCall sp_minus (dCons (dBin oIx (dV 2) (dC (.int 1))) (dCons (dBin oIx (dV 0) (dC (.int 1))) dNil))) dNil))))
  (dSeq (dSetP 4 (dCall sp_times (dCons (dCall sp_minus (dCons (dBin oIx (dV 1) (dC (.int 1))) (dCons (dBin oIx (dV 0) (dC (.int 1))) dNil))) (dCons (dCall sp_minus (dCons (dBin oIx (dV 2) (dC (.int 0))) (dCons (dBin oIx (dV 0) (dC (.int 0))) dNil))) dNil))))
  (dRet (dCall sp_minus (dCons (dV 3) (dCons (dV 4) dNil))))))
abbrev N_sign_of : List Str := ["number"]
def d_sign_of : DS := (dRet (dBin oSubI (dB bIntU (dCons (dBin oGt (dBin oIx (dV 0) (dC (.int 0))) (dC (.int 0))) dNil)) (dB bIntU (dCons (dBin oLt (dBin oIx (dV 0) (dC (.int 0))) (dC (.int 0))) dNil))))
abbrev N_side_of : List Str := ["side", "point"]
def d_side_of : DS := (dRet (dCall sp_sign_of (dCons (dCall sp_cross_of (dCons (dBin oIx (dV 0) (dC (.int 0))) (dCons (dBin oIx (dV 0) (dC (.int 1))) (dCons (dV 1) dNil)))) dNil)))
abbrev N_is_on : List Str := ["side", "point", "low", "high"]
def d_is_on : DS := (dSeq (dIf (dTV (dBin oNe (dCall sp_side_of (dCons (dV 0) (dCons (dV 1) dNil))) (dC (.int 0)))) (dRet (dC (.bool false))) dNext)
  (dSeq (dAsg (dCall sp_in_order (dCons (dFE (dListF (dCons (dV 0) dNil))) dNil)) (dgT 2 (dgCons (dgN 2) (dgCons (dgN 3) dgNil))))
  (dRet (dAnd (dNot (dCall sp_before (dCons (dV 1) (dCons (dV 2) dNil)))) (dNot (dCall sp_before (dCons (dV 3) (dCons (dV 1) dNil))))))))
theorem rd_before (ds : List Dt) (Φ : Slot → Prop) (Ξ : XD → Prop) (h : sp_before ds Φ Ξ) : d_before (endsOf Φ Ξ) (rho0 N_before ds) := by
  obtain ⟨p, q, n, rfl, hp, hq, hl, h⟩ := h
  simp only [d_before, N_before, dRet, dRetF, dSetX, dCallX, dRetX, noOw, dTry, dCpy, dRaise, dRetO, dSetP, dSetS, dSetF, dSeq, dIf, dNext, dCall, dCallF, dB, dBin, dCons, dNil, dTup, dLst, dV, dC, dTV, onB, dTAnd, dTOr, dTNot, dAnd, dOr, dNot, dIfE, dIsN, dNotN, isN, dSl, dSlF, dNoPart, dPart, dPar, dParS, dAsg, dgN, dgT, dgCons, dgNil, seqD, dFE, dIsi, dListF, dNeg, dRev, dFrz, dApp, dAppS, dIns, dExtend, dClear, dReverse, dPop, oIx, oI, oIC, oAddU, oSubI, oMulU, oMulI, oFd, oMd, oPw, oLt, oLe, oGt, oGe, oEq, oNe, getF, setF, Cl.d, getS, setS, purF, allF, rho0, endsOf, scalD, bLen, bAbs, bInt, bIntU, bTup, Slot.dat, true_and, and_true, Option.some.injEq, exists_eq_left', decide_eq_true_eq, Bool.not_eq_true', decide_eq_false_iff_not, it_eQ0, it_eQ1, it_eP0, it_eP1, it_eS0, it_eS1, fits_eQ, fits_eP, fits_eS, eqv_eQ, eqv_eP, eqv_eS, eqv_int, eqv_bool, shp_int, shp_bool, shp_none, shp_eQ, shp_eP, shp_eS, dCont, dBreak, dXi, dSetG, dAppG, oIsB, oNotB, dTx, pJoin, pSplit, pPart, pStarts, bStr, bIntS, dFmt, dJs, ↓reduceIte, nsp_none, nsp_bool, nsp_int, nsp_str, nsp_list, nsp_tuple, nsp_eQ, nsp_eP, nsp_eS]
  split
  · rename_i c
    refine ⟨_, _, n, n, rfl, hp.1, hq.1, by omega, ?_⟩
    have e : decide (ltP p q) = decide (p.1 < q.1) := by
      apply decide_eq_decide.mpr
      unfold ltP
      exact ⟨fun z => z.elim id fun y => absurd y.1 c, fun z => .inl z⟩
    rw [e] at h
    exact h
  · rename_i c
    have c' : p.1 = q.1 := by simpa using c
    refine ⟨_, _, n, n, rfl, hp.2, hq.2, by omega, ?_⟩
    have e : decide (ltP p q) = decide (p.2 < q.2) := by
      apply decide_eq_decide.mpr
      unfold ltP
      rw [c']
      exact ⟨fun z => z.elim (fun y => absurd y Rat.lt_irrefl) fun y => y.2, fun z => .inr ⟨rfl, z⟩⟩
    rw [e] at h
    exact h
theorem rd_cross_of (ds : List Dt) (Φ : Slot → Prop) (Ξ : XD → Prop) (h : sp_cross_of ds Φ Ξ) : d_cross_of (endsOf Φ Ξ) (rho0 N_cross_of ds) := by
  obtain ⟨a, b, c, n, rfl, ha, hb, hc, hl, h⟩ := h
  simp only [d_cross_of, N_cross_of, dRet, dRetF, dSetX, dCallX, dRetX, noOw, dTry, dCpy, dRaise, dRetO, dSetP, dSetS, dSetF, dSeq, dIf, dNext, dCall, dCallF, dB, dBin, dCons, dNil, dTup, dLst, dV, dC, dTV, onB, dTAnd, dTOr, dTNot, dAnd, dOr, dNot, dIfE, dIsN, dNotN, isN, dSl, dSlF, dNoPart, dPart, dPar, dParS, dAsg, dgN, dgT, dgCons, dgNil, seqD, dFE, dIsi, dListF, dNeg, dRev, dFrz, dApp, dAppS, dIns, dExtend, dClear, dReverse, dPop, oIx, oI, oIC, oAddU, oSubI, oMulU, oMulI, oFd, oMd, oPw, oLt, oLe, oGt, oGe, oEq, oNe, getF, setF, Cl.d, getS, setS, purF, allF, rho0, endsOf, scalD, bLen, bAbs, bInt, bIntU, bTup, Slot.dat, true_and, and_true, Option.some.injEq, exists_eq_left', decide_eq_true_eq, Bool.not_eq_true', decide_eq_false_iff_not, it_eQ0, it_eQ1, it_eP0, it_eP1, it_eS0, it_eS1, fits_eQ, fits_eP, fits_eS, eqv_eQ, eqv_eP, eqv_eS, eqv_int, eqv_bool, shp_int, shp_bool, shp_none, shp_eQ, shp_eP, shp_eS, dCont, dBreak, dXi, dSetG, dAppG, oIsB, oNotB, dTx, pJoin, pSplit, pPart, pStarts, bStr, bIntS, dFmt, dJs, ↓reduceIte, nsp_none, nsp_bool, nsp_int, nsp_str, nsp_list, nsp_tuple, nsp_eQ, nsp_eP, nsp_eS]
  refine ⟨_, _, n, n, rfl, hb.1, ha.1, by omega, ?_⟩
  simp only [dRet, dRetF, dSetX, dCallX, dRetX, noOw, dTry, dCpy, dRaise, dRetO, dSetP, dSetS, dSetF, dSeq, dIf, dNext, dCall, dCallF, dB, dBin, dCons, dNil, dTup, dLst, dV, dC, dTV, onB, dTAnd, dTOr, dTNot, dAnd, dOr, dNot, dIfE, dIsN, dNotN, isN, dSl, dSlF, dNoPart, dPart, dPar, dParS, dAsg, dgN, dgT, dgCons, dgNil, seqD, dFE, dIsi, dListF, dNeg, dRev, dFrz, dApp, dAppS, dIns, dExtend, dClear, dReverse, dPop, oIx, oI, oIC, oAddU, oSubI, oMulU, oMulI, oFd, oMd, oPw, oLt, oLe, oGt, oGe, oEq, oNe, getF, setF, Cl.d, getS, setS, purF, allF, rho0, endsOf, scalD, bLen, bAbs, bInt, bIntU, bTup, Slot.dat, true_and, and_true, Option.some.injEq, exists_eq_left', decide_eq_true_eq, Bool.not_eq_true', decide_eq_false_iff_not, it_eQ0, it_eQ1, it_eP0, it_eP1, it_eS0, it_eS1, fits_eQ, fits_eP, fits_eS, eqv_eQ, eqv_eP, eqv_eS, eqv_int, eqv_bool, shp_int, shp_bool, shp_none, shp_eQ, shp_eP, shp_eS, dCont, dBreak, dXi, dSetG, dAppG, oIsB, oNotB, dTx, pJoin, pSplit, pPart, pStarts, bStr, bIntS, dFmt, dJs, ↓reduceIte, nsp_none, nsp_bool, nsp_int, nsp_str, nsp_list, nsp_tuple, nsp_eQ, nsp_eP, nsp_eS]
  refine ⟨_, _, n, n, rfl, hc.2, ha.2, by omega, ?_⟩
  simp only [dRet, dRetF, dSetX, dCallX, dRetX, noOw, dTry, dCpy, dRaise, dRetO, dSetP, dSetS, dSetF, dSeq, dIf, dNext, dCall, dCallF, dB, dBin, dCons, dNil, dTup, dLst, dV, dC, dTV, onB, dTAnd, dTOr, dTNot, dAnd, dOr, dNot, dIfE, dIsN, dNotN, isN, dSl, dSlF, dNoPart, dPart, dPar, dParS, dAsg, dgN, dgT, dgCons, dgNil, seqD, dFE, dIsi, dListF, dNeg, dRev, dFrz, dApp, dAppS, dIns, dExtend, dClear, dReverse, dPop, oIx, oI, oIC, oAddU, oSubI, oMulU, oMulI, oFd, oMd, oPw, oLt, oLe, oGt, oGe, oEq, oNe, getF, setF, Cl.d, getS, setS, purF, allF, rho0, endsOf, scalD, bLen, bAbs, bInt, bIntU, bTup, Slot.dat, true_and, and_true, Option.some.injEq, exists_eq_left', decide_eq_true_eq, Bool.not_eq_true', decide_eq_false_iff_not, it_eQ0, it_eQ1, it_eP0, it_eP1, it_eS0, it_eS1, fits_eQ, fits_eP, fits_eS, eqv_eQ, eqv_eP, eqv_eS, eqv_int, eqv_bool, shp_int, shp_bool, shp_none, shp_eQ, shp_eP, shp_eS, dCont, dBreak, dXi, dSetG, dAppG, oIsB, oNotB, dTx, pJoin, pSplit, pPart, pStarts, bStr, bIntS, dFmt, dJs, ↓reduceIte, nsp_none, nsp_bool, nsp_int, nsp_str, nsp_list, nsp_tuple, nsp_eQ, nsp_eP, nsp_eS]
  refine ⟨_, _, _, _, rfl, hb.1.sub ha.1, hc.2.sub ha.2, by omega, ?_⟩
  simp only [dRet, dRetF, dSetX, dCallX, dRetX, noOw, dTry, dCpy, dRaise, dRetO, dSetP, dSetS, dSetF, dSeq, dIf, dNext, dCall, dCallF, dB, dBin, dCons, dNil, dTup, dLst, dV, dC, dTV, onB, dTAnd, dTOr, dTNot, dAnd, dOr, dNot, dIfE, dIsN, dNotN, isN, dSl, dSlF, dNoPart, dPart, dPar, dParS, dAsg, dgN, dgT, dgCons, dgNil, seqD, dFE, dIsi, dListF, dNeg, dRev, dFrz, dApp, dAppS, dIns, dExtend, dClear, dReverse, dPop, oIx, oI, oIC, oAddU, oSubI, oMulU, oMulI, oFd, oMd, oPw, oLt, oLe, oGt, oGe, oEq, oNe, getF, setF, Cl.d, getS, setS, purF, allF, rho0, endsOf, scalD, bLen, bAbs, bInt, bIntU, bTup, Slot.dat, true_and, and_true, Option.some.injEq, exists_eq_left', decide_eq_true_eq, Bool.not_eq_true', decide_eq_false_iff_not, it_eQ0, it_eQ1, it_eP0, it_eP1, it_eS0, it_eS1, fits_eQ, fits_eP, fits_eS, eqv_eQ, eqv_eP, eqv_eS, eqv_int, eqv_bool, shp_int, shp_bool, shp_none, shp_eQ, shp_eP, shp_eS, dCont, dBreak, dXi, dSetG, dAppG, oIsB, oNotB, dTx, pJoin, pSplit, pPart, pStarts, bStr, bIntS, dFmt, dJs, ↓reduceIte, nsp_none, nsp_bool, nsp_int, nsp_str, nsp_list, nsp_tuple, nsp_eQ, nsp_eP, nsp_eS]
  refine ⟨_, _, n, n, rfl, hb.2, ha.2, by omega, ?_⟩
  simp only [dRet, dRetF, dSetX, dCallX, dRetX, noOw, dTry, dCpy, dRaise, dRetO, dSetP, dSetS, dSetF, dSeq, dIf, dNext, dCall, dCallF, dB, dBin, dCons, dNil, dTup, dLst, dV, dC, dTV, onB, dTAnd, dTOr, dTNot, dAnd, dOr, dNot, dIfE, dIsN, dNotN, isN, dSl, dSlF, dNoPart, dPart, dPar, dParS, dAsg, dgN, dgT, dgCons, dgNil, seqD, dFE, dIsi, dListF, dNeg, dRev, dFrz, dApp, dAppS, dIns, dExtend, dClear, dReverse, dPop, oIx, oI, oIC, oAddU, oSubI, oMulU, oMulI, oFd, oMd, oPw, oLt, oLe, oGt, oGe, oEq, oNe, getF, setF, Cl.d, getS, setS, purF, allF, rho0, endsOf, scalD, bLen, bAbs, bInt, bIntU, bTup, Slot.dat, true_and, and_true, Option.some.injEq, exists_eq_left', decide_eq_true_eq, Bool.not_eq_true', decide_eq_false_iff_not, it_eQ0, it_eQ1, it_eP0, it_eP1, it_eS0, it_eS1, fits_eQ, fits_eP, fits_eS, eqv_eQ, eqv_eP, eqv_eS, eqv_int, eqv_bool, shp_int, shp_bool, shp_none, shp_eQ, shp_eP, shp_eS, dCont, dBreak, dXi, dSetG, dAppG, oIsB, oNotB, dTx, pJoin, pSplit, pPart, pStarts, bStr, bIntS, dFmt, dJs, ↓reduceIte, nsp_none, nsp_bool, nsp_int, nsp_str, nsp_list, nsp_tuple, nsp_eQ, nsp_eP, nsp_eS]
  refine ⟨_, _, n, n, rfl, hc.1, ha.1, by omega, ?_⟩
  simp only [dRet, dRetF, dSetX, dCallX, dRetX, noOw, dTry, dCpy, dRaise, dRetO, dSetP, dSetS, dSetF, dSeq, dIf, dNext, dCall, dCallF, dB, dBin, dCons, dNil, dTup, dLst, dV, dC, dTV, onB, dTAnd, dTOr, dTNot, dAnd, dOr, dNot, dIfE, dIsN, dNotN, isN, dSl, dSlF, dNoPart, dPart, dPar, dParS, dAsg, dgN, dgT, dgCons, dgNil, seqD, dFE, dIsi, dListF, dNeg, dRev, dFrz, dApp, dAppS, dIns, dExtend, dClear, dReverse, dPop, oIx, oI, oIC, oAddU, oSubI, oMulU, oMulI, oFd, oMd, oPw, oLt, oLe, oGt, oGe, oEq, oNe, getF, setF, Cl.d, getS, setS, purF, allF, rho0, endsOf, scalD, bLen, bAbs, bInt, bIntU, bTup, Slot.dat, true_and, and_true, Option.some.injEq, exists_eq_left', decide_eq_true_eq, Bool.not_eq_true', decide_eq_false_iff_not, it_eQ0, it_eQ1, it_eP0, it_eP1, it_eS0, it_eS1, fits_eQ, fits_eP, fits_eS, eqv_eQ, eqv_eP, eqv_eS, eqv_int, eqv_bool, shp_int, shp_bool, shp_none, shp_eQ, shp_eP, shp_eS, dCont, dBreak, dXi, dSetG, dAppG, oIsB, oNotB, dTx, pJoin, pSplit, pPart, pStarts, bStr, bIntS, dFmt, dJs, ↓reduceIte, nsp_none, nsp_bool, nsp_int, nsp_str, nsp_list, nsp_tuple, nsp_eQ, nsp_eP, nsp_eS]
  refine ⟨_, _, _, _, rfl, hb.2.sub ha.2, hc.1.sub ha.1, by omega, ?_⟩
  simp only [dRet, dRetF, dSetX, dCallX, dRetX, noOw, dTry, dCpy, dRaise, dRetO, dSetP, dSetS, dSetF, dSeq, dIf, dNext, dCall, dCallF, dB, dBin, dCons, dNil, dTup, dLst, dV, dC, dTV, onB, dTAnd, dTOr, dTNot, dAnd, dOr, dNot, dIfE, dIsN, dNotN, isN, dSl, dSlF, dNoPart, dPart, dPar, dParS, dAsg, dgN, dgT, dgCons, dgNil, seqD, dFE, dIsi, dListF, dNeg, dRev, dFrz, dApp, dAppS, dIns, dExtend, dClear, dReverse, dPop, oIx, oI, oIC, oAddU, oSubI, oMulU, oMulI, oFd, oMd, oPw, oLt, oLe, oGt, oGe, oEq, oNe, getF, setF, Cl.d, getS, setS, purF, allF, rho0, endsOf, scalD, bLen, bAbs, bInt, bIntU, bTup, Slot.dat, true_and, and_true, Option.some.injEq, exists_eq_left', decide_eq_true_eq, Bool.not_eq_true', decide_eq_false_iff_not, it_eQ0, it_eQ1, it_eP0, it_eP1, it_eS0, it_eS1, fits_eQ, fits_eP, fits_eS, eqv_eQ, eqv_eP, eqv_eS, eqv_int, eqv_bool, shp_int, shp_bool, shp_none, shp_eQ, shp_eP, shp_eS, dCont, dBreak, dXi, dSetG, dAppG, oIsB, oNotB, dTx, pJoin, pSplit, pPart, pStarts, bStr, bIntS, dFmt, dJs, ↓reduceIte, nsp_none, nsp_bool, nsp_int, nsp_str, nsp_list, nsp_tuple, nsp_eQ, nsp_eP, nsp_eS]
  exact ⟨_, _, _, _, rfl, (hb.1.sub ha.1).mul (hc.2.sub ha.2), (hb.2.sub ha.2).mul (hc.1.sub ha.1), by omega, h⟩
theorem num_pos {q : Rat} : 0 < q.num ↔ 0 < q := by
  rw [Rat.lt_iff 0 q]
  simp
theorem num_neg {q : Rat} : q.num < 0 ↔ q < 0 := by
  rw [Rat.lt_iff q 0]
  simp
theorem rd_sign_of (ds : List Dt) (Φ : Slot → Prop) (Ξ : XD → Prop) (h : sp_sign_of ds Φ Ξ) : d_sign_of (endsOf Φ Ξ) (rho0 N_sign_of ds) := by
  obtain ⟨q, rfl, h⟩ := h
  simp only [d_sign_of, N_sign_of, dRet, dRetF, dSetX, dCallX, dRetX, noOw, dTry, dCpy, dRaise, dRetO, dSetP, dSetS, dSetF, dSeq, dIf, dNext, dCall, dCallF, dB, dBin, dCons, dNil, dTup, dLst, dV, dC, dTV, onB, dTAnd, dTOr, dTNot, dAnd, dOr, dNot, dIfE, dIsN, dNotN, isN, dSl, dSlF, dNoPart, dPart, dPar, dParS, dAsg, dgN, dgT, dgCons, dgNil, seqD, dFE, dIsi, dListF, dNeg, dRev, dFrz, dApp, dAppS, dIns, dExtend, dClear, dReverse, dPop, oIx, oI, oIC, oAddU, oSubI, oMulU, oMulI, oFd, oMd, oPw, oLt, oLe, oGt, oGe, oEq, oNe, getF, setF, Cl.d, getS, setS, purF, allF, rho0, endsOf, scalD, bLen, bAbs, bInt, bIntU, bTup, Slot.dat, true_and, and_true, Option.some.injEq, exists_eq_left', decide_eq_true_eq, Bool.not_eq_true', decide_eq_false_iff_not, it_eQ0, it_eQ1, it_eP0, it_eP1, it_eS0, it_eS1, fits_eQ, fits_eP, fits_eS, eqv_eQ, eqv_eP, eqv_eS, eqv_int, eqv_bool, shp_int, shp_bool, shp_none, shp_eQ, shp_eP, shp_eS, dCont, dBreak, dXi, dSetG, dAppG, oIsB, oNotB, dTx, pJoin, pSplit, pPart, pStarts, bStr, bIntS, dFmt, dJs, ↓reduceIte, nsp_none, nsp_bool, nsp_int, nsp_str, nsp_list, nsp_tuple, nsp_eQ, nsp_eP, nsp_eS]
  have e : ((if 0 < q.num then 1 else 0) - (if q.num < 0 then 1 else 0) : Int) = sgnQ q := by
    unfold sgnQ
    simp only [num_pos, num_neg]
    split <;> split <;> first | rfl | (exfalso; grind)
  rw [e]
  exact h
theorem rd_side_of (ds : List Dt) (Φ : Slot → Prop) (Ξ : XD → Prop) (h : sp_side_of ds Φ Ξ) : d_side_of (endsOf Φ Ξ) (rho0 N_side_of ds) := by
  obtain ⟨s, c, n, rfl, hs, hc, hl, h⟩ := h
  simp only [d_side_of, N_side_of, dRet, dRetF, dSetX, dCallX, dRetX, noOw, dTry, dCpy, dRaise, dRetO, dSetP, dSetS, dSetF, dSeq, dIf, dNext, dCall, dCallF, dB, dBin, dCons, dNil, dTup, dLst, dV, dC, dTV, onB, dTAnd, dTOr, dTNot, dAnd, dOr, dNot, dIfE, dIsN, dNotN, isN, dSl, dSlF, dNoPart, dPart, dPar, dParS, dAsg, dgN, dgT, dgCons, dgNil, seqD, dFE, dIsi, dListF, dNeg, dRev, dFrz, dApp, dAppS, dIns, dExtend, dClear, dReverse, dPop, oIx, oI, oIC, oAddU, oSubI, oMulU, oMulI, oFd, oMd, oPw, oLt, oLe, oGt, oGe, oEq, oNe, getF, setF, Cl.d, getS, setS, purF, allF, rho0, endsOf, scalD, bLen, bAbs, bInt, bIntU, bTup, Slot.dat, true_and, and_true, Option.some.injEq, exists_eq_left', decide_eq_true_eq, Bool.not_eq_true', decide_eq_false_iff_not, it_eQ0, it_eQ1, it_eP0, it_eP1, it_eS0, it_eS1, fits_eQ, fits_eP, fits_eS, eqv_eQ, eqv_eP, eqv_eS, eqv_int, eqv_bool, shp_int, shp_bool, shp_none, shp_eQ, shp_eP, shp_eS, dCont, dBreak, dXi, dSetG, dAppG, oIsB, oNotB, dTx, pJoin, pSplit, pPart, pStarts, bStr, bIntS, dFmt, dJs, ↓reduceIte, nsp_none, nsp_bool, nsp_int, nsp_str, nsp_list, nsp_tuple, nsp_eQ, nsp_eP, nsp_eS]
  exact ⟨_, _, _, n, rfl, hs.1, hs.2, hc, hl, _, rfl, h⟩
theorem sgnQ_zero {q : Rat} : sgnQ q = 0 ↔ q = 0 := by
  unfold sgnQ
  split
  · rename_i c; exact ⟨fun z => by omega, fun z => by rw [z] at c; exact absurd c Rat.lt_irrefl⟩
  · split
    · rename_i c; exact ⟨fun z => by omega, fun z => by rw [z] at c; exact absurd c Rat.lt_irrefl⟩
    · rename_i c1 c2
      exact ⟨fun _ => Rat.le_antisymm (Rat.not_lt.mp c1) (Rat.not_lt.mp c2), fun _ => rfl⟩
theorem lo_hi_bd {s : Sd} {n : Nat} (h : BdS n s) : BdP n (loP s) ∧ BdP n (hiP s) := by
  unfold loP hiP
  by_cases c : ltP s.2 s.1
  · rw [if_pos c, if_pos c]; exact ⟨h.2, h.1⟩
  · rw [if_neg c, if_neg c]; exact h
theorem rd_is_on (ds : List Dt) (Φ : Slot → Prop) (Ξ : XD → Prop) (h : sp_is_on ds Φ Ξ) : d_is_on (endsOf Φ Ξ) (rho0 N_is_on ds) := by
  obtain ⟨s, c, n, rfl, hne, hs, hc, hl, h⟩ := h
  simp only [d_is_on, N_is_on, dRet, dRetF, dSetX, dCallX, dRetX, noOw, dTry, dCpy, dRaise, dRetO, dSetP, dSetS, dSetF, dSeq, dIf, dNext, dCall, dCallF, dB, dBin, dCons, dNil, dTup, dLst, dV, dC, dTV, onB, dTAnd, dTOr, dTNot, dAnd, dOr, dNot, dIfE, dIsN, dNotN, isN, dSl, dSlF, dNoPart, dPart, dPar, dParS, dAsg, dgN, dgT, dgCons, dgNil, seqD, dFE, dIsi, dListF, dNeg, dRev, dFrz, dApp, dAppS, dIns, dExtend, dClear, dReverse, dPop, oIx, oI, oIC, oAddU, oSubI, oMulU, oMulI, oFd, oMd, oPw, oLt, oLe, oGt, oGe, oEq, oNe, getF, setF, Cl.d, getS, setS, purF, allF, rho0, endsOf, scalD, bLen, bAbs, bInt, bIntU, bTup, Slot.dat, true_and, and_true, Option.some.injEq, exists_eq_left', decide_eq_true_eq, Bool.not_eq_true', decide_eq_false_iff_not, it_eQ0, it_eQ1, it_eP0, it_eP1, it_eS0, it_eS1, fits_eQ, fits_eP, fits_eS, eqv_eQ, eqv_eP, eqv_eS, eqv_int, eqv_bool, shp_int, shp_bool, shp_none, shp_eQ, shp_eP, shp_eS, dCont, dBreak, dXi, dSetG, dAppG, oIsB, oNotB, dTx, pJoin, pSplit, pPart, pStarts, bStr, bIntS, dFmt, dJs, ↓reduceIte, nsp_none, nsp_bool, nsp_int, nsp_str, nsp_list, nsp_tuple, nsp_eQ, nsp_eP, nsp_eS]
  refine ⟨s, c, n, rfl, hs, hc, hl, ?_⟩
  simp only [dRet, dRetF, dSetX, dCallX, dRetX, noOw, dTry, dCpy, dRaise, dRetO, dSetP, dSetS, dSetF, dSeq, dIf, dNext, dCall, dCallF, dB, dBin, dCons, dNil, dTup, dLst, dV, dC, dTV, onB, dTAnd, dTOr, dTNot, dAnd, dOr, dNot, dIfE, dIsN, dNotN, isN, dSl, dSlF, dNoPart, dPart, dPar, dParS, dAsg, dgN, dgT, dgCons, dgNil, seqD, dFE, dIsi, dListF, dNeg, dRev, dFrz, dApp, dAppS, dIns, dExtend, dClear, dReverse, dPop, oIx, oI, oIC, oAddU, oSubI, oMulU, oMulI, oFd, oMd, oPw, oLt, oLe, oGt, oGe, oEq, oNe, getF, setF, Cl.d, getS, setS, purF, allF, rho0, endsOf, scalD, bLen, bAbs, bInt, bIntU, bTup, Slot.dat, true_and, and_true, Option.some.injEq, exists_eq_left', decide_eq_true_eq, Bool.not_eq_true', decide_eq_false_iff_not, it_eQ0, it_eQ1, it_eP0, it_eP1, it_eS0, it_eS1, fits_eQ, fits_eP, fits_eS, eqv_eQ, eqv_eP, eqv_eS, eqv_int, eqv_bool, shp_int, shp_bool, shp_none, shp_eQ, shp_eP, shp_eS, dCont, dBreak, dXi, dSetG, dAppG, oIsB, oNotB, dTx, pJoin, pSplit, pPart, pStarts, bStr, bIntS, dFmt, dJs, ↓reduceIte, nsp_none, nsp_bool, nsp_int, nsp_str, nsp_list, nsp_tuple, nsp_eQ, nsp_eP, nsp_eS, sgnQ_zero]
  split
  · rename_i k
    have e : decide (onS s c) = false := decide_eq_false fun z => k z.1
    rw [e] at h
    exact h
  · rename_i k
    have k' : crossQ s.1 s.2 c = 0 := by simpa using k
    refine ⟨[s.1, s.2], n, .inl rfl, fun p hp => ?_, by omega, by show 2 ≤ 1000000; decide, ?_⟩
    · simp only [List.mem_cons, List.not_mem_nil, or_false] at hp
      rcases hp with rfl | rfl
      · exact hs.1
      · exact hs.2
    · rw [inOrd_side hne]
      simp only [List.map_cons, List.map_nil, dRet, dRetF, dSetX, dCallX, dRetX, noOw, dTry, dCpy, dRaise, dRetO, dSetP, dSetS, dSetF, dSeq, dIf, dNext, dCall, dCallF, dB, dBin, dCons, dNil, dTup, dLst, dV, dC, dTV, onB, dTAnd, dTOr, dTNot, dAnd, dOr, dNot, dIfE, dIsN, dNotN, isN, dSl, dSlF, dNoPart, dPart, dPar, dParS, dAsg, dgN, dgT, dgCons, dgNil, seqD, dFE, dIsi, dListF, dNeg, dRev, dFrz, dApp, dAppS, dIns, dExtend, dClear, dReverse, dPop, oIx, oI, oIC, oAddU, oSubI, oMulU, oMulI, oFd, oMd, oPw, oLt, oLe, oGt, oGe, oEq, oNe, getF, setF, Cl.d, getS, setS, purF, allF, rho0, endsOf, scalD, bLen, bAbs, bInt, bIntU, bTup, Slot.dat, true_and, and_true, Option.some.injEq, exists_eq_left', decide_eq_true_eq, Bool.not_eq_true', decide_eq_false_iff_not, it_eQ0, it_eQ1, it_eP0, it_eP1, it_eS0, it_eS1, fits_eQ, fits_eP, fits_eS, eqv_eQ, eqv_eP, eqv_eS, eqv_int, eqv_bool, shp_int, shp_bool, shp_none, shp_eQ, shp_eP, shp_eS, dCont, dBreak, dXi, dSetG, dAppG, oIsB, oNotB, dTx, pJoin, pSplit, pPart, pStarts, bStr, bIntS, dFmt, dJs, ↓reduceIte, nsp_none, nsp_bool, nsp_int, nsp_str, nsp_list, nsp_tuple, nsp_eQ, nsp_eP, nsp_eS, List.length_cons, List.length_nil]
      obtain ⟨b1, b2⟩ := lo_hi_bd hs
      refine ⟨_, _, n, rfl, hc, b1, by omega, ?_⟩
      simp only [dRet, dRetF, dSetX, dCallX, dRetX, noOw, dTry, dCpy, dRaise, dRetO, dSetP, dSetS, dSetF, dSeq, dIf, dNext, dCall, dCallF, dB, dBin, dCons, dNil, dTup, dLst, dV, dC, dTV, onB, dTAnd, dTOr, dTNot, dAnd, dOr, dNot, dIfE, dIsN, dNotN, isN, dSl, dSlF, dNoPart, dPart, dPar, dParS, dAsg, dgN, dgT, dgCons, dgNil, seqD, dFE, dIsi, dListF, dNeg, dRev, dFrz, dApp, dAppS, dIns, dExtend, dClear, dReverse, dPop, oIx, oI, oIC, oAddU, oSubI, oMulU, oMulI, oFd, oMd, oPw, oLt, oLe, oGt, oGe, oEq, oNe, getF, setF, Cl.d, getS, setS, purF, allF, rho0, endsOf, scalD, bLen, bAbs, bInt, bIntU, bTup, Slot.dat, true_and, and_true, Option.some.injEq, exists_eq_left', decide_eq_true_eq, Bool.not_eq_true', decide_eq_false_iff_not, it_eQ0, it_eQ1, it_eP0, it_eP1, it_eS0, it_eS1, fits_eQ, fits_eP, fits_eS, eqv_eQ, eqv_eP, eqv_eS, eqv_int, eqv_bool, shp_int, shp_bool, shp_none, shp_eQ, shp_eP, shp_eS, dCont, dBreak, dXi, dSetG, dAppG, oIsB, oNotB, dTx, pJoin, pSplit, pPart, pStarts, bStr, bIntS, dFmt, dJs, ↓reduceIte, nsp_none, nsp_bool, nsp_int, nsp_str, nsp_list, nsp_tuple, nsp_eQ, nsp_eP, nsp_eS]
      split
      · rename_i k1
        refine ⟨_, _, n, rfl, b2, hc, by omega, ?_⟩
        simp only [dRet, dRetF, dSetX, dCallX, dRetX, noOw, dTry, dCpy, dRaise, dRetO, dSetP, dSetS, dSetF, dSeq, dIf, dNext, dCall, dCallF, dB, dBin, dCons, dNil, dTup, dLst, dV, dC, dTV, onB, dTAnd, dTOr, dTNot, dAnd, dOr, dNot, dIfE, dIsN, dNotN, isN, dSl, dSlF, dNoPart, dPart, dPar, dParS, dAsg, dgN, dgT, dgCons, dgNil, seqD, dFE, dIsi, dListF, dNeg, dRev, dFrz, dApp, dAppS, dIns, dExtend, dClear, dReverse, dPop, oIx, oI, oIC, oAddU, oSubI, oMulU, oMulI, oFd, oMd, oPw, oLt, oLe, oGt, oGe, oEq, oNe, getF, setF, Cl.d, getS, setS, purF, allF, rho0, endsOf, scalD, bLen, bAbs, bInt, bIntU, bTup, Slot.dat, true_and, and_true, Option.some.injEq, exists_eq_left', decide_eq_true_eq, Bool.not_eq_true', decide_eq_false_iff_not, it_eQ0, it_eQ1, it_eP0, it_eP1, it_eS0, it_eS1, fits_eQ, fits_eP, fits_eS, eqv_eQ, eqv_eP, eqv_eS, eqv_int, eqv_bool, shp_int, shp_bool, shp_none, shp_eQ, shp_eP, shp_eS, dCont, dBreak, dXi, dSetG, dAppG, oIsB, oNotB, dTx, pJoin, pSplit, pPart, pStarts, bStr, bIntS, dFmt, dJs, ↓reduceIte, nsp_none, nsp_bool, nsp_int, nsp_str, nsp_list, nsp_tuple, nsp_eQ, nsp_eP, nsp_eS]
        have e : decide (onS s c) = !decide (ltP (hiP s) c) := by
          rw [← decide_not]
          apply decide_eq_decide.mpr
          exact ⟨fun z => z.2.2, fun z => ⟨k', by simpa using k1, z⟩⟩
        rw [e] at h
        exact h
      · rename_i k1
        have e : decide (onS s c) = false := decide_eq_false fun z => by
          have := z.2.1
          simp at k1
          exact this k1
        rw [e] at h
        exact h
theorem rd_in_order (ds : List Dt) (Φ : Slot → Prop) (Ξ : XD → Prop) (h : sp_in_order ds Φ Ξ) : d_in_order (endsOf Φ Ξ) (rho0 N_in_order ds) := by
  obtain ⟨ps, n, hds, hb, hn, hl, h⟩ := h
  have hz : (1000000 : Nat) < sizeLine := by decide
  have body : ∀ d : Dt, walkD d = some (ps.map eP) → d_in_order (endsOf Φ Ξ) (rho0 N_in_order [d]) := fun d hw => by
    simp only [d_in_order, N_in_order, dRet, dRetF, dSetX, dCallX, dRetX, noOw, dTry, dCpy, dRaise, dRetO, dSetP, dSetS, dSetF, dSeq, dIf, dNext, dCall, dCallF, dB, dBin, dCons, dNil, dTup, dLst, dV, dC, dTV, onB, dTAnd, dTOr, dTNot, dAnd, dOr, dNot, dIfE, dIsN, dNotN, isN, dSl, dSlF, dNoPart, dPart, dPar, dParS, dAsg, dgN, dgT, dgCons, dgNil, seqD, dFE, dIsi, dListF, dNeg, dRev, dFrz, dApp, dAppS, dIns, dExtend, dClear, dReverse, dPop, oIx, oI, oIC, oAddU, oSubI, oMulU, oMulI, oFd, oMd, oPw, oLt, oLe, oGt, oGe, oEq, oNe, getF, setF, Cl.d, getS, setS, purF, allF, rho0, endsOf, scalD, bLen, bAbs, bInt, bIntU, bTup, Slot.dat, true_and, and_true, Option.some.injEq, exists_eq_left', decide_eq_true_eq, Bool.not_eq_true', decide_eq_false_iff_not, it_eQ0, it_eQ1, it_eP0, it_eP1, it_eS0, it_eS1, fits_eQ, fits_eP, fits_eS, eqv_eQ, eqv_eP, eqv_eS, eqv_int, eqv_bool, shp_int, shp_bool, shp_none, shp_eQ, shp_eP, shp_eS, dCont, dBreak, dXi, dSetG, dAppG, oIsB, oNotB, dTx, pJoin, pSplit, pPart, pStarts, bStr, bIntS, dFmt, dJs, ↓reduceIte, nsp_none, nsp_bool, nsp_int, nsp_str, nsp_list, nsp_tuple, nsp_eQ, nsp_eP, nsp_eS, dFor, diSeq, hw]
    refine ⟨fun k ρ => ∃ x y z w, ρ = [.pu d, .ow ((inOrd (ps.take k)).map eP), x, y, z, w], ⟨_, _, _, _, rfl⟩, ?_, ?_⟩
    · rintro k e ρ' hk ⟨x, y, z, w, rfl⟩
      rw [List.getElem?_map] at hk
      cases hp : ps[k]? with
      | none => rw [hp] at hk; cases hk
      | some p =>
        rw [hp] at hk
        have he : eP p = e := Option.some.inj hk
        subst he
        have hkl : k < ps.length := (List.getElem?_eq_some_iff.mp hp).1
        have hpb : BdP n p := hb p (List.mem_of_getElem? hp)
        have hS := inOrd_take_srt ps k
        have hL := inOrd_take_len ps k
        have hM : ∀ q ∈ inOrd (ps.take k), BdP n q := fun q hq => hb q (List.mem_of_mem_take (mem_inOrd.mp hq))
        simp only [dRet, dRetF, dSetX, dCallX, dRetX, noOw, dTry, dCpy, dRaise, dRetO, dSetP, dSetS, dSetF, dSeq, dIf, dNext, dCall, dCallF, dB, dBin, dCons, dNil, dTup, dLst, dV, dC, dTV, onB, dTAnd, dTOr, dTNot, dAnd, dOr, dNot, dIfE, dIsN, dNotN, isN, dSl, dSlF, dNoPart, dPart, dPar, dParS, dAsg, dgN, dgT, dgCons, dgNil, seqD, dFE, dIsi, dListF, dNeg, dRev, dFrz, dApp, dAppS, dIns, dExtend, dClear, dReverse, dPop, oIx, oI, oIC, oAddU, oSubI, oMulU, oMulI, oFd, oMd, oPw, oLt, oLe, oGt, oGe, oEq, oNe, getF, setF, Cl.d, getS, setS, purF, allF, rho0, endsOf, scalD, bLen, bAbs, bInt, bIntU, bTup, Slot.dat, true_and, and_true, Option.some.injEq, exists_eq_left', decide_eq_true_eq, Bool.not_eq_true', decide_eq_false_iff_not, it_eQ0, it_eQ1, it_eP0, it_eP1, it_eS0, it_eS1, fits_eQ, fits_eP, fits_eS, eqv_eQ, eqv_eP, eqv_eS, eqv_int, eqv_bool, shp_int, shp_bool, shp_none, shp_eQ, shp_eP, shp_eS, dCont, dBreak, dXi, dSetG, dAppG, oIsB, oNotB, dTx, pJoin, pSplit, pPart, pStarts, bStr, bIntS, dFmt, dJs, ↓reduceIte, nsp_none, nsp_bool, nsp_int, nsp_str, nsp_list, nsp_tuple, nsp_eQ, nsp_eP, nsp_eS, dWhile, List.length_map]
        rw [inOrd_take hp]
        generalize inOrd (ps.take k) = acc at hS hL hM
        refine ⟨fun m ρ => ∃ (lo hi : Nat) (w : Slot), ρ = [.pu d, .ow (acc.map eP), .pu (eP p), .pu (.int lo), .pu (.int hi), w] ∧ m = hi - lo ∧ lo ≤ ahead p acc ∧ ahead p acc ≤ hi ∧ hi ≤ acc.length, ⟨_, 0, acc.length, _, rfl, rfl, Nat.zero_le _, ahead_le _ _, Nat.le_refl _⟩, ?_⟩
        rintro m ρ' ⟨lo, hi, w, rfl, rfl, h1, h2, h3⟩
        simp only [dRet, dRetF, dSetX, dCallX, dRetX, noOw, dTry, dCpy, dRaise, dRetO, dSetP, dSetS, dSetF, dSeq, dIf, dNext, dCall, dCallF, dB, dBin, dCons, dNil, dTup, dLst, dV, dC, dTV, onB, dTAnd, dTOr, dTNot, dAnd, dOr, dNot, dIfE, dIsN, dNotN, isN, dSl, dSlF, dNoPart, dPart, dPar, dParS, dAsg, dgN, dgT, dgCons, dgNil, seqD, dFE, dIsi, dListF, dNeg, dRev, dFrz, dApp, dAppS, dIns, dExtend, dClear, dReverse, dPop, oIx, oI, oIC, oAddU, oSubI, oMulU, oMulI, oFd, oMd, oPw, oLt, oLe, oGt, oGe, oEq, oNe, getF, setF, Cl.d, getS, setS, purF, allF, rho0, endsOf, scalD, bLen, bAbs, bInt, bIntU, bTup, Slot.dat, true_and, and_true, Option.some.injEq, exists_eq_left', decide_eq_true_eq, Bool.not_eq_true', decide_eq_false_iff_not, it_eQ0, it_eQ1, it_eP0, it_eP1, it_eS0, it_eS1, fits_eQ, fits_eP, fits_eS, eqv_eQ, eqv_eP, eqv_eS, eqv_int, eqv_bool, shp_int, shp_bool, shp_none, shp_eQ, shp_eP, shp_eS, dCont, dBreak, dXi, dSetG, dAppG, oIsB, oNotB, dTx, pJoin, pSplit, pPart, pStarts, bStr, bIntS, dFmt, dJs, ↓reduceIte, nsp_none, nsp_bool, nsp_int, nsp_str, nsp_list, nsp_tuple, nsp_eQ, nsp_eP, nsp_eS]
        split
        · rename_i c
          have c' : lo < hi := by omega
          refine ⟨cfd (m := 2) (by decide) (by decide) (by decide), ?_⟩
          have em : Int.fdiv ((lo : Int) + hi) 2 = (((lo + hi) / 2 : Nat) : Int) := by
            rw [Int.fdiv_eq_ediv_of_nonneg _ (by decide)]
            omega
          rw [em]
          have hmid : (lo + hi) / 2 < acc.length := by omega
          simp only [dRet, dRetF, dSetX, dCallX, dRetX, noOw, dTry, dCpy, dRaise, dRetO, dSetP, dSetS, dSetF, dSeq, dIf, dNext, dCall, dCallF, dB, dBin, dCons, dNil, dTup, dLst, dV, dC, dTV, onB, dTAnd, dTOr, dTNot, dAnd, dOr, dNot, dIfE, dIsN, dNotN, isN, dSl, dSlF, dNoPart, dPart, dPar, dParS, dAsg, dgN, dgT, dgCons, dgNil, seqD, dFE, dIsi, dListF, dNeg, dRev, dFrz, dApp, dAppS, dIns, dExtend, dClear, dReverse, dPop, oIx, oI, oIC, oAddU, oSubI, oMulU, oMulI, oFd, oMd, oPw, oLt, oLe, oGt, oGe, oEq, oNe, getF, setF, Cl.d, getS, setS, purF, allF, rho0, endsOf, scalD, bLen, bAbs, bInt, bIntU, bTup, Slot.dat, true_and, and_true, Option.some.injEq, exists_eq_left', decide_eq_true_eq, Bool.not_eq_true', decide_eq_false_iff_not, it_eQ0, it_eQ1, it_eP0, it_eP1, it_eS0, it_eS1, fits_eQ, fits_eP, fits_eS, eqv_eQ, eqv_eP, eqv_eS, eqv_int, eqv_bool, shp_int, shp_bool, shp_none, shp_eQ, shp_eP, shp_eS, dCont, dBreak, dXi, dSetG, dAppG, oIsB, oNotB, dTx, pJoin, pSplit, pPart, pStarts, bStr, bIntS, dFmt, dJs, ↓reduceIte, nsp_none, nsp_bool, nsp_int, nsp_str, nsp_list, nsp_tuple, nsp_eQ, nsp_eP, nsp_eS, fits_list]
          refine ⟨_, it_map (by omega) (by omega), ?_⟩
          rw [Int.toNat_natCast]
          have hq : acc[(lo + hi) / 2]? = some (acc.getD ((lo + hi) / 2) default) := by
            rw [List.getD_eq_getElem?_getD, List.getElem?_eq_getElem hmid]
            rfl
          refine ⟨_, _, n, rfl, hM _ (getD_mem hmid), hpb, by omega, ?_⟩
          simp only [dRet, dRetF, dSetX, dCallX, dRetX, noOw, dTry, dCpy, dRaise, dRetO, dSetP, dSetS, dSetF, dSeq, dIf, dNext, dCall, dCallF, dB, dBin, dCons, dNil, dTup, dLst, dV, dC, dTV, onB, dTAnd, dTOr, dTNot, dAnd, dOr, dNot, dIfE, dIsN, dNotN, isN, dSl, dSlF, dNoPart, dPart, dPar, dParS, dAsg, dgN, dgT, dgCons, dgNil, seqD, dFE, dIsi, dListF, dNeg, dRev, dFrz, dApp, dAppS, dIns, dExtend, dClear, dReverse, dPop, oIx, oI, oIC, oAddU, oSubI, oMulU, oMulI, oFd, oMd, oPw, oLt, oLe, oGt, oGe, oEq, oNe, getF, setF, Cl.d, getS, setS, purF, allF, rho0, endsOf, scalD, bLen, bAbs, bInt, bIntU, bTup, Slot.dat, true_and, and_true, Option.some.injEq, exists_eq_left', decide_eq_true_eq, Bool.not_eq_true', decide_eq_false_iff_not, it_eQ0, it_eQ1, it_eP0, it_eP1, it_eS0, it_eS1, fits_eQ, fits_eP, fits_eS, eqv_eQ, eqv_eP, eqv_eS, eqv_int, eqv_bool, shp_int, shp_bool, shp_none, shp_eQ, shp_eP, shp_eS, dCont, dBreak, dXi, dSetG, dAppG, oIsB, oNotB, dTx, pJoin, pSplit, pPart, pStarts, bStr, bIntS, dFmt, dJs, ↓reduceIte, nsp_none, nsp_bool, nsp_int, nsp_str, nsp_list, nsp_tuple, nsp_eQ, nsp_eP, nsp_eS]
          have key := lt_ahead (p := p) hS hq
          split
          · rename_i k1
            have k2 := key.mp k1
            exact ⟨hi - ((lo + hi) / 2 + 1), by omega, (lo + hi) / 2 + 1, hi, _, by rw [Int.natCast_add]; rfl, rfl, by omega, h2, h3⟩
          · rename_i k1
            have k2 : ¬ (lo + hi) / 2 < ahead p acc := fun z => k1 (key.mpr z)
            exact ⟨(lo + hi) / 2 - lo, by omega, lo, (lo + hi) / 2, _, rfl, rfl, h1, by omega, by omega⟩
        · rename_i c
          have e1 : lo = ahead p acc := by omega
          subst e1
          simp only [List.length_map]
          have done : ∀ ρ2, ρ2 = [Slot.pu d, .ow ((insP p acc).map eP), .pu (eP p), .pu (.int (ahead p acc)), .pu (.int hi), w] → ∃ x y z w, ρ2 = [Slot.pu d, .ow ((insP p acc).map eP), x, y, z, w] := fun ρ2 e => ⟨_, _, _, _, e⟩
          have ins : p ∉ acc → acc.length < sizeLine ∧ (0 : Int) ≤ (ahead p acc : Nat) ∧ ((ahead p acc : Nat) : Int) < 2 ^ 63 ∧ ∃ x y z w', [Slot.pu d, .ow ((acc.map eP).take (ahead p acc) ++ [eP p] ++ (acc.map eP).drop (ahead p acc)), .pu (eP p), .pu (.int (ahead p acc : Nat)), .pu (.int hi), w] = [Slot.pu d, .ow ((insP p acc).map eP), x, y, z, w'] := fun hne => by
            refine ⟨by omega, by omega, by omega, done _ ?_⟩
            unfold insP
            rw [if_neg hne, List.map_append, List.map_append, List.map_take, List.map_drop]
            rfl
          split
          · rename_i c1
            have c2 : ahead p acc = acc.length := by omega
            have hne : p ∉ acc := fun z => by
              have := (mem_ahead hS).mp z
              rw [c2, List.getElem?_eq_none (Nat.le_refl _)] at this
              cases this
            rw [Int.toNat_natCast]
            exact ins hne
          · rename_i c1
            have hlt : ahead p acc < acc.length := by have := ahead_le p acc; omega
            simp only [dRet, dRetF, dSetX, dCallX, dRetX, noOw, dTry, dCpy, dRaise, dRetO, dSetP, dSetS, dSetF, dSeq, dIf, dNext, dCall, dCallF, dB, dBin, dCons, dNil, dTup, dLst, dV, dC, dTV, onB, dTAnd, dTOr, dTNot, dAnd, dOr, dNot, dIfE, dIsN, dNotN, isN, dSl, dSlF, dNoPart, dPart, dPar, dParS, dAsg, dgN, dgT, dgCons, dgNil, seqD, dFE, dIsi, dListF, dNeg, dRev, dFrz, dApp, dAppS, dIns, dExtend, dClear, dReverse, dPop, oIx, oI, oIC, oAddU, oSubI, oMulU, oMulI, oFd, oMd, oPw, oLt, oLe, oGt, oGe, oEq, oNe, getF, setF, Cl.d, getS, setS, purF, allF, rho0, endsOf, scalD, bLen, bAbs, bInt, bIntU, bTup, Slot.dat, true_and, and_true, Option.some.injEq, exists_eq_left', decide_eq_true_eq, Bool.not_eq_true', decide_eq_false_iff_not, it_eQ0, it_eQ1, it_eP0, it_eP1, it_eS0, it_eS1, fits_eQ, fits_eP, fits_eS, eqv_eQ, eqv_eP, eqv_eS, eqv_int, eqv_bool, shp_int, shp_bool, shp_none, shp_eQ, shp_eP, shp_eS, dCont, dBreak, dXi, dSetG, dAppG, oIsB, oNotB, dTx, pJoin, pSplit, pPart, pStarts, bStr, bIntS, dFmt, dJs, ↓reduceIte, nsp_none, nsp_bool, nsp_int, nsp_str, nsp_list, nsp_tuple, nsp_eQ, nsp_eP, nsp_eS, fits_list]
            refine ⟨_, it_map (by omega) (by omega), ?_⟩
            rw [Int.toNat_natCast]
            simp only [dRet, dRetF, dSetX, dCallX, dRetX, noOw, dTry, dCpy, dRaise, dRetO, dSetP, dSetS, dSetF, dSeq, dIf, dNext, dCall, dCallF, dB, dBin, dCons, dNil, dTup, dLst, dV, dC, dTV, onB, dTAnd, dTOr, dTNot, dAnd, dOr, dNot, dIfE, dIsN, dNotN, isN, dSl, dSlF, dNoPart, dPart, dPar, dParS, dAsg, dgN, dgT, dgCons, dgNil, seqD, dFE, dIsi, dListF, dNeg, dRev, dFrz, dApp, dAppS, dIns, dExtend, dClear, dReverse, dPop, oIx, oI, oIC, oAddU, oSubI, oMulU, oMulI, oFd, oMd, oPw, oLt, oLe, oGt, oGe, oEq, oNe, getF, setF, Cl.d, getS, setS, purF, allF, rho0, endsOf, scalD, bLen, bAbs, bInt, bIntU, bTup, Slot.dat, true_and, and_true, Option.some.injEq, exists_eq_left', decide_eq_true_eq, Bool.not_eq_true', decide_eq_false_iff_not, it_eQ0, it_eQ1, it_eP0, it_eP1, it_eS0, it_eS1, fits_eQ, fits_eP, fits_eS, eqv_eQ, eqv_eP, eqv_eS, eqv_int, eqv_bool, shp_int, shp_bool, shp_none, shp_eQ, shp_eP, shp_eS, dCont, dBreak, dXi, dSetG, dAppG, oIsB, oNotB, dTx, pJoin, pSplit, pPart, pStarts, bStr, bIntS, dFmt, dJs, ↓reduceIte, nsp_none, nsp_bool, nsp_int, nsp_str, nsp_list, nsp_tuple, nsp_eQ, nsp_eP, nsp_eS]
            have hq : acc[ahead p acc]? = some (acc.getD (ahead p acc) default) := by
              rw [List.getD_eq_getElem?_getD, List.getElem?_eq_getElem hlt]
              rfl
            split
            · rename_i k1
              have hne : p ∉ acc := fun z => by
                have y := (mem_ahead hS).mp z
                rw [hq] at y
                exact k1 (Option.some.inj y)
              exact ins hne
            · rename_i k1
              have k2 : acc.getD (ahead p acc) default = p := by simpa using k1
              have hin : p ∈ acc := (mem_ahead hS).mpr (by rw [hq, k2])
              refine done _ ?_
              unfold insP
              rw [if_pos hin]
    · rintro ρ' ⟨x, y, z, w, rfl⟩
      rw [List.length_map, List.take_length]
      exact h
  rcases hds with rfl | rfl
  · exact body _ rfl
  · exact body _ rfl
end L2.D3
set_option maxHeartbeats 4000000
/-! What the laws' own drawing of numbers gives. -/
namespace L2.D3
open PySem PySem.Spec PyProof.Rows
theorem cutD_map {α : Type} (f : α → Dt) (xs : List α) (lo hi : Option Int) : cutD (xs.map f) lo hi = (cutD xs lo hi).map f := by
  unfold cutD
  rw [List.length_map, List.map_take, List.map_drop]
theorem cutD_len {α : Type} (xs : List α) (lo hi : Option Int) : (cutD xs lo hi).length ≤ xs.length := by
  unfold cutD
  rw [List.length_take, List.length_drop]
  omega
/-- xs[k:] -/
theorem cutD_from {α : Type} (xs : List α) (k : Nat) : cutD xs (some (k : Int)) none = xs.drop k := by
  unfold cutD
  rw [HT.sIx_nat, HT.sIx_none]
  by_cases c : k ≤ xs.length
  · rw [Nat.min_eq_left c, List.take_of_length_le (by rw [List.length_drop]; exact Nat.le_refl _)]
  · rw [Nat.min_eq_right (by omega), Nat.sub_self, List.take_zero, List.drop_of_length_le (by omega)]
/-- xs[:k] -/
theorem cutD_to {α : Type} (xs : List α) (k : Nat) : cutD xs none (some (k : Int)) = xs.take k := by
  unfold cutD
  rw [HT.sIx_nat, HT.sIx_none, List.drop_zero, Nat.sub_zero]
  by_cases c : k ≤ xs.length
  · rw [Nat.min_eq_left c]
  · rw [Nat.min_eq_right (by omega), List.take_length, List.take_of_length_le (by omega)]
theorem it_at {ds : List Dt} {i : Int} {k : Nat} {d : Dt} (e : i = (k : Int)) (h : ds[k]? = some d) : itemD (.list ds) i = some d := by
  show atI ds i = some d
  rw [e]
  exact atI_nat h
theorem it_atT {ds : List Dt} {i : Int} {k : Nat} {d : Dt} (e : i = (k : Int)) (h : ds[k]? = some d) : itemD (.tuple ds) i = some d := by
  show atI ds i = some d
  rw [e]
  exact atI_nat h
theorem it_l0 (x : Dt) (r : List Dt) : itemD (.list (x :: r)) 0 = some x := it_at (k := 0) rfl rfl
theorem it_l1 (x y : Dt) (r : List Dt) : itemD (.list (x :: y :: r)) 1 = some y := it_at (k := 1) rfl rfl
theorem it_l2 (x y z : Dt) (r : List Dt) : itemD (.list (x :: y :: z :: r)) 2 = some z := it_at (k := 2) rfl rfl
theorem it_t0 (x : Dt) (r : List Dt) : itemD (.tuple (x :: r)) 0 = some x := it_atT (k := 0) rfl rfl
theorem it_t1 (x y : Dt) (r : List Dt) : itemD (.tuple (x :: y :: r)) 1 = some y := it_atT (k := 1) rfl rfl
theorem it_t2 (x y z : Dt) (r : List Dt) : itemD (.tuple (x :: y :: z :: r)) 2 = some z := it_atT (k := 2) rfl rfl
theorem cmN {a b : Int} (ha : a.natAbs < 2 ^ 240) (hb : b.natAbs < 2 ^ 240) : CMulW a b := cm ha hb (by decide)
theorem fmod_b {x : Int} {m : Int} (hm : 0 < m) : 0 ≤ x.fmod m ∧ x.fmod m < m := ⟨Int.fmod_nonneg_of_pos x hm, Int.fmod_lt_of_pos x hm⟩
theorem cfdN {a b : Int} (h0 : b ≠ 0) (hb : b.natAbs < 2 ^ 240) : CFd a b := cfd h0 hb (by decide)
theorem rng_get {n k : Nat} {d : Dt} (h : ((List.range n).map fun (k : Nat) => PyData.int k)[k]? = some d) : k < n ∧ d = .int k := by
  rw [List.getElem?_map] at h
  cases c : (List.range n)[k]? with
  | none => rw [c] at h; cases h
  | some j =>
    rw [c] at h
    obtain ⟨h1, h2⟩ := List.getElem?_eq_some_iff.mp c
    rw [List.getElem_range] at h2
    rw [List.length_range] at h1
    subst h2
    exact ⟨h1, (Option.some.inj h).symm⟩
theorem rng_len (n : Nat) : ((List.range n).map fun (k : Nat) => PyData.int k).length = n := by rw [List.length_map, List.length_range]
theorem map_get {α : Type} {f : α → Dt} {xs : List α} {k : Nat} {d : Dt} (h : (xs.map f)[k]? = some d) : ∃ x, xs[k]? = some x ∧ d = f x := by
  rw [List.getElem?_map] at h
  cases c : xs[k]? with
  | none => rw [c] at h; cases h
  | some x => rw [c] at h; exact ⟨x, rfl, (Option.some.inj h).symm⟩
/-- a number as _law_numbers draws it -/
def Drw (x : Int) : Prop := 0 ≤ x ∧ x < 1999999973
def sp__law_cell : DSp := fun ds Φ _ => ∃ (ns : List Int) (k : Int), ds = [.list (ns.map .int), .int k] ∧ ns.length ≤ 63 ∧ 0 ≤ k ∧ k ≤ 1000 ∧ ∀ c : Int, Φ (.pu (.int c))
def sp__law_numbers : DSp := fun ds Φ _ => ∃ (c : Int) (m : Nat), ds = [.int c, .int m] ∧ m ≤ 1000 ∧ ∀ xs : List Int, xs.length = m → (∀ x ∈ xs, Drw x) → Φ (.ow (xs.map .int))
def sp__law_low : DSp := sp_lowest
abbrev N__law_cell : List Str := ["_law_script", "_law_k", "_law_state", "_law_cell_here"]
def d__law_cell : DS := (dSeq (dIf (dTV (dBin oLt (dV 1) (dB bLen (dCons (dV 0) dNil)))) (dRet (dBin oIx (dV 0) (dV 1))) dNext)
  (dSeq (dSetP 2 (dBin oMd (dBin oMulU (dC (.int 48271)) (dBin oAddU (dBin oAddU (dBin oMulU (dV 1) (dV 1)) (dBin oMulU (dC (.int 7)) (dV 1))) (dC (.int 11)))) (dC (.int 2147483647))))
  (dSeq (dFor (diSeq (dSl (dV 0) dNoPart (dPart (dC (.int 3))))) (dgN 3) (dSetP 2 (dBin oMd (dBin oAddU (dBin oMulU (dV 2) (dC (.int 69621))) (dV 3)) (dC (.int 2147483647)))))
  (dRet (dV 2)))))
abbrev N__law_numbers : List Str := ["_law_cell_here", "_law_many", "_law_found", "_law_state", "_law_digits", "_law_k"]
def d__law_numbers : DS := (dSeq (dSetF 2 dNil)
  (dSeq (dSetP 3 (dBin oMd (dBin oMulU (dBin oAddU (dBin oMd (dV 0) (dC (.int 1999999973))) (dC (.int 31))) (dC (.int 765432101))) (dC (.int 1999999973))))
  (dSeq (dSetP 4 (dC (.int 0)))
  (dSeq (dIf (dTOr (dTV (dBin oLt (dV 0) (dC (.int 0)))) (dTV (dBin oGe (dV 0) (dBin oPw (dC (.int 10)) (dC (.int 18)))))) (dSetP 4 (dB bAbs (dCons (dV 0) dNil))) dNext)
  (dSeq (dFor (diRng1 (dCons (dV 1) dNil)) (dgN 5) (dSeq (dSetP 3 (dBin oMd (dBin oAddU (dBin oAddU (dBin oMulU (dV 3) (dBin oAddU (dBin oMd (dV 3) (dC (.int 65521))) (dC (.int 40487)))) (dBin oMulU (dC (.int 7)) (dV 5))) (dC (.int 5))) (dC (.int 1999999973))))
  (dSeq (dApp 2 (dBin oIx (dLst (dCons (dV 3) (dCons (dBin oMd (dV 4) (dC (.int 1000000))) dNil))) (dB bIntU (dCons (dBin oGt (dV 4) (dC (.int 0))) dNil))))
  (dSetP 4 (dBin oFd (dV 4) (dC (.int 1000000)))))))
  (dRetO 2))))))
abbrev N__law_low : List Str := ["_law_top", "_law_bottom", "_law_high", "_law_low_here"]
def d__law_low : DS := (dSeq (dPar 2 3 (dCons (dB bAbs (dCons (dV 0) dNil)) (dCons (dB bAbs (dCons (dV 1) dNil)) dNil)))
  (dSeq (dWhile (dTV (dBin oGt (dV 3) (dC (.int 0)))) (dPar 2 3 (dCons (dV 3) (dCons (dBin oMd (dV 2) (dV 3)) dNil))))
  (dSeq (dIf (dTV (dBin oLt (dV 1) (dC (.int 0)))) (dSetP 2 (dBin oSubI (dC (.int 0)) (dV 2))) dNext)
  (dRet (dTup (dCons (dBin oFd (dV 0) (dV 2)) (dCons (dBin oFd (dV 1) (dV 2)) dNil)))))))
theorem rd__law_cell (ds : List Dt) (Φ : Slot → Prop) (Ξ : XD → Prop) (h : sp__law_cell ds Φ Ξ) : d__law_cell (endsOf Φ Ξ) (rho0 N__law_cell ds) := by
  obtain ⟨ns, k, rfl, hl, h0, h1, h⟩ := h
  simp only [d__law_cell, N__law_cell, dRet, dRetF, dSetX, dCallX, dRetX, noOw, dTry, dCpy, dRaise, dRetO, dSetP, dSetS, dSetF, dSeq, dIf, dNext, dCall, dCallF, dB, dBin, dCons, dNil, dTup, dLst, dV, dC, dTV, onB, dTAnd, dTOr, dTNot, dAnd, dOr, dNot, dIfE, dIsN, dNotN, isN, dSl, dSlF, dNoPart, dPart, dPar, dParS, dAsg, dgN, dgT, dgCons, dgNil, seqD, dFE, dIsi, dListF, dNeg, dRev, dFrz, dApp, dAppS, dIns, dExtend, dClear, dReverse, dPop, oIx, oI, oIC, oAddU, oSubI, oMulU, oMulI, oFd, oMd, oPw, oLt, oLe, oGt, oGe, oEq, oNe, getF, setF, Cl.d, getS, setS, purF, allF, rho0, endsOf, scalD, bLen, bAbs, bInt, bIntU, bTup, Slot.dat, true_and, and_true, Option.some.injEq, exists_eq_left', decide_eq_true_eq, Bool.not_eq_true', decide_eq_false_iff_not, it_eQ0, it_eQ1, it_eP0, it_eP1, it_eS0, it_eS1, fits_eQ, fits_eP, fits_eS, eqv_eQ, eqv_eP, eqv_eS, eqv_int, eqv_bool, shp_int, shp_bool, shp_none, shp_eQ, shp_eP, shp_eS, dCont, dBreak, dXi, dSetG, dAppG, oIsB, oNotB, dTx, pJoin, pSplit, pPart, pStarts, bStr, bIntS, dFmt, dJs, ↓reduceIte, nsp_none, nsp_bool, nsp_int, nsp_str, nsp_list, nsp_tuple, nsp_eQ, nsp_eP, nsp_eS, List.length_map]
  split
  · rename_i c
    refine ⟨trivial, _, it_map h0 c, ?_⟩
    exact h _
  · rename_i c
    refine ⟨cmN (by omega) (by omega), cmN (by omega) (by omega), ?_⟩
    have hk2 : 0 ≤ k * k ∧ k * k ≤ 1000000 := ⟨Int.mul_nonneg h0 h0, by have := Int.mul_le_mul h1 h1 h0 (by decide : (0 : Int) ≤ 1000); omega⟩
    refine ⟨cmN (by omega) (by omega), by decide, ?_⟩
    simp only [dFor, diSeq, slD, cutD_map, walkD, dRet, dRetF, dSetX, dCallX, dRetX, noOw, dTry, dCpy, dRaise, dRetO, dSetP, dSetS, dSetF, dSeq, dIf, dNext, dCall, dCallF, dB, dBin, dCons, dNil, dTup, dLst, dV, dC, dTV, onB, dTAnd, dTOr, dTNot, dAnd, dOr, dNot, dIfE, dIsN, dNotN, isN, dSl, dSlF, dNoPart, dPart, dPar, dParS, dAsg, dgN, dgT, dgCons, dgNil, seqD, dFE, dIsi, dListF, dNeg, dRev, dFrz, dApp, dAppS, dIns, dExtend, dClear, dReverse, dPop, oIx, oI, oIC, oAddU, oSubI, oMulU, oMulI, oFd, oMd, oPw, oLt, oLe, oGt, oGe, oEq, oNe, getF, setF, Cl.d, getS, setS, purF, allF, rho0, endsOf, scalD, bLen, bAbs, bInt, bIntU, bTup, Slot.dat, true_and, and_true, Option.some.injEq, exists_eq_left', decide_eq_true_eq, Bool.not_eq_true', decide_eq_false_iff_not, it_eQ0, it_eQ1, it_eP0, it_eP1, it_eS0, it_eS1, fits_eQ, fits_eP, fits_eS, eqv_eQ, eqv_eP, eqv_eS, eqv_int, eqv_bool, shp_int, shp_bool, shp_none, shp_eQ, shp_eP, shp_eS, dCont, dBreak, dXi, dSetG, dAppG, oIsB, oNotB, dTx, pJoin, pSplit, pPart, pStarts, bStr, bIntS, dFmt, dJs, ↓reduceIte, nsp_none, nsp_bool, nsp_int, nsp_str, nsp_list, nsp_tuple, nsp_eQ, nsp_eP, nsp_eS]
    refine ⟨trivial, fun j ρ => ∃ (st : Int) (w : Slot), ρ = [.pu (.list (ns.map .int)), .pu (.int k), .pu (.int st), w] ∧ 0 ≤ st ∧ st < 2147483647, ?_, ?_, ?_⟩
    · obtain ⟨g0, g1⟩ := fmod_b (x := 48271 * (k * k + 7 * k + 11)) (m := 2147483647) (by decide)
      exact ⟨_, _, rfl, g0, g1⟩
    · rintro j d ρ' hj ⟨st, w, rfl, s0, s1⟩
      obtain ⟨x, hx, rfl⟩ := map_get hj
      simp only [dRet, dRetF, dSetX, dCallX, dRetX, noOw, dTry, dCpy, dRaise, dRetO, dSetP, dSetS, dSetF, dSeq, dIf, dNext, dCall, dCallF, dB, dBin, dCons, dNil, dTup, dLst, dV, dC, dTV, onB, dTAnd, dTOr, dTNot, dAnd, dOr, dNot, dIfE, dIsN, dNotN, isN, dSl, dSlF, dNoPart, dPart, dPar, dParS, dAsg, dgN, dgT, dgCons, dgNil, seqD, dFE, dIsi, dListF, dNeg, dRev, dFrz, dApp, dAppS, dIns, dExtend, dClear, dReverse, dPop, oIx, oI, oIC, oAddU, oSubI, oMulU, oMulI, oFd, oMd, oPw, oLt, oLe, oGt, oGe, oEq, oNe, getF, setF, Cl.d, getS, setS, purF, allF, rho0, endsOf, scalD, bLen, bAbs, bInt, bIntU, bTup, Slot.dat, true_and, and_true, Option.some.injEq, exists_eq_left', decide_eq_true_eq, Bool.not_eq_true', decide_eq_false_iff_not, it_eQ0, it_eQ1, it_eP0, it_eP1, it_eS0, it_eS1, fits_eQ, fits_eP, fits_eS, eqv_eQ, eqv_eP, eqv_eS, eqv_int, eqv_bool, shp_int, shp_bool, shp_none, shp_eQ, shp_eP, shp_eS, dCont, dBreak, dXi, dSetG, dAppG, oIsB, oNotB, dTx, pJoin, pSplit, pPart, pStarts, bStr, bIntS, dFmt, dJs, ↓reduceIte, nsp_none, nsp_bool, nsp_int, nsp_str, nsp_list, nsp_tuple, nsp_eQ, nsp_eP, nsp_eS]
      refine ⟨cmN (by omega) (by omega), by decide, _, _, rfl, ?_⟩
      exact fmod_b (by decide)
    · rintro ρ' ⟨st, w, rfl, s0, s1⟩
      simp only [dRet, dRetF, dSetX, dCallX, dRetX, noOw, dTry, dCpy, dRaise, dRetO, dSetP, dSetS, dSetF, dSeq, dIf, dNext, dCall, dCallF, dB, dBin, dCons, dNil, dTup, dLst, dV, dC, dTV, onB, dTAnd, dTOr, dTNot, dAnd, dOr, dNot, dIfE, dIsN, dNotN, isN, dSl, dSlF, dNoPart, dPart, dPar, dParS, dAsg, dgN, dgT, dgCons, dgNil, seqD, dFE, dIsi, dListF, dNeg, dRev, dFrz, dApp, dAppS, dIns, dExtend, dClear, dReverse, dPop, oIx, oI, oIC, oAddU, oSubI, oMulU, oMulI, oFd, oMd, oPw, oLt, oLe, oGt, oGe, oEq, oNe, getF, setF, Cl.d, getS, setS, purF, allF, rho0, endsOf, scalD, bLen, bAbs, bInt, bIntU, bTup, Slot.dat, true_and, and_true, Option.some.injEq, exists_eq_left', decide_eq_true_eq, Bool.not_eq_true', decide_eq_false_iff_not, it_eQ0, it_eQ1, it_eP0, it_eP1, it_eS0, it_eS1, fits_eQ, fits_eP, fits_eS, eqv_eQ, eqv_eP, eqv_eS, eqv_int, eqv_bool, shp_int, shp_bool, shp_none, shp_eQ, shp_eP, shp_eS, dCont, dBreak, dXi, dSetG, dAppG, oIsB, oNotB, dTx, pJoin, pSplit, pPart, pStarts, bStr, bIntS, dFmt, dJs, ↓reduceIte, nsp_none, nsp_bool, nsp_int, nsp_str, nsp_list, nsp_tuple, nsp_eQ, nsp_eP, nsp_eS]
      exact h _
theorem rd__law_numbers (ds : List Dt) (Φ : Slot → Prop) (Ξ : XD → Prop) (h : sp__law_numbers ds Φ Ξ) : d__law_numbers (endsOf Φ Ξ) (rho0 N__law_numbers ds) := by
  obtain ⟨c, m, rfl, hm, h⟩ := h
  have hz : (1000 : Nat) < sizeLine := by decide
  simp only [d__law_numbers, N__law_numbers, dRet, dRetF, dSetX, dCallX, dRetX, noOw, dTry, dCpy, dRaise, dRetO, dSetP, dSetS, dSetF, dSeq, dIf, dNext, dCall, dCallF, dB, dBin, dCons, dNil, dTup, dLst, dV, dC, dTV, onB, dTAnd, dTOr, dTNot, dAnd, dOr, dNot, dIfE, dIsN, dNotN, isN, dSl, dSlF, dNoPart, dPart, dPar, dParS, dAsg, dgN, dgT, dgCons, dgNil, seqD, dFE, dIsi, dListF, dNeg, dRev, dFrz, dApp, dAppS, dIns, dExtend, dClear, dReverse, dPop, oIx, oI, oIC, oAddU, oSubI, oMulU, oMulI, oFd, oMd, oPw, oLt, oLe, oGt, oGe, oEq, oNe, getF, setF, Cl.d, getS, setS, purF, allF, rho0, endsOf, scalD, bLen, bAbs, bInt, bIntU, bTup, Slot.dat, true_and, and_true, Option.some.injEq, exists_eq_left', decide_eq_true_eq, Bool.not_eq_true', decide_eq_false_iff_not, it_eQ0, it_eQ1, it_eP0, it_eP1, it_eS0, it_eS1, fits_eQ, fits_eP, fits_eS, eqv_eQ, eqv_eP, eqv_eS, eqv_int, eqv_bool, shp_int, shp_bool, shp_none, shp_eQ, shp_eP, shp_eS, dCont, dBreak, dXi, dSetG, dAppG, oIsB, oNotB, dTx, pJoin, pSplit, pPart, pStarts, bStr, bIntS, dFmt, dJs, ↓reduceIte, nsp_none, nsp_bool, nsp_int, nsp_str, nsp_list, nsp_tuple, nsp_eQ, nsp_eP, nsp_eS]
  obtain ⟨f0, f1⟩ := fmod_b (x := c) (m := 1999999973) (by decide)
  refine ⟨by decide, cmN (by omega) (by omega), by decide, ?_⟩
  obtain ⟨g0, g1⟩ := fmod_b (x := (c.fmod 1999999973 + 31) * 765432101) (m := 1999999973) (by decide)
  have hp : CPow 10 18 := ⟨by decide, by decide, by decide⟩
  have loop : ∀ (s0 dg : Int), 0 ≤ s0 → s0 < 1999999973 → 0 ≤ dg → dFor (diRng1 (dCons (dV 1) dNil)) (dgN 5) (dSeq (dSetP 3 (dBin oMd (dBin oAddU (dBin oAddU (dBin oMulU (dV 3) (dBin oAddU (dBin oMd (dV 3) (dC (.int 65521))) (dC (.int 40487)))) (dBin oMulU (dC (.int 7)) (dV 5))) (dC (.int 5))) (dC (.int 1999999973))))
      (dSeq (dApp 2 (dBin oIx (dLst (dCons (dV 3) (dCons (dBin oMd (dV 4) (dC (.int 1000000))) dNil))) (dB bIntU (dCons (dBin oGt (dV 4) (dC (.int 0))) dNil))))
      (dSetP 4 (dBin oFd (dV 4) (dC (.int 1000000)))))) { endsOf Φ Ξ with nx := dRetO 2 (endsOf Φ Ξ) } [.pu (.int c), .pu (.int m), .ow [], .pu (.int s0), .pu (.int dg), .un] := fun s0 dg s1 s2 d0 => by
    simp only [dFor, diRng1, dRet, dRetF, dSetX, dCallX, dRetX, noOw, dTry, dCpy, dRaise, dRetO, dSetP, dSetS, dSetF, dSeq, dIf, dNext, dCall, dCallF, dB, dBin, dCons, dNil, dTup, dLst, dV, dC, dTV, onB, dTAnd, dTOr, dTNot, dAnd, dOr, dNot, dIfE, dIsN, dNotN, isN, dSl, dSlF, dNoPart, dPart, dPar, dParS, dAsg, dgN, dgT, dgCons, dgNil, seqD, dFE, dIsi, dListF, dNeg, dRev, dFrz, dApp, dAppS, dIns, dExtend, dClear, dReverse, dPop, oIx, oI, oIC, oAddU, oSubI, oMulU, oMulI, oFd, oMd, oPw, oLt, oLe, oGt, oGe, oEq, oNe, getF, setF, Cl.d, getS, setS, purF, allF, rho0, endsOf, scalD, bLen, bAbs, bInt, bIntU, bTup, Slot.dat, true_and, and_true, Option.some.injEq, exists_eq_left', decide_eq_true_eq, Bool.not_eq_true', decide_eq_false_iff_not, it_eQ0, it_eQ1, it_eP0, it_eP1, it_eS0, it_eS1, fits_eQ, fits_eP, fits_eS, eqv_eQ, eqv_eP, eqv_eS, eqv_int, eqv_bool, shp_int, shp_bool, shp_none, shp_eQ, shp_eP, shp_eS, dCont, dBreak, dXi, dSetG, dAppG, oIsB, oNotB, dTx, pJoin, pSplit, pPart, pStarts, bStr, bIntS, dFmt, dJs, ↓reduceIte, nsp_none, nsp_bool, nsp_int, nsp_str, nsp_list, nsp_tuple, nsp_eQ, nsp_eP, nsp_eS]
    refine ⟨by omega, by omega, fun k ρ => ∃ (xs : List Int) (st dg : Int) (w : Slot), ρ = [.pu (.int c), .pu (.int m), .ow (xs.map .int), .pu (.int st), .pu (.int dg), w] ∧ xs.length = k ∧ (∀ x ∈ xs, Drw x) ∧ 0 ≤ st ∧ st < 1999999973 ∧ 0 ≤ dg, ⟨[], _, _, _, rfl, rfl, (fun x hx => by cases hx), s1, s2, d0⟩, ?_, ?_⟩
    · rintro k d ρ' hk ⟨xs, st, dg, w, rfl, hx, hd, t1, t2, t3⟩
      obtain ⟨hkm, rfl⟩ := rng_get hk
      simp only [dRet, dRetF, dSetX, dCallX, dRetX, noOw, dTry, dCpy, dRaise, dRetO, dSetP, dSetS, dSetF, dSeq, dIf, dNext, dCall, dCallF, dB, dBin, dCons, dNil, dTup, dLst, dV, dC, dTV, onB, dTAnd, dTOr, dTNot, dAnd, dOr, dNot, dIfE, dIsN, dNotN, isN, dSl, dSlF, dNoPart, dPart, dPar, dParS, dAsg, dgN, dgT, dgCons, dgNil, seqD, dFE, dIsi, dListF, dNeg, dRev, dFrz, dApp, dAppS, dIns, dExtend, dClear, dReverse, dPop, oIx, oI, oIC, oAddU, oSubI, oMulU, oMulI, oFd, oMd, oPw, oLt, oLe, oGt, oGe, oEq, oNe, getF, setF, Cl.d, getS, setS, purF, allF, rho0, endsOf, scalD, bLen, bAbs, bInt, bIntU, bTup, Slot.dat, true_and, and_true, Option.some.injEq, exists_eq_left', decide_eq_true_eq, Bool.not_eq_true', decide_eq_false_iff_not, it_eQ0, it_eQ1, it_eP0, it_eP1, it_eS0, it_eS1, fits_eQ, fits_eP, fits_eS, eqv_eQ, eqv_eP, eqv_eS, eqv_int, eqv_bool, shp_int, shp_bool, shp_none, shp_eQ, shp_eP, shp_eS, dCont, dBreak, dXi, dSetG, dAppG, oIsB, oNotB, dTx, pJoin, pSplit, pPart, pStarts, bStr, bIntS, dFmt, dJs, ↓reduceIte, nsp_none, nsp_bool, nsp_int, nsp_str, nsp_list, nsp_tuple, nsp_eQ, nsp_eP, nsp_eS]
      obtain ⟨a0, a1⟩ := fmod_b (x := st) (m := 65521) (by decide)
      refine ⟨by decide, cmN (by omega) (by omega), cmN (by omega) (by omega), by decide, by decide, trivial, ?_⟩
      obtain ⟨e0, e1⟩ := fmod_b (x := st * (st.fmod 65521 + 40487) + 7 * (k : Int) + 5) (m := 1999999973) (by decide)
      obtain ⟨b0, b1⟩ := fmod_b (x := dg) (m := 1000000) (by decide)
      have dn : 0 ≤ dg.fdiv 1000000 := by rw [Int.fdiv_eq_ediv_of_nonneg _ (by decide)]; omega
      have fin : ∀ y : Int, Drw y → (xs.map PyData.int).length < sizeLine ∧ CFd dg 1000000 ∧ ∃ (xs' : List Int) (st' dg' : Int) (w' : Slot), [Slot.pu (.int c), .pu (.int m), .ow (xs.map PyData.int ++ [.int y]), .pu (.int ((st * (st.fmod 65521 + 40487) + 7 * (k : Int) + 5).fmod 1999999973)), .pu (.int (dg.fdiv 1000000)), .pu (.int k)] = [.pu (.int c), .pu (.int m), .ow (xs'.map .int), .pu (.int st'), .pu (.int dg'), w'] ∧ xs'.length = k + 1 ∧ (∀ x ∈ xs', Drw x) ∧ 0 ≤ st' ∧ st' < 1999999973 ∧ 0 ≤ dg' := fun y hy => by
        refine ⟨by rw [List.length_map]; omega, cfdN (by decide) (by decide), xs ++ [y], _, _, _, by rw [List.map_append]; rfl, by rw [List.length_append, hx]; rfl, fun x hx2 => ?_, e0, e1, dn⟩
        rcases List.mem_append.mp hx2 with z | z
        · exact hd x z
        · rw [List.mem_singleton.mp z]; exact hy
      by_cases c0 : 0 < dg
      · simp only [c0, if_true]
        refine ⟨_, it_l1 _ _ _, ?_⟩
        exact fin _ ⟨b0, by omega⟩
      · simp only [c0, if_false]
        refine ⟨_, it_l0 _ _, ?_⟩
        exact fin _ ⟨e0, e1⟩
    · rintro ρ' ⟨xs, st, dg, w, rfl, hx, hd, t1, t2, t3⟩
      rw [rng_len] at hx
      simp only [dRet, dRetF, dSetX, dCallX, dRetX, noOw, dTry, dCpy, dRaise, dRetO, dSetP, dSetS, dSetF, dSeq, dIf, dNext, dCall, dCallF, dB, dBin, dCons, dNil, dTup, dLst, dV, dC, dTV, onB, dTAnd, dTOr, dTNot, dAnd, dOr, dNot, dIfE, dIsN, dNotN, isN, dSl, dSlF, dNoPart, dPart, dPar, dParS, dAsg, dgN, dgT, dgCons, dgNil, seqD, dFE, dIsi, dListF, dNeg, dRev, dFrz, dApp, dAppS, dIns, dExtend, dClear, dReverse, dPop, oIx, oI, oIC, oAddU, oSubI, oMulU, oMulI, oFd, oMd, oPw, oLt, oLe, oGt, oGe, oEq, oNe, getF, setF, Cl.d, getS, setS, purF, allF, rho0, endsOf, scalD, bLen, bAbs, bInt, bIntU, bTup, Slot.dat, true_and, and_true, Option.some.injEq, exists_eq_left', decide_eq_true_eq, Bool.not_eq_true', decide_eq_false_iff_not, it_eQ0, it_eQ1, it_eP0, it_eP1, it_eS0, it_eS1, fits_eQ, fits_eP, fits_eS, eqv_eQ, eqv_eP, eqv_eS, eqv_int, eqv_bool, shp_int, shp_bool, shp_none, shp_eQ, shp_eP, shp_eS, dCont, dBreak, dXi, dSetG, dAppG, oIsB, oNotB, dTx, pJoin, pSplit, pPart, pStarts, bStr, bIntS, dFmt, dJs, ↓reduceIte, nsp_none, nsp_bool, nsp_int, nsp_str, nsp_list, nsp_tuple, nsp_eQ, nsp_eP, nsp_eS]
      exact h xs (by simpa using hx) hd
  have tail : ∀ dg : Int, 0 ≤ dg → _ := fun dg hdg => loop ((c.fmod 1999999973 + 31) * 765432101 |>.fmod 1999999973) dg g0 g1 hdg
  split
  · exact tail _ (by omega)
  · refine ⟨hp, ?_⟩
    split
    · exact tail _ (by omega)
    · exact tail _ (by omega)
theorem rd__law_low (ds : List Dt) (Φ : Slot → Prop) (Ξ : XD → Prop) (h : sp__law_low ds Φ Ξ) : d__law_low (endsOf Φ Ξ) (rho0 N__law_low ds) := by
  obtain ⟨a, b, rfl, h0, hb, h⟩ := h
  have hd0 : (Int.gcd a b) ≠ 0 := fun z => h0 (Int.gcd_eq_zero_iff.mp z).2
  have hgl : Int.gcd a b ≤ b.natAbs := Nat.le_of_dvd (by omega) (Int.gcd_dvd_natAbs_right a b)
  have hlt : Int.gcd a b < 2 ^ 8990 := Nat.lt_of_le_of_lt hgl hb
  simp only [d__law_low, N__law_low, dRet, dRetF, dSetX, dCallX, dRetX, noOw, dTry, dCpy, dRaise, dRetO, dSetP, dSetS, dSetF, dSeq, dIf, dNext, dCall, dCallF, dB, dBin, dCons, dNil, dTup, dLst, dV, dC, dTV, onB, dTAnd, dTOr, dTNot, dAnd, dOr, dNot, dIfE, dIsN, dNotN, isN, dSl, dSlF, dNoPart, dPart, dPar, dParS, dAsg, dgN, dgT, dgCons, dgNil, seqD, dFE, dIsi, dListF, dNeg, dRev, dFrz, dApp, dAppS, dIns, dExtend, dClear, dReverse, dPop, oIx, oI, oIC, oAddU, oSubI, oMulU, oMulI, oFd, oMd, oPw, oLt, oLe, oGt, oGe, oEq, oNe, getF, setF, Cl.d, getS, setS, purF, allF, rho0, endsOf, scalD, bLen, bAbs, bInt, bIntU, bTup, Slot.dat, true_and, and_true, Option.some.injEq, exists_eq_left', decide_eq_true_eq, Bool.not_eq_true', decide_eq_false_iff_not, it_eQ0, it_eQ1, it_eP0, it_eP1, it_eS0, it_eS1, fits_eQ, fits_eP, fits_eS, eqv_eQ, eqv_eP, eqv_eS, eqv_int, eqv_bool, shp_int, shp_bool, shp_none, shp_eQ, shp_eP, shp_eS, dCont, dBreak, dXi, dSetG, dAppG, oIsB, oNotB, dTx, pJoin, pSplit, pPart, pStarts, bStr, bIntS, dFmt, dJs, ↓reduceIte, nsp_none, nsp_bool, nsp_int, nsp_str, nsp_list, nsp_tuple, nsp_eQ, nsp_eP, nsp_eS, dWhile]
  refine ⟨fun m ρ => ∃ h l : Nat, ρ = [.pu (.int a), .pu (.int b), .pu (.int h), .pu (.int l)] ∧ m = l ∧ Int.gcd h l = Int.gcd a b, ⟨_, _, _, rfl, rfl, ?_⟩, ?_⟩
  · simp [Int.gcd]
  · rintro m ρ' ⟨h1, l, rfl, rfl, hg⟩
    simp only [dRet, dRetF, dSetX, dCallX, dRetX, noOw, dTry, dCpy, dRaise, dRetO, dSetP, dSetS, dSetF, dSeq, dIf, dNext, dCall, dCallF, dB, dBin, dCons, dNil, dTup, dLst, dV, dC, dTV, onB, dTAnd, dTOr, dTNot, dAnd, dOr, dNot, dIfE, dIsN, dNotN, isN, dSl, dSlF, dNoPart, dPart, dPar, dParS, dAsg, dgN, dgT, dgCons, dgNil, seqD, dFE, dIsi, dListF, dNeg, dRev, dFrz, dApp, dAppS, dIns, dExtend, dClear, dReverse, dPop, oIx, oI, oIC, oAddU, oSubI, oMulU, oMulI, oFd, oMd, oPw, oLt, oLe, oGt, oGe, oEq, oNe, getF, setF, Cl.d, getS, setS, purF, allF, rho0, endsOf, scalD, bLen, bAbs, bInt, bIntU, bTup, Slot.dat, true_and, and_true, Option.some.injEq, exists_eq_left', decide_eq_true_eq, Bool.not_eq_true', decide_eq_false_iff_not, it_eQ0, it_eQ1, it_eP0, it_eP1, it_eS0, it_eS1, fits_eQ, fits_eP, fits_eS, eqv_eQ, eqv_eP, eqv_eS, eqv_int, eqv_bool, shp_int, shp_bool, shp_none, shp_eQ, shp_eP, shp_eS, dCont, dBreak, dXi, dSetG, dAppG, oIsB, oNotB, dTx, pJoin, pSplit, pPart, pStarts, bStr, bIntS, dFmt, dJs, ↓reduceIte, nsp_none, nsp_bool, nsp_int, nsp_str, nsp_list, nsp_tuple, nsp_eQ, nsp_eP, nsp_eS]
    split
    · rename_i hl
      refine ⟨by omega, (Int.fmod h1 m).toNat, ?_, m, _, ?_, rfl, ?_⟩
      · have h0 : (0 : Int) ≤ (h1 : Int).fmod m := Int.fmod_nonneg_of_pos _ (by omega)
        have h2 : (h1 : Int).fmod m < m := Int.fmod_lt_of_pos _ (by omega)
        omega
      · have h0 : (0 : Int) ≤ (h1 : Int).fmod m := Int.fmod_nonneg_of_pos _ (by omega)
        rw [Int.toNat_of_nonneg h0]
      · have h0 : (0 : Int) ≤ (h1 : Int).fmod m := Int.fmod_nonneg_of_pos _ (by omega)
        rw [Int.toNat_of_nonneg h0, gcd_step _ _ (by omega)]
        exact hg
    · rename_i hl
      have e : m = 0 := by omega
      subst e
      rw [show ((0 : Nat) : Int) = 0 from rfl, Int.gcd_zero_right] at hg
      have hg' : h1 = Int.gcd a b := by simpa using hg
      subst hg'
      split
      · rename_i hc
        refine ⟨cfd (m := 8990) (by omega) (by rw [Int.zero_sub, Int.natAbs_neg, Int.natAbs_natCast]; exact hlt) (by decide), cfd (m := 8990) (by omega) (by rw [Int.zero_sub, Int.natAbs_neg, Int.natAbs_natCast]; exact hlt) (by decide), ?_⟩
        rw [low_num (g := 0 - ((Int.gcd a b : Nat) : Int)) (by rw [if_pos hc]) h0]
        exact h
      · rename_i hc
        refine ⟨cfd (m := 8990) (by omega) (by rw [Int.natAbs_natCast]; exact hlt) (by decide), cfd (m := 8990) (by omega) (by rw [Int.natAbs_natCast]; exact hlt) (by decide), ?_⟩
        rw [low_num (g := ((Int.gcd a b : Nat) : Int)) (by rw [if_neg hc]) h0]
        exact h
end L2.D3
set_option maxHeartbeats 4000000
/-! Loops and comprehensions by recursion; more of the laws' own defs. -/
namespace L2.D3
open PySem PySem.Spec PyProof.Rows
/-- a for over just these -/
def unr (g : DG) (b : DS) (E : DEnds) : List Dt → Rho → Prop
  | [], ρ => E.nx ρ
  | d :: r, ρ => g d ρ fun ρ2 => b { E with nx := unr g b E r, ct := unr g b E r, bk := E.nx } ρ2
theorem for_unr {g : DG} {b : DS} {E : DEnds} {ds : List Dt} {ρ : Rho} (h : unr g b E ds ρ) : ∃ Iv : Nat → Rho → Prop, Iv 0 ρ ∧
    (∀ k d ρ', ds[k]? = some d → Iv k ρ' → g d ρ' fun ρ2 => b { E with nx := Iv (k + 1), ct := Iv (k + 1), bk := E.nx } ρ2) ∧ ∀ ρ', Iv ds.length ρ' → E.nx ρ' := by
  refine ⟨fun k ρ => unr g b E (ds.drop k) ρ, h, fun k d ρ' hk hi => ?_, fun ρ' hi => ?_⟩
  · have e : ds.drop k = d :: ds.drop (k + 1) := by
      obtain ⟨hl, rfl⟩ := List.getElem?_eq_some_iff.mp hk
      exact List.drop_eq_getElem_cons hl
    have hi' : unr g b E (ds.drop k) ρ' := hi
    rw [e] at hi'
    exact hi'
  · have hi' : unr g b E (ds.drop ds.length) ρ' := hi
    rw [List.drop_length] at hi'
    exact hi'
/-- a comprehension over just these -/
def unrC (g : DGc) (t : DT) (de : DE) (φ : Fro) (Φ : List Dt → Prop) : List Dt → List Dt → Prop
  | [], acc => Φ acc
  | d :: r, acc => g d φ fun φ2 => t φ2 fun b => if b = true then de φ2 fun y => acc.length < sizeLine ∧ unrC g t de φ Φ r (acc ++ [y]) else unrC g t de φ Φ r acc
theorem lc_unr {g : DGc} {t : DT} {de : DE} {φ : Fro} {Φ : List Dt → Prop} {ds : List Dt} (h : unrC g t de φ Φ ds []) : ∃ Iv : Nat → List Dt → Prop, Iv 0 [] ∧
    (∀ k d acc, ds[k]? = some d → Iv k acc → g d φ fun φ2 => t φ2 fun b => if b = true then de φ2 fun y => acc.length < sizeLine ∧ Iv (k + 1) (acc ++ [y]) else Iv (k + 1) acc) ∧ ∀ acc, Iv ds.length acc → Φ acc := by
  refine ⟨fun k acc => unrC g t de φ Φ (ds.drop k) acc, h, fun k d acc hk hi => ?_, fun acc hi => ?_⟩
  · have e : ds.drop k = d :: ds.drop (k + 1) := by
      obtain ⟨hl, rfl⟩ := List.getElem?_eq_some_iff.mp hk
      exact List.drop_eq_getElem_cons hl
    have hi' : unrC g t de φ Φ (ds.drop k) acc := hi
    rw [e] at hi'
    exact hi'
  · have hi' : unrC g t de φ Φ (ds.drop ds.length) acc := hi
    rw [List.drop_length] at hi'
    exact hi'
theorem dFor_unr {di : DI} {g : DG} {b : DS} {E : DEnds} {ds : List Dt} {ρ : Rho} (hd : ∀ Q : List Dt → Prop, Q ds → di (purF ρ) Q) (h : unr g b E ds ρ) : dFor di g b E ρ := hd _ (for_unr h)
theorem dFor_iv {di : DI} {g : DG} {b : DS} {E : DEnds} {ds : List Dt} {ρ : Rho} (hd : ∀ Q : List Dt → Prop, Q ds → di (purF ρ) Q) (Iv : Nat → Rho → Prop) (h0 : Iv 0 ρ) (ht : ∀ k d ρ', ds[k]? = some d → Iv k ρ' → g d ρ' fun ρ2 => b { E with nx := Iv (k + 1), ct := Iv (k + 1), bk := E.nx } ρ2) (he : ∀ ρ', Iv ds.length ρ' → E.nx ρ') : dFor di g b E ρ := hd _ ⟨Iv, h0, ht, he⟩
theorem rho0_len_eq : ∀ {N M : List Str} {ds : List Dt}, N.length = M.length → rho0 N ds = rho0 M ds
  | [], [], _, _ => rfl
  | _ :: r, _ :: r', [], h => by
    show Slot.un :: rho0 r [] = Slot.un :: rho0 r' []
    rw [rho0_len_eq (N := r) (M := r') (by simpa using h)]
  | _ :: r, _ :: r', d :: ds, h => by
    show Slot.pu d :: rho0 r ds = Slot.pu d :: rho0 r' ds
    rw [rho0_len_eq (N := r) (M := r') (by simpa using h)]
/-! ### the laws' own sums -/
/-- how many bits a number of the mode has -/
def bm (m : Int) : Nat := if m ≤ 2 then 20 else if m = 3 then 47 else 101
theorem bm_le (m : Int) : bm m ≤ 101 := by
  unfold bm
  split
  · decide
  · split <;> decide
def sp__law_fraction : DSp := fun ds Φ _ => ∃ x y m : Int, ds = [.int x, .int y, .int m] ∧ Drw x ∧ Drw y ∧ 0 ≤ m ∧ m ≤ 4 ∧ ∀ q : Rat, Bd (bm m) q → Φ (.pu (eQ q))
def sp__law_less : DSp := sp_below
def sp__law_before : DSp := sp_before
abbrev N__law_fraction : List Str := ["_law_x", "_law_y", "_law_mode", "_law_sign_here", "_law_great"]
def d__law_fraction : DS := (dSeq (dSetP 3 (dBin oSubI (dC (.int 1)) (dBin oMulU (dC (.int 2)) (dBin oMd (dBin oFd (dV 1) (dC (.int 1000))) (dC (.int 2))))))
  (dSeq (dIf (dTV (dBin oEq (dV 2) (dC (.int 0)))) (dRet (dTup (dCons (dBin oMulU (dV 3) (dBin oMd (dV 0) (dC (.int 5)))) (dCons (dC (.int 1)) dNil)))) dNext)
  (dSeq (dIf (dTV (dBin oEq (dV 2) (dC (.int 1)))) (dRet (dCall sp__law_low (dCons (dBin oMulU (dV 3) (dBin oMd (dV 0) (dC (.int 19)))) (dCons (dBin oAddU (dC (.int 1)) (dBin oMd (dV 1) (dC (.int 6)))) dNil)))) dNext)
  (dSeq (dIf (dTV (dBin oEq (dV 2) (dC (.int 2)))) (dRet (dCall sp__law_low (dCons (dBin oMulU (dV 3) (dBin oMd (dV 0) (dC (.int 1000001)))) (dCons (dBin oAddU (dC (.int 1)) (dBin oMd (dV 1) (dC (.int 1000)))) dNil)))) dNext)
  (dSeq (dSetP 4 (dBin oIx (dLst (dCons (dBin oPw (dC (.int 10)) (dC (.int 14))) (dCons (dBin oPw (dC (.int 10)) (dC (.int 30))) dNil))) (dBin oSubI (dV 2) (dC (.int 3)))))
  (dRet (dCall sp__law_low (dCons (dBin oMulU (dV 3) (dBin oMd (dBin oMulU (dV 0) (dBin oAddU (dBin oPw (dC (.int 10)) (dC (.int 20))) (dBin oMulU (dC (.int 7)) (dV 1)))) (dV 4))) (dCons (dBin oAddU (dC (.int 1)) (dBin oMd (dBin oMulU (dV 1) (dBin oAddU (dBin oPw (dC (.int 10)) (dC (.int 20))) (dBin oMulU (dC (.int 3)) (dV 0)))) (dBin oSubI (dV 4) (dC (.int 1))))) dNil)))))))))
abbrev N__law_less : List Str := ["_law_a", "_law_b"]
def d__law_less : DS := (dRet (dBin oLt (dBin oMulU (dBin oIx (dV 0) (dC (.int 0))) (dBin oIx (dV 1) (dC (.int 1)))) (dBin oMulU (dBin oIx (dV 1) (dC (.int 0))) (dBin oIx (dV 0) (dC (.int 1))))))
abbrev N__law_before : List Str := ["_law_one", "_law_other_here"]
def d__law_before : DS := (dSeq (dIf (dTV (dBin oNe (dBin oIx (dV 0) (dC (.int 0))) (dBin oIx (dV 1) (dC (.int 0))))) (dRet (dCall sp__law_less (dCons (dBin oIx (dV 0) (dC (.int 0))) (dCons (dBin oIx (dV 1) (dC (.int 0))) dNil)))) dNext)
  (dRet (dCall sp__law_less (dCons (dBin oIx (dV 0) (dC (.int 1))) (dCons (dBin oIx (dV 1) (dC (.int 1))) dNil)))))
theorem rd__law_less (ds : List Dt) (Φ : Slot → Prop) (Ξ : XD → Prop) (h : sp__law_less ds Φ Ξ) : d__law_less (endsOf Φ Ξ) (rho0 N__law_less ds) := by
  rw [rho0_len_eq (N := N__law_less) (M := N_below) rfl]
  exact rd_below ds Φ Ξ h
theorem rd__law_before (ds : List Dt) (Φ : Slot → Prop) (Ξ : XD → Prop) (h : sp__law_before ds Φ Ξ) : d__law_before (endsOf Φ Ξ) (rho0 N__law_before ds) := by
  rw [rho0_len_eq (N := N__law_before) (M := N_before) rfl]
  exact rd_before ds Φ Ξ h
theorem bd_low {t b : Int} {n : Nat} (ht : t.natAbs < 2 ^ n) (hb : b.natAbs < 2 ^ n) (h0 : b ≠ 0) : Bd n (Rat.divInt t b) := bd_divInt ht hb h0
theorem rd__law_fraction (ds : List Dt) (Φ : Slot → Prop) (Ξ : XD → Prop) (h : sp__law_fraction ds Φ Ξ) : d__law_fraction (endsOf Φ Ξ) (rho0 N__law_fraction ds) := by
  obtain ⟨x, y, m, rfl, ⟨x0, x1⟩, ⟨y0, y1⟩, m0, m1, h⟩ := h
  simp only [d__law_fraction, N__law_fraction, dRet, dRetF, dSetX, dCallX, dRetX, noOw, dTry, dCpy, dRaise, dRetO, dSetP, dSetS, dSetF, dSeq, dIf, dNext, dCall, dCallF, dB, dBin, dCons, dNil, dTup, dLst, dV, dC, dTV, onB, dTAnd, dTOr, dTNot, dAnd, dOr, dNot, dIfE, dIsN, dNotN, isN, dSl, dSlF, dNoPart, dPart, dPar, dParS, dAsg, dgN, dgT, dgCons, dgNil, seqD, dFE, dIsi, dListF, dNeg, dRev, dFrz, dApp, dAppS, dIns, dExtend, dClear, dReverse, dPop, oIx, oI, oIC, oAddU, oSubI, oMulU, oMulI, oFd, oMd, oPw, oLt, oLe, oGt, oGe, oEq, oNe, getF, setF, Cl.d, getS, setS, purF, allF, rho0, endsOf, scalD, bLen, bAbs, bInt, bIntU, bTup, Slot.dat, true_and, and_true, Option.some.injEq, exists_eq_left', decide_eq_true_eq, Bool.not_eq_true', decide_eq_false_iff_not, it_eQ0, it_eQ1, it_eP0, it_eP1, it_eS0, it_eS1, fits_eQ, fits_eP, fits_eS, eqv_eQ, eqv_eP, eqv_eS, eqv_int, eqv_bool, shp_int, shp_bool, shp_none, shp_eQ, shp_eP, shp_eS, dCont, dBreak, dXi, dSetG, dAppG, oIsB, oNotB, dTx, pJoin, pSplit, pPart, pStarts, bStr, bIntS, dFmt, dJs, ↓reduceIte, nsp_none, nsp_bool, nsp_int, nsp_str, nsp_list, nsp_tuple, nsp_eQ, nsp_eP, nsp_eS]
  have s2 := fmod_b (x := y.fdiv 1000) (m := 2) (by decide)
  refine ⟨cfdN (by decide) (by decide), by decide, cmN (by decide) (by omega), ?_⟩
  generalize hs : 1 - 2 * (y.fdiv 1000).fmod 2 = s at *
  have hsb : s.natAbs ≤ 1 := by omega
  have low : ∀ (n : Nat) (t b : Int), n ≤ 101 → bm m = n → t.natAbs < 2 ^ n → b.natAbs < 2 ^ n → b ≠ 0 → sp_lowest [.int t, .int b] (fun z => Φ (.pu z.dat)) fun _ => False := fun n t b hn101 hn ht hb h0 => ⟨t, b, rfl, h0, Nat.lt_of_lt_of_le hb (Nat.pow_le_pow_right (by decide) (by omega)), h _ (by rw [hn]; exact bd_low ht hb h0)⟩
  have small : ∀ {t : Int} {n : Nat}, t.natAbs < n → (s * t).natAbs < n := fun {t n} ht => by
    rw [Int.natAbs_mul]
    calc s.natAbs * t.natAbs ≤ 1 * t.natAbs := Nat.mul_le_mul hsb (Nat.le_refl _)
      _ < n := by omega
  have p20 : (2 : Nat) ^ 20 = 1048576 := by decide
  have p47 : (2 : Nat) ^ 47 = 140737488355328 := by decide
  have p101 : (2 : Nat) ^ 101 = 2535301200456458802993406410752 := by decide
  split
  · rename_i c0
    have f := fmod_b (x := x) (m := 5) (by decide)
    refine ⟨by decide, cmN (by omega) (by omega), ?_⟩
    have e : PyData.tuple [.int (s * x.fmod 5), .int 1] = eQ ((s * x.fmod 5 : Int) : Rat) := rfl
    rw [e]
    have hb : bm m = 20 := by unfold bm; rw [if_pos (by omega)]
    refine h _ ?_
    rw [hb]
    exact ⟨small (n := 2 ^ 20) (by rw [p20]; omega), by show 1 < 2 ^ 20; decide⟩
  · split
    · rename_i c0 c1
      have f := fmod_b (x := x) (m := 19) (by decide)
      have g := fmod_b (x := y) (m := 6) (by decide)
      exact ⟨by decide, cmN (by omega) (by omega), by decide, low 20 _ _ (by decide) (by unfold bm; rw [if_pos (by omega)]) (small (by rw [p20]; omega)) (by rw [p20]; omega) (by omega)⟩
    · split
      · rename_i c0 c1 c2
        have f := fmod_b (x := x) (m := 1000001) (by decide)
        have g := fmod_b (x := y) (m := 1000) (by decide)
        exact ⟨by decide, cmN (by omega) (by omega), by decide, low 20 _ _ (by decide) (by unfold bm; rw [if_pos (by omega)]) (small (by rw [p20]; omega)) (by rw [p20]; omega) (by omega)⟩
      · rename_i c0 c1 c2
        refine ⟨⟨by decide, by decide, by decide⟩, ⟨by decide, by decide, by decide⟩, trivial, ?_⟩
        have big : ∀ (n : Nat) (gr : Int), n ≤ 101 → bm m = n → 2 ≤ gr → gr.natAbs < 2 ^ n → CPow 10 20 ∧ CMulW 7 y ∧ CMulW x (10 ^ (20 : Int).toNat + 7 * y) ∧ gr ≠ 0 ∧ CMulW s ((x * (10 ^ (20 : Int).toNat + 7 * y)).fmod gr) ∧ CPow 10 20 ∧ CMulW 3 x ∧ CMulW y (10 ^ (20 : Int).toNat + 3 * x) ∧ gr - 1 ≠ 0 ∧ sp_lowest [.int (s * (x * (10 ^ (20 : Int).toNat + 7 * y)).fmod gr), .int (1 + (y * (10 ^ (20 : Int).toNat + 3 * x)).fmod (gr - 1))] (fun z => Φ (.pu z.dat)) fun _ => False := fun n gr n0 hn g0 g1 => by
          have e20 : (10 : Int) ^ (20 : Int).toNat = 100000000000000000000 := by decide
          rw [e20]
          have f := fmod_b (x := x * (100000000000000000000 + 7 * y)) (m := gr) (by omega)
          have g := fmod_b (x := y * (100000000000000000000 + 3 * x)) (m := gr - 1) (by omega)
          have g2 : gr.natAbs < 2 ^ 101 := Nat.lt_of_lt_of_le g1 (Nat.pow_le_pow_right (by decide) n0)
          rw [p101] at g2
          refine ⟨⟨by decide, by decide, by decide⟩, cmN (by omega) (by omega), cmN (by omega) (by omega), by omega, cmN (by omega) (by omega), ⟨by decide, by decide, by decide⟩, cmN (by omega) (by omega), cmN (by omega) (by omega), by omega, low n _ _ n0 hn (small (by omega)) (by omega) (by omega)⟩
        have hm : m = 3 ∨ m = 4 := by omega
        rcases hm with rfl | rfl
        · refine ⟨_, it_l0 _ _, ?_⟩
          exact big 47 _ (by decide) (by decide) (by decide) (by decide)
        · refine ⟨_, it_l1 _ _ _, ?_⟩
          exact big 101 _ (by decide) (by decide) (by decide) (by decide)
/-! the turn by whole numbers -/
end L2.D3
set_option maxHeartbeats 4000000
/-! Drawn points and sides. -/
namespace L2.D3
open PySem PySem.Spec PyProof.Rows
/-- k sixths of the way from a to b -/
def atQ (k : Int) (a b : Rat) : Rat := ((6 - (k : Rat)) * a + k * b) / 6
theorem q_den (q : Rat) : q * ((q.den : Int) : Rat) = (q.num : Rat) := by
  conv => lhs; lhs; rw [← Rat.num_divInt_den q, Rat.divInt_eq_div]
  exact Rat.div_mul_cancel fun z => den_ne q (by exact_mod_cast z)
theorem den_neQ (q : Rat) : ((q.den : Int) : Rat) ≠ 0 := fun z => den_ne q (by exact_mod_cast z)
theorem atQ_low (k : Int) (a b : Rat) : Rat.divInt ((6 - k) * a.num * b.den + k * b.num * a.den) (6 * a.den * b.den) = atQ k a b := by
  rw [Rat.divInt_eq_div]
  unfold atQ
  simp only [Rat.intCast_add, Rat.intCast_mul, Rat.intCast_sub]
  have h1 := q_den a
  have h2 := q_den b
  have n1 := den_neQ a
  have n2 := den_neQ b
  rw [← h1, ← h2]
  generalize ((a.den : Int) : Rat) = x at *
  generalize ((b.den : Int) : Rat) = y at *
  have e6 : ((6 : Int) : Rat) = 6 := rfl
  rw [e6]
  have n6 : (6 : Rat) ≠ 0 := by decide
  grind
def atP (k : Int) (s : Sd) : Pt := (atQ k s.1.1 s.2.1, atQ k s.1.2 s.2.2)
theorem bd_at {k : Int} {a b : Rat} {n : Nat} (hk : -100 ≤ k ∧ k ≤ 100) (ha : Bd n a) (hb : Bd n b) : Bd (n + n + 9) (atQ k a b) := by
  rw [← atQ_low]
  have k1 : (6 - k).natAbs < 2 ^ 7 := by omega
  have k2 : k.natAbs < 2 ^ 7 := by omega
  have t1 := mul_lt2 (mul_lt2 k1 (bd_num ha)) (bd_den hb)
  have t2 := mul_lt2 (mul_lt2 k2 (bd_num hb)) (bd_den ha)
  have b1 := mul_lt2 (mul_lt2 (show (6 : Int).natAbs < 2 ^ 3 by decide) (bd_den ha)) (bd_den hb)
  refine bd_divInt (Nat.lt_of_lt_of_le (add_lt2 t1 t2) (Nat.pow_le_pow_right (by decide) (by omega))) (Nat.lt_of_lt_of_le b1 (Nat.pow_le_pow_right (by decide) (by omega))) ?_
  exact Int.mul_ne_zero (Int.mul_ne_zero (by decide) (den_ne a)) (den_ne b)
def sp__law_at : DSp := fun ds Φ _ => ∃ (s : Sd) (k : Int) (n : Nat), ds = [eS s, .int k] ∧ BdS n s ∧ n ≤ 1000 ∧ (-100 ≤ k ∧ k ≤ 100) ∧ Φ (.pu (eP (atP k s)))
def sp__law_spot : DSp := fun ds Φ _ => ∃ (xs : List Int) (m : Int), ds = [.list (xs.map .int), .int m] ∧ 4 ≤ xs.length ∧ (∀ x ∈ xs, Drw x) ∧ 0 ≤ m ∧ m ≤ 4 ∧ ∀ p : Pt, BdP 101 p → Φ (.pu (eP p))
def sp__law_side : DSp := fun ds Φ _ => ∃ (xs : List Int) (m : Int), ds = [.list (xs.map .int), .int m] ∧ 9 ≤ xs.length ∧ (∀ x ∈ xs, Drw x) ∧ 0 ≤ m ∧ m ≤ 4 ∧ ∀ s : Sd, BdS 104 s → s.1 ≠ s.2 → Φ (.pu (eS s))
abbrev N__law_at : List Str := ["_law_side_here", "_law_k", "_law_found", "_law_start", "_law_end", "_law_top"]
def d__law_at : DS := (dSeq (dSetF 2 dNil)
  (dSeq (dFor (diZip (dCons (dBin oIx (dV 0) (dC (.int 0))) (dCons (dBin oIx (dV 0) (dC (.int 1))) dNil))) (dgT 2 (dgCons (dgN 3) (dgCons (dgN 4) dgNil))) (dSeq (dSetP 5 (dBin oAddU (dBin oMulU (dBin oMulU (dBin oSubI (dC (.int 6)) (dV 1)) (dBin oIx (dV 3) (dC (.int 0)))) (dBin oIx (dV 4) (dC (.int 1)))) (dBin oMulU (dBin oMulU (dV 1) (dBin oIx (dV 4) (dC (.int 0)))) (dBin oIx (dV 3) (dC (.int 1))))))
  (dApp 2 (dCall sp__law_low (dCons (dV 5) (dCons (dBin oMulU (dBin oMulU (dC (.int 6)) (dBin oIx (dV 3) (dC (.int 1)))) (dBin oIx (dV 4) (dC (.int 1)))) dNil))))))
  (dRet (dTup (dCons (dBin oIx (dV 2) (dC (.int 0))) (dCons (dBin oIx (dV 2) (dC (.int 1))) dNil))))))
abbrev N__law_spot : List Str := ["_law_xs", "_law_mode"]
def d__law_spot : DS := (dRet (dTup (dCons (dCall sp__law_fraction (dCons (dBin oIx (dV 0) (dC (.int 0))) (dCons (dBin oIx (dV 0) (dC (.int 1))) (dCons (dV 1) dNil)))) (dCons (dCall sp__law_fraction (dCons (dBin oIx (dV 0) (dC (.int 2))) (dCons (dBin oIx (dV 0) (dC (.int 3))) (dCons (dV 1) dNil)))) dNil))))
abbrev N__law_side : List Str := ["_law_xs", "_law_mode", "_law_start", "_law_end"]
def d__law_side : DS := (dSeq (dSetP 2 (dCall sp__law_spot (dCons (dV 0) (dCons (dV 1) dNil))))
  (dSeq (dSetP 3 (dCall sp__law_spot (dCons (dSl (dV 0) (dPart (dC (.int 4))) dNoPart) (dCons (dV 1) dNil))))
  (dSeq (dIf (dTV (dBin oEq (dBin oMd (dBin oIx (dV 0) (dC (.int 8))) (dC (.int 5))) (dC (.int 1)))) (dSetP 3 (dTup (dCons (dBin oIx (dV 3) (dC (.int 0))) (dCons (dBin oIx (dV 2) (dC (.int 1))) dNil)))) dNext)
  (dSeq (dIf (dTV (dBin oEq (dBin oMd (dBin oIx (dV 0) (dC (.int 8))) (dC (.int 5))) (dC (.int 2)))) (dSetP 3 (dTup (dCons (dBin oIx (dV 2) (dC (.int 0))) (dCons (dBin oIx (dV 3) (dC (.int 1))) dNil)))) dNext)
  (dSeq (dIf (dTV (dBin oEq (dV 2) (dV 3))) (dSetP 3 (dTup (dCons (dCall sp__law_low (dCons (dBin oAddU (dBin oIx (dBin oIx (dV 2) (dC (.int 0))) (dC (.int 0))) (dBin oMulU (dBin oIx (dBin oIx (dV 2) (dC (.int 0))) (dC (.int 1))) (dBin oSubI (dC (.int 1)) (dBin oMulU (dC (.int 2)) (dB bIntU (dCons (dBin oGt (dBin oIx (dBin oIx (dV 2) (dC (.int 0))) (dC (.int 0))) (dC (.int 0))) dNil)))))) (dCons (dBin oIx (dBin oIx (dV 2) (dC (.int 0))) (dC (.int 1))) dNil))) (dCons (dBin oIx (dV 2) (dC (.int 1))) dNil)))) dNext)
  (dRet (dTup (dCons (dV 2) (dCons (dV 3) dNil)))))))))
theorem drw_at {xs : List Int} {i : Nat} (h : ∀ x ∈ xs, Drw x) (hi : i < xs.length) : Drw (xs.getD i default) := h _ (getD_mem hi)
theorem it_drw {xs : List Int} (k : Nat) (hk : k < xs.length) : itemD (.list (xs.map .int)) (k : Int) = some (.int (xs.getD k default)) := it_map (xs := xs) (f := PyData.int) (by omega) (by omega)
theorem rd__law_spot (ds : List Dt) (Φ : Slot → Prop) (Ξ : XD → Prop) (h : sp__law_spot ds Φ Ξ) : d__law_spot (endsOf Φ Ξ) (rho0 N__law_spot ds) := by
  obtain ⟨xs, m, rfl, hl, hd, m0, m1, h⟩ := h
  simp only [d__law_spot, N__law_spot, dRet, dRetF, dSetX, dCallX, dRetX, noOw, dTry, dCpy, dRaise, dRetO, dSetP, dSetS, dSetF, dSeq, dIf, dNext, dCall, dCallF, dB, dBin, dCons, dNil, dTup, dLst, dV, dC, dTV, onB, dTAnd, dTOr, dTNot, dAnd, dOr, dNot, dIfE, dIsN, dNotN, isN, dSl, dSlF, dNoPart, dPart, dPar, dParS, dAsg, dgN, dgT, dgCons, dgNil, seqD, dFE, dIsi, dListF, dNeg, dRev, dFrz, dApp, dAppS, dIns, dExtend, dClear, dReverse, dPop, oIx, oI, oIC, oAddU, oSubI, oMulU, oMulI, oFd, oMd, oPw, oLt, oLe, oGt, oGe, oEq, oNe, getF, setF, Cl.d, getS, setS, purF, allF, rho0, endsOf, scalD, bLen, bAbs, bInt, bIntU, bTup, Slot.dat, true_and, and_true, Option.some.injEq, exists_eq_left', decide_eq_true_eq, Bool.not_eq_true', decide_eq_false_iff_not, it_eQ0, it_eQ1, it_eP0, it_eP1, it_eS0, it_eS1, fits_eQ, fits_eP, fits_eS, eqv_eQ, eqv_eP, eqv_eS, eqv_int, eqv_bool, shp_int, shp_bool, shp_none, shp_eQ, shp_eP, shp_eS, dCont, dBreak, dXi, dSetG, dAppG, oIsB, oNotB, dTx, pJoin, pSplit, pPart, pStarts, bStr, bIntS, dFmt, dJs, ↓reduceIte, nsp_none, nsp_bool, nsp_int, nsp_str, nsp_list, nsp_tuple, nsp_eQ, nsp_eP, nsp_eS, fits_list]
  refine ⟨_, it_drw 0 (by omega), _, it_drw 1 (by omega), _, _, _, rfl, drw_at hd (by omega), drw_at hd (by omega), m0, m1, fun q1 b1 => ?_⟩
  simp only [dRet, dRetF, dSetX, dCallX, dRetX, noOw, dTry, dCpy, dRaise, dRetO, dSetP, dSetS, dSetF, dSeq, dIf, dNext, dCall, dCallF, dB, dBin, dCons, dNil, dTup, dLst, dV, dC, dTV, onB, dTAnd, dTOr, dTNot, dAnd, dOr, dNot, dIfE, dIsN, dNotN, isN, dSl, dSlF, dNoPart, dPart, dPar, dParS, dAsg, dgN, dgT, dgCons, dgNil, seqD, dFE, dIsi, dListF, dNeg, dRev, dFrz, dApp, dAppS, dIns, dExtend, dClear, dReverse, dPop, oIx, oI, oIC, oAddU, oSubI, oMulU, oMulI, oFd, oMd, oPw, oLt, oLe, oGt, oGe, oEq, oNe, getF, setF, Cl.d, getS, setS, purF, allF, rho0, endsOf, scalD, bLen, bAbs, bInt, bIntU, bTup, Slot.dat, true_and, and_true, Option.some.injEq, exists_eq_left', decide_eq_true_eq, Bool.not_eq_true', decide_eq_false_iff_not, it_eQ0, it_eQ1, it_eP0, it_eP1, it_eS0, it_eS1, fits_eQ, fits_eP, fits_eS, eqv_eQ, eqv_eP, eqv_eS, eqv_int, eqv_bool, shp_int, shp_bool, shp_none, shp_eQ, shp_eP, shp_eS, dCont, dBreak, dXi, dSetG, dAppG, oIsB, oNotB, dTx, pJoin, pSplit, pPart, pStarts, bStr, bIntS, dFmt, dJs, ↓reduceIte, nsp_none, nsp_bool, nsp_int, nsp_str, nsp_list, nsp_tuple, nsp_eQ, nsp_eP, nsp_eS, fits_list]
  refine ⟨_, it_drw 2 (by omega), _, it_drw 3 (by omega), _, _, _, rfl, drw_at hd (by omega), drw_at hd (by omega), m0, m1, fun q2 b2 => ?_⟩
  exact h (q1, q2) ⟨b1.mono (bm_le m), b2.mono (bm_le m)⟩
theorem rd__law_at (ds : List Dt) (Φ : Slot → Prop) (Ξ : XD → Prop) (h : sp__law_at ds Φ Ξ) : d__law_at (endsOf Φ Ξ) (rho0 N__law_at ds) := by
  obtain ⟨s, k, n, rfl, hs, hn, hk, h⟩ := h
  simp only [d__law_at, N__law_at, dRet, dRetF, dSetX, dCallX, dRetX, noOw, dTry, dCpy, dRaise, dRetO, dSetP, dSetS, dSetF, dSeq, dIf, dNext, dCall, dCallF, dB, dBin, dCons, dNil, dTup, dLst, dV, dC, dTV, onB, dTAnd, dTOr, dTNot, dAnd, dOr, dNot, dIfE, dIsN, dNotN, isN, dSl, dSlF, dNoPart, dPart, dPar, dParS, dAsg, dgN, dgT, dgCons, dgNil, seqD, dFE, dIsi, dListF, dNeg, dRev, dFrz, dApp, dAppS, dIns, dExtend, dClear, dReverse, dPop, oIx, oI, oIC, oAddU, oSubI, oMulU, oMulI, oFd, oMd, oPw, oLt, oLe, oGt, oGe, oEq, oNe, getF, setF, Cl.d, getS, setS, purF, allF, rho0, endsOf, scalD, bLen, bAbs, bInt, bIntU, bTup, Slot.dat, true_and, and_true, Option.some.injEq, exists_eq_left', decide_eq_true_eq, Bool.not_eq_true', decide_eq_false_iff_not, it_eQ0, it_eQ1, it_eP0, it_eP1, it_eS0, it_eS1, fits_eQ, fits_eP, fits_eS, eqv_eQ, eqv_eP, eqv_eS, eqv_int, eqv_bool, shp_int, shp_bool, shp_none, shp_eQ, shp_eP, shp_eS, dCont, dBreak, dXi, dSetG, dAppG, oIsB, oNotB, dTx, pJoin, pSplit, pPart, pStarts, bStr, bIntS, dFmt, dJs, ↓reduceIte, nsp_none, nsp_bool, nsp_int, nsp_str, nsp_list, nsp_tuple, nsp_eQ, nsp_eP, nsp_eS]
  refine dFor_unr (ds := [.tuple [eQ s.1.1, eQ s.2.1], .tuple [eQ s.1.2, eQ s.2.2]]) (fun Q hQ => by simpa only [diZip, eP, zipD, List.zipWith, dRet, dRetF, dSetX, dCallX, dRetX, noOw, dTry, dCpy, dRaise, dRetO, dSetP, dSetS, dSetF, dSeq, dIf, dNext, dCall, dCallF, dB, dBin, dCons, dNil, dTup, dLst, dV, dC, dTV, onB, dTAnd, dTOr, dTNot, dAnd, dOr, dNot, dIfE, dIsN, dNotN, isN, dSl, dSlF, dNoPart, dPart, dPar, dParS, dAsg, dgN, dgT, dgCons, dgNil, seqD, dFE, dIsi, dListF, dNeg, dRev, dFrz, dApp, dAppS, dIns, dExtend, dClear, dReverse, dPop, oIx, oI, oIC, oAddU, oSubI, oMulU, oMulI, oFd, oMd, oPw, oLt, oLe, oGt, oGe, oEq, oNe, getF, setF, Cl.d, getS, setS, purF, allF, rho0, endsOf, scalD, bLen, bAbs, bInt, bIntU, bTup, Slot.dat, true_and, and_true, Option.some.injEq, exists_eq_left', decide_eq_true_eq, Bool.not_eq_true', decide_eq_false_iff_not, it_eQ0, it_eQ1, it_eP0, it_eP1, it_eS0, it_eS1, fits_eQ, fits_eP, fits_eS, eqv_eQ, eqv_eP, eqv_eS, eqv_int, eqv_bool, shp_int, shp_bool, shp_none, shp_eQ, shp_eP, shp_eS, dCont, dBreak, dXi, dSetG, dAppG, oIsB, oNotB, dTx, pJoin, pSplit, pPart, pStarts, bStr, bIntS, dFmt, dJs, ↓reduceIte, nsp_none, nsp_bool, nsp_int, nsp_str, nsp_list, nsp_tuple, nsp_eQ, nsp_eP, nsp_eS] using hQ) ?_
  simp only [unr, dRet, dRetF, dSetX, dCallX, dRetX, noOw, dTry, dCpy, dRaise, dRetO, dSetP, dSetS, dSetF, dSeq, dIf, dNext, dCall, dCallF, dB, dBin, dCons, dNil, dTup, dLst, dV, dC, dTV, onB, dTAnd, dTOr, dTNot, dAnd, dOr, dNot, dIfE, dIsN, dNotN, isN, dSl, dSlF, dNoPart, dPart, dPar, dParS, dAsg, dgN, dgT, dgCons, dgNil, seqD, dFE, dIsi, dListF, dNeg, dRev, dFrz, dApp, dAppS, dIns, dExtend, dClear, dReverse, dPop, oIx, oI, oIC, oAddU, oSubI, oMulU, oMulI, oFd, oMd, oPw, oLt, oLe, oGt, oGe, oEq, oNe, getF, setF, Cl.d, getS, setS, purF, allF, rho0, endsOf, scalD, bLen, bAbs, bInt, bIntU, bTup, Slot.dat, true_and, and_true, Option.some.injEq, exists_eq_left', decide_eq_true_eq, Bool.not_eq_true', decide_eq_false_iff_not, it_eQ0, it_eQ1, it_eP0, it_eP1, it_eS0, it_eS1, fits_eQ, fits_eP, fits_eS, eqv_eQ, eqv_eP, eqv_eS, eqv_int, eqv_bool, shp_int, shp_bool, shp_none, shp_eQ, shp_eP, shp_eS, dCont, dBreak, dXi, dSetG, dAppG, oIsB, oNotB, dTx, pJoin, pSplit, pPart, pStarts, bStr, bIntS, dFmt, dJs, ↓reduceIte, nsp_none, nsp_bool, nsp_int, nsp_str, nsp_list, nsp_tuple, nsp_eQ, nsp_eP, nsp_eS, List.length_cons, List.length_nil, List.nil_append]
  have k1 : (6 - k).natAbs < 2 ^ 7 := by omega
  have k2 : k.natAbs < 2 ^ 7 := by omega
  have one : ∀ (a b : Rat) (Q : Slot → Prop), Bd n a → Bd n b → Q (.pu (eQ (atQ k a b))) → CMulW (6 - k) a.num ∧ CMulW ((6 - k) * a.num) b.den ∧ CMulW k b.num ∧ CMulW (k * b.num) a.den ∧ CMulW 6 a.den ∧ CMulW (6 * (a.den : Int)) b.den ∧ sp__law_low [.int ((6 - k) * a.num * b.den + k * b.num * a.den), .int (6 * a.den * b.den)] Q (fun _ => False) := fun a b Q ha hb hq => by
    have t1 := mul_lt2 k1 (bd_num ha)
    have t2 := mul_lt2 k2 (bd_num hb)
    have t3 := mul_lt2 (show (6 : Int).natAbs < 2 ^ 3 by decide) (bd_den ha)
    refine ⟨cm k1 (bd_num ha) (by omega), cm t1 (bd_den hb) (by omega), cm k2 (bd_num hb) (by omega), cm t2 (bd_den ha) (by omega), cm (n := 3) (by decide) (bd_den ha) (by omega), cm t3 (bd_den hb) (by omega), _, _, rfl, Int.mul_ne_zero (Int.mul_ne_zero (by decide) (den_ne a)) (den_ne b), ?_, ?_⟩
    · exact Nat.lt_of_lt_of_le (mul_lt2 t3 (bd_den hb)) (Nat.pow_le_pow_right (by decide) (by omega))
    · rw [atQ_low]; exact hq
  have f1 := fun Q => one s.1.1 s.2.1 Q hs.1.1 hs.2.1
  have f2 := fun Q => one s.1.2 s.2.2 Q hs.1.2 hs.2.2
  obtain ⟨a1, a2, a3, a4, a5, a6, a7⟩ := f1 (fun d => d = .pu (eQ (atQ k s.1.1 s.2.1))) rfl
  refine ⟨a1, a2, a3, a4, a5, a6, ?_⟩
  refine (one s.1.1 s.2.1 _ hs.1.1 hs.2.1 ?_).2.2.2.2.2.2
  refine ⟨by decide, ?_⟩
  obtain ⟨b1, b2, b3, b4, b5, b6, b7⟩ := f2 (fun d => d = .pu (eQ (atQ k s.1.2 s.2.2))) rfl
  refine ⟨b1, b2, b3, b4, b5, b6, ?_⟩
  refine (one s.1.2 s.2.2 _ hs.1.2 hs.2.2 ?_).2.2.2.2.2.2
  refine ⟨by show 1 < sizeLine; decide, ?_⟩
  simp only [dRet, dRetF, dSetX, dCallX, dRetX, noOw, dTry, dCpy, dRaise, dRetO, dSetP, dSetS, dSetF, dSeq, dIf, dNext, dCall, dCallF, dB, dBin, dCons, dNil, dTup, dLst, dV, dC, dTV, onB, dTAnd, dTOr, dTNot, dAnd, dOr, dNot, dIfE, dIsN, dNotN, isN, dSl, dSlF, dNoPart, dPart, dPar, dParS, dAsg, dgN, dgT, dgCons, dgNil, seqD, dFE, dIsi, dListF, dNeg, dRev, dFrz, dApp, dAppS, dIns, dExtend, dClear, dReverse, dPop, oIx, oI, oIC, oAddU, oSubI, oMulU, oMulI, oFd, oMd, oPw, oLt, oLe, oGt, oGe, oEq, oNe, getF, setF, Cl.d, getS, setS, purF, allF, rho0, endsOf, scalD, bLen, bAbs, bInt, bIntU, bTup, Slot.dat, true_and, and_true, Option.some.injEq, exists_eq_left', decide_eq_true_eq, Bool.not_eq_true', decide_eq_false_iff_not, it_eQ0, it_eQ1, it_eP0, it_eP1, it_eS0, it_eS1, fits_eQ, fits_eP, fits_eS, eqv_eQ, eqv_eP, eqv_eS, eqv_int, eqv_bool, shp_int, shp_bool, shp_none, shp_eQ, shp_eP, shp_eS, dCont, dBreak, dXi, dSetG, dAppG, oIsB, oNotB, dTx, pJoin, pSplit, pPart, pStarts, bStr, bIntS, dFmt, dJs, ↓reduceIte, nsp_none, nsp_bool, nsp_int, nsp_str, nsp_list, nsp_tuple, nsp_eQ, nsp_eP, nsp_eS, List.nil_append, List.cons_append, it_l0, it_l1, fits_list]
  exact h
theorem up_one {x : Rat} (c : Int) (hc : c ≠ 0) : Rat.divInt (x.num + x.den * c) x.den ≠ x := by
  intro e
  have h : Rat.divInt (x.num + x.den * c) x.den = x + c := by
    rw [Rat.divInt_eq_div]
    simp only [Rat.intCast_add, Rat.intCast_mul]
    have h1 := q_den x
    have n1 := den_neQ x
    rw [← h1]
    generalize ((x.den : Int) : Rat) = y at *
    grind
  rw [h] at e
  have : (c : Rat) = 0 := by grind
  exact hc (by exact_mod_cast this)
theorem mkP (a b : Rat) : PyData.tuple [eQ a, eQ b] = eP (a, b) := rfl
theorem mkS (a b : Pt) : PyData.tuple [eP a, eP b] = eS (a, b) := rfl
theorem rd__law_side (ds : List Dt) (Φ : Slot → Prop) (Ξ : XD → Prop) (h : sp__law_side ds Φ Ξ) : d__law_side (endsOf Φ Ξ) (rho0 N__law_side ds) := by
  obtain ⟨xs, m, rfl, hl, hd, m0, m1, h⟩ := h
  simp only [d__law_side, N__law_side, dRet, dRetF, dSetX, dCallX, dRetX, noOw, dTry, dCpy, dRaise, dRetO, dSetP, dSetS, dSetF, dSeq, dIf, dNext, dCall, dCallF, dB, dBin, dCons, dNil, dTup, dLst, dV, dC, dTV, onB, dTAnd, dTOr, dTNot, dAnd, dOr, dNot, dIfE, dIsN, dNotN, isN, dSl, dSlF, dNoPart, dPart, dPar, dParS, dAsg, dgN, dgT, dgCons, dgNil, seqD, dFE, dIsi, dListF, dNeg, dRev, dFrz, dApp, dAppS, dIns, dExtend, dClear, dReverse, dPop, oIx, oI, oIC, oAddU, oSubI, oMulU, oMulI, oFd, oMd, oPw, oLt, oLe, oGt, oGe, oEq, oNe, getF, setF, Cl.d, getS, setS, purF, allF, rho0, endsOf, scalD, bLen, bAbs, bInt, bIntU, bTup, Slot.dat, true_and, and_true, Option.some.injEq, exists_eq_left', decide_eq_true_eq, Bool.not_eq_true', decide_eq_false_iff_not, it_eQ0, it_eQ1, it_eP0, it_eP1, it_eS0, it_eS1, fits_eQ, fits_eP, fits_eS, eqv_eQ, eqv_eP, eqv_eS, eqv_int, eqv_bool, shp_int, shp_bool, shp_none, shp_eQ, shp_eP, shp_eS, dCont, dBreak, dXi, dSetG, dAppG, oIsB, oNotB, dTx, pJoin, pSplit, pPart, pStarts, bStr, bIntS, dFmt, dJs, ↓reduceIte, nsp_none, nsp_bool, nsp_int, nsp_str, nsp_list, nsp_tuple, nsp_eQ, nsp_eP, nsp_eS, fits_list]
  refine ⟨xs, m, rfl, by omega, hd, m0, m1, fun p hp => ?_⟩
  simp only [dRet, dRetF, dSetX, dCallX, dRetX, noOw, dTry, dCpy, dRaise, dRetO, dSetP, dSetS, dSetF, dSeq, dIf, dNext, dCall, dCallF, dB, dBin, dCons, dNil, dTup, dLst, dV, dC, dTV, onB, dTAnd, dTOr, dTNot, dAnd, dOr, dNot, dIfE, dIsN, dNotN, isN, dSl, dSlF, dNoPart, dPart, dPar, dParS, dAsg, dgN, dgT, dgCons, dgNil, seqD, dFE, dIsi, dListF, dNeg, dRev, dFrz, dApp, dAppS, dIns, dExtend, dClear, dReverse, dPop, oIx, oI, oIC, oAddU, oSubI, oMulU, oMulI, oFd, oMd, oPw, oLt, oLe, oGt, oGe, oEq, oNe, getF, setF, Cl.d, getS, setS, purF, allF, rho0, endsOf, scalD, bLen, bAbs, bInt, bIntU, bTup, Slot.dat, true_and, and_true, Option.some.injEq, exists_eq_left', decide_eq_true_eq, Bool.not_eq_true', decide_eq_false_iff_not, it_eQ0, it_eQ1, it_eP0, it_eP1, it_eS0, it_eS1, fits_eQ, fits_eP, fits_eS, eqv_eQ, eqv_eP, eqv_eS, eqv_int, eqv_bool, shp_int, shp_bool, shp_none, shp_eQ, shp_eP, shp_eS, dCont, dBreak, dXi, dSetG, dAppG, oIsB, oNotB, dTx, pJoin, pSplit, pPart, pStarts, bStr, bIntS, dFmt, dJs, ↓reduceIte, nsp_none, nsp_bool, nsp_int, nsp_str, nsp_list, nsp_tuple, nsp_eQ, nsp_eP, nsp_eS, fits_list, slD]
  have e4 : cutD xs (some 4) none = xs.drop 4 := cutD_from xs 4
  refine ⟨xs.drop 4, m, by rw [cutD_map, e4], by rw [List.length_drop]; omega, fun x hx => hd x (List.mem_of_mem_drop hx), m0, m1, fun q hq => ?_⟩
  simp only [dRet, dRetF, dSetX, dCallX, dRetX, noOw, dTry, dCpy, dRaise, dRetO, dSetP, dSetS, dSetF, dSeq, dIf, dNext, dCall, dCallF, dB, dBin, dCons, dNil, dTup, dLst, dV, dC, dTV, onB, dTAnd, dTOr, dTNot, dAnd, dOr, dNot, dIfE, dIsN, dNotN, isN, dSl, dSlF, dNoPart, dPart, dPar, dParS, dAsg, dgN, dgT, dgCons, dgNil, seqD, dFE, dIsi, dListF, dNeg, dRev, dFrz, dApp, dAppS, dIns, dExtend, dClear, dReverse, dPop, oIx, oI, oIC, oAddU, oSubI, oMulU, oMulI, oFd, oMd, oPw, oLt, oLe, oGt, oGe, oEq, oNe, getF, setF, Cl.d, getS, setS, purF, allF, rho0, endsOf, scalD, bLen, bAbs, bInt, bIntU, bTup, Slot.dat, true_and, and_true, Option.some.injEq, exists_eq_left', decide_eq_true_eq, Bool.not_eq_true', decide_eq_false_iff_not, it_eQ0, it_eQ1, it_eP0, it_eP1, it_eS0, it_eS1, fits_eQ, fits_eP, fits_eS, eqv_eQ, eqv_eP, eqv_eS, eqv_int, eqv_bool, shp_int, shp_bool, shp_none, shp_eQ, shp_eP, shp_eS, dCont, dBreak, dXi, dSetG, dAppG, oIsB, oNotB, dTx, pJoin, pSplit, pPart, pStarts, bStr, bIntS, dFmt, dJs, ↓reduceIte, nsp_none, nsp_bool, nsp_int, nsp_str, nsp_list, nsp_tuple, nsp_eQ, nsp_eP, nsp_eS, mkP, mkS, fits_list]
  have tail : ∀ r : Pt, BdP 101 r → dSeq (dIf (dTV (dBin oEq (dV 2) (dV 3))) (dSetP 3 (dTup (dCons (dCall sp__law_low (dCons (dBin oAddU (dBin oIx (dBin oIx (dV 2) (dC (.int 0))) (dC (.int 0))) (dBin oMulU (dBin oIx (dBin oIx (dV 2) (dC (.int 0))) (dC (.int 1))) (dBin oSubI (dC (.int 1)) (dBin oMulU (dC (.int 2)) (dB bIntU (dCons (dBin oGt (dBin oIx (dBin oIx (dV 2) (dC (.int 0))) (dC (.int 0))) (dC (.int 0))) dNil)))))) (dCons (dBin oIx (dBin oIx (dV 2) (dC (.int 0))) (dC (.int 1))) dNil))) (dCons (dBin oIx (dV 2) (dC (.int 1))) dNil)))) dNext)
      (dRet (dTup (dCons (dV 2) (dCons (dV 3) dNil)))) (endsOf Φ Ξ) [.pu (.list (xs.map .int)), .pu (.int m), .pu (eP p), .pu (eP r)] := fun r hr => by
    simp only [dRet, dRetF, dSetX, dCallX, dRetX, noOw, dTry, dCpy, dRaise, dRetO, dSetP, dSetS, dSetF, dSeq, dIf, dNext, dCall, dCallF, dB, dBin, dCons, dNil, dTup, dLst, dV, dC, dTV, onB, dTAnd, dTOr, dTNot, dAnd, dOr, dNot, dIfE, dIsN, dNotN, isN, dSl, dSlF, dNoPart, dPart, dPar, dParS, dAsg, dgN, dgT, dgCons, dgNil, seqD, dFE, dIsi, dListF, dNeg, dRev, dFrz, dApp, dAppS, dIns, dExtend, dClear, dReverse, dPop, oIx, oI, oIC, oAddU, oSubI, oMulU, oMulI, oFd, oMd, oPw, oLt, oLe, oGt, oGe, oEq, oNe, getF, setF, Cl.d, getS, setS, purF, allF, rho0, endsOf, scalD, bLen, bAbs, bInt, bIntU, bTup, Slot.dat, true_and, and_true, Option.some.injEq, exists_eq_left', decide_eq_true_eq, Bool.not_eq_true', decide_eq_false_iff_not, it_eQ0, it_eQ1, it_eP0, it_eP1, it_eS0, it_eS1, fits_eQ, fits_eP, fits_eS, eqv_eQ, eqv_eP, eqv_eS, eqv_int, eqv_bool, shp_int, shp_bool, shp_none, shp_eQ, shp_eP, shp_eS, dCont, dBreak, dXi, dSetG, dAppG, oIsB, oNotB, dTx, pJoin, pSplit, pPart, pStarts, bStr, bIntS, dFmt, dJs, ↓reduceIte, nsp_none, nsp_bool, nsp_int, nsp_str, nsp_list, nsp_tuple, nsp_eQ, nsp_eP, nsp_eS, mkP, mkS]
    split
    · have b1 : ∀ c : Int, c = 1 ∨ c = -1 → CMulW p.1.den c ∧ sp__law_low [.int (p.1.num + p.1.den * c), .int p.1.den] (fun z => Φ (.pu (.tuple [eP p, .tuple [z.dat, eQ p.2]]))) fun _ => False := fun c hc => by
        have hcn : c.natAbs < 2 ^ 1 := by omega
        refine ⟨cm (bd_den hp.1) hcn (by omega), _, _, rfl, den_ne _, Nat.lt_trans (bd_den hp.1) (Nat.pow_lt_pow_right (by decide) (by decide)), ?_⟩
        refine h (p, (Rat.divInt (p.1.num + p.1.den * c) p.1.den, p.2)) ⟨hp.mono (by decide), ?_, hp.2.mono (by decide)⟩ ?_
        · refine bd_divInt ?_ (Nat.lt_trans (bd_den hp.1) (Nat.pow_lt_pow_right (by decide) (by decide))) (den_ne _)
          have k1 := mul_lt2 (bd_den hp.1) hcn
          exact Nat.lt_trans (add_lt2 (Nat.lt_trans (bd_num hp.1) (Nat.pow_lt_pow_right (by decide) (by decide))) k1) (Nat.pow_lt_pow_right (by decide) (by decide))
        · intro e
          have e1 : p.1 = Rat.divInt (p.1.num + p.1.den * c) p.1.den := congrArg Prod.fst e
          exact up_one c (by omega) e1.symm
      by_cases c0 : 0 < p.1.num
      · simp only [c0, if_true]
        refine ⟨cmN (by decide) (by decide), ?_⟩
        exact b1 (1 - 2 * 1) (by decide)
      · simp only [c0, if_false]
        refine ⟨cmN (by decide) (by decide), ?_⟩
        exact b1 (1 - 2 * 0) (by decide)
    · rename_i c
      exact h (p, r) ⟨hp.mono (by decide), hr.mono (by decide)⟩ c
  refine ⟨_, it_drw 8 (by omega), by decide, ?_⟩
  split
  · refine ⟨_, it_drw 8 (by omega), by decide, ?_⟩
    split
    · have t := tail (p.1, p.2) hp; simp only [dRet, dRetF, dSetX, dCallX, dRetX, noOw, dTry, dCpy, dRaise, dRetO, dSetP, dSetS, dSetF, dSeq, dIf, dNext, dCall, dCallF, dB, dBin, dCons, dNil, dTup, dLst, dV, dC, dTV, onB, dTAnd, dTOr, dTNot, dAnd, dOr, dNot, dIfE, dIsN, dNotN, isN, dSl, dSlF, dNoPart, dPart, dPar, dParS, dAsg, dgN, dgT, dgCons, dgNil, seqD, dFE, dIsi, dListF, dNeg, dRev, dFrz, dApp, dAppS, dIns, dExtend, dClear, dReverse, dPop, oIx, oI, oIC, oAddU, oSubI, oMulU, oMulI, oFd, oMd, oPw, oLt, oLe, oGt, oGe, oEq, oNe, getF, setF, Cl.d, getS, setS, purF, allF, rho0, endsOf, scalD, bLen, bAbs, bInt, bIntU, bTup, Slot.dat, true_and, and_true, Option.some.injEq, exists_eq_left', decide_eq_true_eq, Bool.not_eq_true', decide_eq_false_iff_not, it_eQ0, it_eQ1, it_eP0, it_eP1, it_eS0, it_eS1, fits_eQ, fits_eP, fits_eS, eqv_eQ, eqv_eP, eqv_eS, eqv_int, eqv_bool, shp_int, shp_bool, shp_none, shp_eQ, shp_eP, shp_eS, dCont, dBreak, dXi, dSetG, dAppG, oIsB, oNotB, dTx, pJoin, pSplit, pPart, pStarts, bStr, bIntS, dFmt, dJs, ↓reduceIte, nsp_none, nsp_bool, nsp_int, nsp_str, nsp_list, nsp_tuple, nsp_eQ, nsp_eP, nsp_eS, mkP, mkS] at t; exact t
    · have t := tail (q.1, p.2) ⟨hq.1, hp.2⟩; simp only [dRet, dRetF, dSetX, dCallX, dRetX, noOw, dTry, dCpy, dRaise, dRetO, dSetP, dSetS, dSetF, dSeq, dIf, dNext, dCall, dCallF, dB, dBin, dCons, dNil, dTup, dLst, dV, dC, dTV, onB, dTAnd, dTOr, dTNot, dAnd, dOr, dNot, dIfE, dIsN, dNotN, isN, dSl, dSlF, dNoPart, dPart, dPar, dParS, dAsg, dgN, dgT, dgCons, dgNil, seqD, dFE, dIsi, dListF, dNeg, dRev, dFrz, dApp, dAppS, dIns, dExtend, dClear, dReverse, dPop, oIx, oI, oIC, oAddU, oSubI, oMulU, oMulI, oFd, oMd, oPw, oLt, oLe, oGt, oGe, oEq, oNe, getF, setF, Cl.d, getS, setS, purF, allF, rho0, endsOf, scalD, bLen, bAbs, bInt, bIntU, bTup, Slot.dat, true_and, and_true, Option.some.injEq, exists_eq_left', decide_eq_true_eq, Bool.not_eq_true', decide_eq_false_iff_not, it_eQ0, it_eQ1, it_eP0, it_eP1, it_eS0, it_eS1, fits_eQ, fits_eP, fits_eS, eqv_eQ, eqv_eP, eqv_eS, eqv_int, eqv_bool, shp_int, shp_bool, shp_none, shp_eQ, shp_eP, shp_eS, dCont, dBreak, dXi, dSetG, dAppG, oIsB, oNotB, dTx, pJoin, pSplit, pPart, pStarts, bStr, bIntS, dFmt, dJs, ↓reduceIte, nsp_none, nsp_bool, nsp_int, nsp_str, nsp_list, nsp_tuple, nsp_eQ, nsp_eP, nsp_eS, mkP, mkS] at t; exact t
  · refine ⟨_, it_drw 8 (by omega), by decide, ?_⟩
    split
    · have t := tail (p.1, q.2) ⟨hp.1, hq.2⟩; simp only [dRet, dRetF, dSetX, dCallX, dRetX, noOw, dTry, dCpy, dRaise, dRetO, dSetP, dSetS, dSetF, dSeq, dIf, dNext, dCall, dCallF, dB, dBin, dCons, dNil, dTup, dLst, dV, dC, dTV, onB, dTAnd, dTOr, dTNot, dAnd, dOr, dNot, dIfE, dIsN, dNotN, isN, dSl, dSlF, dNoPart, dPart, dPar, dParS, dAsg, dgN, dgT, dgCons, dgNil, seqD, dFE, dIsi, dListF, dNeg, dRev, dFrz, dApp, dAppS, dIns, dExtend, dClear, dReverse, dPop, oIx, oI, oIC, oAddU, oSubI, oMulU, oMulI, oFd, oMd, oPw, oLt, oLe, oGt, oGe, oEq, oNe, getF, setF, Cl.d, getS, setS, purF, allF, rho0, endsOf, scalD, bLen, bAbs, bInt, bIntU, bTup, Slot.dat, true_and, and_true, Option.some.injEq, exists_eq_left', decide_eq_true_eq, Bool.not_eq_true', decide_eq_false_iff_not, it_eQ0, it_eQ1, it_eP0, it_eP1, it_eS0, it_eS1, fits_eQ, fits_eP, fits_eS, eqv_eQ, eqv_eP, eqv_eS, eqv_int, eqv_bool, shp_int, shp_bool, shp_none, shp_eQ, shp_eP, shp_eS, dCont, dBreak, dXi, dSetG, dAppG, oIsB, oNotB, dTx, pJoin, pSplit, pPart, pStarts, bStr, bIntS, dFmt, dJs, ↓reduceIte, nsp_none, nsp_bool, nsp_int, nsp_str, nsp_list, nsp_tuple, nsp_eQ, nsp_eP, nsp_eS, mkP, mkS] at t; exact t
    · have t := tail q hq; simp only [dRet, dRetF, dSetX, dCallX, dRetX, noOw, dTry, dCpy, dRaise, dRetO, dSetP, dSetS, dSetF, dSeq, dIf, dNext, dCall, dCallF, dB, dBin, dCons, dNil, dTup, dLst, dV, dC, dTV, onB, dTAnd, dTOr, dTNot, dAnd, dOr, dNot, dIfE, dIsN, dNotN, isN, dSl, dSlF, dNoPart, dPart, dPar, dParS, dAsg, dgN, dgT, dgCons, dgNil, seqD, dFE, dIsi, dListF, dNeg, dRev, dFrz, dApp, dAppS, dIns, dExtend, dClear, dReverse, dPop, oIx, oI, oIC, oAddU, oSubI, oMulU, oMulI, oFd, oMd, oPw, oLt, oLe, oGt, oGe, oEq, oNe, getF, setF, Cl.d, getS, setS, purF, allF, rho0, endsOf, scalD, bLen, bAbs, bInt, bIntU, bTup, Slot.dat, true_and, and_true, Option.some.injEq, exists_eq_left', decide_eq_true_eq, Bool.not_eq_true', decide_eq_false_iff_not, it_eQ0, it_eQ1, it_eP0, it_eP1, it_eS0, it_eS1, fits_eQ, fits_eP, fits_eS, eqv_eQ, eqv_eP, eqv_eS, eqv_int, eqv_bool, shp_int, shp_bool, shp_none, shp_eQ, shp_eP, shp_eS, dCont, dBreak, dXi, dSetG, dAppG, oIsB, oNotB, dTx, pJoin, pSplit, pPart, pStarts, bStr, bIntS, dFmt, dJs, ↓reduceIte, nsp_none, nsp_bool, nsp_int, nsp_str, nsp_list, nsp_tuple, nsp_eQ, nsp_eP, nsp_eS, mkP, mkS] at t; exact t
end L2.D3
set_option maxHeartbeats 1000000
/-! More of loops and comprehensions; a cut between statements. -/
namespace L2.D3
open PySem PySem.Spec PyProof.Rows
def allH : Slot → Cl
  | .pu d => .da d
  | .ow ds => .da (.list ds)
  | .an A => .an A
  | .tr t => .da t.dat
  | _ => .no
def purH : Slot → Cl
  | .pu d => .da d
  | .an A => .an A
  | _ => .no
theorem allF_nil : allF [] = [] := rfl
theorem allF_cons (s : Slot) (r : Rho) : allF (s :: r) = allH s :: allF r := by cases s <;> rfl
theorem purF_nil : purF [] = [] := rfl
theorem purF_cons (s : Slot) (r : Rho) : purF (s :: r) = purH s :: purF r := by cases s <;> rfl
/-- a statement, then the rest: what holds between them -/
theorem seq_cut {t u : DS} {E : DEnds} {ρ : Rho} (M : Rho → Prop) (h1 : ∀ E' : DEnds, E'.rt = E.rt → (∀ ρ', M ρ' → E'.nx ρ') → t E' ρ) (h2 : ∀ ρ', M ρ' → u E ρ') : dSeq t u E ρ := h1 { E with nx := u E } rfl h2
theorem ite_no {c : Prop} [Decidable c] {a b : Prop} (h : ¬ c) (k : b) : if c then a else b := by rw [if_neg h]; exact k
theorem ite_yes {c : Prop} [Decidable c] {a b : Prop} (h : c) (k : a) : if c then a else b := by rw [if_pos h]; exact k
theorem dat_pu (d : Dt) : (Slot.pu d).dat = d := rfl
theorem dat_ow (d : List Dt) : (Slot.ow d).dat = .list d := rfl
theorem seqD_l (ds : List Dt) : seqD (.list ds) = some ds := rfl
theorem seqD_t (ds : List Dt) : seqD (.tuple ds) = some ds := rfl
theorem unrC_mapM {α : Type} {e v : α → Dt} {g : DGc} {de : DE} {φ : Fro} {Φ : List Dt → Prop} : ∀ (xs : List α) (acc : List Dt), acc.length + xs.length ≤ sizeLine → (∀ a ∈ xs, ∀ Ψ : Dt → Prop, Ψ (v a) → g (e a) φ fun φ2 => de φ2 Ψ) → Φ (acc ++ xs.map v) → unrC g dYes de φ Φ (xs.map e) acc
  | [], acc, _, _, h => by rw [List.map_nil, List.append_nil] at h; exact h
  | d :: r, acc, hl, hf, h => by
    show g (e d) φ fun φ2 => dYes φ2 fun b => if b = true then de φ2 fun y => acc.length < sizeLine ∧ unrC g dYes de φ Φ (r.map e) (acc ++ [y]) else unrC g dYes de φ Φ (r.map e) acc
    simp only [dYes, if_true]
    rw [List.length_cons] at hl
    refine hf d List.mem_cons_self _ ⟨by omega, ?_⟩
    exact unrC_mapM r _ (by rw [List.length_append, List.length_singleton]; omega) (fun e he => hf e (List.mem_cons_of_mem _ he)) (by rw [List.append_assoc]; exact h)
theorem dLc_mapM {α : Type} {xs : List α} {e : α → Dt} {vs : List Nat} {di : DI} {g : DGc} {de : DE} {φ : Fro} {Φ : List Dt → Prop} (hd : ∀ Q : List Dt → Prop, Q (xs.map e) → di φ Q) (v : α → Dt) (hl : xs.length ≤ sizeLine) (hf : ∀ a ∈ xs, ∀ Ψ : Dt → Prop, Ψ (v a) → g (e a) (wipeF φ vs) fun φ2 => de φ2 Ψ) (h : Φ (xs.map v)) : dLc vs di g dYes de φ Φ := hd _ (lc_unr (unrC_mapM xs [] (by simpa using hl) hf h))
theorem seqD_eQ (q : Rat) : seqD (eQ q) = some [.int q.num, .int q.den] := rfl
theorem seqD_eP (q : Pt) : seqD (eP q) = some [eQ q.1, eQ q.2] := rfl
theorem seqD_eS (q : Sd) : seqD (eS q) = some [eP q.1, eP q.2] := rfl
theorem walkD_eP (q : Pt) : walkD (eP q) = some [eQ q.1, eQ q.2] := rfl
theorem walkD_eS (q : Sd) : walkD (eS q) = some [eP q.1, eP q.2] := rfl
theorem walkD_l (ds : List Dt) : walkD (.list ds) = some ds := rfl
theorem walkD_t (ds : List Dt) : walkD (.tuple ds) = some ds := rfl
theorem BdP.mk2 {n : Nat} {a b : Rat} (h1 : Bd n a) (h2 : Bd n b) : BdP n (a, b) := ⟨h1, h2⟩
theorem bdP_at {k : Int} {s : Sd} {n m : Nat} (hm : n + n + 9 = m) (hk : -100 ≤ k ∧ k ≤ 100) (h : BdS n s) : BdP m (atP k s) := by
  unfold atP
  subst hm
  exact BdP.mk2 (bd_at hk h.1.1 h.2.1) (bd_at hk h.1.2 h.2.2)
/-- a loop and what follows -/
theorem seq_for {di : DI} {g : DG} {b u : DS} {E : DEnds} {ds : List Dt} {ρ : Rho} (hd : ∀ Q : List Dt → Prop, Q ds → di (purF ρ) Q) (Iv : Nat → Rho → Prop) (h0 : Iv 0 ρ) (ht : ∀ k d ρ', ds[k]? = some d → Iv k ρ' → g d ρ' fun ρ2 => b { E with nx := Iv (k + 1), ct := Iv (k + 1), bk := u E } ρ2) (he : ∀ ρ', Iv ds.length ρ' → u E ρ') : dSeq (dFor di g b) u E ρ := hd _ ⟨Iv, h0, ht, he⟩
theorem seq_forA {di : DI} {g : DG} {b u : DS} {E : DEnds} {ρ : Rho} (C : List Dt → Prop) (hd : ∀ Q : List Dt → Prop, (∀ ds, C ds → Q ds) → di (purF ρ) Q) (Iv : Nat → Rho → Prop) (h0 : Iv 0 ρ) (ht : ∀ ds, C ds → ∀ k d ρ', ds[k]? = some d → Iv k ρ' → g d ρ' fun ρ2 => b { E with nx := Iv (k + 1), ct := Iv (k + 1), bk := u E } ρ2) (he : ∀ ds, C ds → ∀ ρ', Iv ds.length ρ' → u E ρ') : dSeq (dFor di g b) u E ρ := hd _ fun ds hc => ⟨Iv, h0, ht ds hc, he ds hc⟩
end L2.D3
set_option maxHeartbeats 1000000
/-! Sides turned about. -/
namespace L2.D3
def flip (s : Sd) : Sd := (s.2, s.1)
theorem cross_flip (a b c : Pt) : crossQ b a c = - crossQ a b c := by unfold crossQ; grind
theorem lo_flip {t : Sd} (h : t.1 ≠ t.2) : loP (flip t) = loP t := by
  unfold loP flip
  rcases ltP_total t.1 t.2 with z | z | z
  · rw [if_pos z, if_neg (ltP_asymm z)]
  · exact absurd z h
  · rw [if_neg (ltP_asymm z), if_pos z]
theorem hi_flip {t : Sd} (h : t.1 ≠ t.2) : hiP (flip t) = hiP t := by
  unfold hiP flip
  rcases ltP_total t.1 t.2 with z | z | z
  · rw [if_pos z, if_neg (ltP_asymm z)]
  · exact absurd z h
  · rw [if_neg (ltP_asymm z), if_pos z]
theorem onS_flip {s : Sd} (h : s.1 ≠ s.2) (p : Pt) : onS (flip s) p ↔ onS s p := by
  unfold onS
  rw [lo_flip h, hi_flip h]
  have e : crossQ (flip s).1 (flip s).2 p = - crossQ s.1 s.2 p := cross_flip _ _ _
  rw [e]
  constructor
  · rintro ⟨a, b⟩; exact ⟨by grind, b⟩
  · rintro ⟨a, b⟩; exact ⟨by grind, b⟩
end L2.D3
set_option maxHeartbeats 1000000
/-! Where sides meet: plain. -/
namespace L2.D3
inductive Mt where
  | no
  | pt (p : Pt)
  | st (a b : Pt)
  deriving DecidableEq
def movedP (s : Sd) (f : Rat) : Pt := (s.1.1 + f * (s.2.1 - s.1.1), s.1.2 + f * (s.2.2 - s.1.2))
def firstP (s t : Sd) : Pt := if ltP (loP t) (loP s) then loP s else loP t
def lastP (s t : Sd) : Pt := if ltP (hiP s) (hiP t) then hiP s else hiP t
def alongM (s t : Sd) : Mt := if ltP (lastP s t) (firstP s t) then .no else if firstP s t = lastP s t then .pt (firstP s t) else .st (firstP s t) (lastP s t)
def crossF (s t : Sd) : Rat := crossQ t.1 t.2 s.1 / (crossQ t.1 t.2 s.1 - crossQ t.1 t.2 s.2)
def crossPt (s t : Sd) : Pt := movedP s (crossF s t)
def meetM (s t : Sd) : Mt :=
  if sgnQ (crossQ s.1 s.2 t.1) = 0 ∧ sgnQ (crossQ s.1 s.2 t.2) = 0 then alongM s t
  else if sgnQ (crossQ s.1 s.2 t.1) = sgnQ (crossQ s.1 s.2 t.2) ∨ sgnQ (crossQ t.1 t.2 s.1) = sgnQ (crossQ t.1 t.2 s.2) then .no
  else .pt (crossPt s t)
/-- the four crosses of two sides -/
theorem cross_four (s t : Sd) : crossQ s.1 s.2 t.1 - crossQ s.1 s.2 t.2 = crossQ t.1 t.2 s.2 - crossQ t.1 t.2 s.1 := by unfold crossQ; grind
theorem line_back {s t : Sd} (h : s.1 ≠ s.2) (h1 : crossQ s.1 s.2 t.1 = 0) (h2 : crossQ s.1 s.2 t.2 = 0) : crossQ t.1 t.2 s.1 = 0 ∧ crossQ t.1 t.2 s.2 = 0 := by
  obtain ⟨⟨a, b⟩, ⟨c, d⟩⟩ := s
  obtain ⟨⟨e, f⟩, ⟨g, k⟩⟩ := t
  have hn : c - a ≠ 0 ∨ d - b ≠ 0 := by
    by_cases z : c - a = 0
    · right
      intro y
      apply h
      have : a = c := by grind
      have : b = d := by grind
      simp_all
    · exact .inl z
  unfold crossQ at *
  simp only at *
  rcases hn with hn | hn <;> constructor <;> grind
theorem crossPt_comm {s t : Sd} (h : crossQ s.1 s.2 t.1 ≠ crossQ s.1 s.2 t.2) : crossPt t s = crossPt s t := by
  have four := cross_four s t
  have h' : crossQ s.1 s.2 t.1 - crossQ s.1 s.2 t.2 ≠ 0 := fun z => h (by grind)
  have h2 : crossQ t.1 t.2 s.1 - crossQ t.1 t.2 s.2 ≠ 0 := fun z => h' (by grind)
  unfold crossPt crossF movedP
  obtain ⟨⟨a, b⟩, ⟨c, d⟩⟩ := s
  obtain ⟨⟨e, f⟩, ⟨g, k⟩⟩ := t
  have e1 : crossQ (a, b) (c, d) (e, f) = (c - a) * (f - b) - (d - b) * (e - a) := rfl
  have e2 : crossQ (a, b) (c, d) (g, k) = (c - a) * (k - b) - (d - b) * (g - a) := rfl
  have e3 : crossQ (e, f) (g, k) (a, b) = (g - e) * (b - f) - (k - f) * (a - e) := rfl
  have e4 : crossQ (e, f) (g, k) (c, d) = (g - e) * (d - f) - (k - f) * (c - e) := rfl
  simp only at *
  simp only [Prod.mk.injEq]
  rw [e1, e2] at h' ⊢
  rw [e3, e4] at h2 ⊢
  constructor <;> grind
/-- on one line -/
def onLine (s t : Sd) : Prop := crossQ s.1 s.2 t.1 = 0 ∧ crossQ s.1 s.2 t.2 = 0
instance (s t : Sd) : Decidable (onLine s t) := by unfold onLine; exact inferInstance
/-- ends on one side -/
def sideS (s t : Sd) : Prop := sgnQ (crossQ s.1 s.2 t.1) = sgnQ (crossQ s.1 s.2 t.2)
instance (s t : Sd) : Decidable (sideS s t) := by unfold sideS; exact inferInstance
theorem meetM_eq (s t : Sd) : meetM s t = if onLine s t then alongM s t else if sideS s t ∨ sideS t s then .no else .pt (crossPt s t) := by
  unfold meetM onLine sideS
  simp only [sgnQ_zero]
/-- a point part of the way along is between the ends -/
theorem between {s : Sd} {f : Rat} (h0 : 0 ≤ f) (h1 : f ≤ 1) : ¬ ltP (movedP s f) (loP s) ∧ ¬ ltP (hiP s) (movedP s f) := by
  obtain ⟨⟨a, b⟩, ⟨c, d⟩⟩ := s
  have key : ∀ x y : Rat, x ≤ y → x ≤ x + f * (y - x) ∧ x + f * (y - x) ≤ y := fun x y h => by
    have m0 : 0 ≤ f * (y - x) := Rat.mul_nonneg h0 (by grind)
    have m1 : 0 ≤ (1 - f) * (y - x) := Rat.mul_nonneg (by grind) (by grind)
    constructor <;> grind
  have key2 : ∀ x y : Rat, y ≤ x → y ≤ x + f * (y - x) ∧ x + f * (y - x) ≤ x := fun x y h => by
    have m0 : 0 ≤ f * (x - y) := Rat.mul_nonneg h0 (by grind)
    have m1 : 0 ≤ (1 - f) * (x - y) := Rat.mul_nonneg (by grind) (by grind)
    constructor <;> grind
  have zero : ∀ x y : Rat, x < y → x + f * (y - x) = x → f = 0 := fun x y h e => by
    have : f * (y - x) = 0 := by grind
    rcases Rat.mul_eq_zero.mp this with z | z
    · exact z
    · exfalso; grind
  have one : ∀ x y : Rat, x < y → x + f * (y - x) = y → f = 1 := fun x y h e => by
    have : (1 - f) * (y - x) = 0 := by grind
    rcases Rat.mul_eq_zero.mp this with z | z
    · grind
    · exfalso; grind
  have zero2 : ∀ x y : Rat, y < x → x + f * (y - x) = x → f = 0 := fun x y h e => by
    have : f * (x - y) = 0 := by grind
    rcases Rat.mul_eq_zero.mp this with z | z
    · exact z
    · exfalso; grind
  have one2 : ∀ x y : Rat, y < x → x + f * (y - x) = y → f = 1 := fun x y h e => by
    have : (1 - f) * (x - y) = 0 := by grind
    rcases Rat.mul_eq_zero.mp this with z | z
    · grind
    · exfalso; grind
  unfold loP hiP movedP
  by_cases k : ltP ((c, d) : Pt) (a, b)
  · rw [if_pos k, if_pos k]
    unfold ltP at *
    simp only at *
    rcases k with k | ⟨k1, k2⟩
    · have := key2 a c (by grind)
      constructor
      · rintro (z | ⟨z1, z2⟩)
        · grind
        · have := one2 a c k z1
          grind
      · rintro (z | ⟨z1, z2⟩)
        · grind
        · have := zero2 a c k z1.symm
          grind
    · subst k1
      have := key2 b d (by grind)
      constructor
      · rintro (z | ⟨z1, z2⟩) <;> grind
      · rintro (z | ⟨z1, z2⟩) <;> grind
  · rw [if_neg k, if_neg k]
    unfold ltP at *
    simp only at *
    have hac : a ≤ c := by grind
    by_cases e : a = c
    · subst e
      have := key b d (by grind)
      constructor
      · rintro (z | ⟨z1, z2⟩) <;> grind
      · rintro (z | ⟨z1, z2⟩) <;> grind
    · have k' : a < c := by grind
      have := key a c hac
      constructor
      · rintro (z | ⟨z1, z2⟩)
        · grind
        · have := zero a c k' z1
          grind
      · rintro (z | ⟨z1, z2⟩)
        · grind
        · have := one a c k' z1.symm
          grind
theorem cross_moved (s : Sd) (f : Rat) : crossQ s.1 s.2 (movedP s f) = 0 := by unfold crossQ movedP; grind
theorem div01 {u p : Rat} (hp : 0 < p) (h0 : 0 ≤ u) (h1 : u ≤ p) : 0 ≤ u / p ∧ u / p ≤ 1 := by
  have e : u / p * p = u := Rat.div_mul_cancel (fun z => by rw [z] at hp; exact Rat.lt_irrefl hp)
  generalize u / p = q at e
  constructor
  · by_cases c : q < 0
    · have := Rat.mul_pos (show 0 < -q by grind) hp
      grind
    · grind
  · by_cases c : 1 < q
    · have := Rat.mul_pos (show 0 < q - 1 by grind) hp
      grind
    · grind
theorem frac01 {u v : Rat} (h : sgnQ u ≠ sgnQ v) : 0 ≤ u / (u - v) ∧ u / (u - v) ≤ 1 := by
  have cases : (0 ≤ u ∧ v < u ∧ v ≤ 0) ∨ (u ≤ 0 ∧ u < v ∧ 0 ≤ v) := by
    unfold sgnQ at h
    grind
  rcases cases with ⟨h1, h2, h3⟩ | ⟨h1, h2, h3⟩
  · have p : 0 < u - v := by grind
    exact div01 p h1 (by grind)
  · have p : 0 < v - u := by grind
    have e : u / (u - v) = (-u) / (v - u) := by
      have n1 : u - v ≠ 0 := by grind
      have n2 : v - u ≠ 0 := by grind
      grind
    rw [e]
    exact div01 p (by grind) (by grind)
theorem cross_on {s t : Sd} (h1 : ¬ sideS s t) (h2 : ¬ sideS t s) : onS s (crossPt s t) ∧ onS t (crossPt s t) := by
  have one : ∀ {s t : Sd}, ¬ sideS t s → onS s (crossPt s t) := fun {s t} h2 => by
    have f := frac01 (u := crossQ t.1 t.2 s.1) (v := crossQ t.1 t.2 s.2) h2
    exact ⟨cross_moved s _, between f.1 f.2⟩
  refine ⟨one h2, ?_⟩
  rw [← crossPt_comm fun z => h1 (by unfold sideS; rw [z])]
  exact one h1
end L2.D3
set_option maxHeartbeats 1000000
/-! Where sides meet, as sets of points; carried and cut. -/
namespace L2.D3
theorem leP_of {p q : Pt} (h : ¬ ltP p q) (g : ¬ ltP q p) : p = q := by
  rcases ltP_total p q with z | z | z
  · exact absurd z h
  · exact z
  · exact absurd z g
theorem leP_trans {p q r : Pt} (h : ¬ ltP q p) (g : ¬ ltP r q) : ¬ ltP r p := fun z => by
  rcases ltP_total p q with y | y | y
  · exact g (ltP_trans z y)
  · subst y; exact g z
  · exact h y
/-- the same line by other points of it -/
theorem line_same {s : Sd} {a b p : Pt} (hs : s.1 ≠ s.2) (hab : a ≠ b) (h1 : crossQ s.1 s.2 a = 0) (h2 : crossQ s.1 s.2 b = 0) : crossQ a b p = 0 ↔ crossQ s.1 s.2 p = 0 := by
  have one : ∀ {u v x y z : Pt}, u ≠ v → crossQ u v x = 0 → crossQ u v y = 0 → crossQ u v z = 0 → crossQ x y z = 0 := fun {u v x y z} hn e1 e2 e3 => by
    obtain ⟨u1, u2⟩ := u
    obtain ⟨v1, v2⟩ := v
    obtain ⟨x1, x2⟩ := x
    obtain ⟨y1, y2⟩ := y
    obtain ⟨z1, z2⟩ := z
    have hn2 : v1 - u1 ≠ 0 ∨ v2 - u2 ≠ 0 := by
      by_cases w : v1 - u1 = 0
      · right
        intro w2
        apply hn
        have : u1 = v1 := by grind
        have : u2 = v2 := by grind
        simp_all
      · exact .inl w
    unfold crossQ at *
    simp only at *
    rcases hn2 with w | w <;> grind
  have b1 : crossQ a b s.1 = 0 := by
    have e : crossQ s.1 s.2 s.1 = 0 := by unfold crossQ; grind
    exact one hs h1 h2 e
  have b2 : crossQ a b s.2 = 0 := by
    have e : crossQ s.1 s.2 s.2 = 0 := by unfold crossQ; grind
    exact one hs h1 h2 e
  exact ⟨fun z => one hab b1 b2 z, fun z => one hs h1 h2 z⟩
theorem cross_lo1 (s : Sd) : crossQ s.1 s.2 (loP s) = 0 ∧ crossQ s.1 s.2 (hiP s) = 0 := by
  have e1 : crossQ s.1 s.2 s.1 = 0 := by unfold crossQ; grind
  have e2 : crossQ s.1 s.2 s.2 = 0 := by unfold crossQ; grind
  unfold loP hiP
  split
  · exact ⟨e2, e1⟩
  · exact ⟨e1, e2⟩
/-- by shares of the way -/
theorem onS_share {s : Sd} {p : Pt} (hs : s.1 ≠ s.2) (h : onS s p) : ∃ f : Rat, 0 ≤ f ∧ f ≤ 1 ∧ p = movedP s f := by
  obtain ⟨⟨a, b⟩, ⟨c, d⟩⟩ := s
  obtain ⟨x, y⟩ := p
  obtain ⟨h0, h1, h2⟩ := h
  unfold crossQ at h0
  simp only at h0
  have bx : (a ≤ x ∧ x ≤ c) ∨ (c ≤ x ∧ x ≤ a) := by
    by_cases k : ltP ((c, d) : Pt) (a, b)
    · have lo : loP ((a, b), (c, d)) = (c, d) := by unfold loP; rw [if_pos k]
      have hi : hiP ((a, b), (c, d)) = (a, b) := by unfold hiP; rw [if_pos k]
      rw [lo] at h1
      rw [hi] at h2
      unfold ltP at h1 h2 k
      simp only at h1 h2 k
      right
      grind
    · have lo : loP ((a, b), (c, d)) = (a, b) := by unfold loP; rw [if_neg k]
      have hi : hiP ((a, b), (c, d)) = (c, d) := by unfold hiP; rw [if_neg k]
      rw [lo] at h1
      rw [hi] at h2
      unfold ltP at h1 h2 k
      simp only at h1 h2 k
      left
      grind
  have frac : ∀ u v w : Rat, u ≠ v → ((u ≤ w ∧ w ≤ v) ∨ (v ≤ w ∧ w ≤ u)) → 0 ≤ (w - u) / (v - u) ∧ (w - u) / (v - u) ≤ 1 := fun u v w hn hh => by
    rcases hh with ⟨z1, z2⟩ | ⟨z1, z2⟩
    · have p : 0 < v - u := by grind
      exact div01 p (by grind) (by grind)
    · have p : 0 < u - v := by grind
      have e : (w - u) / (v - u) = (u - w) / (u - v) := by
        have n1 : v - u ≠ 0 := by grind
        have n2 : u - v ≠ 0 := by grind
        grind
      rw [e]
      exact div01 p (by grind) (by grind)
  by_cases e : a = c
  · subst e
    have hbd : b ≠ d := fun z => hs (by rw [z])
    have hx : x = a := by grind
    subst hx
    have by_ : (b ≤ y ∧ y ≤ d) ∨ (d ≤ y ∧ y ≤ b) := by
      by_cases k : ltP ((x, d) : Pt) (x, b)
      · have lo : loP ((x, b), (x, d)) = (x, d) := by unfold loP; rw [if_pos k]
        have hi : hiP ((x, b), (x, d)) = (x, b) := by unfold hiP; rw [if_pos k]
        rw [lo] at h1
        rw [hi] at h2
        unfold ltP at h1 h2 k
        simp only at h1 h2 k
        right
        grind
      · have lo : loP ((x, b), (x, d)) = (x, b) := by unfold loP; rw [if_neg k]
        have hi : hiP ((x, b), (x, d)) = (x, d) := by unfold hiP; rw [if_neg k]
        rw [lo] at h1
        rw [hi] at h2
        unfold ltP at h1 h2 k
        simp only at h1 h2 k
        left
        grind
    obtain ⟨f0, f1⟩ := frac b d y hbd by_
    refine ⟨(y - b) / (d - b), f0, f1, ?_⟩
    have n1 : d - b ≠ 0 := by grind
    unfold movedP
    simp only [Prod.mk.injEq]
    constructor <;> grind
  · obtain ⟨f0, f1⟩ := frac a c x e bx
    refine ⟨(x - a) / (c - a), f0, f1, ?_⟩
    have n1 : c - a ≠ 0 := by grind
    unfold movedP
    simp only [Prod.mk.injEq]
    constructor
    · grind
    · have e2 : (c - a) * (y - b) = (d - b) * (x - a) := by grind
      grind
theorem share_onS {s : Sd} {f : Rat} (h0 : 0 ≤ f) (h1 : f ≤ 1) : onS s (movedP s f) := ⟨cross_moved s f, between h0 h1⟩
theorem cross_share (s t : Sd) (f : Rat) : crossQ s.1 s.2 (movedP t f) = (1 - f) * crossQ s.1 s.2 t.1 + f * crossQ s.1 s.2 t.2 := by unfold crossQ movedP; grind
/-- what two sides have in common, told -/
def Desc (m : Mt) (S : Pt → Prop) : Prop := match m with
  | .no => ∀ p, ¬ S p
  | .pt q => ∀ p, S p ↔ p = q
  | .st a b => ltP a b ∧ ∀ p, S p ↔ onS (a, b) p
theorem no_zero {u v f : Rat} (h0 : 0 ≤ f) (h1 : f ≤ 1) (h : sgnQ u = sgnQ v) (hn : ¬ (u = 0 ∧ v = 0)) : (1 - f) * u + f * v ≠ 0 := by
  have c : (0 < u ∧ 0 < v) ∨ (u < 0 ∧ v < 0) := by
    unfold sgnQ at h
    grind
  rcases c with ⟨c1, c2⟩ | ⟨c1, c2⟩
  · have m1 : 0 ≤ (1 - f) * u := Rat.mul_nonneg (by grind) (by grind)
    have m2 : 0 ≤ f * v := Rat.mul_nonneg h0 (by grind)
    intro e
    have z1 : (1 - f) * u = 0 := by grind
    have z2 : f * v = 0 := by grind
    rcases Rat.mul_eq_zero.mp z1 with y | y
    · rcases Rat.mul_eq_zero.mp z2 with x | x <;> grind
    · grind
  · have m1 : 0 ≤ (1 - f) * (-u) := Rat.mul_nonneg (by grind) (by grind)
    have m2 : 0 ≤ f * (-v) := Rat.mul_nonneg h0 (by grind)
    intro e
    have z1 : (1 - f) * (-u) = 0 := by grind
    have z2 : f * (-v) = 0 := by grind
    rcases Rat.mul_eq_zero.mp z1 with y | y
    · rcases Rat.mul_eq_zero.mp z2 with x | x <;> grind
    · grind
theorem meet_desc {s t : Sd} (hs : s.1 ≠ s.2) (ht : t.1 ≠ t.2) : Desc (meetM s t) (fun p => onS s p ∧ onS t p) := by
  rw [meetM_eq]
  by_cases c : onLine s t
  · rw [if_pos c]
    have lt : crossQ s.1 s.2 (loP t) = 0 ∧ crossQ s.1 s.2 (hiP t) = 0 := by
      unfold loP hiP
      split
      · exact ⟨c.2, c.1⟩
      · exact c
    have ls := cross_lo1 s
    have hf : crossQ s.1 s.2 (firstP s t) = 0 := by
      unfold firstP
      split
      · exact ls.1
      · exact lt.1
    have hl : crossQ s.1 s.2 (lastP s t) = 0 := by
      unfold lastP
      split
      · exact ls.2
      · exact lt.2
    have same : ∀ p, crossQ t.1 t.2 p = 0 ↔ crossQ s.1 s.2 p = 0 := fun p => line_same hs ht c.1 c.2
    have key : ∀ p, (onS s p ∧ onS t p) ↔ (crossQ s.1 s.2 p = 0 ∧ ¬ ltP p (firstP s t) ∧ ¬ ltP (lastP s t) p) := fun p => by
      unfold onS
      rw [same]
      unfold firstP lastP
      constructor
      · rintro ⟨⟨a1, a2, a3⟩, _, b2, b3⟩
        refine ⟨a1, ?_, ?_⟩
        · split
          · exact a2
          · exact b2
        · split
          · exact a3
          · exact b3
      · rintro ⟨a1, a2, a3⟩
        refine ⟨⟨a1, ?_, ?_⟩, a1, ?_, ?_⟩
        · by_cases k : ltP (loP t) (loP s)
          · rw [if_pos k] at a2; exact a2
          · rw [if_neg k] at a2; exact leP_trans k a2
        · by_cases k : ltP (hiP s) (hiP t)
          · rw [if_pos k] at a3; exact a3
          · rw [if_neg k] at a3; exact leP_trans a3 k
        · by_cases k : ltP (loP t) (loP s)
          · rw [if_pos k] at a2; exact leP_trans (ltP_asymm k) a2
          · rw [if_neg k] at a2; exact a2
        · by_cases k : ltP (hiP s) (hiP t)
          · rw [if_pos k] at a3; exact leP_trans a3 (ltP_asymm k)
          · rw [if_neg k] at a3; exact a3
    unfold alongM
    by_cases k1 : ltP (lastP s t) (firstP s t)
    · rw [if_pos k1]
      intro p hp
      obtain ⟨_, z2, z3⟩ := (key p).mp hp
      exact leP_trans z2 z3 k1
    · rw [if_neg k1]
      by_cases k2 : firstP s t = lastP s t
      · rw [if_pos k2]
        intro p
        constructor
        · intro hp
          obtain ⟨_, z2, z3⟩ := (key p).mp hp
          rw [← k2] at z3
          exact leP_of z2 z3
        · intro e
          refine (key p).mpr ?_
          rw [e, ← k2]
          exact ⟨hf, ltP_irrefl _, ltP_irrefl _⟩
      · rw [if_neg k2]
        have lt2 : ltP (firstP s t) (lastP s t) := by
          rcases ltP_total (firstP s t) (lastP s t) with z | z | z
          · exact z
          · exact absurd z k2
          · exact absurd z k1
        refine ⟨lt2, fun p => (key p).trans ?_⟩
        have lo : loP (firstP s t, lastP s t) = firstP s t := by unfold loP; rw [if_neg (ltP_asymm lt2)]
        have hi : hiP (firstP s t, lastP s t) = lastP s t := by unfold hiP; rw [if_neg (ltP_asymm lt2)]
        unfold onS
        rw [lo, hi, line_same hs k2 hf hl]
  · rw [if_neg c]
    have nz : ¬ (crossQ s.1 s.2 t.1 = 0 ∧ crossQ s.1 s.2 t.2 = 0) := c
    have nz2 : ¬ (crossQ t.1 t.2 s.1 = 0 ∧ crossQ t.1 t.2 s.2 = 0) := fun z => c (line_back ht z.1 z.2)
    by_cases k : sideS s t ∨ sideS t s
    · rw [if_pos k]
      rintro p ⟨p1, p2⟩
      rcases k with k | k
      · obtain ⟨f, f0, f1, rfl⟩ := onS_share ht p2
        have z := p1.1
        rw [cross_share] at z
        exact no_zero f0 f1 k nz z
      · obtain ⟨f, f0, f1, rfl⟩ := onS_share hs p1
        have z := p2.1
        rw [cross_share] at z
        exact no_zero f0 f1 k nz2 z
    · rw [if_neg k]
      have k1 : ¬ sideS s t := fun z => k (.inl z)
      have k2 : ¬ sideS t s := fun z => k (.inr z)
      have on := cross_on k1 k2
      intro p
      constructor
      · rintro ⟨p1, p2⟩
        obtain ⟨f, f0, f1, rfl⟩ := onS_share ht p2
        obtain ⟨g, g0, g1, e⟩ := onS_share ht on.2
        have z := p1.1
        have y := on.1.1
        rw [cross_share] at z
        rw [e, cross_share] at y
        have hne : crossQ s.1 s.2 t.1 ≠ crossQ s.1 s.2 t.2 := fun w => k1 (by unfold sideS; rw [w])
        generalize crossQ s.1 s.2 t.1 = u at *
        generalize crossQ s.1 s.2 t.2 = v at *
        have fg : (f - g) * (v - u) = 0 := by grind
        rcases Rat.mul_eq_zero.mp fg with w | w
        · have : f = g := by grind
          rw [e, this]
        · exact absurd (by grind) hne
      · intro e
        rw [e]
        exact on
theorem onS_ends {a b : Pt} (h : ltP a b) : onS (a, b) a ∧ onS (a, b) b := by
  have lo : loP (a, b) = a := by unfold loP; rw [if_neg (ltP_asymm h)]
  have hi : hiP (a, b) = b := by unfold hiP; rw [if_neg (ltP_asymm h)]
  have e1 : crossQ a b a = 0 := by unfold crossQ; grind
  have e2 : crossQ a b b = 0 := by unfold crossQ; grind
  unfold onS
  rw [lo, hi]
  exact ⟨⟨e1, ltP_irrefl _, ltP_asymm h⟩, e2, ltP_asymm h, ltP_irrefl _⟩
theorem onS_bd {a b p : Pt} (h : ltP a b) (hp : onS (a, b) p) : ¬ ltP p a ∧ ¬ ltP b p := by
  have lo : loP (a, b) = a := by unfold loP; rw [if_neg (ltP_asymm h)]
  have hi : hiP (a, b) = b := by unfold hiP; rw [if_neg (ltP_asymm h)]
  have z := hp.2
  rw [lo, hi] at z
  exact z
theorem desc_unique {m n : Mt} {S : Pt → Prop} (h : Desc m S) (g : Desc n S) : m = n := by
  cases m with
  | no =>
    cases n with
    | no => rfl
    | pt q => exact absurd ((g q).mpr rfl) (h q)
    | st a b => exact absurd ((g.2 a).mpr (onS_ends g.1).1) (h a)
  | pt q =>
    cases n with
    | no => exact absurd ((h q).mpr rfl) (g q)
    | pt r => rw [(g q).mp ((h q).mpr rfl)]
    | st a b =>
      have e1 := (h a).mp ((g.2 a).mpr (onS_ends g.1).1)
      have e2 := (h b).mp ((g.2 b).mpr (onS_ends g.1).2)
      have l := g.1
      rw [e1, e2] at l
      exact absurd l (ltP_irrefl _)
  | st a b =>
    cases n with
    | no => exact absurd ((h.2 a).mpr (onS_ends h.1).1) (g a)
    | pt q =>
      have e1 := (g a).mp ((h.2 a).mpr (onS_ends h.1).1)
      have e2 := (g b).mp ((h.2 b).mpr (onS_ends h.1).2)
      have l := h.1
      rw [e1, e2] at l
      exact absurd l (ltP_irrefl _)
    | st c d =>
      have a1 := onS_bd g.1 ((g.2 a).mp ((h.2 a).mpr (onS_ends h.1).1))
      have b1 := onS_bd g.1 ((g.2 b).mp ((h.2 b).mpr (onS_ends h.1).2))
      have c1 := onS_bd h.1 ((h.2 c).mp ((g.2 c).mpr (onS_ends g.1).1))
      have d1 := onS_bd h.1 ((h.2 d).mp ((g.2 d).mpr (onS_ends g.1).2))
      rw [leP_of a1.1 c1.1, leP_of b1.2 d1.2]
/-! ### carried -/
structure Car where
  a : Rat
  b : Rat
  c : Rat
  d : Rat
  e : Rat
  f : Rat
def Car.det (k : Car) : Rat := k.a * k.e - k.b * k.d
def Car.pt (k : Car) (p : Pt) : Pt := (k.a * p.1 + k.b * p.2 + k.c, k.d * p.1 + k.e * p.2 + k.f)
def Car.sd (k : Car) (s : Sd) : Sd := (k.pt s.1, k.pt s.2)
theorem car_inj {k : Car} (hk : k.det ≠ 0) {p q : Pt} (h : k.pt p = k.pt q) : p = q := by
  obtain ⟨p1, p2⟩ := p
  obtain ⟨q1, q2⟩ := q
  obtain ⟨a, b, c, d, e, f⟩ := k
  unfold Car.det at hk
  unfold Car.pt at h
  simp only [Prod.mk.injEq] at h hk ⊢
  obtain ⟨h1, h2⟩ := h
  have e1 : (a * e - b * d) * (p1 - q1) = 0 := by grind
  have e2 : (a * e - b * d) * (p2 - q2) = 0 := by grind
  rcases Rat.mul_eq_zero.mp e1 with z | z
  · exact absurd z hk
  · rcases Rat.mul_eq_zero.mp e2 with y | y
    · exact absurd y hk
    · constructor <;> grind
theorem car_moved (k : Car) (s : Sd) (g : Rat) : movedP (k.sd s) g = k.pt (movedP s g) := by
  unfold movedP Car.sd Car.pt
  simp only [Prod.mk.injEq]
  constructor <;> grind
theorem car_cross (k : Car) (p q r : Pt) : crossQ (k.pt p) (k.pt q) (k.pt r) = k.det * crossQ p q r := by
  unfold crossQ Car.pt Car.det
  grind
theorem car_ne {k : Car} (hk : k.det ≠ 0) {s : Sd} (hs : s.1 ≠ s.2) : (k.sd s).1 ≠ (k.sd s).2 := fun z => hs (car_inj hk z)
theorem car_onS {k : Car} (hk : k.det ≠ 0) {s : Sd} (hs : s.1 ≠ s.2) (p : Pt) : onS (k.sd s) (k.pt p) ↔ onS s p := by
  constructor
  · intro h
    obtain ⟨f, f0, f1, e⟩ := onS_share (car_ne hk hs) h
    rw [car_moved] at e
    rw [car_inj hk e]
    exact share_onS f0 f1
  · intro h
    obtain ⟨f, f0, f1, e⟩ := onS_share hs h
    rw [e, ← car_moved]
    exact share_onS f0 f1
theorem car_pre {k : Car} (hk : k.det ≠ 0) {s : Sd} (hs : s.1 ≠ s.2) {p : Pt} (h : onS (k.sd s) p) : ∃ q, p = k.pt q ∧ onS s q := by
  obtain ⟨f, f0, f1, e⟩ := onS_share (car_ne hk hs) h
  rw [car_moved] at e
  exact ⟨_, e, share_onS f0 f1⟩
def carM (k : Car) : Mt → Mt
  | .no => .no
  | .pt p => .pt (k.pt p)
  | .st a b => if ltP (k.pt b) (k.pt a) then .st (k.pt b) (k.pt a) else .st (k.pt a) (k.pt b)
theorem meet_carried {k : Car} (hk : k.det ≠ 0) {s t : Sd} (hs : s.1 ≠ s.2) (ht : t.1 ≠ t.2) : meetM (k.sd s) (k.sd t) = carM k (meetM s t) := by
  refine desc_unique (meet_desc (car_ne hk hs) (car_ne hk ht)) ?_
  have h := meet_desc hs ht
  have both : ∀ q, (onS (k.sd s) (k.pt q) ∧ onS (k.sd t) (k.pt q)) ↔ (onS s q ∧ onS t q) := fun q => by rw [car_onS hk hs, car_onS hk ht]
  have pre : ∀ p, (onS (k.sd s) p ∧ onS (k.sd t) p) → ∃ q, p = k.pt q ∧ (onS s q ∧ onS t q) := fun p hp => by
    obtain ⟨q, rfl, h1⟩ := car_pre hk hs hp.1
    exact ⟨q, rfl, (both q).mp hp⟩
  cases e : meetM s t with
  | no =>
    rw [e] at h
    intro p hp
    obtain ⟨q, _, z⟩ := pre p hp
    exact h q z
  | pt r =>
    rw [e] at h
    intro p
    constructor
    · intro hp
      obtain ⟨q, rfl, z⟩ := pre p hp
      rw [(h q).mp z]
    · rintro rfl
      exact (both r).mpr ((h r).mpr rfl)
  | st a b =>
    rw [e] at h
    have hne : a ≠ b := fun z => by have := h.1; rw [z] at this; exact ltP_irrefl _ this
    have ab : ((a, b) : Sd).1 ≠ ((a, b) : Sd).2 := hne
    have set : ∀ p, (onS (k.sd s) p ∧ onS (k.sd t) p) ↔ onS (k.pt a, k.pt b) p := fun p => by
      constructor
      · intro hp
        obtain ⟨q, rfl, z⟩ := pre p hp
        exact (car_onS hk ab q).mpr ((h.2 q).mp z)
      · intro hp
        obtain ⟨q, rfl, z⟩ := car_pre hk ab (s := (a, b)) hp
        exact (both q).mpr ((h.2 q).mpr z)
    show Desc (if ltP (k.pt b) (k.pt a) then .st (k.pt b) (k.pt a) else .st (k.pt a) (k.pt b)) _
    by_cases c : ltP (k.pt b) (k.pt a)
    · rw [if_pos c]
      refine ⟨c, fun p => (set p).trans ?_⟩
      exact (onS_flip (s := (k.pt a, k.pt b)) (car_ne hk ab) p).symm
    · rw [if_neg c]
      refine ⟨?_, set⟩
      rcases ltP_total (k.pt a) (k.pt b) with z | z | z
      · exact z
      · exact absurd (car_inj hk z) hne
      · exact absurd z c
theorem sgn_mul (d q : Rat) : sgnQ (d * q) = if d < 0 then - sgnQ q else if d = 0 then 0 else sgnQ q := by
  have m1 := Rat.mul_pos (a := d) (b := q)
  have m2 := Rat.mul_pos (a := -d) (b := q)
  have m3 := Rat.mul_pos (a := d) (b := -q)
  have m4 := Rat.mul_pos (a := -d) (b := -q)
  by_cases a : d < 0
  · rw [if_pos a]
    unfold sgnQ
    by_cases b : 0 < q
    · have := m2 (by grind) b
      rw [if_neg (by grind), if_pos (by grind), if_pos b]
    · by_cases c : q < 0
      · have := m4 (by grind) (by grind)
        rw [if_pos (by grind), if_neg b, if_pos c]
        rfl
      · have : q = 0 := by grind
        subst this
        rw [if_neg (by grind), if_neg (by grind), if_neg b, if_neg c]
        rfl
  · rw [if_neg a]
    by_cases z : d = 0
    · rw [if_pos z, z]
      unfold sgnQ
      rw [if_neg (by grind), if_neg (by grind)]
    · rw [if_neg z]
      unfold sgnQ
      by_cases b : 0 < q
      · have := m1 (by grind) b
        rw [if_pos this, if_pos b]
      · by_cases c : q < 0
        · have := m3 (by grind) (by grind)
          rw [if_neg (by grind), if_pos (by grind), if_neg b, if_pos c]
        · have : q = 0 := by grind
          subst this
          rw [if_neg (by grind), if_neg (by grind), if_neg b, if_neg c]
end L2.D3
set_option maxHeartbeats 1000000
/-! Sides cut in two. -/
namespace L2.D3
theorem cut_on {s : Sd} {g : Rat} (hs : s.1 ≠ s.2) (g0 : 0 < g) (g1 : g < 1) : (s.1 ≠ movedP s g ∧ movedP s g ≠ s.2) ∧ ∀ p, onS s p ↔ (onS (s.1, movedP s g) p ∨ onS (movedP s g, s.2) p) := by
  have a1 : ∀ h : Rat, movedP (s.1, movedP s g) h = movedP s (h * g) := fun h => by
    unfold movedP
    simp only [Prod.mk.injEq]
    constructor <;> grind
  have a2 : ∀ h : Rat, movedP (movedP s g, s.2) h = movedP s (g + h * (1 - g)) := fun h => by
    unfold movedP
    simp only [Prod.mk.injEq]
    constructor <;> grind
  have inj : ∀ f h : Rat, movedP s f = movedP s h → f = h := fun f h e => by
    unfold movedP at e
    simp only [Prod.mk.injEq] at e
    obtain ⟨e1, e2⟩ := e
    have z1 : (f - h) * (s.2.1 - s.1.1) = 0 := by grind
    have z2 : (f - h) * (s.2.2 - s.1.2) = 0 := by grind
    rcases Rat.mul_eq_zero.mp z1 with y | y
    · grind
    · rcases Rat.mul_eq_zero.mp z2 with w | w
      · grind
      · exact absurd (Prod.ext (by grind) (by grind)) hs
  have z0 : movedP s 0 = s.1 := by unfold movedP; exact Prod.ext (by show s.1.1 + 0 * _ = s.1.1; grind) (by show s.1.2 + 0 * _ = s.1.2; grind)
  have z1 : movedP s 1 = s.2 := by unfold movedP; exact Prod.ext (by show s.1.1 + 1 * _ = s.2.1; grind) (by show s.1.2 + 1 * _ = s.2.2; grind)
  have n1 : s.1 ≠ movedP s g := fun z => by
    have := inj 0 g (by rw [z0]; exact z)
    grind
  have n2 : movedP s g ≠ s.2 := fun z => by
    have := inj g 1 (by rw [z1]; exact z)
    grind
  refine ⟨⟨n1, n2⟩, fun p => ⟨fun h => ?_, fun h => ?_⟩⟩
  · obtain ⟨f, f0, f1, rfl⟩ := onS_share hs h
    by_cases c : f ≤ g
    · left
      have d := div01 g0 f0 c
      have e : movedP s f = movedP (s.1, movedP s g) (f / g) := by
        rw [a1]
        have : f / g * g = f := Rat.div_mul_cancel (fun z => by rw [z] at g0; exact Rat.lt_irrefl g0)
        rw [this]
      rw [e]
      exact share_onS d.1 d.2
    · right
      have gp : 0 < 1 - g := by grind
      have d := div01 gp (show 0 ≤ f - g by grind) (show f - g ≤ 1 - g by grind)
      have e : movedP s f = movedP (movedP s g, s.2) ((f - g) / (1 - g)) := by
        rw [a2]
        have : (f - g) / (1 - g) * (1 - g) = f - g := Rat.div_mul_cancel (fun z => by rw [z] at gp; exact Rat.lt_irrefl gp)
        rw [this]
        congr 1
        grind
      rw [e]
      exact share_onS d.1 d.2
  · rcases h with h | h
    · obtain ⟨f, f0, f1, rfl⟩ := onS_share n1 h
      rw [a1]
      have m0 : 0 ≤ f * g := Rat.mul_nonneg f0 (by grind)
      have m1 : 0 ≤ (1 - f) * g := Rat.mul_nonneg (by grind) (by grind)
      exact share_onS m0 (by grind)
    · obtain ⟨f, f0, f1, rfl⟩ := onS_share n2 h
      rw [a2]
      have m0 : 0 ≤ f * (1 - g) := Rat.mul_nonneg f0 (by grind)
      have m1 : 0 ≤ (1 - f) * (1 - g) := Rat.mul_nonneg (by grind) (by grind)
      exact share_onS (by grind) (by grind)
def endsM : Mt → List Pt
  | .no => []
  | .pt p => [p]
  | .st a b => [a, b]
/-- the first and the last of some points -/
structure LoOf (ps : List Pt) (p : Pt) : Prop where
  mem : p ∈ ps
  low : ∀ q ∈ ps, ¬ ltP q p
structure HiOf (ps : List Pt) (p : Pt) : Prop where
  mem : p ∈ ps
  high : ∀ q ∈ ps, ¬ ltP p q
theorem LoOf.eq {ps : List Pt} {p q : Pt} (h : LoOf ps p) (g : LoOf ps q) : p = q := leP_of (g.low p h.mem) (h.low q g.mem)
theorem HiOf.eq {ps : List Pt} {p q : Pt} (h : HiOf ps p) (g : HiOf ps q) : p = q := leP_of (h.high q g.mem) (g.high p h.mem)
theorem ends_in {m : Mt} {S : Pt → Prop} (h : Desc m S) : ∀ q ∈ endsM m, S q := by
  cases m with
  | no => intro q hq; cases hq
  | pt p => intro q hq; rw [List.mem_singleton.mp hq]; exact (h p).mpr rfl
  | st a b =>
    intro q hq
    rcases List.mem_cons.mp hq with rfl | hq
    · exact (h.2 _).mpr (onS_ends h.1).1
    · rw [List.mem_singleton.mp hq]; exact (h.2 _).mpr (onS_ends h.1).2
/-- the least of a set lies among the ends -/
theorem ends_lo {m : Mt} {S : Pt → Prop} (h : Desc m S) {a : Pt} (ha : S a) (lo : ∀ q, S q → ¬ ltP q a) : a ∈ endsM m := by
  cases m with
  | no => exact absurd ha (h a)
  | pt p => rw [(h a).mp ha]; exact List.mem_cons_self
  | st c d =>
    have k := onS_bd h.1 ((h.2 a).mp ha)
    have c1 := lo c ((h.2 c).mpr (onS_ends h.1).1)
    rw [leP_of k.1 c1]
    exact List.mem_cons_self
theorem ends_hi {m : Mt} {S : Pt → Prop} (h : Desc m S) {a : Pt} (ha : S a) (hi : ∀ q, S q → ¬ ltP a q) : a ∈ endsM m := by
  cases m with
  | no => exact absurd ha (h a)
  | pt p => rw [(h a).mp ha]; exact List.mem_cons_self
  | st c d =>
    have k := onS_bd h.1 ((h.2 a).mp ha)
    have c1 := hi d ((h.2 d).mpr (onS_ends h.1).2)
    rw [leP_of c1 k.2]
    exact List.mem_cons_of_mem _ List.mem_cons_self
/-- the parts of a cut side -/
theorem cut_meets {s t : Sd} {g : Rat} (hs : s.1 ≠ s.2) (ht : t.1 ≠ t.2) (g0 : 0 < g) (g1 : g < 1) :
    (meetM s t = .no ↔ meetM (s.1, movedP s g) t = .no ∧ meetM (movedP s g, s.2) t = .no) ∧
    (∀ p, meetM s t = .pt p → LoOf (endsM (meetM (s.1, movedP s g) t) ++ endsM (meetM (movedP s g, s.2) t)) p ∧ HiOf (endsM (meetM (s.1, movedP s g) t) ++ endsM (meetM (movedP s g, s.2) t)) p) ∧
    ∀ a b, meetM s t = .st a b → LoOf (endsM (meetM (s.1, movedP s g) t) ++ endsM (meetM (movedP s g, s.2) t)) a ∧ HiOf (endsM (meetM (s.1, movedP s g) t) ++ endsM (meetM (movedP s g, s.2) t)) b := by
  obtain ⟨⟨n1, n2⟩, un⟩ := cut_on hs g0 g1
  have d := meet_desc hs ht
  have d1 := meet_desc (s := (s.1, movedP s g)) n1 ht
  have d2 := meet_desc (s := (movedP s g, s.2)) n2 ht
  generalize meetM (s.1, movedP s g) t = m1 at *
  generalize meetM (movedP s g, s.2) t = m2 at *
  have all : ∀ q ∈ endsM m1 ++ endsM m2, onS s q ∧ onS t q := fun q hq => by
    rcases List.mem_append.mp hq with z | z
    · have y := ends_in d1 q z
      exact ⟨(un q).mpr (.inl y.1), y.2⟩
    · have y := ends_in d2 q z
      exact ⟨(un q).mpr (.inr y.1), y.2⟩
  have sub1 : ∀ q, onS (s.1, movedP s g) q ∧ onS t q → onS s q ∧ onS t q := fun q z => ⟨(un q).mpr (.inl z.1), z.2⟩
  have sub2 : ∀ q, onS (movedP s g, s.2) q ∧ onS t q → onS s q ∧ onS t q := fun q z => ⟨(un q).mpr (.inr z.1), z.2⟩
  have lo_ : ∀ a, (onS s a ∧ onS t a) → (∀ q, (onS s q ∧ onS t q) → ¬ ltP q a) → LoOf (endsM m1 ++ endsM m2) a := fun a ha lo => by
    refine ⟨?_, fun q hq => lo q (all q hq)⟩
    rcases (un a).mp ha.1 with z | z
    · exact List.mem_append_left _ (ends_lo d1 ⟨z, ha.2⟩ fun q hq => lo q (sub1 q hq))
    · exact List.mem_append_right _ (ends_lo d2 ⟨z, ha.2⟩ fun q hq => lo q (sub2 q hq))
  have hi_ : ∀ a, (onS s a ∧ onS t a) → (∀ q, (onS s q ∧ onS t q) → ¬ ltP a q) → HiOf (endsM m1 ++ endsM m2) a := fun a ha hi => by
    refine ⟨?_, fun q hq => hi q (all q hq)⟩
    rcases (un a).mp ha.1 with z | z
    · exact List.mem_append_left _ (ends_hi d1 ⟨z, ha.2⟩ fun q hq => hi q (sub1 q hq))
    · exact List.mem_append_right _ (ends_hi d2 ⟨z, ha.2⟩ fun q hq => hi q (sub2 q hq))
  refine ⟨⟨fun e => ?_, fun e => ?_⟩, fun p e => ?_, fun a b e => ?_⟩
  · rw [e] at d
    constructor
    · refine desc_unique d1 (n := .no) fun p hp => ?_
      exact d p (sub1 p hp)
    · refine desc_unique d2 (n := .no) fun p hp => ?_
      exact d p (sub2 p hp)
  · rw [e.1] at d1
    rw [e.2] at d2
    refine desc_unique d (n := .no) fun p hp => ?_
    rcases (un p).mp hp.1 with z | z
    · exact d1 p ⟨z, hp.2⟩
    · exact d2 p ⟨z, hp.2⟩
  · rw [e] at d
    have hp := (d p).mpr rfl
    exact ⟨lo_ p hp fun q hq => by rw [(d q).mp hq]; exact ltP_irrefl _, hi_ p hp fun q hq => by rw [(d q).mp hq]; exact ltP_irrefl _⟩
  · rw [e] at d
    have ha := (d.2 a).mpr (onS_ends d.1).1
    have hb := (d.2 b).mpr (onS_ends d.1).2
    exact ⟨lo_ a ha fun q hq => (onS_bd d.1 ((d.2 q).mp hq)).1, hi_ b hb fun q hq => (onS_bd d.1 ((d.2 q).mp hq)).2⟩
theorem lo_pair {a b : Pt} (h : ltP a b) : loP (a, b) = a ∧ hiP (a, b) = b := by
  unfold loP hiP
  rw [if_neg (ltP_asymm h), if_neg (ltP_asymm h)]
  exact ⟨rfl, rfl⟩
/-- a side and itself turned about -/
theorem meet_back {s : Sd} (hs : s.1 ≠ s.2) : meetM s (flip s) = .st (loP s) (hiP s) := by
  have hlt : ltP (loP s) (hiP s) := by
    unfold loP hiP
    by_cases c : ltP s.2 s.1
    · rw [if_pos c, if_pos c]; exact c
    · rw [if_neg c, if_neg c]
      rcases ltP_total s.1 s.2 with z | z | z
      · exact z
      · exact absurd z hs
      · exact absurd z c
  refine desc_unique (meet_desc hs (Ne.symm hs)) ⟨hlt, fun p => ?_⟩
  show (onS s p ∧ onS (flip s) p) ↔ _
  rw [onS_flip hs]
  have e : onS (loP s, hiP s) p ↔ onS s p := by
    obtain ⟨lo, hi⟩ := lo_pair hlt
    have cl := cross_lo1 s
    have hne : loP s ≠ hiP s := fun z => by rw [z] at hlt; exact ltP_irrefl _ hlt
    unfold onS
    rw [lo, hi]
    show (crossQ (loP s) (hiP s) p = 0 ∧ _) ↔ _
    rw [line_same hs hne cl.1 cl.2]
  rw [e]
  exact ⟨fun z => z.1, fun z => ⟨z, z⟩⟩
end L2.D3
set_option maxHeartbeats 1000000
/-! Where sides meet: the program's defs. -/
namespace L2.D3
open PySem PySem.Spec PyProof.Rows
def eM : Mt → Dt
  | .no => .none
  | .pt p => .tuple [.str "point", eP p]
  | .st a b => .tuple [.str "stretch", eP a, eP b]
theorem eqv_str (a b : Str) : PyData.eqv (.str a) (.str b) = decide (a = b) := by
  simp only [PyData.eqv]
  by_cases h : a = b
  · subst h; simp
  · rw [decide_eq_false h]; exact beq_eq_false_iff_ne.mpr h
theorem sh_str (n : Nat) {z : Str} (h : PyData.strOk z = true) : Sh n (.str z) := ⟨by simpa [PyData.canLay0] using h, by simp [PyData.depth]⟩
theorem shp_str {z : Str} (h : PyData.strOk z = true) : SeqAt.shaped (.str z) = true := (sh_str 0 h).shaped (by decide)
theorem shp_point : SeqAt.shaped (.str "point") = true := shp_str (by decide +kernel)
theorem sh_two {n : Nat} {a b : Dt} (ha : Sh n a) (hb : Sh n b) : Sh (n + 1) (.tuple [a, b]) := sh_tuple fun d hd => by
  simp only [List.mem_cons, List.not_mem_nil, or_false] at hd
  rcases hd with rfl | rfl
  · exact ha
  · exact hb
theorem sh_three {n : Nat} {a b c : Dt} (ha : Sh n a) (hb : Sh n b) (hc : Sh n c) : Sh (n + 1) (.tuple [a, b, c]) := sh_tuple fun d hd => by
  simp only [List.mem_cons, List.not_mem_nil, or_false] at hd
  rcases hd with rfl | rfl | rfl
  · exact ha
  · exact hb
  · exact hc
theorem sh_eM : ∀ m : Mt, Sh 3 (eM m)
  | .no => sh_none 3
  | .pt p => sh_two (sh_str 2 (by decide +kernel)) (sh_eP p)
  | .st a b => sh_three (sh_str 2 (by decide +kernel)) (sh_eP a) (sh_eP b)
theorem shp_eM (m : Mt) : SeqAt.shaped (eM m) = true := (sh_eM m).shaped (by decide)
theorem ps_ne : ("point" : Str) ≠ "stretch" := by decide
theorem eqv_eM (a b : Mt) : PyData.eqv (eM a) (eM b) = decide (a = b) := by
  have h := ps_ne
  cases a <;> cases b <;> simp [eM, PyData.eqv, PyData.eqvAll, eqv_eP, h, Ne.symm h]
theorem eqv_ii (a b c d : Int) : PyData.eqv (.list [.int a, .int b]) (.list [.int c, .int d]) = decide (a = c ∧ b = d) := by
  have h := eqv_list eqv_int [a, b] [c, d]
  simp only [List.map_cons, List.map_nil] at h
  rw [h]
  simp
theorem shp_ii (a b : Int) : SeqAt.shaped (.list [.int a, .int b]) = true := shp_is [a, b]
def sp_over : DSp := fun ds Φ _ => ∃ (a b : Rat) (n m : Nat), ds = [eQ a, eQ b] ∧ Bd n a ∧ Bd m b ∧ n + m ≤ 8990 ∧ b ≠ 0 ∧ Φ (.pu (eQ (a / b)))
def sp_moved : DSp := fun ds Φ _ => ∃ (s : Sd) (f : Rat) (n m : Nat), ds = [eS s, eQ f] ∧ BdS n s ∧ Bd m f ∧ 3 * n + m ≤ 8980 ∧ Φ (.pu (eP (movedP s f)))
def sp_meet_along : DSp := fun ds Φ _ => ∃ (s t : Sd) (n : Nat), ds = [eS s, eS t] ∧ s.1 ≠ s.2 ∧ t.1 ≠ t.2 ∧ BdS n s ∧ BdS n t ∧ n ≤ 1000 ∧ Φ (.pu (eM (alongM s t)))
def sp_crossing : DSp := fun ds Φ _ => ∃ (s t : Sd) (n : Nat), ds = [eS s, eS t] ∧ crossQ t.1 t.2 s.1 ≠ crossQ t.1 t.2 s.2 ∧ BdS n s ∧ BdS n t ∧ n ≤ 300 ∧ Φ (.pu (eP (crossPt s t)))
def sp_meet : DSp := fun ds Φ _ => ∃ (s t : Sd) (n : Nat), ds = [eS s, eS t] ∧ s.1 ≠ s.2 ∧ t.1 ≠ t.2 ∧ BdS n s ∧ BdS n t ∧ n ≤ 300 ∧ Φ (.pu (eM (meetM s t)))
abbrev N_over : List Str := ["a", "b"]
def d_over : DS := (dSeq (dIf (dTV (dBin oEq (dBin oIx (dV 1) (dC (.int 0))) (dC (.int 0)))) (dRaise ⟨"NoNumber", []⟩) dNext)
  (dRet (dCall sp_lowest (dCons (dBin oMulU (dBin oIx (dV 0) (dC (.int 0))) (dBin oIx (dV 1) (dC (.int 1)))) (dCons (dBin oMulU (dBin oIx (dV 0) (dC (.int 1))) (dBin oIx (dV 1) (dC (.int 0)))) dNil)))))
abbrev N_moved : List Str := ["one", "far", "start", "end", "x", "y"]
def d_moved : DS := (dSeq (dAsg (dV 0) (dgT 2 (dgCons (dgN 2) (dgCons (dgN 3) dgNil))))
  (dSeq (dSetP 4 (dCall sp_plus (dCons (dBin oIx (dV 2) (dC (.int 0))) (dCons (dCall sp_times (dCons (dV 1) (dCons (dCall sp_minus (dCons (dBin oIx (dV 3) (dC (.int 0))) (dCons (dBin oIx (dV 2) (dC (.int 0))) dNil))) dNil))) dNil))))
  (dSeq (dSetP 5 (dCall sp_plus (dCons (dBin oIx (dV 2) (dC (.int 1))) (dCons (dCall sp_times (dCons (dV 1) (dCons (dCall sp_minus (dCons (dBin oIx (dV 3) (dC (.int 1))) (dCons (dBin oIx (dV 2) (dC (.int 1))) dNil))) dNil))) dNil))))
  (dRet (dTup (dCons (dV 4) (dCons (dV 5) dNil)))))))
abbrev N_meet_along : List Str := ["one", "other", "low", "high", "first", "last"]
def d_meet_along : DS := (dSeq (dAsg (dCall sp_in_order (dCons (dFE (dListF (dCons (dV 0) dNil))) dNil)) (dgT 2 (dgCons (dgN 2) (dgCons (dgN 3) dgNil))))
  (dSeq (dAsg (dCall sp_in_order (dCons (dFE (dListF (dCons (dV 1) dNil))) dNil)) (dgT 2 (dgCons (dgN 4) (dgCons (dgN 5) dgNil))))
  (dSeq (dIf (dTV (dCall sp_before (dCons (dV 4) (dCons (dV 2) dNil)))) (dSetP 4 (dV 2)) dNext)
  (dSeq (dIf (dTV (dCall sp_before (dCons (dV 3) (dCons (dV 5) dNil)))) (dSetP 5 (dV 3)) dNext)
  (dSeq (dIf (dTV (dCall sp_before (dCons (dV 5) (dCons (dV 4) dNil)))) (dRet (dC .none)) dNext)
  (dSeq (dIf (dTV (dBin oEq (dV 4) (dV 5))) (dRet (dTup (dCons (dC (.str "point")) (dCons (dV 4) dNil)))) dNext)
  (dRet (dTup (dCons (dC (.str "stretch")) (dCons (dV 4) (dCons (dV 5) dNil)))))))))))
abbrev N_crossing : List Str := ["one", "other", "start", "end", "here", "there"]
def d_crossing : DS := (dSeq (dAsg (dV 1) (dgT 2 (dgCons (dgN 2) (dgCons (dgN 3) dgNil))))
  (dSeq (dSetP 4 (dCall sp_cross_of (dCons (dV 2) (dCons (dV 3) (dCons (dBin oIx (dV 0) (dC (.int 0))) dNil)))))
  (dSeq (dSetP 5 (dCall sp_cross_of (dCons (dV 2) (dCons (dV 3) (dCons (dBin oIx (dV 0) (dC (.int 1))) dNil)))))
  (dRet (dCall sp_moved (dCons (dV 0) (dCons (dCall sp_over (dCons (dV 4) (dCons (dCall sp_minus (dCons (dV 4) (dCons (dV 5) dNil))) dNil))) dNil)))))))
abbrev N_meet : List Str := ["one", "other", "ends", "back"]
def d_meet : DS := (dSeq (dSetP 2 (dLst (dCons (dCall sp_side_of (dCons (dV 0) (dCons (dBin oIx (dV 1) (dC (.int 0))) dNil))) (dCons (dCall sp_side_of (dCons (dV 0) (dCons (dBin oIx (dV 1) (dC (.int 1))) dNil))) dNil))))
  (dSeq (dIf (dTV (dBin oEq (dV 2) (dLst (dCons (dC (.int 0)) (dCons (dC (.int 0)) dNil))))) (dRet (dCall sp_meet_along (dCons (dV 0) (dCons (dV 1) dNil)))) dNext)
  (dSeq (dSetP 3 (dLst (dCons (dCall sp_side_of (dCons (dV 1) (dCons (dBin oIx (dV 0) (dC (.int 0))) dNil))) (dCons (dCall sp_side_of (dCons (dV 1) (dCons (dBin oIx (dV 0) (dC (.int 1))) dNil))) dNil))))
  (dSeq (dIf (dTOr (dTV (dBin oEq (dBin oIx (dV 2) (dC (.int 0))) (dBin oIx (dV 2) (dC (.int 1))))) (dTV (dBin oEq (dBin oIx (dV 3) (dC (.int 0))) (dBin oIx (dV 3) (dC (.int 1)))))) (dRet (dC .none)) dNext)
  (dRet (dTup (dCons (dC (.str "point")) (dCons (dCall sp_crossing (dCons (dV 0) (dCons (dV 1) dNil))) dNil))))))))
theorem num_zero {q : Rat} : q.num = 0 ↔ q = 0 := Rat.num_eq_zero
theorem rd_over (ds : List Dt) (Φ : Slot → Prop) (Ξ : XD → Prop) (h : sp_over ds Φ Ξ) : d_over (endsOf Φ Ξ) (rho0 N_over ds) := by
  obtain ⟨a, b, n, m, rfl, ha, hb, hl, h0, h⟩ := h
  have hn : b.num ≠ 0 := fun z => h0 (num_zero.mp z)
  simp only [d_over, N_over, dRet, dRetF, dSetX, dCallX, dRetX, noOw, dTry, dCpy, dRaise, dRetO, dSetP, dSetS, dSetF, dSeq, dIf, dNext, dCall, dCallF, dB, dBin, dCons, dNil, dTup, dLst, dV, dC, dTV, onB, dTAnd, dTOr, dTNot, dAnd, dOr, dNot, dIfE, dIsN, dNotN, isN, dSl, dSlF, dNoPart, dPart, dPar, dParS, dAsg, dgN, dgT, dgCons, dgNil, dFE, dIsi, dListF, dNeg, dRev, dFrz, dApp, dAppS, dIns, dExtend, dClear, dReverse, dPop, oIx, oI, oIC, oAddU, oSubI, oMulU, oMulI, oFd, oMd, oPw, oLt, oLe, oGt, oGe, oEq, oNe, getF, setF, Cl.d, getS, setS, purF_nil, purF_cons, purH, allF_nil, allF_cons, allH, rho0, endsOf, scalD, bLen, bAbs, bInt, bIntU, bTup, true_and, and_true, Option.some.injEq, exists_eq_left', decide_eq_true_eq, Bool.not_eq_true', decide_eq_false_iff_not, it_eQ0, it_eQ1, it_eP0, it_eP1, it_eS0, it_eS1, fits_eQ, fits_eP, fits_eS, eqv_eQ, eqv_eP, eqv_eS, eqv_int, eqv_bool, shp_int, shp_bool, shp_none, shp_eQ, shp_eP, shp_eS, dCont, dBreak, dXi, dSetG, dAppG, oIsB, oNotB, dTx, pJoin, pSplit, pPart, pStarts, bStr, bIntS, dFmt, dJs, ↓reduceIte, nsp_none, nsp_bool, nsp_int, nsp_str, nsp_list, nsp_tuple, nsp_eQ, nsp_eP, nsp_eS, dat_pu, dat_ow, seqD_l, seqD_t, not_true_eq_false, Bool.true_eq_false, Bool.not_not, List.length_cons, List.length_nil, mkP, mkS, fits_list, fits_tuple, isIntD, isBoolD, isListD, isStrD, isTupD, Bool.not_true, Bool.not_false, Bool.false_eq_true, it_l0, it_l1, it_l2, it_t0, it_t1, it_t2, shp_ps, shp_pt, shp_ss, shp_is, seqD_eQ, seqD_eP, seqD_eS, walkD_eP, walkD_eS, walkD_l, walkD_t, hn, dRaise]
  refine ⟨cm (bd_num ha) (bd_den hb) (by omega), cm (bd_den ha) (bd_num hb) (by omega), _, _, rfl, Int.mul_ne_zero (den_ne a) hn, ?_, ?_⟩
  · exact Nat.lt_of_lt_of_le (mul_lt2 (bd_den ha) (bd_num hb)) (Nat.pow_le_pow_right (by decide) hl)
  · rw [← div_div]; exact h
theorem rd_moved (ds : List Dt) (Φ : Slot → Prop) (Ξ : XD → Prop) (h : sp_moved ds Φ Ξ) : d_moved (endsOf Φ Ξ) (rho0 N_moved ds) := by
  obtain ⟨s, f, n, m, rfl, hs, hf, hl, h⟩ := h
  simp only [d_moved, N_moved, dRet, dRetF, dSetX, dCallX, dRetX, noOw, dTry, dCpy, dRaise, dRetO, dSetP, dSetS, dSetF, dSeq, dIf, dNext, dCall, dCallF, dB, dBin, dCons, dNil, dTup, dLst, dV, dC, dTV, onB, dTAnd, dTOr, dTNot, dAnd, dOr, dNot, dIfE, dIsN, dNotN, isN, dSl, dSlF, dNoPart, dPart, dPar, dParS, dAsg, dgN, dgT, dgCons, dgNil, dFE, dIsi, dListF, dNeg, dRev, dFrz, dApp, dAppS, dIns, dExtend, dClear, dReverse, dPop, oIx, oI, oIC, oAddU, oSubI, oMulU, oMulI, oFd, oMd, oPw, oLt, oLe, oGt, oGe, oEq, oNe, getF, setF, Cl.d, getS, setS, purF_nil, purF_cons, purH, allF_nil, allF_cons, allH, rho0, endsOf, scalD, bLen, bAbs, bInt, bIntU, bTup, true_and, and_true, Option.some.injEq, exists_eq_left', decide_eq_true_eq, Bool.not_eq_true', decide_eq_false_iff_not, it_eQ0, it_eQ1, it_eP0, it_eP1, it_eS0, it_eS1, fits_eQ, fits_eP, fits_eS, eqv_eQ, eqv_eP, eqv_eS, eqv_int, eqv_bool, shp_int, shp_bool, shp_none, shp_eQ, shp_eP, shp_eS, dCont, dBreak, dXi, dSetG, dAppG, oIsB, oNotB, dTx, pJoin, pSplit, pPart, pStarts, bStr, bIntS, dFmt, dJs, ↓reduceIte, nsp_none, nsp_bool, nsp_int, nsp_str, nsp_list, nsp_tuple, nsp_eQ, nsp_eP, nsp_eS, dat_pu, dat_ow, seqD_l, seqD_t, not_true_eq_false, Bool.true_eq_false, Bool.not_not, List.length_cons, List.length_nil, mkP, mkS, fits_list, fits_tuple, isIntD, isBoolD, isListD, isStrD, isTupD, Bool.not_true, Bool.not_false, Bool.false_eq_true, it_l0, it_l1, it_l2, it_t0, it_t1, it_t2, shp_ps, shp_pt, shp_ss, shp_is, seqD_eQ, seqD_eP, seqD_eS, walkD_eP, walkD_eS, walkD_l, walkD_t]
  refine ⟨_, _, _, _, rfl, hs.2.1, hs.1.1, by omega, ?_⟩
  simp only [dRet, dRetF, dSetX, dCallX, dRetX, noOw, dTry, dCpy, dRaise, dRetO, dSetP, dSetS, dSetF, dSeq, dIf, dNext, dCall, dCallF, dB, dBin, dCons, dNil, dTup, dLst, dV, dC, dTV, onB, dTAnd, dTOr, dTNot, dAnd, dOr, dNot, dIfE, dIsN, dNotN, isN, dSl, dSlF, dNoPart, dPart, dPar, dParS, dAsg, dgN, dgT, dgCons, dgNil, dFE, dIsi, dListF, dNeg, dRev, dFrz, dApp, dAppS, dIns, dExtend, dClear, dReverse, dPop, oIx, oI, oIC, oAddU, oSubI, oMulU, oMulI, oFd, oMd, oPw, oLt, oLe, oGt, oGe, oEq, oNe, getF, setF, Cl.d, getS, setS, purF_nil, purF_cons, purH, allF_nil, allF_cons, allH, rho0, endsOf, scalD, bLen, bAbs, bInt, bIntU, bTup, true_and, and_true, Option.some.injEq, exists_eq_left', decide_eq_true_eq, Bool.not_eq_true', decide_eq_false_iff_not, it_eQ0, it_eQ1, it_eP0, it_eP1, it_eS0, it_eS1, fits_eQ, fits_eP, fits_eS, eqv_eQ, eqv_eP, eqv_eS, eqv_int, eqv_bool, shp_int, shp_bool, shp_none, shp_eQ, shp_eP, shp_eS, dCont, dBreak, dXi, dSetG, dAppG, oIsB, oNotB, dTx, pJoin, pSplit, pPart, pStarts, bStr, bIntS, dFmt, dJs, ↓reduceIte, nsp_none, nsp_bool, nsp_int, nsp_str, nsp_list, nsp_tuple, nsp_eQ, nsp_eP, nsp_eS, dat_pu, dat_ow, seqD_l, seqD_t, not_true_eq_false, Bool.true_eq_false, Bool.not_not, List.length_cons, List.length_nil, mkP, mkS, fits_list, fits_tuple, isIntD, isBoolD, isListD, isStrD, isTupD, Bool.not_true, Bool.not_false, Bool.false_eq_true, it_l0, it_l1, it_l2, it_t0, it_t1, it_t2, shp_ps, shp_pt, shp_ss, shp_is, seqD_eQ, seqD_eP, seqD_eS, walkD_eP, walkD_eS, walkD_l, walkD_t]
  refine ⟨_, _, _, _, rfl, hf, hs.2.1.sub hs.1.1, by omega, ?_⟩
  simp only [dRet, dRetF, dSetX, dCallX, dRetX, noOw, dTry, dCpy, dRaise, dRetO, dSetP, dSetS, dSetF, dSeq, dIf, dNext, dCall, dCallF, dB, dBin, dCons, dNil, dTup, dLst, dV, dC, dTV, onB, dTAnd, dTOr, dTNot, dAnd, dOr, dNot, dIfE, dIsN, dNotN, isN, dSl, dSlF, dNoPart, dPart, dPar, dParS, dAsg, dgN, dgT, dgCons, dgNil, dFE, dIsi, dListF, dNeg, dRev, dFrz, dApp, dAppS, dIns, dExtend, dClear, dReverse, dPop, oIx, oI, oIC, oAddU, oSubI, oMulU, oMulI, oFd, oMd, oPw, oLt, oLe, oGt, oGe, oEq, oNe, getF, setF, Cl.d, getS, setS, purF_nil, purF_cons, purH, allF_nil, allF_cons, allH, rho0, endsOf, scalD, bLen, bAbs, bInt, bIntU, bTup, true_and, and_true, Option.some.injEq, exists_eq_left', decide_eq_true_eq, Bool.not_eq_true', decide_eq_false_iff_not, it_eQ0, it_eQ1, it_eP0, it_eP1, it_eS0, it_eS1, fits_eQ, fits_eP, fits_eS, eqv_eQ, eqv_eP, eqv_eS, eqv_int, eqv_bool, shp_int, shp_bool, shp_none, shp_eQ, shp_eP, shp_eS, dCont, dBreak, dXi, dSetG, dAppG, oIsB, oNotB, dTx, pJoin, pSplit, pPart, pStarts, bStr, bIntS, dFmt, dJs, ↓reduceIte, nsp_none, nsp_bool, nsp_int, nsp_str, nsp_list, nsp_tuple, nsp_eQ, nsp_eP, nsp_eS, dat_pu, dat_ow, seqD_l, seqD_t, not_true_eq_false, Bool.true_eq_false, Bool.not_not, List.length_cons, List.length_nil, mkP, mkS, fits_list, fits_tuple, isIntD, isBoolD, isListD, isStrD, isTupD, Bool.not_true, Bool.not_false, Bool.false_eq_true, it_l0, it_l1, it_l2, it_t0, it_t1, it_t2, shp_ps, shp_pt, shp_ss, shp_is, seqD_eQ, seqD_eP, seqD_eS, walkD_eP, walkD_eS, walkD_l, walkD_t]
  refine ⟨_, _, _, _, rfl, hs.1.1, hf.mul (hs.2.1.sub hs.1.1), by omega, ?_⟩
  simp only [dRet, dRetF, dSetX, dCallX, dRetX, noOw, dTry, dCpy, dRaise, dRetO, dSetP, dSetS, dSetF, dSeq, dIf, dNext, dCall, dCallF, dB, dBin, dCons, dNil, dTup, dLst, dV, dC, dTV, onB, dTAnd, dTOr, dTNot, dAnd, dOr, dNot, dIfE, dIsN, dNotN, isN, dSl, dSlF, dNoPart, dPart, dPar, dParS, dAsg, dgN, dgT, dgCons, dgNil, dFE, dIsi, dListF, dNeg, dRev, dFrz, dApp, dAppS, dIns, dExtend, dClear, dReverse, dPop, oIx, oI, oIC, oAddU, oSubI, oMulU, oMulI, oFd, oMd, oPw, oLt, oLe, oGt, oGe, oEq, oNe, getF, setF, Cl.d, getS, setS, purF_nil, purF_cons, purH, allF_nil, allF_cons, allH, rho0, endsOf, scalD, bLen, bAbs, bInt, bIntU, bTup, true_and, and_true, Option.some.injEq, exists_eq_left', decide_eq_true_eq, Bool.not_eq_true', decide_eq_false_iff_not, it_eQ0, it_eQ1, it_eP0, it_eP1, it_eS0, it_eS1, fits_eQ, fits_eP, fits_eS, eqv_eQ, eqv_eP, eqv_eS, eqv_int, eqv_bool, shp_int, shp_bool, shp_none, shp_eQ, shp_eP, shp_eS, dCont, dBreak, dXi, dSetG, dAppG, oIsB, oNotB, dTx, pJoin, pSplit, pPart, pStarts, bStr, bIntS, dFmt, dJs, ↓reduceIte, nsp_none, nsp_bool, nsp_int, nsp_str, nsp_list, nsp_tuple, nsp_eQ, nsp_eP, nsp_eS, dat_pu, dat_ow, seqD_l, seqD_t, not_true_eq_false, Bool.true_eq_false, Bool.not_not, List.length_cons, List.length_nil, mkP, mkS, fits_list, fits_tuple, isIntD, isBoolD, isListD, isStrD, isTupD, Bool.not_true, Bool.not_false, Bool.false_eq_true, it_l0, it_l1, it_l2, it_t0, it_t1, it_t2, shp_ps, shp_pt, shp_ss, shp_is, seqD_eQ, seqD_eP, seqD_eS, walkD_eP, walkD_eS, walkD_l, walkD_t]
  refine ⟨_, _, _, _, rfl, hs.2.2, hs.1.2, by omega, ?_⟩
  simp only [dRet, dRetF, dSetX, dCallX, dRetX, noOw, dTry, dCpy, dRaise, dRetO, dSetP, dSetS, dSetF, dSeq, dIf, dNext, dCall, dCallF, dB, dBin, dCons, dNil, dTup, dLst, dV, dC, dTV, onB, dTAnd, dTOr, dTNot, dAnd, dOr, dNot, dIfE, dIsN, dNotN, isN, dSl, dSlF, dNoPart, dPart, dPar, dParS, dAsg, dgN, dgT, dgCons, dgNil, dFE, dIsi, dListF, dNeg, dRev, dFrz, dApp, dAppS, dIns, dExtend, dClear, dReverse, dPop, oIx, oI, oIC, oAddU, oSubI, oMulU, oMulI, oFd, oMd, oPw, oLt, oLe, oGt, oGe, oEq, oNe, getF, setF, Cl.d, getS, setS, purF_nil, purF_cons, purH, allF_nil, allF_cons, allH, rho0, endsOf, scalD, bLen, bAbs, bInt, bIntU, bTup, true_and, and_true, Option.some.injEq, exists_eq_left', decide_eq_true_eq, Bool.not_eq_true', decide_eq_false_iff_not, it_eQ0, it_eQ1, it_eP0, it_eP1, it_eS0, it_eS1, fits_eQ, fits_eP, fits_eS, eqv_eQ, eqv_eP, eqv_eS, eqv_int, eqv_bool, shp_int, shp_bool, shp_none, shp_eQ, shp_eP, shp_eS, dCont, dBreak, dXi, dSetG, dAppG, oIsB, oNotB, dTx, pJoin, pSplit, pPart, pStarts, bStr, bIntS, dFmt, dJs, ↓reduceIte, nsp_none, nsp_bool, nsp_int, nsp_str, nsp_list, nsp_tuple, nsp_eQ, nsp_eP, nsp_eS, dat_pu, dat_ow, seqD_l, seqD_t, not_true_eq_false, Bool.true_eq_false, Bool.not_not, List.length_cons, List.length_nil, mkP, mkS, fits_list, fits_tuple, isIntD, isBoolD, isListD, isStrD, isTupD, Bool.not_true, Bool.not_false, Bool.false_eq_true, it_l0, it_l1, it_l2, it_t0, it_t1, it_t2, shp_ps, shp_pt, shp_ss, shp_is, seqD_eQ, seqD_eP, seqD_eS, walkD_eP, walkD_eS, walkD_l, walkD_t]
  refine ⟨_, _, _, _, rfl, hf, hs.2.2.sub hs.1.2, by omega, ?_⟩
  simp only [dRet, dRetF, dSetX, dCallX, dRetX, noOw, dTry, dCpy, dRaise, dRetO, dSetP, dSetS, dSetF, dSeq, dIf, dNext, dCall, dCallF, dB, dBin, dCons, dNil, dTup, dLst, dV, dC, dTV, onB, dTAnd, dTOr, dTNot, dAnd, dOr, dNot, dIfE, dIsN, dNotN, isN, dSl, dSlF, dNoPart, dPart, dPar, dParS, dAsg, dgN, dgT, dgCons, dgNil, dFE, dIsi, dListF, dNeg, dRev, dFrz, dApp, dAppS, dIns, dExtend, dClear, dReverse, dPop, oIx, oI, oIC, oAddU, oSubI, oMulU, oMulI, oFd, oMd, oPw, oLt, oLe, oGt, oGe, oEq, oNe, getF, setF, Cl.d, getS, setS, purF_nil, purF_cons, purH, allF_nil, allF_cons, allH, rho0, endsOf, scalD, bLen, bAbs, bInt, bIntU, bTup, true_and, and_true, Option.some.injEq, exists_eq_left', decide_eq_true_eq, Bool.not_eq_true', decide_eq_false_iff_not, it_eQ0, it_eQ1, it_eP0, it_eP1, it_eS0, it_eS1, fits_eQ, fits_eP, fits_eS, eqv_eQ, eqv_eP, eqv_eS, eqv_int, eqv_bool, shp_int, shp_bool, shp_none, shp_eQ, shp_eP, shp_eS, dCont, dBreak, dXi, dSetG, dAppG, oIsB, oNotB, dTx, pJoin, pSplit, pPart, pStarts, bStr, bIntS, dFmt, dJs, ↓reduceIte, nsp_none, nsp_bool, nsp_int, nsp_str, nsp_list, nsp_tuple, nsp_eQ, nsp_eP, nsp_eS, dat_pu, dat_ow, seqD_l, seqD_t, not_true_eq_false, Bool.true_eq_false, Bool.not_not, List.length_cons, List.length_nil, mkP, mkS, fits_list, fits_tuple, isIntD, isBoolD, isListD, isStrD, isTupD, Bool.not_true, Bool.not_false, Bool.false_eq_true, it_l0, it_l1, it_l2, it_t0, it_t1, it_t2, shp_ps, shp_pt, shp_ss, shp_is, seqD_eQ, seqD_eP, seqD_eS, walkD_eP, walkD_eS, walkD_l, walkD_t]
  exact ⟨_, _, _, _, rfl, hs.1.2, hf.mul (hs.2.2.sub hs.1.2), by omega, h⟩
theorem bd_moved {s : Sd} {f : Rat} {n m : Nat} (hs : BdS n s) (hf : Bd m f) : BdP (n + (m + (n + n + 1)) + 1) (movedP s f) := ⟨hs.1.1.add (hf.mul (hs.2.1.sub hs.1.1)), hs.1.2.add (hf.mul (hs.2.2.sub hs.1.2))⟩
theorem bd_cross {a b c : Pt} {n : Nat} (ha : BdP n a) (hb : BdP n b) (hc : BdP n c) : Bd (8 * n + 5) (crossQ a b c) := by
  refine Bd.mono (((hb.1.sub ha.1).mul (hc.2.sub ha.2)).sub ((hb.2.sub ha.2).mul (hc.1.sub ha.1))) (by omega)
theorem bd_crossF {s t : Sd} {n : Nat} (hs : BdS n s) (ht : BdS n t) (h : crossQ t.1 t.2 s.1 ≠ crossQ t.1 t.2 s.2) : Bd (24 * n + 16) (crossF s t) := by
  refine Bd.mono ((bd_cross ht.1 ht.2 hs.1).div ((bd_cross ht.1 ht.2 hs.1).sub (bd_cross ht.1 ht.2 hs.2)) fun z => h ?_) (by omega)
  grind
theorem bd_crossPt {s t : Sd} {n : Nat} (hs : BdS n s) (ht : BdS n t) (h : crossQ t.1 t.2 s.1 ≠ crossQ t.1 t.2 s.2) : BdP (27 * n + 18) (crossPt s t) :=
  (bd_moved hs (bd_crossF hs ht h)).mono (by omega)
theorem rd_crossing (ds : List Dt) (Φ : Slot → Prop) (Ξ : XD → Prop) (h : sp_crossing ds Φ Ξ) : d_crossing (endsOf Φ Ξ) (rho0 N_crossing ds) := by
  obtain ⟨s, t, n, rfl, hne, hs, ht, hn, h⟩ := h
  simp only [d_crossing, N_crossing, dRet, dRetF, dSetX, dCallX, dRetX, noOw, dTry, dCpy, dRaise, dRetO, dSetP, dSetS, dSetF, dSeq, dIf, dNext, dCall, dCallF, dB, dBin, dCons, dNil, dTup, dLst, dV, dC, dTV, onB, dTAnd, dTOr, dTNot, dAnd, dOr, dNot, dIfE, dIsN, dNotN, isN, dSl, dSlF, dNoPart, dPart, dPar, dParS, dAsg, dgN, dgT, dgCons, dgNil, dFE, dIsi, dListF, dNeg, dRev, dFrz, dApp, dAppS, dIns, dExtend, dClear, dReverse, dPop, oIx, oI, oIC, oAddU, oSubI, oMulU, oMulI, oFd, oMd, oPw, oLt, oLe, oGt, oGe, oEq, oNe, getF, setF, Cl.d, getS, setS, purF_nil, purF_cons, purH, allF_nil, allF_cons, allH, rho0, endsOf, scalD, bLen, bAbs, bInt, bIntU, bTup, true_and, and_true, Option.some.injEq, exists_eq_left', decide_eq_true_eq, Bool.not_eq_true', decide_eq_false_iff_not, it_eQ0, it_eQ1, it_eP0, it_eP1, it_eS0, it_eS1, fits_eQ, fits_eP, fits_eS, eqv_eQ, eqv_eP, eqv_eS, eqv_int, eqv_bool, shp_int, shp_bool, shp_none, shp_eQ, shp_eP, shp_eS, dCont, dBreak, dXi, dSetG, dAppG, oIsB, oNotB, dTx, pJoin, pSplit, pPart, pStarts, bStr, bIntS, dFmt, dJs, ↓reduceIte, nsp_none, nsp_bool, nsp_int, nsp_str, nsp_list, nsp_tuple, nsp_eQ, nsp_eP, nsp_eS, dat_pu, dat_ow, seqD_l, seqD_t, not_true_eq_false, Bool.true_eq_false, Bool.not_not, List.length_cons, List.length_nil, mkP, mkS, fits_list, fits_tuple, isIntD, isBoolD, isListD, isStrD, isTupD, Bool.not_true, Bool.not_false, Bool.false_eq_true, it_l0, it_l1, it_l2, it_t0, it_t1, it_t2, shp_ps, shp_pt, shp_ss, shp_is, seqD_eQ, seqD_eP, seqD_eS, walkD_eP, walkD_eS, walkD_l, walkD_t]
  refine ⟨_, _, _, n, rfl, ht.1, ht.2, hs.1, by omega, ?_⟩
  simp only [dRet, dRetF, dSetX, dCallX, dRetX, noOw, dTry, dCpy, dRaise, dRetO, dSetP, dSetS, dSetF, dSeq, dIf, dNext, dCall, dCallF, dB, dBin, dCons, dNil, dTup, dLst, dV, dC, dTV, onB, dTAnd, dTOr, dTNot, dAnd, dOr, dNot, dIfE, dIsN, dNotN, isN, dSl, dSlF, dNoPart, dPart, dPar, dParS, dAsg, dgN, dgT, dgCons, dgNil, dFE, dIsi, dListF, dNeg, dRev, dFrz, dApp, dAppS, dIns, dExtend, dClear, dReverse, dPop, oIx, oI, oIC, oAddU, oSubI, oMulU, oMulI, oFd, oMd, oPw, oLt, oLe, oGt, oGe, oEq, oNe, getF, setF, Cl.d, getS, setS, purF_nil, purF_cons, purH, allF_nil, allF_cons, allH, rho0, endsOf, scalD, bLen, bAbs, bInt, bIntU, bTup, true_and, and_true, Option.some.injEq, exists_eq_left', decide_eq_true_eq, Bool.not_eq_true', decide_eq_false_iff_not, it_eQ0, it_eQ1, it_eP0, it_eP1, it_eS0, it_eS1, fits_eQ, fits_eP, fits_eS, eqv_eQ, eqv_eP, eqv_eS, eqv_int, eqv_bool, shp_int, shp_bool, shp_none, shp_eQ, shp_eP, shp_eS, dCont, dBreak, dXi, dSetG, dAppG, oIsB, oNotB, dTx, pJoin, pSplit, pPart, pStarts, bStr, bIntS, dFmt, dJs, ↓reduceIte, nsp_none, nsp_bool, nsp_int, nsp_str, nsp_list, nsp_tuple, nsp_eQ, nsp_eP, nsp_eS, dat_pu, dat_ow, seqD_l, seqD_t, not_true_eq_false, Bool.true_eq_false, Bool.not_not, List.length_cons, List.length_nil, mkP, mkS, fits_list, fits_tuple, isIntD, isBoolD, isListD, isStrD, isTupD, Bool.not_true, Bool.not_false, Bool.false_eq_true, it_l0, it_l1, it_l2, it_t0, it_t1, it_t2, shp_ps, shp_pt, shp_ss, shp_is, seqD_eQ, seqD_eP, seqD_eS, walkD_eP, walkD_eS, walkD_l, walkD_t]
  refine ⟨_, _, _, n, rfl, ht.1, ht.2, hs.2, by omega, ?_⟩
  simp only [dRet, dRetF, dSetX, dCallX, dRetX, noOw, dTry, dCpy, dRaise, dRetO, dSetP, dSetS, dSetF, dSeq, dIf, dNext, dCall, dCallF, dB, dBin, dCons, dNil, dTup, dLst, dV, dC, dTV, onB, dTAnd, dTOr, dTNot, dAnd, dOr, dNot, dIfE, dIsN, dNotN, isN, dSl, dSlF, dNoPart, dPart, dPar, dParS, dAsg, dgN, dgT, dgCons, dgNil, dFE, dIsi, dListF, dNeg, dRev, dFrz, dApp, dAppS, dIns, dExtend, dClear, dReverse, dPop, oIx, oI, oIC, oAddU, oSubI, oMulU, oMulI, oFd, oMd, oPw, oLt, oLe, oGt, oGe, oEq, oNe, getF, setF, Cl.d, getS, setS, purF_nil, purF_cons, purH, allF_nil, allF_cons, allH, rho0, endsOf, scalD, bLen, bAbs, bInt, bIntU, bTup, true_and, and_true, Option.some.injEq, exists_eq_left', decide_eq_true_eq, Bool.not_eq_true', decide_eq_false_iff_not, it_eQ0, it_eQ1, it_eP0, it_eP1, it_eS0, it_eS1, fits_eQ, fits_eP, fits_eS, eqv_eQ, eqv_eP, eqv_eS, eqv_int, eqv_bool, shp_int, shp_bool, shp_none, shp_eQ, shp_eP, shp_eS, dCont, dBreak, dXi, dSetG, dAppG, oIsB, oNotB, dTx, pJoin, pSplit, pPart, pStarts, bStr, bIntS, dFmt, dJs, ↓reduceIte, nsp_none, nsp_bool, nsp_int, nsp_str, nsp_list, nsp_tuple, nsp_eQ, nsp_eP, nsp_eS, dat_pu, dat_ow, seqD_l, seqD_t, not_true_eq_false, Bool.true_eq_false, Bool.not_not, List.length_cons, List.length_nil, mkP, mkS, fits_list, fits_tuple, isIntD, isBoolD, isListD, isStrD, isTupD, Bool.not_true, Bool.not_false, Bool.false_eq_true, it_l0, it_l1, it_l2, it_t0, it_t1, it_t2, shp_ps, shp_pt, shp_ss, shp_is, seqD_eQ, seqD_eP, seqD_eS, walkD_eP, walkD_eS, walkD_l, walkD_t]
  have b1 := bd_cross ht.1 ht.2 hs.1
  have b2 := bd_cross ht.1 ht.2 hs.2
  refine ⟨_, _, _, _, rfl, b1, b2, by omega, ?_⟩
  simp only [dRet, dRetF, dSetX, dCallX, dRetX, noOw, dTry, dCpy, dRaise, dRetO, dSetP, dSetS, dSetF, dSeq, dIf, dNext, dCall, dCallF, dB, dBin, dCons, dNil, dTup, dLst, dV, dC, dTV, onB, dTAnd, dTOr, dTNot, dAnd, dOr, dNot, dIfE, dIsN, dNotN, isN, dSl, dSlF, dNoPart, dPart, dPar, dParS, dAsg, dgN, dgT, dgCons, dgNil, dFE, dIsi, dListF, dNeg, dRev, dFrz, dApp, dAppS, dIns, dExtend, dClear, dReverse, dPop, oIx, oI, oIC, oAddU, oSubI, oMulU, oMulI, oFd, oMd, oPw, oLt, oLe, oGt, oGe, oEq, oNe, getF, setF, Cl.d, getS, setS, purF_nil, purF_cons, purH, allF_nil, allF_cons, allH, rho0, endsOf, scalD, bLen, bAbs, bInt, bIntU, bTup, true_and, and_true, Option.some.injEq, exists_eq_left', decide_eq_true_eq, Bool.not_eq_true', decide_eq_false_iff_not, it_eQ0, it_eQ1, it_eP0, it_eP1, it_eS0, it_eS1, fits_eQ, fits_eP, fits_eS, eqv_eQ, eqv_eP, eqv_eS, eqv_int, eqv_bool, shp_int, shp_bool, shp_none, shp_eQ, shp_eP, shp_eS, dCont, dBreak, dXi, dSetG, dAppG, oIsB, oNotB, dTx, pJoin, pSplit, pPart, pStarts, bStr, bIntS, dFmt, dJs, ↓reduceIte, nsp_none, nsp_bool, nsp_int, nsp_str, nsp_list, nsp_tuple, nsp_eQ, nsp_eP, nsp_eS, dat_pu, dat_ow, seqD_l, seqD_t, not_true_eq_false, Bool.true_eq_false, Bool.not_not, List.length_cons, List.length_nil, mkP, mkS, fits_list, fits_tuple, isIntD, isBoolD, isListD, isStrD, isTupD, Bool.not_true, Bool.not_false, Bool.false_eq_true, it_l0, it_l1, it_l2, it_t0, it_t1, it_t2, shp_ps, shp_pt, shp_ss, shp_is, seqD_eQ, seqD_eP, seqD_eS, walkD_eP, walkD_eS, walkD_l, walkD_t]
  refine ⟨_, _, _, _, rfl, b1, b1.sub b2, by omega, (fun z => hne (by grind)), ?_⟩
  simp only [dRet, dRetF, dSetX, dCallX, dRetX, noOw, dTry, dCpy, dRaise, dRetO, dSetP, dSetS, dSetF, dSeq, dIf, dNext, dCall, dCallF, dB, dBin, dCons, dNil, dTup, dLst, dV, dC, dTV, onB, dTAnd, dTOr, dTNot, dAnd, dOr, dNot, dIfE, dIsN, dNotN, isN, dSl, dSlF, dNoPart, dPart, dPar, dParS, dAsg, dgN, dgT, dgCons, dgNil, dFE, dIsi, dListF, dNeg, dRev, dFrz, dApp, dAppS, dIns, dExtend, dClear, dReverse, dPop, oIx, oI, oIC, oAddU, oSubI, oMulU, oMulI, oFd, oMd, oPw, oLt, oLe, oGt, oGe, oEq, oNe, getF, setF, Cl.d, getS, setS, purF_nil, purF_cons, purH, allF_nil, allF_cons, allH, rho0, endsOf, scalD, bLen, bAbs, bInt, bIntU, bTup, true_and, and_true, Option.some.injEq, exists_eq_left', decide_eq_true_eq, Bool.not_eq_true', decide_eq_false_iff_not, it_eQ0, it_eQ1, it_eP0, it_eP1, it_eS0, it_eS1, fits_eQ, fits_eP, fits_eS, eqv_eQ, eqv_eP, eqv_eS, eqv_int, eqv_bool, shp_int, shp_bool, shp_none, shp_eQ, shp_eP, shp_eS, dCont, dBreak, dXi, dSetG, dAppG, oIsB, oNotB, dTx, pJoin, pSplit, pPart, pStarts, bStr, bIntS, dFmt, dJs, ↓reduceIte, nsp_none, nsp_bool, nsp_int, nsp_str, nsp_list, nsp_tuple, nsp_eQ, nsp_eP, nsp_eS, dat_pu, dat_ow, seqD_l, seqD_t, not_true_eq_false, Bool.true_eq_false, Bool.not_not, List.length_cons, List.length_nil, mkP, mkS, fits_list, fits_tuple, isIntD, isBoolD, isListD, isStrD, isTupD, Bool.not_true, Bool.not_false, Bool.false_eq_true, it_l0, it_l1, it_l2, it_t0, it_t1, it_t2, shp_ps, shp_pt, shp_ss, shp_is, seqD_eQ, seqD_eP, seqD_eS, walkD_eP, walkD_eS, walkD_l, walkD_t]
  exact ⟨s, _, n, _, rfl, hs, bd_crossF hs ht hne, by omega, h⟩
theorem rd_meet_along (ds : List Dt) (Φ : Slot → Prop) (Ξ : XD → Prop) (h : sp_meet_along ds Φ Ξ) : d_meet_along (endsOf Φ Ξ) (rho0 N_meet_along ds) := by
  obtain ⟨s, t, n, rfl, hs0, ht0, hs, ht, hn, h⟩ := h
  have ord : ∀ (s : Sd) (Ψ : Slot → Prop), s.1 ≠ s.2 → BdS n s → Ψ (.ow [eP (loP s), eP (hiP s)]) → sp_in_order [.list [eP s.1, eP s.2]] Ψ (fun _ => False) := fun s Ψ hne hb hΨ => by
    refine ⟨[s.1, s.2], n, .inl rfl, fun p hp => ?_, by omega, by show 2 ≤ 1000000; decide, ?_⟩
    · simp only [List.mem_cons, List.not_mem_nil, or_false] at hp
      rcases hp with rfl | rfl
      · exact hb.1
      · exact hb.2
    · rw [inOrd_side hne]; exact hΨ
  obtain ⟨ls, hs'⟩ := lo_hi_bd hs
  obtain ⟨lt, ht'⟩ := lo_hi_bd ht
  show dSeq _ _ _ [.pu (eS s), .pu (eS t), .un, .un, .un, .un]
  refine seq_cut (fun ρ => ρ = [.pu (eS s), .pu (eS t), .pu (eP (loP s)), .pu (eP (hiP s)), .un, .un]) (fun E _ hE => ?_) ?_
  · simp only [dRet, dRetF, dSetX, dCallX, dRetX, noOw, dTry, dCpy, dRaise, dRetO, dSetP, dSetS, dSetF, dSeq, dIf, dNext, dCall, dCallF, dB, dBin, dCons, dNil, dTup, dLst, dV, dC, dTV, onB, dTAnd, dTOr, dTNot, dAnd, dOr, dNot, dIfE, dIsN, dNotN, isN, dSl, dSlF, dNoPart, dPart, dPar, dParS, dAsg, dgN, dgT, dgCons, dgNil, dFE, dIsi, dListF, dNeg, dRev, dFrz, dApp, dAppS, dIns, dExtend, dClear, dReverse, dPop, oIx, oI, oIC, oAddU, oSubI, oMulU, oMulI, oFd, oMd, oPw, oLt, oLe, oGt, oGe, oEq, oNe, getF, setF, Cl.d, getS, setS, purF_nil, purF_cons, purH, allF_nil, allF_cons, allH, rho0, endsOf, scalD, bLen, bAbs, bInt, bIntU, bTup, true_and, and_true, Option.some.injEq, exists_eq_left', decide_eq_true_eq, Bool.not_eq_true', decide_eq_false_iff_not, it_eQ0, it_eQ1, it_eP0, it_eP1, it_eS0, it_eS1, fits_eQ, fits_eP, fits_eS, eqv_eQ, eqv_eP, eqv_eS, eqv_int, eqv_bool, shp_int, shp_bool, shp_none, shp_eQ, shp_eP, shp_eS, dCont, dBreak, dXi, dSetG, dAppG, oIsB, oNotB, dTx, pJoin, pSplit, pPart, pStarts, bStr, bIntS, dFmt, dJs, ↓reduceIte, nsp_none, nsp_bool, nsp_int, nsp_str, nsp_list, nsp_tuple, nsp_eQ, nsp_eP, nsp_eS, dat_pu, dat_ow, seqD_l, seqD_t, not_true_eq_false, Bool.true_eq_false, Bool.not_not, List.length_cons, List.length_nil, mkP, mkS, fits_list, fits_tuple, isIntD, isBoolD, isListD, isStrD, isTupD, Bool.not_true, Bool.not_false, Bool.false_eq_true, it_l0, it_l1, it_l2, it_t0, it_t1, it_t2, shp_ps, shp_pt, shp_ss, shp_is, seqD_eQ, seqD_eP, seqD_eS, walkD_eP, walkD_eS, walkD_l, walkD_t]
    refine ord s _ hs0 hs ?_
    simp only [dRet, dRetF, dSetX, dCallX, dRetX, noOw, dTry, dCpy, dRaise, dRetO, dSetP, dSetS, dSetF, dSeq, dIf, dNext, dCall, dCallF, dB, dBin, dCons, dNil, dTup, dLst, dV, dC, dTV, onB, dTAnd, dTOr, dTNot, dAnd, dOr, dNot, dIfE, dIsN, dNotN, isN, dSl, dSlF, dNoPart, dPart, dPar, dParS, dAsg, dgN, dgT, dgCons, dgNil, dFE, dIsi, dListF, dNeg, dRev, dFrz, dApp, dAppS, dIns, dExtend, dClear, dReverse, dPop, oIx, oI, oIC, oAddU, oSubI, oMulU, oMulI, oFd, oMd, oPw, oLt, oLe, oGt, oGe, oEq, oNe, getF, setF, Cl.d, getS, setS, purF_nil, purF_cons, purH, allF_nil, allF_cons, allH, rho0, endsOf, scalD, bLen, bAbs, bInt, bIntU, bTup, true_and, and_true, Option.some.injEq, exists_eq_left', decide_eq_true_eq, Bool.not_eq_true', decide_eq_false_iff_not, it_eQ0, it_eQ1, it_eP0, it_eP1, it_eS0, it_eS1, fits_eQ, fits_eP, fits_eS, eqv_eQ, eqv_eP, eqv_eS, eqv_int, eqv_bool, shp_int, shp_bool, shp_none, shp_eQ, shp_eP, shp_eS, dCont, dBreak, dXi, dSetG, dAppG, oIsB, oNotB, dTx, pJoin, pSplit, pPart, pStarts, bStr, bIntS, dFmt, dJs, ↓reduceIte, nsp_none, nsp_bool, nsp_int, nsp_str, nsp_list, nsp_tuple, nsp_eQ, nsp_eP, nsp_eS, dat_pu, dat_ow, seqD_l, seqD_t, not_true_eq_false, Bool.true_eq_false, Bool.not_not, List.length_cons, List.length_nil, mkP, mkS, fits_list, fits_tuple, isIntD, isBoolD, isListD, isStrD, isTupD, Bool.not_true, Bool.not_false, Bool.false_eq_true, it_l0, it_l1, it_l2, it_t0, it_t1, it_t2, shp_ps, shp_pt, shp_ss, shp_is, seqD_eQ, seqD_eP, seqD_eS, walkD_eP, walkD_eS, walkD_l, walkD_t]
    exact hE _ rfl
  rintro _ rfl
  refine seq_cut (fun ρ => ρ = [.pu (eS s), .pu (eS t), .pu (eP (loP s)), .pu (eP (hiP s)), .pu (eP (loP t)), .pu (eP (hiP t))]) (fun E _ hE => ?_) ?_
  · simp only [dRet, dRetF, dSetX, dCallX, dRetX, noOw, dTry, dCpy, dRaise, dRetO, dSetP, dSetS, dSetF, dSeq, dIf, dNext, dCall, dCallF, dB, dBin, dCons, dNil, dTup, dLst, dV, dC, dTV, onB, dTAnd, dTOr, dTNot, dAnd, dOr, dNot, dIfE, dIsN, dNotN, isN, dSl, dSlF, dNoPart, dPart, dPar, dParS, dAsg, dgN, dgT, dgCons, dgNil, dFE, dIsi, dListF, dNeg, dRev, dFrz, dApp, dAppS, dIns, dExtend, dClear, dReverse, dPop, oIx, oI, oIC, oAddU, oSubI, oMulU, oMulI, oFd, oMd, oPw, oLt, oLe, oGt, oGe, oEq, oNe, getF, setF, Cl.d, getS, setS, purF_nil, purF_cons, purH, allF_nil, allF_cons, allH, rho0, endsOf, scalD, bLen, bAbs, bInt, bIntU, bTup, true_and, and_true, Option.some.injEq, exists_eq_left', decide_eq_true_eq, Bool.not_eq_true', decide_eq_false_iff_not, it_eQ0, it_eQ1, it_eP0, it_eP1, it_eS0, it_eS1, fits_eQ, fits_eP, fits_eS, eqv_eQ, eqv_eP, eqv_eS, eqv_int, eqv_bool, shp_int, shp_bool, shp_none, shp_eQ, shp_eP, shp_eS, dCont, dBreak, dXi, dSetG, dAppG, oIsB, oNotB, dTx, pJoin, pSplit, pPart, pStarts, bStr, bIntS, dFmt, dJs, ↓reduceIte, nsp_none, nsp_bool, nsp_int, nsp_str, nsp_list, nsp_tuple, nsp_eQ, nsp_eP, nsp_eS, dat_pu, dat_ow, seqD_l, seqD_t, not_true_eq_false, Bool.true_eq_false, Bool.not_not, List.length_cons, List.length_nil, mkP, mkS, fits_list, fits_tuple, isIntD, isBoolD, isListD, isStrD, isTupD, Bool.not_true, Bool.not_false, Bool.false_eq_true, it_l0, it_l1, it_l2, it_t0, it_t1, it_t2, shp_ps, shp_pt, shp_ss, shp_is, seqD_eQ, seqD_eP, seqD_eS, walkD_eP, walkD_eS, walkD_l, walkD_t]
    refine ord t _ ht0 ht ?_
    simp only [dRet, dRetF, dSetX, dCallX, dRetX, noOw, dTry, dCpy, dRaise, dRetO, dSetP, dSetS, dSetF, dSeq, dIf, dNext, dCall, dCallF, dB, dBin, dCons, dNil, dTup, dLst, dV, dC, dTV, onB, dTAnd, dTOr, dTNot, dAnd, dOr, dNot, dIfE, dIsN, dNotN, isN, dSl, dSlF, dNoPart, dPart, dPar, dParS, dAsg, dgN, dgT, dgCons, dgNil, dFE, dIsi, dListF, dNeg, dRev, dFrz, dApp, dAppS, dIns, dExtend, dClear, dReverse, dPop, oIx, oI, oIC, oAddU, oSubI, oMulU, oMulI, oFd, oMd, oPw, oLt, oLe, oGt, oGe, oEq, oNe, getF, setF, Cl.d, getS, setS, purF_nil, purF_cons, purH, allF_nil, allF_cons, allH, rho0, endsOf, scalD, bLen, bAbs, bInt, bIntU, bTup, true_and, and_true, Option.some.injEq, exists_eq_left', decide_eq_true_eq, Bool.not_eq_true', decide_eq_false_iff_not, it_eQ0, it_eQ1, it_eP0, it_eP1, it_eS0, it_eS1, fits_eQ, fits_eP, fits_eS, eqv_eQ, eqv_eP, eqv_eS, eqv_int, eqv_bool, shp_int, shp_bool, shp_none, shp_eQ, shp_eP, shp_eS, dCont, dBreak, dXi, dSetG, dAppG, oIsB, oNotB, dTx, pJoin, pSplit, pPart, pStarts, bStr, bIntS, dFmt, dJs, ↓reduceIte, nsp_none, nsp_bool, nsp_int, nsp_str, nsp_list, nsp_tuple, nsp_eQ, nsp_eP, nsp_eS, dat_pu, dat_ow, seqD_l, seqD_t, not_true_eq_false, Bool.true_eq_false, Bool.not_not, List.length_cons, List.length_nil, mkP, mkS, fits_list, fits_tuple, isIntD, isBoolD, isListD, isStrD, isTupD, Bool.not_true, Bool.not_false, Bool.false_eq_true, it_l0, it_l1, it_l2, it_t0, it_t1, it_t2, shp_ps, shp_pt, shp_ss, shp_is, seqD_eQ, seqD_eP, seqD_eS, walkD_eP, walkD_eS, walkD_l, walkD_t]
    exact hE _ rfl
  rintro _ rfl
  refine seq_cut (fun ρ => ρ = [.pu (eS s), .pu (eS t), .pu (eP (loP s)), .pu (eP (hiP s)), .pu (eP (firstP s t)), .pu (eP (hiP t))]) (fun E _ hE => ?_) ?_
  · simp only [dRet, dRetF, dSetX, dCallX, dRetX, noOw, dTry, dCpy, dRaise, dRetO, dSetP, dSetS, dSetF, dSeq, dIf, dNext, dCall, dCallF, dB, dBin, dCons, dNil, dTup, dLst, dV, dC, dTV, onB, dTAnd, dTOr, dTNot, dAnd, dOr, dNot, dIfE, dIsN, dNotN, isN, dSl, dSlF, dNoPart, dPart, dPar, dParS, dAsg, dgN, dgT, dgCons, dgNil, dFE, dIsi, dListF, dNeg, dRev, dFrz, dApp, dAppS, dIns, dExtend, dClear, dReverse, dPop, oIx, oI, oIC, oAddU, oSubI, oMulU, oMulI, oFd, oMd, oPw, oLt, oLe, oGt, oGe, oEq, oNe, getF, setF, Cl.d, getS, setS, purF_nil, purF_cons, purH, allF_nil, allF_cons, allH, rho0, endsOf, scalD, bLen, bAbs, bInt, bIntU, bTup, true_and, and_true, Option.some.injEq, exists_eq_left', decide_eq_true_eq, Bool.not_eq_true', decide_eq_false_iff_not, it_eQ0, it_eQ1, it_eP0, it_eP1, it_eS0, it_eS1, fits_eQ, fits_eP, fits_eS, eqv_eQ, eqv_eP, eqv_eS, eqv_int, eqv_bool, shp_int, shp_bool, shp_none, shp_eQ, shp_eP, shp_eS, dCont, dBreak, dXi, dSetG, dAppG, oIsB, oNotB, dTx, pJoin, pSplit, pPart, pStarts, bStr, bIntS, dFmt, dJs, ↓reduceIte, nsp_none, nsp_bool, nsp_int, nsp_str, nsp_list, nsp_tuple, nsp_eQ, nsp_eP, nsp_eS, dat_pu, dat_ow, seqD_l, seqD_t, not_true_eq_false, Bool.true_eq_false, Bool.not_not, List.length_cons, List.length_nil, mkP, mkS, fits_list, fits_tuple, isIntD, isBoolD, isListD, isStrD, isTupD, Bool.not_true, Bool.not_false, Bool.false_eq_true, it_l0, it_l1, it_l2, it_t0, it_t1, it_t2, shp_ps, shp_pt, shp_ss, shp_is, seqD_eQ, seqD_eP, seqD_eS, walkD_eP, walkD_eS, walkD_l, walkD_t]
    refine ⟨_, _, n, rfl, lt, ls, by omega, ?_⟩
    simp only [dRet, dRetF, dSetX, dCallX, dRetX, noOw, dTry, dCpy, dRaise, dRetO, dSetP, dSetS, dSetF, dSeq, dIf, dNext, dCall, dCallF, dB, dBin, dCons, dNil, dTup, dLst, dV, dC, dTV, onB, dTAnd, dTOr, dTNot, dAnd, dOr, dNot, dIfE, dIsN, dNotN, isN, dSl, dSlF, dNoPart, dPart, dPar, dParS, dAsg, dgN, dgT, dgCons, dgNil, dFE, dIsi, dListF, dNeg, dRev, dFrz, dApp, dAppS, dIns, dExtend, dClear, dReverse, dPop, oIx, oI, oIC, oAddU, oSubI, oMulU, oMulI, oFd, oMd, oPw, oLt, oLe, oGt, oGe, oEq, oNe, getF, setF, Cl.d, getS, setS, purF_nil, purF_cons, purH, allF_nil, allF_cons, allH, rho0, endsOf, scalD, bLen, bAbs, bInt, bIntU, bTup, true_and, and_true, Option.some.injEq, exists_eq_left', decide_eq_true_eq, Bool.not_eq_true', decide_eq_false_iff_not, it_eQ0, it_eQ1, it_eP0, it_eP1, it_eS0, it_eS1, fits_eQ, fits_eP, fits_eS, eqv_eQ, eqv_eP, eqv_eS, eqv_int, eqv_bool, shp_int, shp_bool, shp_none, shp_eQ, shp_eP, shp_eS, dCont, dBreak, dXi, dSetG, dAppG, oIsB, oNotB, dTx, pJoin, pSplit, pPart, pStarts, bStr, bIntS, dFmt, dJs, ↓reduceIte, nsp_none, nsp_bool, nsp_int, nsp_str, nsp_list, nsp_tuple, nsp_eQ, nsp_eP, nsp_eS, dat_pu, dat_ow, seqD_l, seqD_t, not_true_eq_false, Bool.true_eq_false, Bool.not_not, List.length_cons, List.length_nil, mkP, mkS, fits_list, fits_tuple, isIntD, isBoolD, isListD, isStrD, isTupD, Bool.not_true, Bool.not_false, Bool.false_eq_true, it_l0, it_l1, it_l2, it_t0, it_t1, it_t2, shp_ps, shp_pt, shp_ss, shp_is, seqD_eQ, seqD_eP, seqD_eS, walkD_eP, walkD_eS, walkD_l, walkD_t]
    unfold firstP at hE
    by_cases c : ltP (loP t) (loP s)
    · rw [if_pos c] at hE ⊢; exact hE _ rfl
    · rw [if_neg c] at hE ⊢; exact hE _ rfl
  rintro _ rfl
  refine seq_cut (fun ρ => ρ = [.pu (eS s), .pu (eS t), .pu (eP (loP s)), .pu (eP (hiP s)), .pu (eP (firstP s t)), .pu (eP (lastP s t))]) (fun E _ hE => ?_) ?_
  · simp only [dRet, dRetF, dSetX, dCallX, dRetX, noOw, dTry, dCpy, dRaise, dRetO, dSetP, dSetS, dSetF, dSeq, dIf, dNext, dCall, dCallF, dB, dBin, dCons, dNil, dTup, dLst, dV, dC, dTV, onB, dTAnd, dTOr, dTNot, dAnd, dOr, dNot, dIfE, dIsN, dNotN, isN, dSl, dSlF, dNoPart, dPart, dPar, dParS, dAsg, dgN, dgT, dgCons, dgNil, dFE, dIsi, dListF, dNeg, dRev, dFrz, dApp, dAppS, dIns, dExtend, dClear, dReverse, dPop, oIx, oI, oIC, oAddU, oSubI, oMulU, oMulI, oFd, oMd, oPw, oLt, oLe, oGt, oGe, oEq, oNe, getF, setF, Cl.d, getS, setS, purF_nil, purF_cons, purH, allF_nil, allF_cons, allH, rho0, endsOf, scalD, bLen, bAbs, bInt, bIntU, bTup, true_and, and_true, Option.some.injEq, exists_eq_left', decide_eq_true_eq, Bool.not_eq_true', decide_eq_false_iff_not, it_eQ0, it_eQ1, it_eP0, it_eP1, it_eS0, it_eS1, fits_eQ, fits_eP, fits_eS, eqv_eQ, eqv_eP, eqv_eS, eqv_int, eqv_bool, shp_int, shp_bool, shp_none, shp_eQ, shp_eP, shp_eS, dCont, dBreak, dXi, dSetG, dAppG, oIsB, oNotB, dTx, pJoin, pSplit, pPart, pStarts, bStr, bIntS, dFmt, dJs, ↓reduceIte, nsp_none, nsp_bool, nsp_int, nsp_str, nsp_list, nsp_tuple, nsp_eQ, nsp_eP, nsp_eS, dat_pu, dat_ow, seqD_l, seqD_t, not_true_eq_false, Bool.true_eq_false, Bool.not_not, List.length_cons, List.length_nil, mkP, mkS, fits_list, fits_tuple, isIntD, isBoolD, isListD, isStrD, isTupD, Bool.not_true, Bool.not_false, Bool.false_eq_true, it_l0, it_l1, it_l2, it_t0, it_t1, it_t2, shp_ps, shp_pt, shp_ss, shp_is, seqD_eQ, seqD_eP, seqD_eS, walkD_eP, walkD_eS, walkD_l, walkD_t]
    refine ⟨_, _, n, rfl, hs', ht', by omega, ?_⟩
    simp only [dRet, dRetF, dSetX, dCallX, dRetX, noOw, dTry, dCpy, dRaise, dRetO, dSetP, dSetS, dSetF, dSeq, dIf, dNext, dCall, dCallF, dB, dBin, dCons, dNil, dTup, dLst, dV, dC, dTV, onB, dTAnd, dTOr, dTNot, dAnd, dOr, dNot, dIfE, dIsN, dNotN, isN, dSl, dSlF, dNoPart, dPart, dPar, dParS, dAsg, dgN, dgT, dgCons, dgNil, dFE, dIsi, dListF, dNeg, dRev, dFrz, dApp, dAppS, dIns, dExtend, dClear, dReverse, dPop, oIx, oI, oIC, oAddU, oSubI, oMulU, oMulI, oFd, oMd, oPw, oLt, oLe, oGt, oGe, oEq, oNe, getF, setF, Cl.d, getS, setS, purF_nil, purF_cons, purH, allF_nil, allF_cons, allH, rho0, endsOf, scalD, bLen, bAbs, bInt, bIntU, bTup, true_and, and_true, Option.some.injEq, exists_eq_left', decide_eq_true_eq, Bool.not_eq_true', decide_eq_false_iff_not, it_eQ0, it_eQ1, it_eP0, it_eP1, it_eS0, it_eS1, fits_eQ, fits_eP, fits_eS, eqv_eQ, eqv_eP, eqv_eS, eqv_int, eqv_bool, shp_int, shp_bool, shp_none, shp_eQ, shp_eP, shp_eS, dCont, dBreak, dXi, dSetG, dAppG, oIsB, oNotB, dTx, pJoin, pSplit, pPart, pStarts, bStr, bIntS, dFmt, dJs, ↓reduceIte, nsp_none, nsp_bool, nsp_int, nsp_str, nsp_list, nsp_tuple, nsp_eQ, nsp_eP, nsp_eS, dat_pu, dat_ow, seqD_l, seqD_t, not_true_eq_false, Bool.true_eq_false, Bool.not_not, List.length_cons, List.length_nil, mkP, mkS, fits_list, fits_tuple, isIntD, isBoolD, isListD, isStrD, isTupD, Bool.not_true, Bool.not_false, Bool.false_eq_true, it_l0, it_l1, it_l2, it_t0, it_t1, it_t2, shp_ps, shp_pt, shp_ss, shp_is, seqD_eQ, seqD_eP, seqD_eS, walkD_eP, walkD_eS, walkD_l, walkD_t]
    unfold lastP at hE
    by_cases c : ltP (hiP s) (hiP t)
    · rw [if_pos c] at hE ⊢; exact hE _ rfl
    · rw [if_neg c] at hE ⊢; exact hE _ rfl
  rintro _ rfl
  have bf : BdP n (firstP s t) := by unfold firstP; split <;> assumption
  have bl : BdP n (lastP s t) := by unfold lastP; split <;> assumption
  simp only [dRet, dRetF, dSetX, dCallX, dRetX, noOw, dTry, dCpy, dRaise, dRetO, dSetP, dSetS, dSetF, dSeq, dIf, dNext, dCall, dCallF, dB, dBin, dCons, dNil, dTup, dLst, dV, dC, dTV, onB, dTAnd, dTOr, dTNot, dAnd, dOr, dNot, dIfE, dIsN, dNotN, isN, dSl, dSlF, dNoPart, dPart, dPar, dParS, dAsg, dgN, dgT, dgCons, dgNil, dFE, dIsi, dListF, dNeg, dRev, dFrz, dApp, dAppS, dIns, dExtend, dClear, dReverse, dPop, oIx, oI, oIC, oAddU, oSubI, oMulU, oMulI, oFd, oMd, oPw, oLt, oLe, oGt, oGe, oEq, oNe, getF, setF, Cl.d, getS, setS, purF_nil, purF_cons, purH, allF_nil, allF_cons, allH, rho0, endsOf, scalD, bLen, bAbs, bInt, bIntU, bTup, true_and, and_true, Option.some.injEq, exists_eq_left', decide_eq_true_eq, Bool.not_eq_true', decide_eq_false_iff_not, it_eQ0, it_eQ1, it_eP0, it_eP1, it_eS0, it_eS1, fits_eQ, fits_eP, fits_eS, eqv_eQ, eqv_eP, eqv_eS, eqv_int, eqv_bool, shp_int, shp_bool, shp_none, shp_eQ, shp_eP, shp_eS, dCont, dBreak, dXi, dSetG, dAppG, oIsB, oNotB, dTx, pJoin, pSplit, pPart, pStarts, bStr, bIntS, dFmt, dJs, ↓reduceIte, nsp_none, nsp_bool, nsp_int, nsp_str, nsp_list, nsp_tuple, nsp_eQ, nsp_eP, nsp_eS, dat_pu, dat_ow, seqD_l, seqD_t, not_true_eq_false, Bool.true_eq_false, Bool.not_not, List.length_cons, List.length_nil, mkP, mkS, fits_list, fits_tuple, isIntD, isBoolD, isListD, isStrD, isTupD, Bool.not_true, Bool.not_false, Bool.false_eq_true, it_l0, it_l1, it_l2, it_t0, it_t1, it_t2, shp_ps, shp_pt, shp_ss, shp_is, seqD_eQ, seqD_eP, seqD_eS, walkD_eP, walkD_eS, walkD_l, walkD_t]
  refine ⟨_, _, n, rfl, bl, bf, by omega, ?_⟩
  simp only [dRet, dRetF, dSetX, dCallX, dRetX, noOw, dTry, dCpy, dRaise, dRetO, dSetP, dSetS, dSetF, dSeq, dIf, dNext, dCall, dCallF, dB, dBin, dCons, dNil, dTup, dLst, dV, dC, dTV, onB, dTAnd, dTOr, dTNot, dAnd, dOr, dNot, dIfE, dIsN, dNotN, isN, dSl, dSlF, dNoPart, dPart, dPar, dParS, dAsg, dgN, dgT, dgCons, dgNil, dFE, dIsi, dListF, dNeg, dRev, dFrz, dApp, dAppS, dIns, dExtend, dClear, dReverse, dPop, oIx, oI, oIC, oAddU, oSubI, oMulU, oMulI, oFd, oMd, oPw, oLt, oLe, oGt, oGe, oEq, oNe, getF, setF, Cl.d, getS, setS, purF_nil, purF_cons, purH, allF_nil, allF_cons, allH, rho0, endsOf, scalD, bLen, bAbs, bInt, bIntU, bTup, true_and, and_true, Option.some.injEq, exists_eq_left', decide_eq_true_eq, Bool.not_eq_true', decide_eq_false_iff_not, it_eQ0, it_eQ1, it_eP0, it_eP1, it_eS0, it_eS1, fits_eQ, fits_eP, fits_eS, eqv_eQ, eqv_eP, eqv_eS, eqv_int, eqv_bool, shp_int, shp_bool, shp_none, shp_eQ, shp_eP, shp_eS, dCont, dBreak, dXi, dSetG, dAppG, oIsB, oNotB, dTx, pJoin, pSplit, pPart, pStarts, bStr, bIntS, dFmt, dJs, ↓reduceIte, nsp_none, nsp_bool, nsp_int, nsp_str, nsp_list, nsp_tuple, nsp_eQ, nsp_eP, nsp_eS, dat_pu, dat_ow, seqD_l, seqD_t, not_true_eq_false, Bool.true_eq_false, Bool.not_not, List.length_cons, List.length_nil, mkP, mkS, fits_list, fits_tuple, isIntD, isBoolD, isListD, isStrD, isTupD, Bool.not_true, Bool.not_false, Bool.false_eq_true, it_l0, it_l1, it_l2, it_t0, it_t1, it_t2, shp_ps, shp_pt, shp_ss, shp_is, seqD_eQ, seqD_eP, seqD_eS, walkD_eP, walkD_eS, walkD_l, walkD_t]
  unfold alongM at h
  by_cases c : ltP (lastP s t) (firstP s t)
  · rw [if_pos c] at h ⊢; exact h
  · rw [if_neg c] at h ⊢
    by_cases k : firstP s t = lastP s t
    · rw [if_pos k] at h ⊢; exact h
    · rw [if_neg k] at h ⊢; exact h
theorem rd_meet (ds : List Dt) (Φ : Slot → Prop) (Ξ : XD → Prop) (h : sp_meet ds Φ Ξ) : d_meet (endsOf Φ Ξ) (rho0 N_meet ds) := by
  obtain ⟨s, t, n, rfl, hs0, ht0, hs, ht, hn, h⟩ := h
  simp only [d_meet, N_meet, dRet, dRetF, dSetX, dCallX, dRetX, noOw, dTry, dCpy, dRaise, dRetO, dSetP, dSetS, dSetF, dSeq, dIf, dNext, dCall, dCallF, dB, dBin, dCons, dNil, dTup, dLst, dV, dC, dTV, onB, dTAnd, dTOr, dTNot, dAnd, dOr, dNot, dIfE, dIsN, dNotN, isN, dSl, dSlF, dNoPart, dPart, dPar, dParS, dAsg, dgN, dgT, dgCons, dgNil, dFE, dIsi, dListF, dNeg, dRev, dFrz, dApp, dAppS, dIns, dExtend, dClear, dReverse, dPop, oIx, oI, oIC, oAddU, oSubI, oMulU, oMulI, oFd, oMd, oPw, oLt, oLe, oGt, oGe, oEq, oNe, getF, setF, Cl.d, getS, setS, purF_nil, purF_cons, purH, allF_nil, allF_cons, allH, rho0, endsOf, scalD, bLen, bAbs, bInt, bIntU, bTup, true_and, and_true, Option.some.injEq, exists_eq_left', decide_eq_true_eq, Bool.not_eq_true', decide_eq_false_iff_not, it_eQ0, it_eQ1, it_eP0, it_eP1, it_eS0, it_eS1, fits_eQ, fits_eP, fits_eS, eqv_eQ, eqv_eP, eqv_eS, eqv_int, eqv_bool, shp_int, shp_bool, shp_none, shp_eQ, shp_eP, shp_eS, dCont, dBreak, dXi, dSetG, dAppG, oIsB, oNotB, dTx, pJoin, pSplit, pPart, pStarts, bStr, bIntS, dFmt, dJs, ↓reduceIte, nsp_none, nsp_bool, nsp_int, nsp_str, nsp_list, nsp_tuple, nsp_eQ, nsp_eP, nsp_eS, dat_pu, dat_ow, seqD_l, seqD_t, not_true_eq_false, Bool.true_eq_false, Bool.not_not, List.length_cons, List.length_nil, mkP, mkS, fits_list, fits_tuple, isIntD, isBoolD, isListD, isStrD, isTupD, Bool.not_true, Bool.not_false, Bool.false_eq_true, it_l0, it_l1, it_l2, it_t0, it_t1, it_t2, shp_ps, shp_pt, shp_ss, shp_is, seqD_eQ, seqD_eP, seqD_eS, walkD_eP, walkD_eS, walkD_l, walkD_t]
  refine ⟨s, t.1, n, rfl, hs, ht.1, by omega, ?_⟩
  simp only [dRet, dRetF, dSetX, dCallX, dRetX, noOw, dTry, dCpy, dRaise, dRetO, dSetP, dSetS, dSetF, dSeq, dIf, dNext, dCall, dCallF, dB, dBin, dCons, dNil, dTup, dLst, dV, dC, dTV, onB, dTAnd, dTOr, dTNot, dAnd, dOr, dNot, dIfE, dIsN, dNotN, isN, dSl, dSlF, dNoPart, dPart, dPar, dParS, dAsg, dgN, dgT, dgCons, dgNil, dFE, dIsi, dListF, dNeg, dRev, dFrz, dApp, dAppS, dIns, dExtend, dClear, dReverse, dPop, oIx, oI, oIC, oAddU, oSubI, oMulU, oMulI, oFd, oMd, oPw, oLt, oLe, oGt, oGe, oEq, oNe, getF, setF, Cl.d, getS, setS, purF_nil, purF_cons, purH, allF_nil, allF_cons, allH, rho0, endsOf, scalD, bLen, bAbs, bInt, bIntU, bTup, true_and, and_true, Option.some.injEq, exists_eq_left', decide_eq_true_eq, Bool.not_eq_true', decide_eq_false_iff_not, it_eQ0, it_eQ1, it_eP0, it_eP1, it_eS0, it_eS1, fits_eQ, fits_eP, fits_eS, eqv_eQ, eqv_eP, eqv_eS, eqv_int, eqv_bool, shp_int, shp_bool, shp_none, shp_eQ, shp_eP, shp_eS, dCont, dBreak, dXi, dSetG, dAppG, oIsB, oNotB, dTx, pJoin, pSplit, pPart, pStarts, bStr, bIntS, dFmt, dJs, ↓reduceIte, nsp_none, nsp_bool, nsp_int, nsp_str, nsp_list, nsp_tuple, nsp_eQ, nsp_eP, nsp_eS, dat_pu, dat_ow, seqD_l, seqD_t, not_true_eq_false, Bool.true_eq_false, Bool.not_not, List.length_cons, List.length_nil, mkP, mkS, fits_list, fits_tuple, isIntD, isBoolD, isListD, isStrD, isTupD, Bool.not_true, Bool.not_false, Bool.false_eq_true, it_l0, it_l1, it_l2, it_t0, it_t1, it_t2, shp_ps, shp_pt, shp_ss, shp_is, seqD_eQ, seqD_eP, seqD_eS, walkD_eP, walkD_eS, walkD_l, walkD_t]
  refine ⟨s, t.2, n, rfl, hs, ht.2, by omega, ?_⟩
  simp only [dRet, dRetF, dSetX, dCallX, dRetX, noOw, dTry, dCpy, dRaise, dRetO, dSetP, dSetS, dSetF, dSeq, dIf, dNext, dCall, dCallF, dB, dBin, dCons, dNil, dTup, dLst, dV, dC, dTV, onB, dTAnd, dTOr, dTNot, dAnd, dOr, dNot, dIfE, dIsN, dNotN, isN, dSl, dSlF, dNoPart, dPart, dPar, dParS, dAsg, dgN, dgT, dgCons, dgNil, dFE, dIsi, dListF, dNeg, dRev, dFrz, dApp, dAppS, dIns, dExtend, dClear, dReverse, dPop, oIx, oI, oIC, oAddU, oSubI, oMulU, oMulI, oFd, oMd, oPw, oLt, oLe, oGt, oGe, oEq, oNe, getF, setF, Cl.d, getS, setS, purF_nil, purF_cons, purH, allF_nil, allF_cons, allH, rho0, endsOf, scalD, bLen, bAbs, bInt, bIntU, bTup, true_and, and_true, Option.some.injEq, exists_eq_left', decide_eq_true_eq, Bool.not_eq_true', decide_eq_false_iff_not, it_eQ0, it_eQ1, it_eP0, it_eP1, it_eS0, it_eS1, fits_eQ, fits_eP, fits_eS, eqv_eQ, eqv_eP, eqv_eS, eqv_int, eqv_bool, shp_int, shp_bool, shp_none, shp_eQ, shp_eP, shp_eS, dCont, dBreak, dXi, dSetG, dAppG, oIsB, oNotB, dTx, pJoin, pSplit, pPart, pStarts, bStr, bIntS, dFmt, dJs, ↓reduceIte, nsp_none, nsp_bool, nsp_int, nsp_str, nsp_list, nsp_tuple, nsp_eQ, nsp_eP, nsp_eS, dat_pu, dat_ow, seqD_l, seqD_t, not_true_eq_false, Bool.true_eq_false, Bool.not_not, List.length_cons, List.length_nil, mkP, mkS, fits_list, fits_tuple, isIntD, isBoolD, isListD, isStrD, isTupD, Bool.not_true, Bool.not_false, Bool.false_eq_true, it_l0, it_l1, it_l2, it_t0, it_t1, it_t2, shp_ps, shp_pt, shp_ss, shp_is, seqD_eQ, seqD_eP, seqD_eS, walkD_eP, walkD_eS, walkD_l, walkD_t]
  simp only [shp_ii, eqv_ii, true_and, decide_eq_true_eq]
  unfold meetM at h
  by_cases c : sgnQ (crossQ s.1 s.2 t.1) = 0 ∧ sgnQ (crossQ s.1 s.2 t.2) = 0
  · rw [if_pos c] at h ⊢
    exact ⟨s, t, n, rfl, hs0, ht0, hs, ht, by omega, h⟩
  · rw [if_neg c] at h ⊢
    refine ⟨t, s.1, n, rfl, ht, hs.1, by omega, ?_⟩
    simp only [dRet, dRetF, dSetX, dCallX, dRetX, noOw, dTry, dCpy, dRaise, dRetO, dSetP, dSetS, dSetF, dSeq, dIf, dNext, dCall, dCallF, dB, dBin, dCons, dNil, dTup, dLst, dV, dC, dTV, onB, dTAnd, dTOr, dTNot, dAnd, dOr, dNot, dIfE, dIsN, dNotN, isN, dSl, dSlF, dNoPart, dPart, dPar, dParS, dAsg, dgN, dgT, dgCons, dgNil, dFE, dIsi, dListF, dNeg, dRev, dFrz, dApp, dAppS, dIns, dExtend, dClear, dReverse, dPop, oIx, oI, oIC, oAddU, oSubI, oMulU, oMulI, oFd, oMd, oPw, oLt, oLe, oGt, oGe, oEq, oNe, getF, setF, Cl.d, getS, setS, purF_nil, purF_cons, purH, allF_nil, allF_cons, allH, rho0, endsOf, scalD, bLen, bAbs, bInt, bIntU, bTup, true_and, and_true, Option.some.injEq, exists_eq_left', decide_eq_true_eq, Bool.not_eq_true', decide_eq_false_iff_not, it_eQ0, it_eQ1, it_eP0, it_eP1, it_eS0, it_eS1, fits_eQ, fits_eP, fits_eS, eqv_eQ, eqv_eP, eqv_eS, eqv_int, eqv_bool, shp_int, shp_bool, shp_none, shp_eQ, shp_eP, shp_eS, dCont, dBreak, dXi, dSetG, dAppG, oIsB, oNotB, dTx, pJoin, pSplit, pPart, pStarts, bStr, bIntS, dFmt, dJs, ↓reduceIte, nsp_none, nsp_bool, nsp_int, nsp_str, nsp_list, nsp_tuple, nsp_eQ, nsp_eP, nsp_eS, dat_pu, dat_ow, seqD_l, seqD_t, not_true_eq_false, Bool.true_eq_false, Bool.not_not, List.length_cons, List.length_nil, mkP, mkS, fits_list, fits_tuple, isIntD, isBoolD, isListD, isStrD, isTupD, Bool.not_true, Bool.not_false, Bool.false_eq_true, it_l0, it_l1, it_l2, it_t0, it_t1, it_t2, shp_ps, shp_pt, shp_ss, shp_is, seqD_eQ, seqD_eP, seqD_eS, walkD_eP, walkD_eS, walkD_l, walkD_t]
    refine ⟨t, s.2, n, rfl, ht, hs.2, by omega, ?_⟩
    simp only [dRet, dRetF, dSetX, dCallX, dRetX, noOw, dTry, dCpy, dRaise, dRetO, dSetP, dSetS, dSetF, dSeq, dIf, dNext, dCall, dCallF, dB, dBin, dCons, dNil, dTup, dLst, dV, dC, dTV, onB, dTAnd, dTOr, dTNot, dAnd, dOr, dNot, dIfE, dIsN, dNotN, isN, dSl, dSlF, dNoPart, dPart, dPar, dParS, dAsg, dgN, dgT, dgCons, dgNil, dFE, dIsi, dListF, dNeg, dRev, dFrz, dApp, dAppS, dIns, dExtend, dClear, dReverse, dPop, oIx, oI, oIC, oAddU, oSubI, oMulU, oMulI, oFd, oMd, oPw, oLt, oLe, oGt, oGe, oEq, oNe, getF, setF, Cl.d, getS, setS, purF_nil, purF_cons, purH, allF_nil, allF_cons, allH, rho0, endsOf, scalD, bLen, bAbs, bInt, bIntU, bTup, true_and, and_true, Option.some.injEq, exists_eq_left', decide_eq_true_eq, Bool.not_eq_true', decide_eq_false_iff_not, it_eQ0, it_eQ1, it_eP0, it_eP1, it_eS0, it_eS1, fits_eQ, fits_eP, fits_eS, eqv_eQ, eqv_eP, eqv_eS, eqv_int, eqv_bool, shp_int, shp_bool, shp_none, shp_eQ, shp_eP, shp_eS, dCont, dBreak, dXi, dSetG, dAppG, oIsB, oNotB, dTx, pJoin, pSplit, pPart, pStarts, bStr, bIntS, dFmt, dJs, ↓reduceIte, nsp_none, nsp_bool, nsp_int, nsp_str, nsp_list, nsp_tuple, nsp_eQ, nsp_eP, nsp_eS, dat_pu, dat_ow, seqD_l, seqD_t, not_true_eq_false, Bool.true_eq_false, Bool.not_not, List.length_cons, List.length_nil, mkP, mkS, fits_list, fits_tuple, isIntD, isBoolD, isListD, isStrD, isTupD, Bool.not_true, Bool.not_false, Bool.false_eq_true, it_l0, it_l1, it_l2, it_t0, it_t1, it_t2, shp_ps, shp_pt, shp_ss, shp_is, seqD_eQ, seqD_eP, seqD_eS, walkD_eP, walkD_eS, walkD_l, walkD_t]
    by_cases k : sgnQ (crossQ s.1 s.2 t.1) = sgnQ (crossQ s.1 s.2 t.2)
    · rw [if_pos (.inl k)] at h
      rw [if_pos k]
      exact h
    · rw [if_neg k]
      by_cases k2 : sgnQ (crossQ t.1 t.2 s.1) = sgnQ (crossQ t.1 t.2 s.2)
      · rw [if_pos (.inr k2)] at h
        rw [if_pos k2]
        exact h
      · rw [if_neg (fun z => z.elim k k2)] at h
        rw [if_neg k2]
        exact ⟨s, t, n, rfl, (fun z => k2 (by rw [z])), hs, ht, hn, h⟩
theorem meet_pt {s t : Sd} {n : Nat} (hs : BdS n s) (ht : BdS n t) {p : Pt} (h : meetM s t = .pt p) : BdP (27 * n + 18) p := by
  rw [meetM_eq] at h
  by_cases c : onLine s t
  · rw [if_pos c] at h
    obtain ⟨ls, hs'⟩ := lo_hi_bd hs
    obtain ⟨lt, ht'⟩ := lo_hi_bd ht
    have bf : BdP n (firstP s t) := by unfold firstP; split <;> assumption
    unfold alongM at h
    by_cases k : ltP (lastP s t) (firstP s t)
    · rw [if_pos k] at h; cases h
    · rw [if_neg k] at h
      by_cases k2 : firstP s t = lastP s t
      · rw [if_pos k2] at h; cases h; exact bf.mono (by omega)
      · rw [if_neg k2] at h; cases h
  · rw [if_neg c] at h
    by_cases k : sideS s t ∨ sideS t s
    · rw [if_pos k] at h; cases h
    · rw [if_neg k] at h
      cases h
      exact bd_crossPt hs ht fun z => k (.inr (by unfold sideS; rw [z]))
end L2.D3
set_option maxHeartbeats 1000000
/-! The law of meets cut and carried: drawing. -/
namespace L2.D3.K05
open PySem PySem.Spec PyProof.Rows L2.D3
def sp__law_fraction : DSp := fun ds Φ _ => ∃ x y m : Int, ds = [.int x, .int y, .int m] ∧ Drw x ∧ Drw y ∧ 0 ≤ m ∧ m ≤ 1 ∧ ∀ q : Rat, Bd 6 q → Φ (.pu (eQ q))
def sp__law_spot : DSp := fun ds Φ _ => ∃ (xs : List Int) (m : Int), ds = [.list (xs.map .int), .int m] ∧ 4 ≤ xs.length ∧ (∀ x ∈ xs, Drw x) ∧ 0 ≤ m ∧ m ≤ 1 ∧ ∀ p : Pt, BdP 6 p → Φ (.pu (eP p))
def sp__law_side : DSp := fun ds Φ _ => ∃ (xs : List Int) (m : Int), ds = [.list (xs.map .int), .int m] ∧ 9 ≤ xs.length ∧ (∀ x ∈ xs, Drw x) ∧ 0 ≤ m ∧ m ≤ 1 ∧ ∀ s : Sd, BdS 9 s → s.1 ≠ s.2 → Φ (.pu (eS s))
def sp__law_other : DSp := fun ds Φ _ => ∃ (s : Sd) (xs : List Int) (m : Int), ds = [eS s, .list (xs.map .int), .int m] ∧ s.1 ≠ s.2 ∧ BdS 9 s ∧ 12 ≤ xs.length ∧ (∀ x ∈ xs, Drw x) ∧ 0 ≤ m ∧ m ≤ 1 ∧ ∀ t : Sd, BdS 27 t → t.1 ≠ t.2 → Φ (.pu (eS t))
def sp_meet : DSp := fun ds Φ _ => ∃ (s t : Sd) (n : Nat), ds = [eS s, eS t] ∧ s.1 ≠ s.2 ∧ t.1 ≠ t.2 ∧ BdS n s ∧ BdS n t ∧ n ≤ 1000 ∧ (n ≤ 300 ∨ onLine s t) ∧ Φ (.pu (eM (meetM s t)))
structure KI where
  a : Int
  b : Int
  c : Int
  d : Int
  e : Int
  f : Int
def eK (k : KI) : Dt := .tuple [.int k.a, .int k.b, .int k.c, .int k.d, .int k.e, .int k.f]
structure KOk (k : KI) : Prop where
  a : k.a.natAbs ≤ 4
  b : k.b.natAbs ≤ 4
  c : k.c.natAbs ≤ 4
  d : k.d.natAbs ≤ 4
  e : k.e.natAbs ≤ 4
  f : k.f.natAbs ≤ 4
  det : k.a * k.e - k.b * k.d ≠ 0
def carOf (k : KI) : Car := ⟨k.a, k.b, k.c, k.d, k.e, k.f⟩
def sp__law_made_of : DSp := fun ds Φ _ => ∃ (p : Pt) (u v w : Int) (n : Nat), ds = [eP p, .tuple [.int u, .int v, .int w]] ∧ u.natAbs ≤ 4 ∧ v.natAbs ≤ 4 ∧ w.natAbs ≤ 4 ∧ BdP n p ∧ n ≤ 1000 ∧ Φ (.pu (eQ ((u : Rat) * p.1 + (v : Rat) * p.2 + (w : Rat))))
def sp__law_carrying : DSp := fun ds Φ _ => ∃ xs : List Int, ds = [.list (xs.map .int)] ∧ 7 ≤ xs.length ∧ (∀ x ∈ xs, Drw x) ∧ ∀ k : KI, KOk k → Φ (.pu (eK k))
def sp__law_carried : DSp := fun ds Φ _ => ∃ (k : KI) (p : Pt) (n : Nat), ds = [eK k, eP p] ∧ KOk k ∧ BdP n p ∧ n ≤ 1000 ∧ Φ (.pu (eP ((carOf k).pt p)))
def sp__law_told : DSp := fun ds Φ _ => ∃ (k : KI) (m : Mt) (n : Nat), ds = [eK k, eM m] ∧ KOk k ∧ (∀ p ∈ endsM m, BdP n p) ∧ n ≤ 1000 ∧ Φ (.pu (eM (carM (carOf k) m)))
def sp__law_first_and_last : DSp := fun ds Φ _ => ∃ (a b : Mt) (p q : Pt) (n : Nat), ds = [.list [eM a, eM b]] ∧ (∀ p ∈ endsM a ++ endsM b, BdP n p) ∧ n ≤ 1000 ∧ LoOf (endsM a ++ endsM b) p ∧ HiOf (endsM a ++ endsM b) q ∧ Φ (.pu (eS (p, q)))
def sp__law_cut : DSp := fun ds Φ _ => ∃ (s t : Sd) (k : Int), ds = [eS s, eS t, eM (meetM s t), .int k] ∧ s.1 ≠ s.2 ∧ t.1 ≠ t.2 ∧ BdS 9 s ∧ BdS 27 t ∧ Φ (.pu (.bool true))
def sp__law_in_order : DSp := fun ds Φ _ => ∃ (a b : Pt) (n : Nat), ds = [eP a, eP b] ∧ BdP n a ∧ BdP n b ∧ n ≤ 1000 ∧ Φ (.pu (eM (.st (loP (a, b)) (hiP (a, b)))))
def sp__law_on_both : DSp := fun ds Φ _ => ∃ (s t : Sd), ds = [eS s, eS t, eM (meetM s t)] ∧ s.1 ≠ s.2 ∧ t.1 ≠ t.2 ∧ BdS 9 s ∧ BdS 27 t ∧ Φ (.pu (.bool true))
def sp_law : DSp := dspLaw 63
abbrev N_meet : List Str := ["one", "other", "ends", "back"]
def d_meet : DS := (dSeq (dSetP 2 (dLst (dCons (dCall sp_side_of (dCons (dV 0) (dCons (dBin oIx (dV 1) (dC (.int 0))) dNil))) (dCons (dCall sp_side_of (dCons (dV 0) (dCons (dBin oIx (dV 1) (dC (.int 1))) dNil))) dNil))))
  (dSeq (dIf (dTV (dBin oEq (dV 2) (dLst (dCons (dC (.int 0)) (dCons (dC (.int 0)) dNil))))) (dRet (dCall sp_meet_along (dCons (dV 0) (dCons (dV 1) dNil)))) dNext)
  (dSeq (dSetP 3 (dLst (dCons (dCall sp_side_of (dCons (dV 1) (dCons (dBin oIx (dV 0) (dC (.int 0))) dNil))) (dCons (dCall sp_side_of (dCons (dV 1) (dCons (dBin oIx (dV 0) (dC (.int 1))) dNil))) dNil))))
  (dSeq (dIf (dTOr (dTV (dBin oEq (dBin oIx (dV 2) (dC (.int 0))) (dBin oIx (dV 2) (dC (.int 1))))) (dTV (dBin oEq (dBin oIx (dV 3) (dC (.int 0))) (dBin oIx (dV 3) (dC (.int 1)))))) (dRet (dC .none)) dNext)
  (dRet (dTup (dCons (dC (.str "point")) (dCons (dCall sp_crossing (dCons (dV 0) (dCons (dV 1) dNil))) dNil))))))))
abbrev N__law_fraction : List Str := ["_law_x", "_law_y", "_law_mode", "_law_sign"]
def d__law_fraction : DS := (dSeq (dSetP 3 (dBin oSubI (dC (.int 1)) (dBin oMulU (dC (.int 2)) (dBin oMd (dBin oFd (dV 1) (dC (.int 1000))) (dC (.int 2))))))
  (dSeq (dIf (dTV (dBin oEq (dV 2) (dC (.int 0)))) (dRet (dTup (dCons (dBin oMulU (dV 3) (dBin oMd (dV 0) (dC (.int 5)))) (dCons (dC (.int 1)) dNil)))) dNext)
  (dRet (dCall sp__law_low (dCons (dBin oMulU (dV 3) (dBin oMd (dV 0) (dC (.int 19)))) (dCons (dBin oAddU (dC (.int 1)) (dBin oMd (dV 1) (dC (.int 6)))) dNil))))))
abbrev N__law_spot : List Str := ["_law_xs", "_law_mode"]
def d__law_spot : DS := (dRet (dTup (dCons (dCall sp__law_fraction (dCons (dBin oIx (dV 0) (dC (.int 0))) (dCons (dBin oIx (dV 0) (dC (.int 1))) (dCons (dV 1) dNil)))) (dCons (dCall sp__law_fraction (dCons (dBin oIx (dV 0) (dC (.int 2))) (dCons (dBin oIx (dV 0) (dC (.int 3))) (dCons (dV 1) dNil)))) dNil))))
abbrev N__law_side : List Str := ["_law_xs", "_law_mode", "_law_start", "_law_end"]
def d__law_side : DS := (dSeq (dSetP 2 (dCall sp__law_spot (dCons (dV 0) (dCons (dV 1) dNil))))
  (dSeq (dSetP 3 (dCall sp__law_spot (dCons (dSl (dV 0) (dPart (dC (.int 4))) dNoPart) (dCons (dV 1) dNil))))
  (dSeq (dIf (dTV (dBin oEq (dBin oMd (dBin oIx (dV 0) (dC (.int 8))) (dC (.int 5))) (dC (.int 1)))) (dSetP 3 (dTup (dCons (dBin oIx (dV 3) (dC (.int 0))) (dCons (dBin oIx (dV 2) (dC (.int 1))) dNil)))) dNext)
  (dSeq (dIf (dTV (dBin oEq (dBin oMd (dBin oIx (dV 0) (dC (.int 8))) (dC (.int 5))) (dC (.int 2)))) (dSetP 3 (dTup (dCons (dBin oIx (dV 2) (dC (.int 0))) (dCons (dBin oIx (dV 3) (dC (.int 1))) dNil)))) dNext)
  (dSeq (dIf (dTV (dBin oEq (dV 2) (dV 3))) (dSetP 3 (dTup (dCons (dCall sp__law_low (dCons (dBin oAddU (dBin oIx (dBin oIx (dV 2) (dC (.int 0))) (dC (.int 0))) (dBin oMulU (dBin oIx (dBin oIx (dV 2) (dC (.int 0))) (dC (.int 1))) (dBin oSubI (dC (.int 1)) (dBin oMulU (dC (.int 2)) (dB bIntU (dCons (dBin oGt (dBin oIx (dBin oIx (dV 2) (dC (.int 0))) (dC (.int 0))) (dC (.int 0))) dNil)))))) (dCons (dBin oIx (dBin oIx (dV 2) (dC (.int 0))) (dC (.int 1))) dNil))) (dCons (dBin oIx (dV 2) (dC (.int 1))) dNil)))) dNext)
  (dRet (dTup (dCons (dV 2) (dCons (dV 3) dNil)))))))))
abbrev N__law_other : List Str := ["_law_side_here", "_law_xs", "_law_mode", "_law_other_here", "_law_way"]
def d__law_other : DS := (dSeq (dSetP 3 (dCall sp__law_side (dCons (dV 1) (dCons (dV 2) dNil))))
  (dSeq (dSetP 4 (dBin oMd (dBin oIx (dV 1) (dC (.int 9))) (dC (.int 8))))
  (dSeq (dIf (dTAnd (dTV (dBin oLt (dV 2) (dC (.int 2)))) (dTV (dBin oIn (dV 4) (dTup (dCons (dC (.int 0)) (dCons (dC (.int 1)) (dCons (dC (.int 2)) dNil))))))) (dSetP 3 (dTup (dCons (dCall sp__law_at (dCons (dV 0) (dCons (dBin oSubI (dBin oMd (dBin oIx (dV 1) (dC (.int 10))) (dC (.int 13))) (dC (.int 3))) dNil))) (dCons (dBin oIx (dV 3) (dC (.int 1))) dNil)))) dNext)
  (dSeq (dIf (dTAnd (dTV (dBin oLt (dV 2) (dC (.int 2)))) (dTV (dBin oEq (dV 4) (dC (.int 1))))) (dSetP 3 (dTup (dCons (dBin oIx (dV 3) (dC (.int 0))) (dCons (dCall sp__law_at (dCons (dV 0) (dCons (dBin oSubI (dBin oMd (dBin oIx (dV 1) (dC (.int 11))) (dC (.int 13))) (dC (.int 3))) dNil))) dNil)))) dNext)
  (dSeq (dIf (dTV (dBin oEq (dV 4) (dC (.int 3)))) (dSetP 3 (dTup (dCons (dBin oIx (dV 3) (dC (.int 0))) (dCons (dBin oIx (dV 0) (dBin oMd (dBin oIx (dV 1) (dC (.int 10))) (dC (.int 2)))) dNil)))) dNext)
  (dSeq (dIf (dTV (dBin oEq (dV 4) (dC (.int 4)))) (dSetP 3 (dBin oIx (dLst (dCons (dV 0) (dCons (dTup (dCons (dBin oIx (dV 0) (dC (.int 1))) (dCons (dBin oIx (dV 0) (dC (.int 0))) dNil))) dNil))) (dBin oMd (dBin oIx (dV 1) (dC (.int 10))) (dC (.int 2))))) dNext)
  (dSeq (dIf (dTAnd (dTV (dBin oEq (dV 4) (dC (.int 5)))) (dTV (dBin oEq (dBin oIx (dBin oIx (dV 0) (dC (.int 0))) (dC (.int 1))) (dBin oIx (dBin oIx (dV 0) (dC (.int 1))) (dC (.int 1)))))) (dSetP 3 (dTup (dCons (dTup (dCons (dBin oIx (dBin oIx (dV 3) (dC (.int 0))) (dC (.int 0))) (dCons (dBin oIx (dBin oIx (dV 0) (dC (.int 0))) (dC (.int 1))) dNil))) (dCons (dTup (dCons (dBin oIx (dBin oIx (dV 3) (dC (.int 1))) (dC (.int 0))) (dCons (dBin oIx (dBin oIx (dV 0) (dC (.int 0))) (dC (.int 1))) dNil))) dNil)))) dNext)
  (dSeq (dIf (dTV (dBin oEq (dBin oIx (dV 3) (dC (.int 0))) (dBin oIx (dV 3) (dC (.int 1))))) (dRet (dV 0)) dNext)
  (dRet (dV 3))))))))))
abbrev N__law_made_of : List Str := ["_law_point", "_law_parts", "_law_a", "_law_b", "_law_c", "_law_d", "_law_top"]
def d__law_made_of : DS := (dSeq (dAsg (dV 0) (dgT 2 (dgCons (dgT 2 (dgCons (dgN 2) (dgCons (dgN 3) dgNil))) (dgCons (dgT 2 (dgCons (dgN 4) (dgCons (dgN 5) dgNil))) dgNil))))
  (dSeq (dSetP 6 (dBin oAddU (dBin oMulU (dBin oMulU (dBin oIx (dV 1) (dC (.int 0))) (dV 2)) (dV 5)) (dBin oMulU (dBin oMulU (dBin oIx (dV 1) (dC (.int 1))) (dV 4)) (dV 3))))
  (dRet (dCall sp__law_low (dCons (dBin oAddU (dV 6) (dBin oMulU (dBin oMulU (dBin oIx (dV 1) (dC (.int 2))) (dV 3)) (dV 5))) (dCons (dBin oMulU (dV 3) (dV 5)) dNil))))))
abbrev N__law_carrying : List Str := ["_law_xs", "_law_parts", "_law_x"]
def d__law_carrying : DS := (dSeq (dSetF 1 (dLc [2] (diSeq (dSl (dV 0) dNoPart (dPart (dC (.int 4))))) (dcN 2) dYes (dBin oSubI (dBin oMd (dV 2) (dC (.int 5))) (dC (.int 2)))))
  (dFrz 1 (dSeq (dIf (dTV (dBin oEq (dBin oMulU (dBin oIx (dV 1) (dC (.int 0))) (dBin oIx (dV 1) (dC (.int 3)))) (dBin oMulU (dBin oIx (dV 1) (dC (.int 1))) (dBin oIx (dV 1) (dC (.int 2)))))) (dSetP 1 (dBin oIx (dLst (dCons (dLst (dCons (dC (.int 1)) (dCons (dC (.int 0)) (dCons (dC (.int 0)) (dCons (dC (.int 1)) dNil))))) (dCons (dLst (dCons (dC (.int 0)) (dCons (dC (.int 1)) (dCons (dC (.int 1)) (dCons (dC (.int 0)) dNil))))) (dCons (dLst (dCons (dC (.int 0)) (dCons (dNeg (dC (.int 1))) (dCons (dC (.int 1)) (dCons (dC (.int 0)) dNil))))) dNil)))) (dBin oMd (dBin oIx (dV 0) (dC (.int 4))) (dC (.int 3))))) dNext)
  (dRet (dTup (dCons (dBin oIx (dV 1) (dC (.int 0))) (dCons (dBin oIx (dV 1) (dC (.int 1))) (dCons (dBin oSubI (dBin oMd (dBin oIx (dV 0) (dC (.int 5))) (dC (.int 9))) (dC (.int 4))) (dCons (dBin oIx (dV 1) (dC (.int 2))) (dCons (dBin oIx (dV 1) (dC (.int 3))) (dCons (dBin oSubI (dBin oMd (dBin oIx (dV 0) (dC (.int 6))) (dC (.int 9))) (dC (.int 4))) dNil)))))))))))
abbrev N__law_carried : List Str := ["_law_carrying_here", "_law_point"]
def d__law_carried : DS := (dRet (dTup (dCons (dCall sp__law_made_of (dCons (dV 1) (dCons (dSl (dV 0) dNoPart (dPart (dC (.int 3)))) dNil))) (dCons (dCall sp__law_made_of (dCons (dV 1) (dCons (dSl (dV 0) (dPart (dC (.int 3))) dNoPart) dNil))) dNil))))
abbrev N__law_told : List Str := ["_law_carrying_here", "_law_found", "_law_ends", "_law_point"]
def d__law_told : DS := (dSeq (dIf (dTV (dIsN (dV 1))) (dRet (dC .none)) dNext)
  (dSeq (dSetF 2 (dLc [3] (diSeq (dSl (dV 1) (dPart (dC (.int 1))) dNoPart)) (dcN 3) dYes (dCall sp__law_carried (dCons (dV 0) (dCons (dV 3) dNil)))))
  (dFrz 2 (dSeq (dIf (dTAnd (dTV (dBin oEq (dBin oIx (dV 1) (dC (.int 0))) (dC (.str "stretch")))) (dTV (dCall sp__law_before (dCons (dBin oIx (dV 2) (dC (.int 1))) (dCons (dBin oIx (dV 2) (dC (.int 0))) dNil))))) (dSetP 2 (dRev (dV 2))) dNext)
  (dRet (dBin oAddU (dTup (dCons (dBin oIx (dV 1) (dC (.int 0))) dNil)) (dB bTup (dCons (dV 2) dNil))))))))
abbrev N__law_first_and_last : List Str := ["_law_parts", "_law_ends", "_law_part", "_law_low_here", "_law_high", "_law_point"]
def d__law_first_and_last : DS := (dSeq (dSetF 1 dNil)
  (dSeq (dFor (diSeq (dV 0)) (dgN 2) (dIf (dTV (dNotN (dV 2))) (dExtT 1 (dSl (dV 2) (dPart (dC (.int 1))) dNoPart)) dNext))
  (dFrz 1 (dSeq (dSetP 3 (dBin oIx (dV 1) (dC (.int 0))))
  (dSeq (dSetP 4 (dBin oIx (dV 1) (dC (.int 0))))
  (dSeq (dFor (diSeq (dV 1)) (dgN 5) (dSeq (dIf (dTV (dCall sp__law_before (dCons (dV 5) (dCons (dV 3) dNil)))) (dSetP 3 (dV 5)) dNext)
  (dIf (dTV (dCall sp__law_before (dCons (dV 4) (dCons (dV 5) dNil)))) (dSetP 4 (dV 5)) dNext)))
  (dRet (dTup (dCons (dV 3) (dCons (dV 4) dNil))))))))))
abbrev N__law_cut : List Str := ["_law_one", "_law_other_here", "_law_found", "_law_k", "_law_amid", "_law_parts"]
def d__law_cut : DS := (dSeq (dSetP 4 (dCall sp__law_at (dCons (dV 0) (dCons (dBin oAddU (dC (.int 1)) (dBin oMd (dV 3) (dC (.int 5)))) dNil))))
  (dSeq (dSetP 5 (dLst (dCons (dCall sp_meet (dCons (dTup (dCons (dBin oIx (dV 0) (dC (.int 0))) (dCons (dV 4) dNil))) (dCons (dV 1) dNil))) (dCons (dCall sp_meet (dCons (dTup (dCons (dV 4) (dCons (dBin oIx (dV 0) (dC (.int 1))) dNil))) (dCons (dV 1) dNil))) dNil))))
  (dSeq (dIf (dTOr (dTV (dIsN (dV 2))) (dTV (dBin oEq (dV 5) (dLst (dCons (dC .none) (dCons (dC .none) dNil)))))) (dRet (dAnd (dIsN (dV 2)) (dBin oEq (dV 5) (dLst (dCons (dC .none) (dCons (dC .none) dNil)))))) dNext)
  (dRet (dBin oEq (dCall sp__law_first_and_last (dCons (dV 5) dNil)) (dTup (dCons (dBin oIx (dV 2) (dC (.int 1))) (dCons (dBin oIx (dV 2) (dBin oSubI (dB bLen (dCons (dV 2) dNil)) (dC (.int 1)))) dNil))))))))
abbrev N__law_on_both : List Str := ["_law_one", "_law_other_here", "_law_found", "_law_point", "_law_start"]
def d__law_on_both : DS := (dSeq (dIf (dTV (dIsN (dV 2))) (dRet (dC (.bool true))) dNext)
  (dSeq (dFor (diSeq (dSl (dV 2) (dPart (dC (.int 1))) dNoPart)) (dgN 3) (dSeq (dIf (dTOr (dTNot (dTV (dCall sp_is_on (dCons (dV 0) (dCons (dV 3) dNil))))) (dTNot (dTV (dCall sp_is_on (dCons (dV 1) (dCons (dV 3) dNil)))))) (dRet (dC (.bool false))) dNext)
  (dSeq (dSetP 4 (dBin oIx (dV 0) (dC (.int 0))))
  (dIf (dTAnd (dTV (dBin oNe (dV 3) (dV 4))) (dTV (dBin oNe (dCall sp_meet (dCons (dTup (dCons (dV 4) (dCons (dV 3) dNil))) (dCons (dTup (dCons (dV 3) (dCons (dV 4) dNil))) dNil))) (dCall sp__law_in_order (dCons (dV 4) (dCons (dV 3) dNil)))))) (dRet (dC (.bool false))) dNext))))
  (dRet (dC (.bool true)))))
abbrev N__law_in_order : List Str := ["_law_one", "_law_other_here"]
def d__law_in_order : DS := (dSeq (dIf (dTV (dCall sp__law_before (dCons (dV 1) (dCons (dV 0) dNil)))) (dRet (dTup (dCons (dC (.str "stretch")) (dCons (dV 1) (dCons (dV 0) dNil))))) dNext)
  (dRet (dTup (dCons (dC (.str "stretch")) (dCons (dV 0) (dCons (dV 1) dNil))))))
abbrev N_law : List Str := ["_law_script", "_law_cell_here", "_law_xs", "_law_one", "_law_other_here", "_law_found", "_law_carrying_here", "_law_first", "_law_point", "_law_second", "_law_turn", "_law_k", "_law_due"]
def d_law : DS := (dSeq (dFor (diSeq (dBin oAddU (dLst (dCons (dCall sp__law_cell (dCons (dV 0) (dCons (dC (.int 0)) dNil))) dNil)) (dSl (dV 0) (dPart (dC (.int 1))) (dPart (dC (.int 13)))))) (dgN 1) (dSeq (dSetP 2 (dCall sp__law_numbers (dCons (dV 1) (dCons (dC (.int 30)) dNil))))
  (dSeq (dSetP 3 (dCall sp__law_side (dCons (dV 2) (dCons (dBin oMd (dBin oIx (dV 2) (dC (.int 21))) (dC (.int 2))) dNil))))
  (dSeq (dSetP 4 (dCall sp__law_other (dCons (dV 3) (dCons (dSl (dV 2) (dPart (dC (.int 9))) dNoPart) (dCons (dBin oMd (dBin oIx (dV 2) (dC (.int 21))) (dC (.int 2))) dNil)))))
  (dSeq (dSetP 5 (dCall sp_meet (dCons (dV 3) (dCons (dV 4) dNil))))
  (dSeq (dSetP 6 (dCall sp__law_carrying (dCons (dSl (dV 2) (dPart (dC (.int 22))) dNoPart) dNil)))
  (dSeq (dSetP 7 (dB bTup (dCons (dFE (dLc [8] (diSeq (dV 3)) (dcN 8) dYes (dCall sp__law_carried (dCons (dV 6) (dCons (dV 8) dNil))))) dNil)))
  (dSeq (dSetP 9 (dB bTup (dCons (dFE (dLc [8] (diSeq (dV 4)) (dcN 8) dYes (dCall sp__law_carried (dCons (dV 6) (dCons (dV 8) dNil))))) dNil)))
  (dSeq (dIf (dTV (dBin oNe (dCall sp_meet (dCons (dV 7) (dCons (dV 9) dNil))) (dCall sp__law_told (dCons (dV 6) (dCons (dV 5) dNil))))) (dRet (dC (.bool false))) dNext)
  (dSeq (dIf (dTNot (dTV (dCall sp__law_cut (dCons (dV 3) (dCons (dV 4) (dCons (dV 5) (dCons (dBin oIx (dV 2) (dC (.int 20))) dNil))))))) (dRet (dC (.bool false))) dNext)
  (dSeq (dIf (dTNot (dTV (dCall sp__law_on_both (dCons (dV 3) (dCons (dV 4) (dCons (dV 5) dNil)))))) (dRet (dC (.bool false))) dNext)
  (dSeq (dSetP 10 (dBin oSubI (dBin oMulU (dBin oIx (dV 6) (dC (.int 0))) (dBin oIx (dV 6) (dC (.int 4)))) (dBin oMulU (dBin oIx (dV 6) (dC (.int 1))) (dBin oIx (dV 6) (dC (.int 3))))))
  (dFor (diRng1 (dCons (dC (.int 2)) dNil)) (dgN 11) (dSeq (dSetP 12 (dCall sp_side_of (dCons (dV 3) (dCons (dBin oIx (dV 4) (dV 11)) dNil))))
  (dSeq (dIf (dTV (dBin oLt (dV 10) (dC (.int 0)))) (dSetP 12 (dBin oSubI (dC (.int 0)) (dV 12))) dNext)
  (dIf (dTV (dBin oNe (dCall sp_side_of (dCons (dV 7) (dCons (dBin oIx (dV 9) (dV 11)) dNil))) (dV 12))) (dRet (dC (.bool false))) dNext))))))))))))))))
  (dRet (dC (.bool true))))
theorem rd_meet (ds : List Dt) (Φ : Slot → Prop) (Ξ : XD → Prop) (h : sp_meet ds Φ Ξ) : d_meet (endsOf Φ Ξ) (rho0 N_meet ds) := by
  obtain ⟨s, t, n, rfl, hs0, ht0, hs, ht, hn, hc, h⟩ := h
  simp only [d_meet, N_meet, dRet, dRetF, dSetX, dCallX, dRetX, noOw, dTry, dCpy, dRaise, dRetO, dSetP, dSetS, dSetF, dSeq, dIf, dNext, dCall, dCallF, dB, dBin, dCons, dNil, dTup, dLst, dV, dC, dTV, onB, dTAnd, dTOr, dTNot, dAnd, dOr, dNot, dIfE, dIsN, dNotN, isN, dSl, dSlF, dNoPart, dPart, dPar, dParS, dAsg, dgN, dgT, dgCons, dgNil, dFE, dIsi, dListF, dNeg, dRev, dFrz, dApp, dAppS, dIns, dExtend, dClear, dReverse, dPop, oIx, oI, oIC, oAddU, oSubI, oMulU, oMulI, oFd, oMd, oPw, oLt, oLe, oGt, oGe, oEq, oNe, getF, setF, Cl.d, getS, setS, purF_nil, purF_cons, purH, allF_nil, allF_cons, allH, rho0, endsOf, scalD, bLen, bAbs, bInt, bIntU, bTup, true_and, and_true, Option.some.injEq, exists_eq_left', decide_eq_true_eq, Bool.not_eq_true', decide_eq_false_iff_not, it_eQ0, it_eQ1, it_eP0, it_eP1, it_eS0, it_eS1, fits_eQ, fits_eP, fits_eS, eqv_eQ, eqv_eP, eqv_eS, eqv_int, eqv_bool, shp_int, shp_bool, shp_none, shp_eQ, shp_eP, shp_eS, dCont, dBreak, dXi, dSetG, dAppG, oIsB, oNotB, dTx, pJoin, pSplit, pPart, pStarts, bStr, bIntS, dFmt, dJs, ↓reduceIte, nsp_none, nsp_bool, nsp_int, nsp_str, nsp_list, nsp_tuple, nsp_eQ, nsp_eP, nsp_eS, dat_pu, dat_ow, seqD_l, seqD_t, not_true_eq_false, Bool.true_eq_false, Bool.not_not, List.length_cons, List.length_nil, mkP, mkS, fits_list, fits_tuple, isIntD, isBoolD, isListD, isStrD, isTupD, Bool.not_true, Bool.not_false, Bool.false_eq_true, it_l0, it_l1, it_l2, it_t0, it_t1, it_t2, shp_ps, shp_pt, shp_ss, shp_is, seqD_eQ, seqD_eP, seqD_eS, walkD_eP, walkD_eS, walkD_l, walkD_t]
  refine ⟨s, t.1, n, rfl, hs, ht.1, by omega, ?_⟩
  simp only [dRet, dRetF, dSetX, dCallX, dRetX, noOw, dTry, dCpy, dRaise, dRetO, dSetP, dSetS, dSetF, dSeq, dIf, dNext, dCall, dCallF, dB, dBin, dCons, dNil, dTup, dLst, dV, dC, dTV, onB, dTAnd, dTOr, dTNot, dAnd, dOr, dNot, dIfE, dIsN, dNotN, isN, dSl, dSlF, dNoPart, dPart, dPar, dParS, dAsg, dgN, dgT, dgCons, dgNil, dFE, dIsi, dListF, dNeg, dRev, dFrz, dApp, dAppS, dIns, dExtend, dClear, dReverse, dPop, oIx, oI, oIC, oAddU, oSubI, oMulU, oMulI, oFd, oMd, oPw, oLt, oLe, oGt, oGe, oEq, oNe, getF, setF, Cl.d, getS, setS, purF_nil, purF_cons, purH, allF_nil, allF_cons, allH, rho0, endsOf, scalD, bLen, bAbs, bInt, bIntU, bTup, true_and, and_true, Option.some.injEq, exists_eq_left', decide_eq_true_eq, Bool.not_eq_true', decide_eq_false_iff_not, it_eQ0, it_eQ1, it_eP0, it_eP1, it_eS0, it_eS1, fits_eQ, fits_eP, fits_eS, eqv_eQ, eqv_eP, eqv_eS, eqv_int, eqv_bool, shp_int, shp_bool, shp_none, shp_eQ, shp_eP, shp_eS, dCont, dBreak, dXi, dSetG, dAppG, oIsB, oNotB, dTx, pJoin, pSplit, pPart, pStarts, bStr, bIntS, dFmt, dJs, ↓reduceIte, nsp_none, nsp_bool, nsp_int, nsp_str, nsp_list, nsp_tuple, nsp_eQ, nsp_eP, nsp_eS, dat_pu, dat_ow, seqD_l, seqD_t, not_true_eq_false, Bool.true_eq_false, Bool.not_not, List.length_cons, List.length_nil, mkP, mkS, fits_list, fits_tuple, isIntD, isBoolD, isListD, isStrD, isTupD, Bool.not_true, Bool.not_false, Bool.false_eq_true, it_l0, it_l1, it_l2, it_t0, it_t1, it_t2, shp_ps, shp_pt, shp_ss, shp_is, seqD_eQ, seqD_eP, seqD_eS, walkD_eP, walkD_eS, walkD_l, walkD_t]
  refine ⟨s, t.2, n, rfl, hs, ht.2, by omega, ?_⟩
  simp only [dRet, dRetF, dSetX, dCallX, dRetX, noOw, dTry, dCpy, dRaise, dRetO, dSetP, dSetS, dSetF, dSeq, dIf, dNext, dCall, dCallF, dB, dBin, dCons, dNil, dTup, dLst, dV, dC, dTV, onB, dTAnd, dTOr, dTNot, dAnd, dOr, dNot, dIfE, dIsN, dNotN, isN, dSl, dSlF, dNoPart, dPart, dPar, dParS, dAsg, dgN, dgT, dgCons, dgNil, dFE, dIsi, dListF, dNeg, dRev, dFrz, dApp, dAppS, dIns, dExtend, dClear, dReverse, dPop, oIx, oI, oIC, oAddU, oSubI, oMulU, oMulI, oFd, oMd, oPw, oLt, oLe, oGt, oGe, oEq, oNe, getF, setF, Cl.d, getS, setS, purF_nil, purF_cons, purH, allF_nil, allF_cons, allH, rho0, endsOf, scalD, bLen, bAbs, bInt, bIntU, bTup, true_and, and_true, Option.some.injEq, exists_eq_left', decide_eq_true_eq, Bool.not_eq_true', decide_eq_false_iff_not, it_eQ0, it_eQ1, it_eP0, it_eP1, it_eS0, it_eS1, fits_eQ, fits_eP, fits_eS, eqv_eQ, eqv_eP, eqv_eS, eqv_int, eqv_bool, shp_int, shp_bool, shp_none, shp_eQ, shp_eP, shp_eS, dCont, dBreak, dXi, dSetG, dAppG, oIsB, oNotB, dTx, pJoin, pSplit, pPart, pStarts, bStr, bIntS, dFmt, dJs, ↓reduceIte, nsp_none, nsp_bool, nsp_int, nsp_str, nsp_list, nsp_tuple, nsp_eQ, nsp_eP, nsp_eS, dat_pu, dat_ow, seqD_l, seqD_t, not_true_eq_false, Bool.true_eq_false, Bool.not_not, List.length_cons, List.length_nil, mkP, mkS, fits_list, fits_tuple, isIntD, isBoolD, isListD, isStrD, isTupD, Bool.not_true, Bool.not_false, Bool.false_eq_true, it_l0, it_l1, it_l2, it_t0, it_t1, it_t2, shp_ps, shp_pt, shp_ss, shp_is, seqD_eQ, seqD_eP, seqD_eS, walkD_eP, walkD_eS, walkD_l, walkD_t]
  simp only [shp_ii, eqv_ii, true_and, decide_eq_true_eq]
  unfold meetM at h
  by_cases c : sgnQ (crossQ s.1 s.2 t.1) = 0 ∧ sgnQ (crossQ s.1 s.2 t.2) = 0
  · rw [if_pos c] at h ⊢
    exact ⟨s, t, n, rfl, hs0, ht0, hs, ht, by omega, h⟩
  · rw [if_neg c] at h ⊢
    have hn3 : n ≤ 300 := by
      rcases hc with z | z
      · exact z
      · exact absurd ⟨sgnQ_zero.mpr z.1, sgnQ_zero.mpr z.2⟩ c
    refine ⟨t, s.1, n, rfl, ht, hs.1, by omega, ?_⟩
    simp only [dRet, dRetF, dSetX, dCallX, dRetX, noOw, dTry, dCpy, dRaise, dRetO, dSetP, dSetS, dSetF, dSeq, dIf, dNext, dCall, dCallF, dB, dBin, dCons, dNil, dTup, dLst, dV, dC, dTV, onB, dTAnd, dTOr, dTNot, dAnd, dOr, dNot, dIfE, dIsN, dNotN, isN, dSl, dSlF, dNoPart, dPart, dPar, dParS, dAsg, dgN, dgT, dgCons, dgNil, dFE, dIsi, dListF, dNeg, dRev, dFrz, dApp, dAppS, dIns, dExtend, dClear, dReverse, dPop, oIx, oI, oIC, oAddU, oSubI, oMulU, oMulI, oFd, oMd, oPw, oLt, oLe, oGt, oGe, oEq, oNe, getF, setF, Cl.d, getS, setS, purF_nil, purF_cons, purH, allF_nil, allF_cons, allH, rho0, endsOf, scalD, bLen, bAbs, bInt, bIntU, bTup, true_and, and_true, Option.some.injEq, exists_eq_left', decide_eq_true_eq, Bool.not_eq_true', decide_eq_false_iff_not, it_eQ0, it_eQ1, it_eP0, it_eP1, it_eS0, it_eS1, fits_eQ, fits_eP, fits_eS, eqv_eQ, eqv_eP, eqv_eS, eqv_int, eqv_bool, shp_int, shp_bool, shp_none, shp_eQ, shp_eP, shp_eS, dCont, dBreak, dXi, dSetG, dAppG, oIsB, oNotB, dTx, pJoin, pSplit, pPart, pStarts, bStr, bIntS, dFmt, dJs, ↓reduceIte, nsp_none, nsp_bool, nsp_int, nsp_str, nsp_list, nsp_tuple, nsp_eQ, nsp_eP, nsp_eS, dat_pu, dat_ow, seqD_l, seqD_t, not_true_eq_false, Bool.true_eq_false, Bool.not_not, List.length_cons, List.length_nil, mkP, mkS, fits_list, fits_tuple, isIntD, isBoolD, isListD, isStrD, isTupD, Bool.not_true, Bool.not_false, Bool.false_eq_true, it_l0, it_l1, it_l2, it_t0, it_t1, it_t2, shp_ps, shp_pt, shp_ss, shp_is, seqD_eQ, seqD_eP, seqD_eS, walkD_eP, walkD_eS, walkD_l, walkD_t]
    refine ⟨t, s.2, n, rfl, ht, hs.2, by omega, ?_⟩
    simp only [dRet, dRetF, dSetX, dCallX, dRetX, noOw, dTry, dCpy, dRaise, dRetO, dSetP, dSetS, dSetF, dSeq, dIf, dNext, dCall, dCallF, dB, dBin, dCons, dNil, dTup, dLst, dV, dC, dTV, onB, dTAnd, dTOr, dTNot, dAnd, dOr, dNot, dIfE, dIsN, dNotN, isN, dSl, dSlF, dNoPart, dPart, dPar, dParS, dAsg, dgN, dgT, dgCons, dgNil, dFE, dIsi, dListF, dNeg, dRev, dFrz, dApp, dAppS, dIns, dExtend, dClear, dReverse, dPop, oIx, oI, oIC, oAddU, oSubI, oMulU, oMulI, oFd, oMd, oPw, oLt, oLe, oGt, oGe, oEq, oNe, getF, setF, Cl.d, getS, setS, purF_nil, purF_cons, purH, allF_nil, allF_cons, allH, rho0, endsOf, scalD, bLen, bAbs, bInt, bIntU, bTup, true_and, and_true, Option.some.injEq, exists_eq_left', decide_eq_true_eq, Bool.not_eq_true', decide_eq_false_iff_not, it_eQ0, it_eQ1, it_eP0, it_eP1, it_eS0, it_eS1, fits_eQ, fits_eP, fits_eS, eqv_eQ, eqv_eP, eqv_eS, eqv_int, eqv_bool, shp_int, shp_bool, shp_none, shp_eQ, shp_eP, shp_eS, dCont, dBreak, dXi, dSetG, dAppG, oIsB, oNotB, dTx, pJoin, pSplit, pPart, pStarts, bStr, bIntS, dFmt, dJs, ↓reduceIte, nsp_none, nsp_bool, nsp_int, nsp_str, nsp_list, nsp_tuple, nsp_eQ, nsp_eP, nsp_eS, dat_pu, dat_ow, seqD_l, seqD_t, not_true_eq_false, Bool.true_eq_false, Bool.not_not, List.length_cons, List.length_nil, mkP, mkS, fits_list, fits_tuple, isIntD, isBoolD, isListD, isStrD, isTupD, Bool.not_true, Bool.not_false, Bool.false_eq_true, it_l0, it_l1, it_l2, it_t0, it_t1, it_t2, shp_ps, shp_pt, shp_ss, shp_is, seqD_eQ, seqD_eP, seqD_eS, walkD_eP, walkD_eS, walkD_l, walkD_t]
    by_cases k : sgnQ (crossQ s.1 s.2 t.1) = sgnQ (crossQ s.1 s.2 t.2)
    · rw [if_pos (.inl k)] at h
      rw [if_pos k]
      exact h
    · rw [if_neg k]
      by_cases k2 : sgnQ (crossQ t.1 t.2 s.1) = sgnQ (crossQ t.1 t.2 s.2)
      · rw [if_pos (.inr k2)] at h
        rw [if_pos k2]
        exact h
      · rw [if_neg (fun z => z.elim k k2)] at h
        rw [if_neg k2]
        exact ⟨s, t, n, rfl, (fun z => k2 (by rw [z])), hs, ht, hn3, h⟩
theorem rd__law_fraction (ds : List Dt) (Φ : Slot → Prop) (Ξ : XD → Prop) (h : sp__law_fraction ds Φ Ξ) : d__law_fraction (endsOf Φ Ξ) (rho0 N__law_fraction ds) := by
  obtain ⟨x, y, m, rfl, ⟨x0, x1⟩, ⟨y0, y1⟩, m0, m1, h⟩ := h
  simp only [d__law_fraction, N__law_fraction, dRet, dRetF, dSetX, dCallX, dRetX, noOw, dTry, dCpy, dRaise, dRetO, dSetP, dSetS, dSetF, dSeq, dIf, dNext, dCall, dCallF, dB, dBin, dCons, dNil, dTup, dLst, dV, dC, dTV, onB, dTAnd, dTOr, dTNot, dAnd, dOr, dNot, dIfE, dIsN, dNotN, isN, dSl, dSlF, dNoPart, dPart, dPar, dParS, dAsg, dgN, dgT, dgCons, dgNil, seqD, dFE, dIsi, dListF, dNeg, dRev, dFrz, dApp, dAppS, dIns, dExtend, dClear, dReverse, dPop, oIx, oI, oIC, oAddU, oSubI, oMulU, oMulI, oFd, oMd, oPw, oLt, oLe, oGt, oGe, oEq, oNe, getF, setF, Cl.d, getS, setS, purF, allF, rho0, endsOf, scalD, bLen, bAbs, bInt, bIntU, bTup, Slot.dat, true_and, and_true, Option.some.injEq, exists_eq_left', decide_eq_true_eq, Bool.not_eq_true', decide_eq_false_iff_not, it_eQ0, it_eQ1, it_eP0, it_eP1, it_eS0, it_eS1, fits_eQ, fits_eP, fits_eS, eqv_eQ, eqv_eP, eqv_eS, eqv_int, eqv_bool, shp_int, shp_bool, shp_none, shp_eQ, shp_eP, shp_eS, dCont, dBreak, dXi, dSetG, dAppG, oIsB, oNotB, dTx, pJoin, pSplit, pPart, pStarts, bStr, bIntS, dFmt, dJs, ↓reduceIte, nsp_none, nsp_bool, nsp_int, nsp_str, nsp_list, nsp_tuple, nsp_eQ, nsp_eP, nsp_eS]
  have s2 := fmod_b (x := y.fdiv 1000) (m := 2) (by decide)
  refine ⟨cfdN (by decide) (by decide), by decide, cmN (by decide) (by omega), ?_⟩
  generalize hs : 1 - 2 * (y.fdiv 1000).fmod 2 = s at *
  have hsb : s.natAbs ≤ 1 := by omega
  have small : ∀ {t : Int} {n : Nat}, t.natAbs < n → (s * t).natAbs < n := fun {t n} ht => by
    rw [Int.natAbs_mul]
    calc s.natAbs * t.natAbs ≤ 1 * t.natAbs := Nat.mul_le_mul hsb (Nat.le_refl _)
      _ < n := by omega
  split
  · have f := fmod_b (x := x) (m := 5) (by decide)
    refine ⟨by decide, cmN (by omega) (by omega), ?_⟩
    have e : PyData.tuple [.int (s * x.fmod 5), .int 1] = eQ ((s * x.fmod 5 : Int) : Rat) := rfl
    rw [e]
    exact h _ ⟨small (n := 2 ^ 6) (by omega), by show 1 < 2 ^ 6; decide⟩
  · have f := fmod_b (x := x) (m := 19) (by decide)
    have g := fmod_b (x := y) (m := 6) (by decide)
    refine ⟨by decide, cmN (by omega) (by omega), by decide, _, _, rfl, by omega, ?_, h _ (bd_low (small (n := 2 ^ 6) (by omega)) (by omega) (by omega))⟩
    exact Nat.lt_of_lt_of_le (show ((1 : Int) + y.fmod 6).natAbs < 2 ^ 6 by omega) (Nat.pow_le_pow_right (by decide) (by decide))
theorem rd__law_spot (ds : List Dt) (Φ : Slot → Prop) (Ξ : XD → Prop) (h : sp__law_spot ds Φ Ξ) : d__law_spot (endsOf Φ Ξ) (rho0 N__law_spot ds) := by
  obtain ⟨xs, m, rfl, hl, hd, m0, m1, h⟩ := h
  simp only [d__law_spot, N__law_spot, dRet, dRetF, dSetX, dCallX, dRetX, noOw, dTry, dCpy, dRaise, dRetO, dSetP, dSetS, dSetF, dSeq, dIf, dNext, dCall, dCallF, dB, dBin, dCons, dNil, dTup, dLst, dV, dC, dTV, onB, dTAnd, dTOr, dTNot, dAnd, dOr, dNot, dIfE, dIsN, dNotN, isN, dSl, dSlF, dNoPart, dPart, dPar, dParS, dAsg, dgN, dgT, dgCons, dgNil, seqD, dFE, dIsi, dListF, dNeg, dRev, dFrz, dApp, dAppS, dIns, dExtend, dClear, dReverse, dPop, oIx, oI, oIC, oAddU, oSubI, oMulU, oMulI, oFd, oMd, oPw, oLt, oLe, oGt, oGe, oEq, oNe, getF, setF, Cl.d, getS, setS, purF, allF, rho0, endsOf, scalD, bLen, bAbs, bInt, bIntU, bTup, Slot.dat, true_and, and_true, Option.some.injEq, exists_eq_left', decide_eq_true_eq, Bool.not_eq_true', decide_eq_false_iff_not, it_eQ0, it_eQ1, it_eP0, it_eP1, it_eS0, it_eS1, fits_eQ, fits_eP, fits_eS, eqv_eQ, eqv_eP, eqv_eS, eqv_int, eqv_bool, shp_int, shp_bool, shp_none, shp_eQ, shp_eP, shp_eS, dCont, dBreak, dXi, dSetG, dAppG, oIsB, oNotB, dTx, pJoin, pSplit, pPart, pStarts, bStr, bIntS, dFmt, dJs, ↓reduceIte, nsp_none, nsp_bool, nsp_int, nsp_str, nsp_list, nsp_tuple, nsp_eQ, nsp_eP, nsp_eS, fits_list]
  refine ⟨_, it_drw 0 (by omega), _, it_drw 1 (by omega), _, _, _, rfl, drw_at hd (by omega), drw_at hd (by omega), m0, m1, fun q1 b1 => ?_⟩
  simp only [dRet, dRetF, dSetX, dCallX, dRetX, noOw, dTry, dCpy, dRaise, dRetO, dSetP, dSetS, dSetF, dSeq, dIf, dNext, dCall, dCallF, dB, dBin, dCons, dNil, dTup, dLst, dV, dC, dTV, onB, dTAnd, dTOr, dTNot, dAnd, dOr, dNot, dIfE, dIsN, dNotN, isN, dSl, dSlF, dNoPart, dPart, dPar, dParS, dAsg, dgN, dgT, dgCons, dgNil, seqD, dFE, dIsi, dListF, dNeg, dRev, dFrz, dApp, dAppS, dIns, dExtend, dClear, dReverse, dPop, oIx, oI, oIC, oAddU, oSubI, oMulU, oMulI, oFd, oMd, oPw, oLt, oLe, oGt, oGe, oEq, oNe, getF, setF, Cl.d, getS, setS, purF, allF, rho0, endsOf, scalD, bLen, bAbs, bInt, bIntU, bTup, Slot.dat, true_and, and_true, Option.some.injEq, exists_eq_left', decide_eq_true_eq, Bool.not_eq_true', decide_eq_false_iff_not, it_eQ0, it_eQ1, it_eP0, it_eP1, it_eS0, it_eS1, fits_eQ, fits_eP, fits_eS, eqv_eQ, eqv_eP, eqv_eS, eqv_int, eqv_bool, shp_int, shp_bool, shp_none, shp_eQ, shp_eP, shp_eS, dCont, dBreak, dXi, dSetG, dAppG, oIsB, oNotB, dTx, pJoin, pSplit, pPart, pStarts, bStr, bIntS, dFmt, dJs, ↓reduceIte, nsp_none, nsp_bool, nsp_int, nsp_str, nsp_list, nsp_tuple, nsp_eQ, nsp_eP, nsp_eS, fits_list]
  refine ⟨_, it_drw 2 (by omega), _, it_drw 3 (by omega), _, _, _, rfl, drw_at hd (by omega), drw_at hd (by omega), m0, m1, fun q2 b2 => ?_⟩
  exact h (q1, q2) ⟨b1, b2⟩
theorem rd__law_side (ds : List Dt) (Φ : Slot → Prop) (Ξ : XD → Prop) (h : sp__law_side ds Φ Ξ) : d__law_side (endsOf Φ Ξ) (rho0 N__law_side ds) := by
  obtain ⟨xs, m, rfl, hl, hd, m0, m1, h⟩ := h
  simp only [d__law_side, N__law_side, dRet, dRetF, dSetX, dCallX, dRetX, noOw, dTry, dCpy, dRaise, dRetO, dSetP, dSetS, dSetF, dSeq, dIf, dNext, dCall, dCallF, dB, dBin, dCons, dNil, dTup, dLst, dV, dC, dTV, onB, dTAnd, dTOr, dTNot, dAnd, dOr, dNot, dIfE, dIsN, dNotN, isN, dSl, dSlF, dNoPart, dPart, dPar, dParS, dAsg, dgN, dgT, dgCons, dgNil, seqD, dFE, dIsi, dListF, dNeg, dRev, dFrz, dApp, dAppS, dIns, dExtend, dClear, dReverse, dPop, oIx, oI, oIC, oAddU, oSubI, oMulU, oMulI, oFd, oMd, oPw, oLt, oLe, oGt, oGe, oEq, oNe, getF, setF, Cl.d, getS, setS, purF, allF, rho0, endsOf, scalD, bLen, bAbs, bInt, bIntU, bTup, Slot.dat, true_and, and_true, Option.some.injEq, exists_eq_left', decide_eq_true_eq, Bool.not_eq_true', decide_eq_false_iff_not, it_eQ0, it_eQ1, it_eP0, it_eP1, it_eS0, it_eS1, fits_eQ, fits_eP, fits_eS, eqv_eQ, eqv_eP, eqv_eS, eqv_int, eqv_bool, shp_int, shp_bool, shp_none, shp_eQ, shp_eP, shp_eS, dCont, dBreak, dXi, dSetG, dAppG, oIsB, oNotB, dTx, pJoin, pSplit, pPart, pStarts, bStr, bIntS, dFmt, dJs, ↓reduceIte, nsp_none, nsp_bool, nsp_int, nsp_str, nsp_list, nsp_tuple, nsp_eQ, nsp_eP, nsp_eS, fits_list]
  refine ⟨xs, m, rfl, by omega, hd, m0, m1, fun p hp => ?_⟩
  simp only [dRet, dRetF, dSetX, dCallX, dRetX, noOw, dTry, dCpy, dRaise, dRetO, dSetP, dSetS, dSetF, dSeq, dIf, dNext, dCall, dCallF, dB, dBin, dCons, dNil, dTup, dLst, dV, dC, dTV, onB, dTAnd, dTOr, dTNot, dAnd, dOr, dNot, dIfE, dIsN, dNotN, isN, dSl, dSlF, dNoPart, dPart, dPar, dParS, dAsg, dgN, dgT, dgCons, dgNil, seqD, dFE, dIsi, dListF, dNeg, dRev, dFrz, dApp, dAppS, dIns, dExtend, dClear, dReverse, dPop, oIx, oI, oIC, oAddU, oSubI, oMulU, oMulI, oFd, oMd, oPw, oLt, oLe, oGt, oGe, oEq, oNe, getF, setF, Cl.d, getS, setS, purF, allF, rho0, endsOf, scalD, bLen, bAbs, bInt, bIntU, bTup, Slot.dat, true_and, and_true, Option.some.injEq, exists_eq_left', decide_eq_true_eq, Bool.not_eq_true', decide_eq_false_iff_not, it_eQ0, it_eQ1, it_eP0, it_eP1, it_eS0, it_eS1, fits_eQ, fits_eP, fits_eS, eqv_eQ, eqv_eP, eqv_eS, eqv_int, eqv_bool, shp_int, shp_bool, shp_none, shp_eQ, shp_eP, shp_eS, dCont, dBreak, dXi, dSetG, dAppG, oIsB, oNotB, dTx, pJoin, pSplit, pPart, pStarts, bStr, bIntS, dFmt, dJs, ↓reduceIte, nsp_none, nsp_bool, nsp_int, nsp_str, nsp_list, nsp_tuple, nsp_eQ, nsp_eP, nsp_eS, fits_list, slD]
  have e4 : cutD xs (some 4) none = xs.drop 4 := cutD_from xs 4
  refine ⟨xs.drop 4, m, by rw [cutD_map, e4], by rw [List.length_drop]; omega, fun x hx => hd x (List.mem_of_mem_drop hx), m0, m1, fun q hq => ?_⟩
  simp only [dRet, dRetF, dSetX, dCallX, dRetX, noOw, dTry, dCpy, dRaise, dRetO, dSetP, dSetS, dSetF, dSeq, dIf, dNext, dCall, dCallF, dB, dBin, dCons, dNil, dTup, dLst, dV, dC, dTV, onB, dTAnd, dTOr, dTNot, dAnd, dOr, dNot, dIfE, dIsN, dNotN, isN, dSl, dSlF, dNoPart, dPart, dPar, dParS, dAsg, dgN, dgT, dgCons, dgNil, seqD, dFE, dIsi, dListF, dNeg, dRev, dFrz, dApp, dAppS, dIns, dExtend, dClear, dReverse, dPop, oIx, oI, oIC, oAddU, oSubI, oMulU, oMulI, oFd, oMd, oPw, oLt, oLe, oGt, oGe, oEq, oNe, getF, setF, Cl.d, getS, setS, purF, allF, rho0, endsOf, scalD, bLen, bAbs, bInt, bIntU, bTup, Slot.dat, true_and, and_true, Option.some.injEq, exists_eq_left', decide_eq_true_eq, Bool.not_eq_true', decide_eq_false_iff_not, it_eQ0, it_eQ1, it_eP0, it_eP1, it_eS0, it_eS1, fits_eQ, fits_eP, fits_eS, eqv_eQ, eqv_eP, eqv_eS, eqv_int, eqv_bool, shp_int, shp_bool, shp_none, shp_eQ, shp_eP, shp_eS, dCont, dBreak, dXi, dSetG, dAppG, oIsB, oNotB, dTx, pJoin, pSplit, pPart, pStarts, bStr, bIntS, dFmt, dJs, ↓reduceIte, nsp_none, nsp_bool, nsp_int, nsp_str, nsp_list, nsp_tuple, nsp_eQ, nsp_eP, nsp_eS, mkP, mkS, fits_list]
  have tail : ∀ r : Pt, BdP 6 r → dSeq (dIf (dTV (dBin oEq (dV 2) (dV 3))) (dSetP 3 (dTup (dCons (dCall sp__law_low (dCons (dBin oAddU (dBin oIx (dBin oIx (dV 2) (dC (.int 0))) (dC (.int 0))) (dBin oMulU (dBin oIx (dBin oIx (dV 2) (dC (.int 0))) (dC (.int 1))) (dBin oSubI (dC (.int 1)) (dBin oMulU (dC (.int 2)) (dB bIntU (dCons (dBin oGt (dBin oIx (dBin oIx (dV 2) (dC (.int 0))) (dC (.int 0))) (dC (.int 0))) dNil)))))) (dCons (dBin oIx (dBin oIx (dV 2) (dC (.int 0))) (dC (.int 1))) dNil))) (dCons (dBin oIx (dV 2) (dC (.int 1))) dNil)))) dNext)
      (dRet (dTup (dCons (dV 2) (dCons (dV 3) dNil)))) (endsOf Φ Ξ) [.pu (.list (xs.map .int)), .pu (.int m), .pu (eP p), .pu (eP r)] := fun r hr => by
    simp only [dRet, dRetF, dSetX, dCallX, dRetX, noOw, dTry, dCpy, dRaise, dRetO, dSetP, dSetS, dSetF, dSeq, dIf, dNext, dCall, dCallF, dB, dBin, dCons, dNil, dTup, dLst, dV, dC, dTV, onB, dTAnd, dTOr, dTNot, dAnd, dOr, dNot, dIfE, dIsN, dNotN, isN, dSl, dSlF, dNoPart, dPart, dPar, dParS, dAsg, dgN, dgT, dgCons, dgNil, seqD, dFE, dIsi, dListF, dNeg, dRev, dFrz, dApp, dAppS, dIns, dExtend, dClear, dReverse, dPop, oIx, oI, oIC, oAddU, oSubI, oMulU, oMulI, oFd, oMd, oPw, oLt, oLe, oGt, oGe, oEq, oNe, getF, setF, Cl.d, getS, setS, purF, allF, rho0, endsOf, scalD, bLen, bAbs, bInt, bIntU, bTup, Slot.dat, true_and, and_true, Option.some.injEq, exists_eq_left', decide_eq_true_eq, Bool.not_eq_true', decide_eq_false_iff_not, it_eQ0, it_eQ1, it_eP0, it_eP1, it_eS0, it_eS1, fits_eQ, fits_eP, fits_eS, eqv_eQ, eqv_eP, eqv_eS, eqv_int, eqv_bool, shp_int, shp_bool, shp_none, shp_eQ, shp_eP, shp_eS, dCont, dBreak, dXi, dSetG, dAppG, oIsB, oNotB, dTx, pJoin, pSplit, pPart, pStarts, bStr, bIntS, dFmt, dJs, ↓reduceIte, nsp_none, nsp_bool, nsp_int, nsp_str, nsp_list, nsp_tuple, nsp_eQ, nsp_eP, nsp_eS, mkP, mkS]
    split
    · have b1 : ∀ c : Int, c = 1 ∨ c = -1 → CMulW p.1.den c ∧ sp__law_low [.int (p.1.num + p.1.den * c), .int p.1.den] (fun z => Φ (.pu (.tuple [eP p, .tuple [z.dat, eQ p.2]]))) fun _ => False := fun c hc => by
        have hcn : c.natAbs < 2 ^ 1 := by omega
        refine ⟨cm (bd_den hp.1) hcn (by omega), _, _, rfl, den_ne _, Nat.lt_trans (bd_den hp.1) (Nat.pow_lt_pow_right (by decide) (by decide)), ?_⟩
        refine h (p, (Rat.divInt (p.1.num + p.1.den * c) p.1.den, p.2)) ⟨hp.mono (by decide), ?_, hp.2.mono (by decide)⟩ ?_
        · refine bd_divInt ?_ (Nat.lt_trans (bd_den hp.1) (Nat.pow_lt_pow_right (by decide) (by decide))) (den_ne _)
          have k1 := mul_lt2 (bd_den hp.1) hcn
          exact Nat.lt_trans (add_lt2 (Nat.lt_trans (bd_num hp.1) (Nat.pow_lt_pow_right (by decide) (by decide))) k1) (Nat.pow_lt_pow_right (by decide) (by decide))
        · intro e
          have e1 : p.1 = Rat.divInt (p.1.num + p.1.den * c) p.1.den := congrArg Prod.fst e
          exact up_one c (by omega) e1.symm
      by_cases c0 : 0 < p.1.num
      · simp only [c0, if_true]
        refine ⟨cmN (by decide) (by decide), ?_⟩
        exact b1 (1 - 2 * 1) (by decide)
      · simp only [c0, if_false]
        refine ⟨cmN (by decide) (by decide), ?_⟩
        exact b1 (1 - 2 * 0) (by decide)
    · rename_i c
      exact h (p, r) ⟨hp.mono (by decide), hr.mono (by decide)⟩ c
  refine ⟨_, it_drw 8 (by omega), by decide, ?_⟩
  split
  · refine ⟨_, it_drw 8 (by omega), by decide, ?_⟩
    split
    · have t := tail (p.1, p.2) hp; simp only [dRet, dRetF, dSetX, dCallX, dRetX, noOw, dTry, dCpy, dRaise, dRetO, dSetP, dSetS, dSetF, dSeq, dIf, dNext, dCall, dCallF, dB, dBin, dCons, dNil, dTup, dLst, dV, dC, dTV, onB, dTAnd, dTOr, dTNot, dAnd, dOr, dNot, dIfE, dIsN, dNotN, isN, dSl, dSlF, dNoPart, dPart, dPar, dParS, dAsg, dgN, dgT, dgCons, dgNil, seqD, dFE, dIsi, dListF, dNeg, dRev, dFrz, dApp, dAppS, dIns, dExtend, dClear, dReverse, dPop, oIx, oI, oIC, oAddU, oSubI, oMulU, oMulI, oFd, oMd, oPw, oLt, oLe, oGt, oGe, oEq, oNe, getF, setF, Cl.d, getS, setS, purF, allF, rho0, endsOf, scalD, bLen, bAbs, bInt, bIntU, bTup, Slot.dat, true_and, and_true, Option.some.injEq, exists_eq_left', decide_eq_true_eq, Bool.not_eq_true', decide_eq_false_iff_not, it_eQ0, it_eQ1, it_eP0, it_eP1, it_eS0, it_eS1, fits_eQ, fits_eP, fits_eS, eqv_eQ, eqv_eP, eqv_eS, eqv_int, eqv_bool, shp_int, shp_bool, shp_none, shp_eQ, shp_eP, shp_eS, dCont, dBreak, dXi, dSetG, dAppG, oIsB, oNotB, dTx, pJoin, pSplit, pPart, pStarts, bStr, bIntS, dFmt, dJs, ↓reduceIte, nsp_none, nsp_bool, nsp_int, nsp_str, nsp_list, nsp_tuple, nsp_eQ, nsp_eP, nsp_eS, mkP, mkS] at t; exact t
    · have t := tail (q.1, p.2) ⟨hq.1, hp.2⟩; simp only [dRet, dRetF, dSetX, dCallX, dRetX, noOw, dTry, dCpy, dRaise, dRetO, dSetP, dSetS, dSetF, dSeq, dIf, dNext, dCall, dCallF, dB, dBin, dCons, dNil, dTup, dLst, dV, dC, dTV, onB, dTAnd, dTOr, dTNot, dAnd, dOr, dNot, dIfE, dIsN, dNotN, isN, dSl, dSlF, dNoPart, dPart, dPar, dParS, dAsg, dgN, dgT, dgCons, dgNil, seqD, dFE, dIsi, dListF, dNeg, dRev, dFrz, dApp, dAppS, dIns, dExtend, dClear, dReverse, dPop, oIx, oI, oIC, oAddU, oSubI, oMulU, oMulI, oFd, oMd, oPw, oLt, oLe, oGt, oGe, oEq, oNe, getF, setF, Cl.d, getS, setS, purF, allF, rho0, endsOf, scalD, bLen, bAbs, bInt, bIntU, bTup, Slot.dat, true_and, and_true, Option.some.injEq, exists_eq_left', decide_eq_true_eq, Bool.not_eq_true', decide_eq_false_iff_not, it_eQ0, it_eQ1, it_eP0, it_eP1, it_eS0, it_eS1, fits_eQ, fits_eP, fits_eS, eqv_eQ, eqv_eP, eqv_eS, eqv_int, eqv_bool, shp_int, shp_bool, shp_none, shp_eQ, shp_eP, shp_eS, dCont, dBreak, dXi, dSetG, dAppG, oIsB, oNotB, dTx, pJoin, pSplit, pPart, pStarts, bStr, bIntS, dFmt, dJs, ↓reduceIte, nsp_none, nsp_bool, nsp_int, nsp_str, nsp_list, nsp_tuple, nsp_eQ, nsp_eP, nsp_eS, mkP, mkS] at t; exact t
  · refine ⟨_, it_drw 8 (by omega), by decide, ?_⟩
    split
    · have t := tail (p.1, q.2) ⟨hp.1, hq.2⟩; simp only [dRet, dRetF, dSetX, dCallX, dRetX, noOw, dTry, dCpy, dRaise, dRetO, dSetP, dSetS, dSetF, dSeq, dIf, dNext, dCall, dCallF, dB, dBin, dCons, dNil, dTup, dLst, dV, dC, dTV, onB, dTAnd, dTOr, dTNot, dAnd, dOr, dNot, dIfE, dIsN, dNotN, isN, dSl, dSlF, dNoPart, dPart, dPar, dParS, dAsg, dgN, dgT, dgCons, dgNil, seqD, dFE, dIsi, dListF, dNeg, dRev, dFrz, dApp, dAppS, dIns, dExtend, dClear, dReverse, dPop, oIx, oI, oIC, oAddU, oSubI, oMulU, oMulI, oFd, oMd, oPw, oLt, oLe, oGt, oGe, oEq, oNe, getF, setF, Cl.d, getS, setS, purF, allF, rho0, endsOf, scalD, bLen, bAbs, bInt, bIntU, bTup, Slot.dat, true_and, and_true, Option.some.injEq, exists_eq_left', decide_eq_true_eq, Bool.not_eq_true', decide_eq_false_iff_not, it_eQ0, it_eQ1, it_eP0, it_eP1, it_eS0, it_eS1, fits_eQ, fits_eP, fits_eS, eqv_eQ, eqv_eP, eqv_eS, eqv_int, eqv_bool, shp_int, shp_bool, shp_none, shp_eQ, shp_eP, shp_eS, dCont, dBreak, dXi, dSetG, dAppG, oIsB, oNotB, dTx, pJoin, pSplit, pPart, pStarts, bStr, bIntS, dFmt, dJs, ↓reduceIte, nsp_none, nsp_bool, nsp_int, nsp_str, nsp_list, nsp_tuple, nsp_eQ, nsp_eP, nsp_eS, mkP, mkS] at t; exact t
    · have t := tail q hq; simp only [dRet, dRetF, dSetX, dCallX, dRetX, noOw, dTry, dCpy, dRaise, dRetO, dSetP, dSetS, dSetF, dSeq, dIf, dNext, dCall, dCallF, dB, dBin, dCons, dNil, dTup, dLst, dV, dC, dTV, onB, dTAnd, dTOr, dTNot, dAnd, dOr, dNot, dIfE, dIsN, dNotN, isN, dSl, dSlF, dNoPart, dPart, dPar, dParS, dAsg, dgN, dgT, dgCons, dgNil, seqD, dFE, dIsi, dListF, dNeg, dRev, dFrz, dApp, dAppS, dIns, dExtend, dClear, dReverse, dPop, oIx, oI, oIC, oAddU, oSubI, oMulU, oMulI, oFd, oMd, oPw, oLt, oLe, oGt, oGe, oEq, oNe, getF, setF, Cl.d, getS, setS, purF, allF, rho0, endsOf, scalD, bLen, bAbs, bInt, bIntU, bTup, Slot.dat, true_and, and_true, Option.some.injEq, exists_eq_left', decide_eq_true_eq, Bool.not_eq_true', decide_eq_false_iff_not, it_eQ0, it_eQ1, it_eP0, it_eP1, it_eS0, it_eS1, fits_eQ, fits_eP, fits_eS, eqv_eQ, eqv_eP, eqv_eS, eqv_int, eqv_bool, shp_int, shp_bool, shp_none, shp_eQ, shp_eP, shp_eS, dCont, dBreak, dXi, dSetG, dAppG, oIsB, oNotB, dTx, pJoin, pSplit, pPart, pStarts, bStr, bIntS, dFmt, dJs, ↓reduceIte, nsp_none, nsp_bool, nsp_int, nsp_str, nsp_list, nsp_tuple, nsp_eQ, nsp_eP, nsp_eS, mkP, mkS] at t; exact t
theorem shp_012 : SeqAt.shaped (.tuple [.int 0, .int 1, .int 2]) = true := by decide +kernel
theorem rd__law_other (ds : List Dt) (Φ : Slot → Prop) (Ξ : XD → Prop) (h : sp__law_other ds Φ Ξ) : d__law_other (endsOf Φ Ξ) (rho0 N__law_other ds) := by
  obtain ⟨s, xs, m, rfl, hne, hs, hl, hd, m0, m1, h⟩ := h
  have hs' : BdS 27 s := hs.mono (by decide)
  show dSeq _ _ _ [.pu (eS s), .pu (.list (xs.map .int)), .pu (.int m), .un, .un]
  refine seq_cut (fun ρ => ∃ t : Sd, BdS 27 t ∧ ρ = [.pu (eS s), .pu (.list (xs.map .int)), .pu (.int m), .pu (eS t), .un]) (fun E _ hE => ?_) ?_
  · simp only [dRet, dRetF, dSetX, dCallX, dRetX, noOw, dTry, dCpy, dRaise, dRetO, dSetP, dSetS, dSetF, dSeq, dIf, dNext, dCall, dCallF, dB, dBin, dCons, dNil, dTup, dLst, dV, dC, dTV, onB, dTAnd, dTOr, dTNot, dAnd, dOr, dNot, dIfE, dIsN, dNotN, isN, dSl, dSlF, dNoPart, dPart, dPar, dParS, dAsg, dgN, dgT, dgCons, dgNil, dFE, dIsi, dListF, dNeg, dRev, dFrz, dApp, dAppS, dIns, dExtend, dClear, dReverse, dPop, oIx, oI, oIC, oAddU, oSubI, oMulU, oMulI, oFd, oMd, oPw, oLt, oLe, oGt, oGe, oEq, oNe, getF, setF, Cl.d, getS, setS, purF_nil, purF_cons, purH, allF_nil, allF_cons, allH, rho0, endsOf, scalD, bLen, bAbs, bInt, bIntU, bTup, true_and, and_true, Option.some.injEq, exists_eq_left', decide_eq_true_eq, Bool.not_eq_true', decide_eq_false_iff_not, it_eQ0, it_eQ1, it_eP0, it_eP1, it_eS0, it_eS1, fits_eQ, fits_eP, fits_eS, eqv_eQ, eqv_eP, eqv_eS, eqv_int, eqv_bool, shp_int, shp_bool, shp_none, shp_eQ, shp_eP, shp_eS, dCont, dBreak, dXi, dSetG, dAppG, oIsB, oNotB, dTx, pJoin, pSplit, pPart, pStarts, bStr, bIntS, dFmt, dJs, ↓reduceIte, nsp_none, nsp_bool, nsp_int, nsp_str, nsp_list, nsp_tuple, nsp_eQ, nsp_eP, nsp_eS, dat_pu, dat_ow, seqD_l, seqD_t, not_true_eq_false, Bool.true_eq_false, Bool.not_not, List.length_cons, List.length_nil, mkP, mkS, fits_list, fits_tuple, isIntD, isBoolD, isListD, isStrD, isTupD, Bool.not_true, Bool.not_false, Bool.false_eq_true, it_l0, it_l1, it_l2, it_t0, it_t1, it_t2, shp_ps, shp_pt, shp_ss, shp_is, seqD_eQ, seqD_eP, seqD_eS, walkD_eP, walkD_eS, walkD_l, walkD_t]
    refine ⟨xs, m, rfl, by omega, hd, m0, m1, fun t ht _ => ?_⟩
    simp only [dRet, dRetF, dSetX, dCallX, dRetX, noOw, dTry, dCpy, dRaise, dRetO, dSetP, dSetS, dSetF, dSeq, dIf, dNext, dCall, dCallF, dB, dBin, dCons, dNil, dTup, dLst, dV, dC, dTV, onB, dTAnd, dTOr, dTNot, dAnd, dOr, dNot, dIfE, dIsN, dNotN, isN, dSl, dSlF, dNoPart, dPart, dPar, dParS, dAsg, dgN, dgT, dgCons, dgNil, dFE, dIsi, dListF, dNeg, dRev, dFrz, dApp, dAppS, dIns, dExtend, dClear, dReverse, dPop, oIx, oI, oIC, oAddU, oSubI, oMulU, oMulI, oFd, oMd, oPw, oLt, oLe, oGt, oGe, oEq, oNe, getF, setF, Cl.d, getS, setS, purF_nil, purF_cons, purH, allF_nil, allF_cons, allH, rho0, endsOf, scalD, bLen, bAbs, bInt, bIntU, bTup, true_and, and_true, Option.some.injEq, exists_eq_left', decide_eq_true_eq, Bool.not_eq_true', decide_eq_false_iff_not, it_eQ0, it_eQ1, it_eP0, it_eP1, it_eS0, it_eS1, fits_eQ, fits_eP, fits_eS, eqv_eQ, eqv_eP, eqv_eS, eqv_int, eqv_bool, shp_int, shp_bool, shp_none, shp_eQ, shp_eP, shp_eS, dCont, dBreak, dXi, dSetG, dAppG, oIsB, oNotB, dTx, pJoin, pSplit, pPart, pStarts, bStr, bIntS, dFmt, dJs, ↓reduceIte, nsp_none, nsp_bool, nsp_int, nsp_str, nsp_list, nsp_tuple, nsp_eQ, nsp_eP, nsp_eS, dat_pu, dat_ow, seqD_l, seqD_t, not_true_eq_false, Bool.true_eq_false, Bool.not_not, List.length_cons, List.length_nil, mkP, mkS, fits_list, fits_tuple, isIntD, isBoolD, isListD, isStrD, isTupD, Bool.not_true, Bool.not_false, Bool.false_eq_true, it_l0, it_l1, it_l2, it_t0, it_t1, it_t2, shp_ps, shp_pt, shp_ss, shp_is, seqD_eQ, seqD_eP, seqD_eS, walkD_eP, walkD_eS, walkD_l, walkD_t]
    exact hE _ ⟨t, ht.mono (by decide), rfl⟩
  rintro _ ⟨t, ht, rfl⟩
  refine seq_cut (fun ρ => ∃ (t : Sd) (w : Int), BdS 27 t ∧ ρ = [.pu (eS s), .pu (.list (xs.map .int)), .pu (.int m), .pu (eS t), .pu (.int w)]) (fun E _ hE => ?_) ?_
  · simp only [dRet, dRetF, dSetX, dCallX, dRetX, noOw, dTry, dCpy, dRaise, dRetO, dSetP, dSetS, dSetF, dSeq, dIf, dNext, dCall, dCallF, dB, dBin, dCons, dNil, dTup, dLst, dV, dC, dTV, onB, dTAnd, dTOr, dTNot, dAnd, dOr, dNot, dIfE, dIsN, dNotN, isN, dSl, dSlF, dNoPart, dPart, dPar, dParS, dAsg, dgN, dgT, dgCons, dgNil, dFE, dIsi, dListF, dNeg, dRev, dFrz, dApp, dAppS, dIns, dExtend, dClear, dReverse, dPop, oIx, oI, oIC, oAddU, oSubI, oMulU, oMulI, oFd, oMd, oPw, oLt, oLe, oGt, oGe, oEq, oNe, getF, setF, Cl.d, getS, setS, purF_nil, purF_cons, purH, allF_nil, allF_cons, allH, rho0, endsOf, scalD, bLen, bAbs, bInt, bIntU, bTup, true_and, and_true, Option.some.injEq, exists_eq_left', decide_eq_true_eq, Bool.not_eq_true', decide_eq_false_iff_not, it_eQ0, it_eQ1, it_eP0, it_eP1, it_eS0, it_eS1, fits_eQ, fits_eP, fits_eS, eqv_eQ, eqv_eP, eqv_eS, eqv_int, eqv_bool, shp_int, shp_bool, shp_none, shp_eQ, shp_eP, shp_eS, dCont, dBreak, dXi, dSetG, dAppG, oIsB, oNotB, dTx, pJoin, pSplit, pPart, pStarts, bStr, bIntS, dFmt, dJs, ↓reduceIte, nsp_none, nsp_bool, nsp_int, nsp_str, nsp_list, nsp_tuple, nsp_eQ, nsp_eP, nsp_eS, dat_pu, dat_ow, seqD_l, seqD_t, not_true_eq_false, Bool.true_eq_false, Bool.not_not, List.length_cons, List.length_nil, mkP, mkS, fits_list, fits_tuple, isIntD, isBoolD, isListD, isStrD, isTupD, Bool.not_true, Bool.not_false, Bool.false_eq_true, it_l0, it_l1, it_l2, it_t0, it_t1, it_t2, shp_ps, shp_pt, shp_ss, shp_is, seqD_eQ, seqD_eP, seqD_eS, walkD_eP, walkD_eS, walkD_l, walkD_t]
    exact ⟨_, it_drw 9 (by omega), by decide, hE _ ⟨t, _, ht, rfl⟩⟩
  rintro _ ⟨t, w, ht, rfl⟩
  have at_ : ∀ (i : Nat) (Ψ : Slot → Prop), i < xs.length → (∀ p, BdP 27 p → Ψ (.pu (eP p))) → sp__law_at [eS s, .int ((xs.getD i default).fmod 13 - 3)] Ψ (fun _ => False) := fun i Ψ hi hΨ => by
    obtain ⟨a2, a3⟩ := fmod_b (x := xs.getD i default) (m := 13) (by decide)
    exact ⟨s, _, 9, rfl, hs, by decide, by omega, hΨ _ (bdP_at rfl (by omega) hs)⟩
  refine seq_cut (fun ρ => ∃ (t : Sd) (w : Int), BdS 27 t ∧ ρ = [.pu (eS s), .pu (.list (xs.map .int)), .pu (.int m), .pu (eS t), .pu (.int w)]) (fun E _ hE => ?_) ?_
  · simp only [dRet, dRetF, dSetX, dCallX, dRetX, noOw, dTry, dCpy, dRaise, dRetO, dSetP, dSetS, dSetF, dSeq, dIf, dNext, dCall, dCallF, dB, dBin, dCons, dNil, dTup, dLst, dV, dC, dTV, onB, dTAnd, dTOr, dTNot, dAnd, dOr, dNot, dIfE, dIsN, dNotN, isN, dSl, dSlF, dNoPart, dPart, dPar, dParS, dAsg, dgN, dgT, dgCons, dgNil, dFE, dIsi, dListF, dNeg, dRev, dFrz, dApp, dAppS, dIns, dExtend, dClear, dReverse, dPop, oIx, oI, oIC, oAddU, oSubI, oMulU, oMulI, oFd, oMd, oPw, oLt, oLe, oGt, oGe, oEq, oNe, getF, setF, Cl.d, getS, setS, purF_nil, purF_cons, purH, allF_nil, allF_cons, allH, rho0, endsOf, scalD, bLen, bAbs, bInt, bIntU, bTup, true_and, and_true, Option.some.injEq, exists_eq_left', decide_eq_true_eq, Bool.not_eq_true', decide_eq_false_iff_not, it_eQ0, it_eQ1, it_eP0, it_eP1, it_eS0, it_eS1, fits_eQ, fits_eP, fits_eS, eqv_eQ, eqv_eP, eqv_eS, eqv_int, eqv_bool, shp_int, shp_bool, shp_none, shp_eQ, shp_eP, shp_eS, dCont, dBreak, dXi, dSetG, dAppG, oIsB, oNotB, dTx, pJoin, pSplit, pPart, pStarts, bStr, bIntS, dFmt, dJs, ↓reduceIte, nsp_none, nsp_bool, nsp_int, nsp_str, nsp_list, nsp_tuple, nsp_eQ, nsp_eP, nsp_eS, dat_pu, dat_ow, seqD_l, seqD_t, not_true_eq_false, Bool.true_eq_false, Bool.not_not, List.length_cons, List.length_nil, mkP, mkS, fits_list, fits_tuple, isIntD, isBoolD, isListD, isStrD, isTupD, Bool.not_true, Bool.not_false, Bool.false_eq_true, it_l0, it_l1, it_l2, it_t0, it_t1, it_t2, shp_ps, shp_pt, shp_ss, shp_is, seqD_eQ, seqD_eP, seqD_eS, walkD_eP, walkD_eS, walkD_l, walkD_t, oIn, shp_012]
    split
    · split
      · refine ⟨_, it_drw 10 (by omega), by decide, at_ 10 _ (by omega) fun p hp => ?_⟩
        simp only [dRet, dRetF, dSetX, dCallX, dRetX, noOw, dTry, dCpy, dRaise, dRetO, dSetP, dSetS, dSetF, dSeq, dIf, dNext, dCall, dCallF, dB, dBin, dCons, dNil, dTup, dLst, dV, dC, dTV, onB, dTAnd, dTOr, dTNot, dAnd, dOr, dNot, dIfE, dIsN, dNotN, isN, dSl, dSlF, dNoPart, dPart, dPar, dParS, dAsg, dgN, dgT, dgCons, dgNil, dFE, dIsi, dListF, dNeg, dRev, dFrz, dApp, dAppS, dIns, dExtend, dClear, dReverse, dPop, oIx, oI, oIC, oAddU, oSubI, oMulU, oMulI, oFd, oMd, oPw, oLt, oLe, oGt, oGe, oEq, oNe, getF, setF, Cl.d, getS, setS, purF_nil, purF_cons, purH, allF_nil, allF_cons, allH, rho0, endsOf, scalD, bLen, bAbs, bInt, bIntU, bTup, true_and, and_true, Option.some.injEq, exists_eq_left', decide_eq_true_eq, Bool.not_eq_true', decide_eq_false_iff_not, it_eQ0, it_eQ1, it_eP0, it_eP1, it_eS0, it_eS1, fits_eQ, fits_eP, fits_eS, eqv_eQ, eqv_eP, eqv_eS, eqv_int, eqv_bool, shp_int, shp_bool, shp_none, shp_eQ, shp_eP, shp_eS, dCont, dBreak, dXi, dSetG, dAppG, oIsB, oNotB, dTx, pJoin, pSplit, pPart, pStarts, bStr, bIntS, dFmt, dJs, ↓reduceIte, nsp_none, nsp_bool, nsp_int, nsp_str, nsp_list, nsp_tuple, nsp_eQ, nsp_eP, nsp_eS, dat_pu, dat_ow, seqD_l, seqD_t, not_true_eq_false, Bool.true_eq_false, Bool.not_not, List.length_cons, List.length_nil, mkP, mkS, fits_list, fits_tuple, isIntD, isBoolD, isListD, isStrD, isTupD, Bool.not_true, Bool.not_false, Bool.false_eq_true, it_l0, it_l1, it_l2, it_t0, it_t1, it_t2, shp_ps, shp_pt, shp_ss, shp_is, seqD_eQ, seqD_eP, seqD_eS, walkD_eP, walkD_eS, walkD_l, walkD_t]
        exact hE _ ⟨(p, t.2), _, ⟨hp, ht.2⟩, rfl⟩
      · exact hE _ ⟨t, w, ht, rfl⟩
    · exact hE _ ⟨t, w, ht, rfl⟩
  rintro _ ⟨t, w, ht, rfl⟩
  refine seq_cut (fun ρ => ∃ (t : Sd) (w : Int), BdS 27 t ∧ ρ = [.pu (eS s), .pu (.list (xs.map .int)), .pu (.int m), .pu (eS t), .pu (.int w)]) (fun E _ hE => ?_) ?_
  · simp only [dRet, dRetF, dSetX, dCallX, dRetX, noOw, dTry, dCpy, dRaise, dRetO, dSetP, dSetS, dSetF, dSeq, dIf, dNext, dCall, dCallF, dB, dBin, dCons, dNil, dTup, dLst, dV, dC, dTV, onB, dTAnd, dTOr, dTNot, dAnd, dOr, dNot, dIfE, dIsN, dNotN, isN, dSl, dSlF, dNoPart, dPart, dPar, dParS, dAsg, dgN, dgT, dgCons, dgNil, dFE, dIsi, dListF, dNeg, dRev, dFrz, dApp, dAppS, dIns, dExtend, dClear, dReverse, dPop, oIx, oI, oIC, oAddU, oSubI, oMulU, oMulI, oFd, oMd, oPw, oLt, oLe, oGt, oGe, oEq, oNe, getF, setF, Cl.d, getS, setS, purF_nil, purF_cons, purH, allF_nil, allF_cons, allH, rho0, endsOf, scalD, bLen, bAbs, bInt, bIntU, bTup, true_and, and_true, Option.some.injEq, exists_eq_left', decide_eq_true_eq, Bool.not_eq_true', decide_eq_false_iff_not, it_eQ0, it_eQ1, it_eP0, it_eP1, it_eS0, it_eS1, fits_eQ, fits_eP, fits_eS, eqv_eQ, eqv_eP, eqv_eS, eqv_int, eqv_bool, shp_int, shp_bool, shp_none, shp_eQ, shp_eP, shp_eS, dCont, dBreak, dXi, dSetG, dAppG, oIsB, oNotB, dTx, pJoin, pSplit, pPart, pStarts, bStr, bIntS, dFmt, dJs, ↓reduceIte, nsp_none, nsp_bool, nsp_int, nsp_str, nsp_list, nsp_tuple, nsp_eQ, nsp_eP, nsp_eS, dat_pu, dat_ow, seqD_l, seqD_t, not_true_eq_false, Bool.true_eq_false, Bool.not_not, List.length_cons, List.length_nil, mkP, mkS, fits_list, fits_tuple, isIntD, isBoolD, isListD, isStrD, isTupD, Bool.not_true, Bool.not_false, Bool.false_eq_true, it_l0, it_l1, it_l2, it_t0, it_t1, it_t2, shp_ps, shp_pt, shp_ss, shp_is, seqD_eQ, seqD_eP, seqD_eS, walkD_eP, walkD_eS, walkD_l, walkD_t]
    split
    · split
      · refine ⟨_, it_drw 11 (by omega), by decide, at_ 11 _ (by omega) fun p hp => ?_⟩
        simp only [dRet, dRetF, dSetX, dCallX, dRetX, noOw, dTry, dCpy, dRaise, dRetO, dSetP, dSetS, dSetF, dSeq, dIf, dNext, dCall, dCallF, dB, dBin, dCons, dNil, dTup, dLst, dV, dC, dTV, onB, dTAnd, dTOr, dTNot, dAnd, dOr, dNot, dIfE, dIsN, dNotN, isN, dSl, dSlF, dNoPart, dPart, dPar, dParS, dAsg, dgN, dgT, dgCons, dgNil, dFE, dIsi, dListF, dNeg, dRev, dFrz, dApp, dAppS, dIns, dExtend, dClear, dReverse, dPop, oIx, oI, oIC, oAddU, oSubI, oMulU, oMulI, oFd, oMd, oPw, oLt, oLe, oGt, oGe, oEq, oNe, getF, setF, Cl.d, getS, setS, purF_nil, purF_cons, purH, allF_nil, allF_cons, allH, rho0, endsOf, scalD, bLen, bAbs, bInt, bIntU, bTup, true_and, and_true, Option.some.injEq, exists_eq_left', decide_eq_true_eq, Bool.not_eq_true', decide_eq_false_iff_not, it_eQ0, it_eQ1, it_eP0, it_eP1, it_eS0, it_eS1, fits_eQ, fits_eP, fits_eS, eqv_eQ, eqv_eP, eqv_eS, eqv_int, eqv_bool, shp_int, shp_bool, shp_none, shp_eQ, shp_eP, shp_eS, dCont, dBreak, dXi, dSetG, dAppG, oIsB, oNotB, dTx, pJoin, pSplit, pPart, pStarts, bStr, bIntS, dFmt, dJs, ↓reduceIte, nsp_none, nsp_bool, nsp_int, nsp_str, nsp_list, nsp_tuple, nsp_eQ, nsp_eP, nsp_eS, dat_pu, dat_ow, seqD_l, seqD_t, not_true_eq_false, Bool.true_eq_false, Bool.not_not, List.length_cons, List.length_nil, mkP, mkS, fits_list, fits_tuple, isIntD, isBoolD, isListD, isStrD, isTupD, Bool.not_true, Bool.not_false, Bool.false_eq_true, it_l0, it_l1, it_l2, it_t0, it_t1, it_t2, shp_ps, shp_pt, shp_ss, shp_is, seqD_eQ, seqD_eP, seqD_eS, walkD_eP, walkD_eS, walkD_l, walkD_t]
        exact hE _ ⟨(t.1, p), _, ⟨ht.1, hp⟩, rfl⟩
      · exact hE _ ⟨t, w, ht, rfl⟩
    · exact hE _ ⟨t, w, ht, rfl⟩
  rintro _ ⟨t, w, ht, rfl⟩
  obtain ⟨a0, a1⟩ := fmod_b (x := xs.getD 10 default) (m := 2) (by decide)
  have c01 : (xs.getD 10 default).fmod 2 = 0 ∨ (xs.getD 10 default).fmod 2 = 1 := by omega
  refine seq_cut (fun ρ => ∃ (t : Sd) (w : Int), BdS 27 t ∧ ρ = [.pu (eS s), .pu (.list (xs.map .int)), .pu (.int m), .pu (eS t), .pu (.int w)]) (fun E _ hE => ?_) ?_
  · simp only [dRet, dRetF, dSetX, dCallX, dRetX, noOw, dTry, dCpy, dRaise, dRetO, dSetP, dSetS, dSetF, dSeq, dIf, dNext, dCall, dCallF, dB, dBin, dCons, dNil, dTup, dLst, dV, dC, dTV, onB, dTAnd, dTOr, dTNot, dAnd, dOr, dNot, dIfE, dIsN, dNotN, isN, dSl, dSlF, dNoPart, dPart, dPar, dParS, dAsg, dgN, dgT, dgCons, dgNil, dFE, dIsi, dListF, dNeg, dRev, dFrz, dApp, dAppS, dIns, dExtend, dClear, dReverse, dPop, oIx, oI, oIC, oAddU, oSubI, oMulU, oMulI, oFd, oMd, oPw, oLt, oLe, oGt, oGe, oEq, oNe, getF, setF, Cl.d, getS, setS, purF_nil, purF_cons, purH, allF_nil, allF_cons, allH, rho0, endsOf, scalD, bLen, bAbs, bInt, bIntU, bTup, true_and, and_true, Option.some.injEq, exists_eq_left', decide_eq_true_eq, Bool.not_eq_true', decide_eq_false_iff_not, it_eQ0, it_eQ1, it_eP0, it_eP1, it_eS0, it_eS1, fits_eQ, fits_eP, fits_eS, eqv_eQ, eqv_eP, eqv_eS, eqv_int, eqv_bool, shp_int, shp_bool, shp_none, shp_eQ, shp_eP, shp_eS, dCont, dBreak, dXi, dSetG, dAppG, oIsB, oNotB, dTx, pJoin, pSplit, pPart, pStarts, bStr, bIntS, dFmt, dJs, ↓reduceIte, nsp_none, nsp_bool, nsp_int, nsp_str, nsp_list, nsp_tuple, nsp_eQ, nsp_eP, nsp_eS, dat_pu, dat_ow, seqD_l, seqD_t, not_true_eq_false, Bool.true_eq_false, Bool.not_not, List.length_cons, List.length_nil, mkP, mkS, fits_list, fits_tuple, isIntD, isBoolD, isListD, isStrD, isTupD, Bool.not_true, Bool.not_false, Bool.false_eq_true, it_l0, it_l1, it_l2, it_t0, it_t1, it_t2, shp_ps, shp_pt, shp_ss, shp_is, seqD_eQ, seqD_eP, seqD_eS, walkD_eP, walkD_eS, walkD_l, walkD_t]
    split
    · refine ⟨_, it_drw 10 (by omega), by decide, ?_⟩
      rcases c01 with z | z
      · rw [z]; simp only [dRet, dRetF, dSetX, dCallX, dRetX, noOw, dTry, dCpy, dRaise, dRetO, dSetP, dSetS, dSetF, dSeq, dIf, dNext, dCall, dCallF, dB, dBin, dCons, dNil, dTup, dLst, dV, dC, dTV, onB, dTAnd, dTOr, dTNot, dAnd, dOr, dNot, dIfE, dIsN, dNotN, isN, dSl, dSlF, dNoPart, dPart, dPar, dParS, dAsg, dgN, dgT, dgCons, dgNil, dFE, dIsi, dListF, dNeg, dRev, dFrz, dApp, dAppS, dIns, dExtend, dClear, dReverse, dPop, oIx, oI, oIC, oAddU, oSubI, oMulU, oMulI, oFd, oMd, oPw, oLt, oLe, oGt, oGe, oEq, oNe, getF, setF, Cl.d, getS, setS, purF_nil, purF_cons, purH, allF_nil, allF_cons, allH, rho0, endsOf, scalD, bLen, bAbs, bInt, bIntU, bTup, true_and, and_true, Option.some.injEq, exists_eq_left', decide_eq_true_eq, Bool.not_eq_true', decide_eq_false_iff_not, it_eQ0, it_eQ1, it_eP0, it_eP1, it_eS0, it_eS1, fits_eQ, fits_eP, fits_eS, eqv_eQ, eqv_eP, eqv_eS, eqv_int, eqv_bool, shp_int, shp_bool, shp_none, shp_eQ, shp_eP, shp_eS, dCont, dBreak, dXi, dSetG, dAppG, oIsB, oNotB, dTx, pJoin, pSplit, pPart, pStarts, bStr, bIntS, dFmt, dJs, ↓reduceIte, nsp_none, nsp_bool, nsp_int, nsp_str, nsp_list, nsp_tuple, nsp_eQ, nsp_eP, nsp_eS, dat_pu, dat_ow, seqD_l, seqD_t, not_true_eq_false, Bool.true_eq_false, Bool.not_not, List.length_cons, List.length_nil, mkP, mkS, fits_list, fits_tuple, isIntD, isBoolD, isListD, isStrD, isTupD, Bool.not_true, Bool.not_false, Bool.false_eq_true, it_l0, it_l1, it_l2, it_t0, it_t1, it_t2, shp_ps, shp_pt, shp_ss, shp_is, seqD_eQ, seqD_eP, seqD_eS, walkD_eP, walkD_eS, walkD_l, walkD_t]; exact hE _ ⟨(t.1, s.1), _, ⟨ht.1, hs'.1⟩, rfl⟩
      · rw [z]; simp only [dRet, dRetF, dSetX, dCallX, dRetX, noOw, dTry, dCpy, dRaise, dRetO, dSetP, dSetS, dSetF, dSeq, dIf, dNext, dCall, dCallF, dB, dBin, dCons, dNil, dTup, dLst, dV, dC, dTV, onB, dTAnd, dTOr, dTNot, dAnd, dOr, dNot, dIfE, dIsN, dNotN, isN, dSl, dSlF, dNoPart, dPart, dPar, dParS, dAsg, dgN, dgT, dgCons, dgNil, dFE, dIsi, dListF, dNeg, dRev, dFrz, dApp, dAppS, dIns, dExtend, dClear, dReverse, dPop, oIx, oI, oIC, oAddU, oSubI, oMulU, oMulI, oFd, oMd, oPw, oLt, oLe, oGt, oGe, oEq, oNe, getF, setF, Cl.d, getS, setS, purF_nil, purF_cons, purH, allF_nil, allF_cons, allH, rho0, endsOf, scalD, bLen, bAbs, bInt, bIntU, bTup, true_and, and_true, Option.some.injEq, exists_eq_left', decide_eq_true_eq, Bool.not_eq_true', decide_eq_false_iff_not, it_eQ0, it_eQ1, it_eP0, it_eP1, it_eS0, it_eS1, fits_eQ, fits_eP, fits_eS, eqv_eQ, eqv_eP, eqv_eS, eqv_int, eqv_bool, shp_int, shp_bool, shp_none, shp_eQ, shp_eP, shp_eS, dCont, dBreak, dXi, dSetG, dAppG, oIsB, oNotB, dTx, pJoin, pSplit, pPart, pStarts, bStr, bIntS, dFmt, dJs, ↓reduceIte, nsp_none, nsp_bool, nsp_int, nsp_str, nsp_list, nsp_tuple, nsp_eQ, nsp_eP, nsp_eS, dat_pu, dat_ow, seqD_l, seqD_t, not_true_eq_false, Bool.true_eq_false, Bool.not_not, List.length_cons, List.length_nil, mkP, mkS, fits_list, fits_tuple, isIntD, isBoolD, isListD, isStrD, isTupD, Bool.not_true, Bool.not_false, Bool.false_eq_true, it_l0, it_l1, it_l2, it_t0, it_t1, it_t2, shp_ps, shp_pt, shp_ss, shp_is, seqD_eQ, seqD_eP, seqD_eS, walkD_eP, walkD_eS, walkD_l, walkD_t]; exact hE _ ⟨(t.1, s.2), _, ⟨ht.1, hs'.2⟩, rfl⟩
    · exact hE _ ⟨t, w, ht, rfl⟩
  rintro _ ⟨t, w, ht, rfl⟩
  refine seq_cut (fun ρ => ∃ (t : Sd) (w : Int), BdS 27 t ∧ ρ = [.pu (eS s), .pu (.list (xs.map .int)), .pu (.int m), .pu (eS t), .pu (.int w)]) (fun E _ hE => ?_) ?_
  · simp only [dRet, dRetF, dSetX, dCallX, dRetX, noOw, dTry, dCpy, dRaise, dRetO, dSetP, dSetS, dSetF, dSeq, dIf, dNext, dCall, dCallF, dB, dBin, dCons, dNil, dTup, dLst, dV, dC, dTV, onB, dTAnd, dTOr, dTNot, dAnd, dOr, dNot, dIfE, dIsN, dNotN, isN, dSl, dSlF, dNoPart, dPart, dPar, dParS, dAsg, dgN, dgT, dgCons, dgNil, dFE, dIsi, dListF, dNeg, dRev, dFrz, dApp, dAppS, dIns, dExtend, dClear, dReverse, dPop, oIx, oI, oIC, oAddU, oSubI, oMulU, oMulI, oFd, oMd, oPw, oLt, oLe, oGt, oGe, oEq, oNe, getF, setF, Cl.d, getS, setS, purF_nil, purF_cons, purH, allF_nil, allF_cons, allH, rho0, endsOf, scalD, bLen, bAbs, bInt, bIntU, bTup, true_and, and_true, Option.some.injEq, exists_eq_left', decide_eq_true_eq, Bool.not_eq_true', decide_eq_false_iff_not, it_eQ0, it_eQ1, it_eP0, it_eP1, it_eS0, it_eS1, fits_eQ, fits_eP, fits_eS, eqv_eQ, eqv_eP, eqv_eS, eqv_int, eqv_bool, shp_int, shp_bool, shp_none, shp_eQ, shp_eP, shp_eS, dCont, dBreak, dXi, dSetG, dAppG, oIsB, oNotB, dTx, pJoin, pSplit, pPart, pStarts, bStr, bIntS, dFmt, dJs, ↓reduceIte, nsp_none, nsp_bool, nsp_int, nsp_str, nsp_list, nsp_tuple, nsp_eQ, nsp_eP, nsp_eS, dat_pu, dat_ow, seqD_l, seqD_t, not_true_eq_false, Bool.true_eq_false, Bool.not_not, List.length_cons, List.length_nil, mkP, mkS, fits_list, fits_tuple, isIntD, isBoolD, isListD, isStrD, isTupD, Bool.not_true, Bool.not_false, Bool.false_eq_true, it_l0, it_l1, it_l2, it_t0, it_t1, it_t2, shp_ps, shp_pt, shp_ss, shp_is, seqD_eQ, seqD_eP, seqD_eS, walkD_eP, walkD_eS, walkD_l, walkD_t]
    split
    · refine ⟨_, it_drw 10 (by omega), by decide, ?_⟩
      rcases c01 with z | z
      · rw [z]; simp only [dRet, dRetF, dSetX, dCallX, dRetX, noOw, dTry, dCpy, dRaise, dRetO, dSetP, dSetS, dSetF, dSeq, dIf, dNext, dCall, dCallF, dB, dBin, dCons, dNil, dTup, dLst, dV, dC, dTV, onB, dTAnd, dTOr, dTNot, dAnd, dOr, dNot, dIfE, dIsN, dNotN, isN, dSl, dSlF, dNoPart, dPart, dPar, dParS, dAsg, dgN, dgT, dgCons, dgNil, dFE, dIsi, dListF, dNeg, dRev, dFrz, dApp, dAppS, dIns, dExtend, dClear, dReverse, dPop, oIx, oI, oIC, oAddU, oSubI, oMulU, oMulI, oFd, oMd, oPw, oLt, oLe, oGt, oGe, oEq, oNe, getF, setF, Cl.d, getS, setS, purF_nil, purF_cons, purH, allF_nil, allF_cons, allH, rho0, endsOf, scalD, bLen, bAbs, bInt, bIntU, bTup, true_and, and_true, Option.some.injEq, exists_eq_left', decide_eq_true_eq, Bool.not_eq_true', decide_eq_false_iff_not, it_eQ0, it_eQ1, it_eP0, it_eP1, it_eS0, it_eS1, fits_eQ, fits_eP, fits_eS, eqv_eQ, eqv_eP, eqv_eS, eqv_int, eqv_bool, shp_int, shp_bool, shp_none, shp_eQ, shp_eP, shp_eS, dCont, dBreak, dXi, dSetG, dAppG, oIsB, oNotB, dTx, pJoin, pSplit, pPart, pStarts, bStr, bIntS, dFmt, dJs, ↓reduceIte, nsp_none, nsp_bool, nsp_int, nsp_str, nsp_list, nsp_tuple, nsp_eQ, nsp_eP, nsp_eS, dat_pu, dat_ow, seqD_l, seqD_t, not_true_eq_false, Bool.true_eq_false, Bool.not_not, List.length_cons, List.length_nil, mkP, mkS, fits_list, fits_tuple, isIntD, isBoolD, isListD, isStrD, isTupD, Bool.not_true, Bool.not_false, Bool.false_eq_true, it_l0, it_l1, it_l2, it_t0, it_t1, it_t2, shp_ps, shp_pt, shp_ss, shp_is, seqD_eQ, seqD_eP, seqD_eS, walkD_eP, walkD_eS, walkD_l, walkD_t]; exact hE _ ⟨_, _, hs', rfl⟩
      · rw [z]; simp only [dRet, dRetF, dSetX, dCallX, dRetX, noOw, dTry, dCpy, dRaise, dRetO, dSetP, dSetS, dSetF, dSeq, dIf, dNext, dCall, dCallF, dB, dBin, dCons, dNil, dTup, dLst, dV, dC, dTV, onB, dTAnd, dTOr, dTNot, dAnd, dOr, dNot, dIfE, dIsN, dNotN, isN, dSl, dSlF, dNoPart, dPart, dPar, dParS, dAsg, dgN, dgT, dgCons, dgNil, dFE, dIsi, dListF, dNeg, dRev, dFrz, dApp, dAppS, dIns, dExtend, dClear, dReverse, dPop, oIx, oI, oIC, oAddU, oSubI, oMulU, oMulI, oFd, oMd, oPw, oLt, oLe, oGt, oGe, oEq, oNe, getF, setF, Cl.d, getS, setS, purF_nil, purF_cons, purH, allF_nil, allF_cons, allH, rho0, endsOf, scalD, bLen, bAbs, bInt, bIntU, bTup, true_and, and_true, Option.some.injEq, exists_eq_left', decide_eq_true_eq, Bool.not_eq_true', decide_eq_false_iff_not, it_eQ0, it_eQ1, it_eP0, it_eP1, it_eS0, it_eS1, fits_eQ, fits_eP, fits_eS, eqv_eQ, eqv_eP, eqv_eS, eqv_int, eqv_bool, shp_int, shp_bool, shp_none, shp_eQ, shp_eP, shp_eS, dCont, dBreak, dXi, dSetG, dAppG, oIsB, oNotB, dTx, pJoin, pSplit, pPart, pStarts, bStr, bIntS, dFmt, dJs, ↓reduceIte, nsp_none, nsp_bool, nsp_int, nsp_str, nsp_list, nsp_tuple, nsp_eQ, nsp_eP, nsp_eS, dat_pu, dat_ow, seqD_l, seqD_t, not_true_eq_false, Bool.true_eq_false, Bool.not_not, List.length_cons, List.length_nil, mkP, mkS, fits_list, fits_tuple, isIntD, isBoolD, isListD, isStrD, isTupD, Bool.not_true, Bool.not_false, Bool.false_eq_true, it_l0, it_l1, it_l2, it_t0, it_t1, it_t2, shp_ps, shp_pt, shp_ss, shp_is, seqD_eQ, seqD_eP, seqD_eS, walkD_eP, walkD_eS, walkD_l, walkD_t]; exact hE _ ⟨(s.2, s.1), _, ⟨hs'.2, hs'.1⟩, rfl⟩
    · exact hE _ ⟨t, w, ht, rfl⟩
  rintro _ ⟨t, w, ht, rfl⟩
  refine seq_cut (fun ρ => ∃ (t : Sd) (w : Int), BdS 27 t ∧ ρ = [.pu (eS s), .pu (.list (xs.map .int)), .pu (.int m), .pu (eS t), .pu (.int w)]) (fun E _ hE => ?_) ?_
  · simp only [dRet, dRetF, dSetX, dCallX, dRetX, noOw, dTry, dCpy, dRaise, dRetO, dSetP, dSetS, dSetF, dSeq, dIf, dNext, dCall, dCallF, dB, dBin, dCons, dNil, dTup, dLst, dV, dC, dTV, onB, dTAnd, dTOr, dTNot, dAnd, dOr, dNot, dIfE, dIsN, dNotN, isN, dSl, dSlF, dNoPart, dPart, dPar, dParS, dAsg, dgN, dgT, dgCons, dgNil, dFE, dIsi, dListF, dNeg, dRev, dFrz, dApp, dAppS, dIns, dExtend, dClear, dReverse, dPop, oIx, oI, oIC, oAddU, oSubI, oMulU, oMulI, oFd, oMd, oPw, oLt, oLe, oGt, oGe, oEq, oNe, getF, setF, Cl.d, getS, setS, purF_nil, purF_cons, purH, allF_nil, allF_cons, allH, rho0, endsOf, scalD, bLen, bAbs, bInt, bIntU, bTup, true_and, and_true, Option.some.injEq, exists_eq_left', decide_eq_true_eq, Bool.not_eq_true', decide_eq_false_iff_not, it_eQ0, it_eQ1, it_eP0, it_eP1, it_eS0, it_eS1, fits_eQ, fits_eP, fits_eS, eqv_eQ, eqv_eP, eqv_eS, eqv_int, eqv_bool, shp_int, shp_bool, shp_none, shp_eQ, shp_eP, shp_eS, dCont, dBreak, dXi, dSetG, dAppG, oIsB, oNotB, dTx, pJoin, pSplit, pPart, pStarts, bStr, bIntS, dFmt, dJs, ↓reduceIte, nsp_none, nsp_bool, nsp_int, nsp_str, nsp_list, nsp_tuple, nsp_eQ, nsp_eP, nsp_eS, dat_pu, dat_ow, seqD_l, seqD_t, not_true_eq_false, Bool.true_eq_false, Bool.not_not, List.length_cons, List.length_nil, mkP, mkS, fits_list, fits_tuple, isIntD, isBoolD, isListD, isStrD, isTupD, Bool.not_true, Bool.not_false, Bool.false_eq_true, it_l0, it_l1, it_l2, it_t0, it_t1, it_t2, shp_ps, shp_pt, shp_ss, shp_is, seqD_eQ, seqD_eP, seqD_eS, walkD_eP, walkD_eS, walkD_l, walkD_t]
    split
    · split
      · exact hE _ ⟨((t.1.1, s.1.2), (t.2.1, s.1.2)), _, ⟨⟨ht.1.1, hs'.1.2⟩, ht.2.1, hs'.1.2⟩, rfl⟩
      · exact hE _ ⟨t, w, ht, rfl⟩
    · exact hE _ ⟨t, w, ht, rfl⟩
  rintro _ ⟨t, w, ht, rfl⟩
  simp only [dRet, dRetF, dSetX, dCallX, dRetX, noOw, dTry, dCpy, dRaise, dRetO, dSetP, dSetS, dSetF, dSeq, dIf, dNext, dCall, dCallF, dB, dBin, dCons, dNil, dTup, dLst, dV, dC, dTV, onB, dTAnd, dTOr, dTNot, dAnd, dOr, dNot, dIfE, dIsN, dNotN, isN, dSl, dSlF, dNoPart, dPart, dPar, dParS, dAsg, dgN, dgT, dgCons, dgNil, dFE, dIsi, dListF, dNeg, dRev, dFrz, dApp, dAppS, dIns, dExtend, dClear, dReverse, dPop, oIx, oI, oIC, oAddU, oSubI, oMulU, oMulI, oFd, oMd, oPw, oLt, oLe, oGt, oGe, oEq, oNe, getF, setF, Cl.d, getS, setS, purF_nil, purF_cons, purH, allF_nil, allF_cons, allH, rho0, endsOf, scalD, bLen, bAbs, bInt, bIntU, bTup, true_and, and_true, Option.some.injEq, exists_eq_left', decide_eq_true_eq, Bool.not_eq_true', decide_eq_false_iff_not, it_eQ0, it_eQ1, it_eP0, it_eP1, it_eS0, it_eS1, fits_eQ, fits_eP, fits_eS, eqv_eQ, eqv_eP, eqv_eS, eqv_int, eqv_bool, shp_int, shp_bool, shp_none, shp_eQ, shp_eP, shp_eS, dCont, dBreak, dXi, dSetG, dAppG, oIsB, oNotB, dTx, pJoin, pSplit, pPart, pStarts, bStr, bIntS, dFmt, dJs, ↓reduceIte, nsp_none, nsp_bool, nsp_int, nsp_str, nsp_list, nsp_tuple, nsp_eQ, nsp_eP, nsp_eS, dat_pu, dat_ow, seqD_l, seqD_t, not_true_eq_false, Bool.true_eq_false, Bool.not_not, List.length_cons, List.length_nil, mkP, mkS, fits_list, fits_tuple, isIntD, isBoolD, isListD, isStrD, isTupD, Bool.not_true, Bool.not_false, Bool.false_eq_true, it_l0, it_l1, it_l2, it_t0, it_t1, it_t2, shp_ps, shp_pt, shp_ss, shp_is, seqD_eQ, seqD_eP, seqD_eS, walkD_eP, walkD_eS, walkD_l, walkD_t]
  split
  · exact h s hs' hne
  · rename_i c
    exact h t ht c
end L2.D3.K05
set_option maxHeartbeats 1000000
/-! The law of meets cut and carried: its helpers. -/
namespace L2.D3.K05
open PySem PySem.Spec PyProof.Rows L2.D3
theorem frz_cut {i : Nat} {t : DS} {E : DEnds} {ρ : Rho} {ds : List Dt} (h : getS ρ i = .ow ds) (k : t E (setS ρ i (.pu (.list ds)))) : dFrz i t E ρ := by
  unfold dFrz
  rw [h]
  exact k
theorem le4 {u : Int} (h : u.natAbs ≤ 4) : u.natAbs < 2 ^ 3 := by omega
theorem made_low (p : Pt) (u v w : Int) : Rat.divInt (u * p.1.num * (p.2.den : Int) + v * p.2.num * (p.1.den : Int) + w * (p.1.den : Int) * (p.2.den : Int)) ((p.1.den : Int) * (p.2.den : Int)) = (u : Rat) * p.1 + (v : Rat) * p.2 + (w : Rat) := by
  rw [Rat.divInt_eq_div]
  simp only [Rat.intCast_add, Rat.intCast_mul]
  have h1 := q_den p.1
  have h2 := q_den p.2
  have n1 := den_neQ p.1
  have n2 := den_neQ p.2
  rw [← h1, ← h2]
  generalize ((p.1.den : Int) : Rat) = x at *
  generalize ((p.2.den : Int) : Rat) = y at *
  grind
theorem bd_made {p : Pt} {u v w : Int} {n : Nat} (hu : u.natAbs ≤ 4) (hv : v.natAbs ≤ 4) (hw : w.natAbs ≤ 4) (hp : BdP n p) : Bd (n + n + 6) ((u : Rat) * p.1 + (v : Rat) * p.2 + (w : Rat)) := by
  rw [← made_low]
  have t1 := mul_lt2 (mul_lt2 (le4 hu) (bd_num hp.1)) (bd_den hp.2)
  have t2 := mul_lt2 (mul_lt2 (le4 hv) (bd_num hp.2)) (bd_den hp.1)
  have t3 := mul_lt2 (mul_lt2 (le4 hw) (bd_den hp.1)) (bd_den hp.2)
  have b1 := mul_lt2 (bd_den hp.1) (bd_den hp.2)
  refine bd_divInt ?_ (Nat.lt_of_lt_of_le b1 (Nat.pow_le_pow_right (by decide) (by omega))) (Int.mul_ne_zero (den_ne _) (den_ne _))
  have e1 : (2 : Nat) ^ (3 + n + n) ≤ 2 ^ (n + n + 3) := Nat.pow_le_pow_right (by decide) (by omega)
  have s1 := add_lt2 (Nat.lt_of_lt_of_le t1 e1) (Nat.lt_of_lt_of_le t2 e1)
  exact Nat.lt_of_lt_of_le (add_lt2 s1 (Nat.lt_of_lt_of_le t3 (Nat.pow_le_pow_right (by decide) (by omega)))) (Nat.pow_le_pow_right (by decide) (by omega))
theorem rd__law_made_of (ds : List Dt) (Φ : Slot → Prop) (Ξ : XD → Prop) (h : sp__law_made_of ds Φ Ξ) : d__law_made_of (endsOf Φ Ξ) (rho0 N__law_made_of ds) := by
  obtain ⟨p, u, v, w, n, rfl, hu, hv, hw, hp, hn, h⟩ := h
  have m1 := mul_lt2 (le4 hu) (bd_num hp.1)
  have m2 := mul_lt2 (le4 hv) (bd_num hp.2)
  have m3 := mul_lt2 (le4 hw) (bd_den hp.1)
  have b1 := mul_lt2 (bd_den hp.1) (bd_den hp.2)
  simp only [d__law_made_of, N__law_made_of, dgT, dRet, dRetF, dSetX, dCallX, dRetX, noOw, dTry, dCpy, dRaise, dRetO, dSetP, dSetS, dSetF, dSeq, dIf, dNext, dCall, dCallF, dB, dBin, dCons, dNil, dTup, dLst, dV, dC, dTV, onB, dTAnd, dTOr, dTNot, dAnd, dOr, dNot, dIfE, dIsN, dNotN, isN, dSl, dSlF, dNoPart, dPart, dPar, dParS, dAsg, dgN, dgT, dgCons, dgNil, dFE, dIsi, dListF, dNeg, dRev, dFrz, dApp, dAppS, dIns, dExtend, dClear, dReverse, dPop, oIx, oI, oIC, add_ii, add_ss, add_ll, add_tt, oSubI, oMulU, oMulI, oFd, oMd, oPw, oLt, oLe, oGt, oGe, oEq, oNe, getF, setF, Cl.d, getS, setS, purF_nil, purF_cons, purH, allF_nil, allF_cons, allH, rho0, endsOf, scalD, len_l, len_t, len_s, bAbs, bInt, bIntU, tup_l, tup_t, true_and, and_true, Option.some.injEq, exists_eq_left', decide_eq_true_eq, Bool.not_eq_true', decide_eq_false_iff_not, it_eQ0, it_eQ1, it_eP0, it_eP1, it_eS0, it_eS1, fits_eQ, fits_eP, fits_eS, eqv_eQ, eqv_eP, eqv_eS, eqv_int, eqv_bool, shp_int, shp_bool, shp_none, shp_eQ, shp_eP, shp_eS, dCont, dBreak, dXi, dSetG, dAppG, oIsB, oNotB, dTx, pJoin, pSplit, pPart, pStarts, bStr, bIntS, dFmt, dJs, ↓reduceIte, nsp_none, nsp_bool, nsp_int, nsp_str, nsp_list, nsp_tuple, nsp_eQ, nsp_eP, nsp_eS, dat_pu, dat_ow, seqD_l, seqD_t, not_true_eq_false, Bool.true_eq_false, Bool.not_not, List.length_cons, List.length_nil, mkP, mkS, fits_list, fits_tuple, isIntD, isBoolD, isListD, isStrD, isTupD, Bool.not_true, Bool.not_false, Bool.false_eq_true, it_l0, it_l1, it_l2, it_t0, it_t1, it_t2, shp_ps, shp_pt, shp_ss, shp_is, seqD_eQ, seqD_eP, seqD_eS, walkD_eP, walkD_eS, walkD_l, walkD_t]
  refine ⟨cm (le4 hu) (bd_num hp.1) (by omega), cm m1 (bd_den hp.2) (by omega), cm (le4 hv) (bd_num hp.2) (by omega), cm m2 (bd_den hp.1) (by omega), cm (le4 hw) (bd_den hp.1) (by omega), cm m3 (bd_den hp.2) (by omega), cm (bd_den hp.1) (bd_den hp.2) (by omega), _, _, rfl, Int.mul_ne_zero (den_ne _) (den_ne _), Nat.lt_of_lt_of_le b1 (Nat.pow_le_pow_right (by decide) (by omega)), ?_⟩
  rw [made_low]
  exact h
theorem det_ne {k : KI} (h : KOk k) : (carOf k).det ≠ 0 := by
  unfold Car.det carOf
  simp only
  intro z
  apply h.det
  have e : (((k.a * k.e - k.b * k.d : Int)) : Rat) = 0 := by
    rw [Rat.intCast_sub, Rat.intCast_mul, Rat.intCast_mul]
    exact z
  exact_mod_cast e
theorem bd_car {k : KI} {p : Pt} {n : Nat} (h : KOk k) (hp : BdP n p) : BdP (n + n + 6) ((carOf k).pt p) := ⟨bd_made h.a h.b h.c hp, bd_made h.d h.e h.f hp⟩
theorem rd__law_carried (ds : List Dt) (Φ : Slot → Prop) (Ξ : XD → Prop) (h : sp__law_carried ds Φ Ξ) : d__law_carried (endsOf Φ Ξ) (rho0 N__law_carried ds) := by
  obtain ⟨k, p, n, rfl, hk, hp, hn, h⟩ := h
  have c1 : slD (eK k) none (some 3) = some (.tuple [.int k.a, .int k.b, .int k.c]) := rfl
  have c2 : slD (eK k) (some 3) none = some (.tuple [.int k.d, .int k.e, .int k.f]) := rfl
  have fk : fitsD (eK k) := trivial
  simp only [d__law_carried, N__law_carried, c1, c2, fk, dRet, dRetF, dSetX, dCallX, dRetX, noOw, dTry, dCpy, dRaise, dRetO, dSetP, dSetS, dSetF, dSeq, dIf, dNext, dCall, dCallF, dB, dBin, dCons, dNil, dTup, dLst, dV, dC, dTV, onB, dTAnd, dTOr, dTNot, dAnd, dOr, dNot, dIfE, dIsN, dNotN, isN, dSl, dSlF, dNoPart, dPart, dPar, dParS, dAsg, dgN, dgT, dgCons, dgNil, dFE, dIsi, dListF, dNeg, dRev, dFrz, dApp, dAppS, dIns, dExtend, dClear, dReverse, dPop, oIx, oI, oIC, add_ii, add_ss, add_ll, add_tt, oSubI, oMulU, oMulI, oFd, oMd, oPw, oLt, oLe, oGt, oGe, oEq, oNe, getF, setF, Cl.d, getS, setS, purF_nil, purF_cons, purH, allF_nil, allF_cons, allH, rho0, endsOf, scalD, len_l, len_t, len_s, bAbs, bInt, bIntU, tup_l, tup_t, true_and, and_true, Option.some.injEq, exists_eq_left', decide_eq_true_eq, Bool.not_eq_true', decide_eq_false_iff_not, it_eQ0, it_eQ1, it_eP0, it_eP1, it_eS0, it_eS1, fits_eQ, fits_eP, fits_eS, eqv_eQ, eqv_eP, eqv_eS, eqv_int, eqv_bool, shp_int, shp_bool, shp_none, shp_eQ, shp_eP, shp_eS, dCont, dBreak, dXi, dSetG, dAppG, oIsB, oNotB, dTx, pJoin, pSplit, pPart, pStarts, bStr, bIntS, dFmt, dJs, ↓reduceIte, nsp_none, nsp_bool, nsp_int, nsp_str, nsp_list, nsp_tuple, nsp_eQ, nsp_eP, nsp_eS, dat_pu, dat_ow, seqD_l, seqD_t, not_true_eq_false, Bool.true_eq_false, Bool.not_not, List.length_cons, List.length_nil, mkP, mkS, fits_list, fits_tuple, isIntD, isBoolD, isListD, isStrD, isTupD, Bool.not_true, Bool.not_false, Bool.false_eq_true, it_l0, it_l1, it_l2, it_t0, it_t1, it_t2, shp_ps, shp_pt, shp_ss, shp_is, seqD_eQ, seqD_eP, seqD_eS, walkD_eP, walkD_eS, walkD_l, walkD_t]
  refine ⟨p, k.a, k.b, k.c, n, rfl, hk.a, hk.b, hk.c, hp, hn, ?_⟩
  simp only [c1, c2, fk, dRet, dRetF, dSetX, dCallX, dRetX, noOw, dTry, dCpy, dRaise, dRetO, dSetP, dSetS, dSetF, dSeq, dIf, dNext, dCall, dCallF, dB, dBin, dCons, dNil, dTup, dLst, dV, dC, dTV, onB, dTAnd, dTOr, dTNot, dAnd, dOr, dNot, dIfE, dIsN, dNotN, isN, dSl, dSlF, dNoPart, dPart, dPar, dParS, dAsg, dgN, dgT, dgCons, dgNil, dFE, dIsi, dListF, dNeg, dRev, dFrz, dApp, dAppS, dIns, dExtend, dClear, dReverse, dPop, oIx, oI, oIC, add_ii, add_ss, add_ll, add_tt, oSubI, oMulU, oMulI, oFd, oMd, oPw, oLt, oLe, oGt, oGe, oEq, oNe, getF, setF, Cl.d, getS, setS, purF_nil, purF_cons, purH, allF_nil, allF_cons, allH, rho0, endsOf, scalD, len_l, len_t, len_s, bAbs, bInt, bIntU, tup_l, tup_t, true_and, and_true, Option.some.injEq, exists_eq_left', decide_eq_true_eq, Bool.not_eq_true', decide_eq_false_iff_not, it_eQ0, it_eQ1, it_eP0, it_eP1, it_eS0, it_eS1, fits_eQ, fits_eP, fits_eS, eqv_eQ, eqv_eP, eqv_eS, eqv_int, eqv_bool, shp_int, shp_bool, shp_none, shp_eQ, shp_eP, shp_eS, dCont, dBreak, dXi, dSetG, dAppG, oIsB, oNotB, dTx, pJoin, pSplit, pPart, pStarts, bStr, bIntS, dFmt, dJs, ↓reduceIte, nsp_none, nsp_bool, nsp_int, nsp_str, nsp_list, nsp_tuple, nsp_eQ, nsp_eP, nsp_eS, dat_pu, dat_ow, seqD_l, seqD_t, not_true_eq_false, Bool.true_eq_false, Bool.not_not, List.length_cons, List.length_nil, mkP, mkS, fits_list, fits_tuple, isIntD, isBoolD, isListD, isStrD, isTupD, Bool.not_true, Bool.not_false, Bool.false_eq_true, it_l0, it_l1, it_l2, it_t0, it_t1, it_t2, shp_ps, shp_pt, shp_ss, shp_is, seqD_eQ, seqD_eP, seqD_eS, walkD_eP, walkD_eS, walkD_l, walkD_t]
  exact ⟨p, k.d, k.e, k.f, n, rfl, hk.d, hk.e, hk.f, hp, hn, h⟩
theorem rd__law_carrying (ds : List Dt) (Φ : Slot → Prop) (Ξ : XD → Prop) (h : sp__law_carrying ds Φ Ξ) : d__law_carrying (endsOf Φ Ξ) (rho0 N__law_carrying ds) := by
  obtain ⟨xs, rfl, hl, hd, h⟩ := h
  have hz : (1000 : Nat) < sizeLine := by decide
  match xs, hl, hd with
  | x0 :: x1 :: x2 :: x3 :: x4 :: x5 :: x6 :: rest, hl, hd =>
    generalize hL : (x0 :: x1 :: x2 :: x3 :: x4 :: x5 :: x6 :: rest).map PyData.int = L
    have cut : cutD L none (some 4) = [.int x0, .int x1, .int x2, .int x3] := by
      rw [← hL]
      exact cutD_to _ 4
    have i4 : itemD (.list L) 4 = some (.int x4) := by rw [← hL]; exact it_at (k := 4) rfl rfl
    have i5 : itemD (.list L) 5 = some (.int x5) := by rw [← hL]; exact it_at (k := 5) rfl rfl
    have i6 : itemD (.list L) 6 = some (.int x6) := by rw [← hL]; exact it_at (k := 6) rfl rfl
    have f0 := fmod_b (x := x0) (m := 5) (by decide)
    have f1 := fmod_b (x := x1) (m := 5) (by decide)
    have f2 := fmod_b (x := x2) (m := 5) (by decide)
    have f3 := fmod_b (x := x3) (m := 5) (by decide)
    have f4 := fmod_b (x := x4) (m := 3) (by decide)
    have f5 := fmod_b (x := x5) (m := 9) (by decide)
    have f6 := fmod_b (x := x6) (m := 9) (by decide)
    show dSeq _ _ _ [.pu (.list L), .un, .un]
    refine seq_cut (fun ρ => ρ = [.pu (.list L), .ow ([x0.fmod 5 - 2, x1.fmod 5 - 2, x2.fmod 5 - 2, x3.fmod 5 - 2].map .int), .un]) (fun E _ hE => ?_) ?_
    · refine dLc_mapM (xs := [x0, x1, x2, x3]) (e := .int) (fun Q hQ => ?_) (fun x => .int (x.fmod 5 - 2)) (by show 4 ≤ sizeLine; omega) (fun x _ Ψ hΨ => ?_) ?_
      · simp only [diSeq, sl_l, cut, dRet, dRetF, dSetX, dCallX, dRetX, noOw, dTry, dCpy, dRaise, dRetO, dSetP, dSetS, dSetF, dSeq, dIf, dNext, dCall, dCallF, dB, dBin, dCons, dNil, dTup, dLst, dV, dC, dTV, onB, dTAnd, dTOr, dTNot, dAnd, dOr, dNot, dIfE, dIsN, dNotN, isN, dSl, dSlF, dNoPart, dPart, dPar, dParS, dAsg, dgN, dgT, dgCons, dgNil, dFE, dIsi, dListF, dNeg, dRev, dFrz, dApp, dAppS, dIns, dExtend, dClear, dReverse, dPop, oIx, oI, oIC, add_ii, add_ss, add_ll, add_tt, oSubI, oMulU, oMulI, oFd, oMd, oPw, oLt, oLe, oGt, oGe, oEq, oNe, getF, setF, Cl.d, getS, setS, purF_nil, purF_cons, purH, allF_nil, allF_cons, allH, rho0, endsOf, scalD, len_l, len_t, len_s, bAbs, bInt, bIntU, tup_l, tup_t, true_and, and_true, Option.some.injEq, exists_eq_left', decide_eq_true_eq, Bool.not_eq_true', decide_eq_false_iff_not, it_eQ0, it_eQ1, it_eP0, it_eP1, it_eS0, it_eS1, fits_eQ, fits_eP, fits_eS, eqv_eQ, eqv_eP, eqv_eS, eqv_int, eqv_bool, shp_int, shp_bool, shp_none, shp_eQ, shp_eP, shp_eS, dCont, dBreak, dXi, dSetG, dAppG, oIsB, oNotB, dTx, pJoin, pSplit, pPart, pStarts, bStr, bIntS, dFmt, dJs, ↓reduceIte, nsp_none, nsp_bool, nsp_int, nsp_str, nsp_list, nsp_tuple, nsp_eQ, nsp_eP, nsp_eS, dat_pu, dat_ow, seqD_l, seqD_t, not_true_eq_false, Bool.true_eq_false, Bool.not_not, List.length_cons, List.length_nil, mkP, mkS, fits_list, fits_tuple, isIntD, isBoolD, isListD, isStrD, isTupD, Bool.not_true, Bool.not_false, Bool.false_eq_true, it_l0, it_l1, it_l2, it_t0, it_t1, it_t2, shp_ps, shp_pt, shp_ss, shp_is, seqD_eQ, seqD_eP, seqD_eS, walkD_eP, walkD_eS, walkD_l, walkD_t]
        exact hQ
      · simp only [dcN, wipeF, noneF, dRet, dRetF, dSetX, dCallX, dRetX, noOw, dTry, dCpy, dRaise, dRetO, dSetP, dSetS, dSetF, dSeq, dIf, dNext, dCall, dCallF, dB, dBin, dCons, dNil, dTup, dLst, dV, dC, dTV, onB, dTAnd, dTOr, dTNot, dAnd, dOr, dNot, dIfE, dIsN, dNotN, isN, dSl, dSlF, dNoPart, dPart, dPar, dParS, dAsg, dgN, dgT, dgCons, dgNil, dFE, dIsi, dListF, dNeg, dRev, dFrz, dApp, dAppS, dIns, dExtend, dClear, dReverse, dPop, oIx, oI, oIC, add_ii, add_ss, add_ll, add_tt, oSubI, oMulU, oMulI, oFd, oMd, oPw, oLt, oLe, oGt, oGe, oEq, oNe, getF, setF, Cl.d, getS, setS, purF_nil, purF_cons, purH, allF_nil, allF_cons, allH, rho0, endsOf, scalD, len_l, len_t, len_s, bAbs, bInt, bIntU, tup_l, tup_t, true_and, and_true, Option.some.injEq, exists_eq_left', decide_eq_true_eq, Bool.not_eq_true', decide_eq_false_iff_not, it_eQ0, it_eQ1, it_eP0, it_eP1, it_eS0, it_eS1, fits_eQ, fits_eP, fits_eS, eqv_eQ, eqv_eP, eqv_eS, eqv_int, eqv_bool, shp_int, shp_bool, shp_none, shp_eQ, shp_eP, shp_eS, dCont, dBreak, dXi, dSetG, dAppG, oIsB, oNotB, dTx, pJoin, pSplit, pPart, pStarts, bStr, bIntS, dFmt, dJs, ↓reduceIte, nsp_none, nsp_bool, nsp_int, nsp_str, nsp_list, nsp_tuple, nsp_eQ, nsp_eP, nsp_eS, dat_pu, dat_ow, seqD_l, seqD_t, not_true_eq_false, Bool.true_eq_false, Bool.not_not, List.length_cons, List.length_nil, mkP, mkS, fits_list, fits_tuple, isIntD, isBoolD, isListD, isStrD, isTupD, Bool.not_true, Bool.not_false, Bool.false_eq_true, it_l0, it_l1, it_l2, it_t0, it_t1, it_t2, shp_ps, shp_pt, shp_ss, shp_is, seqD_eQ, seqD_eP, seqD_eS, walkD_eP, walkD_eS, walkD_l, walkD_t]
        exact ⟨by decide, hΨ⟩
      · exact hE _ rfl
    rintro _ rfl
    refine frz_cut rfl ?_
    show dSeq _ _ _ [.pu (.list L), .pu (.list ([x0.fmod 5 - 2, x1.fmod 5 - 2, x2.fmod 5 - 2, x3.fmod 5 - 2].map .int)), .un]
    generalize hy0 : x0.fmod 5 - 2 = y0 at *
    generalize hy1 : x1.fmod 5 - 2 = y1 at *
    generalize hy2 : x2.fmod 5 - 2 = y2 at *
    generalize hy3 : x3.fmod 5 - 2 = y3 at *
    have j0 : ∀ a b c d : Dt, itemD (.list [a, b, c, d]) 0 = some a := fun a b c d => rfl
    have j1 : ∀ a b c d : Dt, itemD (.list [a, b, c, d]) 1 = some b := fun a b c d => rfl
    have j2 : ∀ a b c d : Dt, itemD (.list [a, b, c, d]) 2 = some c := fun a b c d => rfl
    have j3 : ∀ a b c d : Dt, itemD (.list [a, b, c, d]) 3 = some d := fun a b c d => rfl
    refine seq_cut (fun ρ => ∃ a b c d : Int, a.natAbs ≤ 2 ∧ b.natAbs ≤ 2 ∧ c.natAbs ≤ 2 ∧ d.natAbs ≤ 2 ∧ a * d - b * c ≠ 0 ∧ ρ = [.pu (.list L), .pu (.list [.int a, .int b, .int c, .int d]), .un]) (fun E _ hE => ?_) ?_
    · simp only [List.map_cons, List.map_nil, j0, j1, j2, j3, i4, dRet, dRetF, dSetX, dCallX, dRetX, noOw, dTry, dCpy, dRaise, dRetO, dSetP, dSetS, dSetF, dSeq, dIf, dNext, dCall, dCallF, dB, dBin, dCons, dNil, dTup, dLst, dV, dC, dTV, onB, dTAnd, dTOr, dTNot, dAnd, dOr, dNot, dIfE, dIsN, dNotN, isN, dSl, dSlF, dNoPart, dPart, dPar, dParS, dAsg, dgN, dgT, dgCons, dgNil, dFE, dIsi, dListF, dNeg, dRev, dFrz, dApp, dAppS, dIns, dExtend, dClear, dReverse, dPop, oIx, oI, oIC, add_ii, add_ss, add_ll, add_tt, oSubI, oMulU, oMulI, oFd, oMd, oPw, oLt, oLe, oGt, oGe, oEq, oNe, getF, setF, Cl.d, getS, setS, purF_nil, purF_cons, purH, allF_nil, allF_cons, allH, rho0, endsOf, scalD, len_l, len_t, len_s, bAbs, bInt, bIntU, tup_l, tup_t, true_and, and_true, Option.some.injEq, exists_eq_left', decide_eq_true_eq, Bool.not_eq_true', decide_eq_false_iff_not, it_eQ0, it_eQ1, it_eP0, it_eP1, it_eS0, it_eS1, fits_eQ, fits_eP, fits_eS, eqv_eQ, eqv_eP, eqv_eS, eqv_int, eqv_bool, shp_int, shp_bool, shp_none, shp_eQ, shp_eP, shp_eS, dCont, dBreak, dXi, dSetG, dAppG, oIsB, oNotB, dTx, pJoin, pSplit, pPart, pStarts, bStr, bIntS, dFmt, dJs, ↓reduceIte, nsp_none, nsp_bool, nsp_int, nsp_str, nsp_list, nsp_tuple, nsp_eQ, nsp_eP, nsp_eS, dat_pu, dat_ow, seqD_l, seqD_t, not_true_eq_false, Bool.true_eq_false, Bool.not_not, List.length_cons, List.length_nil, mkP, mkS, fits_list, fits_tuple, isIntD, isBoolD, isListD, isStrD, isTupD, Bool.not_true, Bool.not_false, Bool.false_eq_true, it_l0, it_l1, it_l2, it_t0, it_t1, it_t2, shp_ps, shp_pt, shp_ss, shp_is, seqD_eQ, seqD_eP, seqD_eS, walkD_eP, walkD_eS, walkD_l, walkD_t]
      refine ⟨cmN (by omega) (by omega), cmN (by omega) (by omega), ?_⟩
      by_cases c : y0 * y3 = y1 * y2
      · refine ite_yes c ?_
        refine ⟨by decide, ?_⟩
        have h3 : x4.fmod 3 = 0 ∨ x4.fmod 3 = 1 ∨ x4.fmod 3 = 2 := by omega
        rcases h3 with e | e | e <;> rw [e]
        · exact ⟨_, rfl, hE _ ⟨1, 0, 0, 1, by decide, by decide, by decide, by decide, by decide, rfl⟩⟩
        · exact ⟨_, rfl, hE _ ⟨0, 1, 1, 0, by decide, by decide, by decide, by decide, by decide, rfl⟩⟩
        · exact ⟨_, rfl, hE _ ⟨0, -1, 1, 0, by decide, by decide, by decide, by decide, by decide, rfl⟩⟩
      · refine ite_no c ?_
        exact hE _ ⟨y0, y1, y2, y3, by omega, by omega, by omega, by omega, by omega, rfl⟩
    rintro _ ⟨a, b, c, d, ha, hb, hc, hd2, hdet, rfl⟩
    simp only [j0, j1, j2, j3, i5, i6, dRet, dRetF, dSetX, dCallX, dRetX, noOw, dTry, dCpy, dRaise, dRetO, dSetP, dSetS, dSetF, dSeq, dIf, dNext, dCall, dCallF, dB, dBin, dCons, dNil, dTup, dLst, dV, dC, dTV, onB, dTAnd, dTOr, dTNot, dAnd, dOr, dNot, dIfE, dIsN, dNotN, isN, dSl, dSlF, dNoPart, dPart, dPar, dParS, dAsg, dgN, dgT, dgCons, dgNil, dFE, dIsi, dListF, dNeg, dRev, dFrz, dApp, dAppS, dIns, dExtend, dClear, dReverse, dPop, oIx, oI, oIC, add_ii, add_ss, add_ll, add_tt, oSubI, oMulU, oMulI, oFd, oMd, oPw, oLt, oLe, oGt, oGe, oEq, oNe, getF, setF, Cl.d, getS, setS, purF_nil, purF_cons, purH, allF_nil, allF_cons, allH, rho0, endsOf, scalD, len_l, len_t, len_s, bAbs, bInt, bIntU, tup_l, tup_t, true_and, and_true, Option.some.injEq, exists_eq_left', decide_eq_true_eq, Bool.not_eq_true', decide_eq_false_iff_not, it_eQ0, it_eQ1, it_eP0, it_eP1, it_eS0, it_eS1, fits_eQ, fits_eP, fits_eS, eqv_eQ, eqv_eP, eqv_eS, eqv_int, eqv_bool, shp_int, shp_bool, shp_none, shp_eQ, shp_eP, shp_eS, dCont, dBreak, dXi, dSetG, dAppG, oIsB, oNotB, dTx, pJoin, pSplit, pPart, pStarts, bStr, bIntS, dFmt, dJs, ↓reduceIte, nsp_none, nsp_bool, nsp_int, nsp_str, nsp_list, nsp_tuple, nsp_eQ, nsp_eP, nsp_eS, dat_pu, dat_ow, seqD_l, seqD_t, not_true_eq_false, Bool.true_eq_false, Bool.not_not, List.length_cons, List.length_nil, mkP, mkS, fits_list, fits_tuple, isIntD, isBoolD, isListD, isStrD, isTupD, Bool.not_true, Bool.not_false, Bool.false_eq_true, it_l0, it_l1, it_l2, it_t0, it_t1, it_t2, shp_ps, shp_pt, shp_ss, shp_is, seqD_eQ, seqD_eP, seqD_eS, walkD_eP, walkD_eS, walkD_l, walkD_t]
    refine ⟨by decide, by decide, ?_⟩
    exact h ⟨a, b, x5.fmod 9 - 4, c, d, x6.fmod 9 - 4⟩ ⟨by show a.natAbs ≤ 4; omega, by show b.natAbs ≤ 4; omega, by show (x5.fmod 9 - 4).natAbs ≤ 4; omega, by show c.natAbs ≤ 4; omega, by show d.natAbs ≤ 4; omega, by show (x6.fmod 9 - 4).natAbs ≤ 4; omega, hdet⟩
theorem shp_stretch : SeqAt.shaped (.str "stretch") = true := shp_str (by decide +kernel)
theorem rd__law_told (ds : List Dt) (Φ : Slot → Prop) (Ξ : XD → Prop) (h : sp__law_told ds Φ Ξ) : d__law_told (endsOf Φ Ξ) (rho0 N__law_told ds) := by
  obtain ⟨k, m, n, rfl, hk, hm, hn, h⟩ := h
  have hz : (1000 : Nat) < sizeLine := by decide
  cases m with
  | no =>
    simp only [d__law_told, N__law_told, eM, isN, dRet, dRetF, dSetX, dCallX, dRetX, noOw, dTry, dCpy, dRaise, dRetO, dSetP, dSetS, dSetF, dSeq, dIf, dNext, dCall, dCallF, dB, dBin, dCons, dNil, dTup, dLst, dV, dC, dTV, onB, dTAnd, dTOr, dTNot, dAnd, dOr, dNot, dIfE, dIsN, dNotN, isN, dSl, dSlF, dNoPart, dPart, dPar, dParS, dAsg, dgN, dgT, dgCons, dgNil, dFE, dIsi, dListF, dNeg, dRev, dFrz, dApp, dAppS, dIns, dExtend, dClear, dReverse, dPop, oIx, oI, oIC, oAddU, oSubI, oMulU, oMulI, oFd, oMd, oPw, oLt, oLe, oGt, oGe, oEq, oNe, getF, setF, Cl.d, getS, setS, purF_nil, purF_cons, purH, allF_nil, allF_cons, allH, rho0, endsOf, scalD, bLen, bAbs, bInt, bIntU, bTup, true_and, and_true, Option.some.injEq, exists_eq_left', decide_eq_true_eq, Bool.not_eq_true', decide_eq_false_iff_not, it_eQ0, it_eQ1, it_eP0, it_eP1, it_eS0, it_eS1, fits_eQ, fits_eP, fits_eS, eqv_eQ, eqv_eP, eqv_eS, eqv_int, eqv_bool, shp_int, shp_bool, shp_none, shp_eQ, shp_eP, shp_eS, dCont, dBreak, dXi, dSetG, dAppG, oIsB, oNotB, dTx, pJoin, pSplit, pPart, pStarts, bStr, bIntS, dFmt, dJs, ↓reduceIte, nsp_none, nsp_bool, nsp_int, nsp_str, nsp_list, nsp_tuple, nsp_eQ, nsp_eP, nsp_eS, dat_pu, dat_ow, seqD_l, seqD_t, not_true_eq_false, Bool.true_eq_false, Bool.not_not, List.length_cons, List.length_nil, mkP, mkS, fits_list, fits_tuple, isIntD, isBoolD, isListD, isStrD, isTupD, Bool.not_true, Bool.not_false, Bool.false_eq_true, it_l0, it_l1, it_l2, it_t0, it_t1, it_t2, shp_ps, shp_pt, shp_ss, shp_is, seqD_eQ, seqD_eP, seqD_eS, walkD_eP, walkD_eS, walkD_l, walkD_t]
    exact h
  | pt p =>
    have bp := hm p List.mem_cons_self
    show dSeq _ _ _ [.pu (eK k), .pu (.tuple [.str "point", eP p]), .un, .un]
    refine seq_cut (fun ρ => ρ = [.pu (eK k), .pu (.tuple [.str "point", eP p]), .un, .un]) (fun E _ hE => ?_) ?_
    · simp only [isN, dRet, dRetF, dSetX, dCallX, dRetX, noOw, dTry, dCpy, dRaise, dRetO, dSetP, dSetS, dSetF, dSeq, dIf, dNext, dCall, dCallF, dB, dBin, dCons, dNil, dTup, dLst, dV, dC, dTV, onB, dTAnd, dTOr, dTNot, dAnd, dOr, dNot, dIfE, dIsN, dNotN, isN, dSl, dSlF, dNoPart, dPart, dPar, dParS, dAsg, dgN, dgT, dgCons, dgNil, dFE, dIsi, dListF, dNeg, dRev, dFrz, dApp, dAppS, dIns, dExtend, dClear, dReverse, dPop, oIx, oI, oIC, oAddU, oSubI, oMulU, oMulI, oFd, oMd, oPw, oLt, oLe, oGt, oGe, oEq, oNe, getF, setF, Cl.d, getS, setS, purF_nil, purF_cons, purH, allF_nil, allF_cons, allH, rho0, endsOf, scalD, bLen, bAbs, bInt, bIntU, bTup, true_and, and_true, Option.some.injEq, exists_eq_left', decide_eq_true_eq, Bool.not_eq_true', decide_eq_false_iff_not, it_eQ0, it_eQ1, it_eP0, it_eP1, it_eS0, it_eS1, fits_eQ, fits_eP, fits_eS, eqv_eQ, eqv_eP, eqv_eS, eqv_int, eqv_bool, shp_int, shp_bool, shp_none, shp_eQ, shp_eP, shp_eS, dCont, dBreak, dXi, dSetG, dAppG, oIsB, oNotB, dTx, pJoin, pSplit, pPart, pStarts, bStr, bIntS, dFmt, dJs, ↓reduceIte, nsp_none, nsp_bool, nsp_int, nsp_str, nsp_list, nsp_tuple, nsp_eQ, nsp_eP, nsp_eS, dat_pu, dat_ow, seqD_l, seqD_t, not_true_eq_false, Bool.true_eq_false, Bool.not_not, List.length_cons, List.length_nil, mkP, mkS, fits_list, fits_tuple, isIntD, isBoolD, isListD, isStrD, isTupD, Bool.not_true, Bool.not_false, Bool.false_eq_true, it_l0, it_l1, it_l2, it_t0, it_t1, it_t2, shp_ps, shp_pt, shp_ss, shp_is, seqD_eQ, seqD_eP, seqD_eS, walkD_eP, walkD_eS, walkD_l, walkD_t]
      exact hE _ rfl
    rintro _ rfl
    refine seq_cut (fun ρ => ρ = [.pu (eK k), .pu (.tuple [.str "point", eP p]), .ow [eP ((carOf k).pt p)], .un]) (fun E _ hE => ?_) ?_
    · refine dLc_mapM (xs := [p]) (e := eP) (fun Q hQ => ?_) (fun p => eP ((carOf k).pt p)) (by show 1 ≤ sizeLine; omega) (fun q hq Ψ hΨ => ?_) ?_
      · have c : slD (.tuple [.str "point", eP p]) (some 1) none = some (.tuple [eP p]) := rfl
        simp only [diSeq, c, dRet, dRetF, dSetX, dCallX, dRetX, noOw, dTry, dCpy, dRaise, dRetO, dSetP, dSetS, dSetF, dSeq, dIf, dNext, dCall, dCallF, dB, dBin, dCons, dNil, dTup, dLst, dV, dC, dTV, onB, dTAnd, dTOr, dTNot, dAnd, dOr, dNot, dIfE, dIsN, dNotN, isN, dSl, dSlF, dNoPart, dPart, dPar, dParS, dAsg, dgN, dgT, dgCons, dgNil, dFE, dIsi, dListF, dNeg, dRev, dFrz, dApp, dAppS, dIns, dExtend, dClear, dReverse, dPop, oIx, oI, oIC, add_ii, add_ss, add_ll, add_tt, oSubI, oMulU, oMulI, oFd, oMd, oPw, oLt, oLe, oGt, oGe, oEq, oNe, getF, setF, Cl.d, getS, setS, purF_nil, purF_cons, purH, allF_nil, allF_cons, allH, rho0, endsOf, scalD, len_l, len_t, len_s, bAbs, bInt, bIntU, tup_l, tup_t, true_and, and_true, Option.some.injEq, exists_eq_left', decide_eq_true_eq, Bool.not_eq_true', decide_eq_false_iff_not, it_eQ0, it_eQ1, it_eP0, it_eP1, it_eS0, it_eS1, fits_eQ, fits_eP, fits_eS, eqv_eQ, eqv_eP, eqv_eS, eqv_int, eqv_bool, shp_int, shp_bool, shp_none, shp_eQ, shp_eP, shp_eS, dCont, dBreak, dXi, dSetG, dAppG, oIsB, oNotB, dTx, pJoin, pSplit, pPart, pStarts, bStr, bIntS, dFmt, dJs, ↓reduceIte, nsp_none, nsp_bool, nsp_int, nsp_str, nsp_list, nsp_tuple, nsp_eQ, nsp_eP, nsp_eS, dat_pu, dat_ow, seqD_l, seqD_t, not_true_eq_false, Bool.true_eq_false, Bool.not_not, List.length_cons, List.length_nil, mkP, mkS, fits_list, fits_tuple, isIntD, isBoolD, isListD, isStrD, isTupD, Bool.not_true, Bool.not_false, Bool.false_eq_true, it_l0, it_l1, it_l2, it_t0, it_t1, it_t2, shp_ps, shp_pt, shp_ss, shp_is, seqD_eQ, seqD_eP, seqD_eS, walkD_eP, walkD_eS, walkD_l, walkD_t]
        exact hQ
      · rw [List.mem_singleton.mp hq] at hΨ ⊢
        simp only [dcN, wipeF, noneF, dRet, dRetF, dSetX, dCallX, dRetX, noOw, dTry, dCpy, dRaise, dRetO, dSetP, dSetS, dSetF, dSeq, dIf, dNext, dCall, dCallF, dB, dBin, dCons, dNil, dTup, dLst, dV, dC, dTV, onB, dTAnd, dTOr, dTNot, dAnd, dOr, dNot, dIfE, dIsN, dNotN, isN, dSl, dSlF, dNoPart, dPart, dPar, dParS, dAsg, dgN, dgT, dgCons, dgNil, dFE, dIsi, dListF, dNeg, dRev, dFrz, dApp, dAppS, dIns, dExtend, dClear, dReverse, dPop, oIx, oI, oIC, add_ii, add_ss, add_ll, add_tt, oSubI, oMulU, oMulI, oFd, oMd, oPw, oLt, oLe, oGt, oGe, oEq, oNe, getF, setF, Cl.d, getS, setS, purF_nil, purF_cons, purH, allF_nil, allF_cons, allH, rho0, endsOf, scalD, len_l, len_t, len_s, bAbs, bInt, bIntU, tup_l, tup_t, true_and, and_true, Option.some.injEq, exists_eq_left', decide_eq_true_eq, Bool.not_eq_true', decide_eq_false_iff_not, it_eQ0, it_eQ1, it_eP0, it_eP1, it_eS0, it_eS1, fits_eQ, fits_eP, fits_eS, eqv_eQ, eqv_eP, eqv_eS, eqv_int, eqv_bool, shp_int, shp_bool, shp_none, shp_eQ, shp_eP, shp_eS, dCont, dBreak, dXi, dSetG, dAppG, oIsB, oNotB, dTx, pJoin, pSplit, pPart, pStarts, bStr, bIntS, dFmt, dJs, ↓reduceIte, nsp_none, nsp_bool, nsp_int, nsp_str, nsp_list, nsp_tuple, nsp_eQ, nsp_eP, nsp_eS, dat_pu, dat_ow, seqD_l, seqD_t, not_true_eq_false, Bool.true_eq_false, Bool.not_not, List.length_cons, List.length_nil, mkP, mkS, fits_list, fits_tuple, isIntD, isBoolD, isListD, isStrD, isTupD, Bool.not_true, Bool.not_false, Bool.false_eq_true, it_l0, it_l1, it_l2, it_t0, it_t1, it_t2, shp_ps, shp_pt, shp_ss, shp_is, seqD_eQ, seqD_eP, seqD_eS, walkD_eP, walkD_eS, walkD_l, walkD_t]
        exact ⟨k, p, n, rfl, hk, bp, hn, hΨ⟩
      · exact hE _ rfl
    rintro _ rfl
    refine frz_cut rfl ?_
    have ne : ¬ (("point" : Str) = "stretch") := ps_ne
    simp only [shp_point, shp_stretch, eqv_str, ne, dRet, dRetF, dSetX, dCallX, dRetX, noOw, dTry, dCpy, dRaise, dRetO, dSetP, dSetS, dSetF, dSeq, dIf, dNext, dCall, dCallF, dB, dBin, dCons, dNil, dTup, dLst, dV, dC, dTV, onB, dTAnd, dTOr, dTNot, dAnd, dOr, dNot, dIfE, dIsN, dNotN, isN, dSl, dSlF, dNoPart, dPart, dPar, dParS, dAsg, dgN, dgT, dgCons, dgNil, dFE, dIsi, dListF, dNeg, dRev, dFrz, dApp, dAppS, dIns, dExtend, dClear, dReverse, dPop, oIx, oI, oIC, add_ii, add_ss, add_ll, add_tt, oSubI, oMulU, oMulI, oFd, oMd, oPw, oLt, oLe, oGt, oGe, oEq, oNe, getF, setF, Cl.d, getS, setS, purF_nil, purF_cons, purH, allF_nil, allF_cons, allH, rho0, endsOf, scalD, len_l, len_t, len_s, bAbs, bInt, bIntU, tup_l, tup_t, true_and, and_true, Option.some.injEq, exists_eq_left', decide_eq_true_eq, Bool.not_eq_true', decide_eq_false_iff_not, it_eQ0, it_eQ1, it_eP0, it_eP1, it_eS0, it_eS1, fits_eQ, fits_eP, fits_eS, eqv_eQ, eqv_eP, eqv_eS, eqv_int, eqv_bool, shp_int, shp_bool, shp_none, shp_eQ, shp_eP, shp_eS, dCont, dBreak, dXi, dSetG, dAppG, oIsB, oNotB, dTx, pJoin, pSplit, pPart, pStarts, bStr, bIntS, dFmt, dJs, ↓reduceIte, nsp_none, nsp_bool, nsp_int, nsp_str, nsp_list, nsp_tuple, nsp_eQ, nsp_eP, nsp_eS, dat_pu, dat_ow, seqD_l, seqD_t, not_true_eq_false, Bool.true_eq_false, Bool.not_not, List.length_cons, List.length_nil, mkP, mkS, fits_list, fits_tuple, isIntD, isBoolD, isListD, isStrD, isTupD, Bool.not_true, Bool.not_false, Bool.false_eq_true, it_l0, it_l1, it_l2, it_t0, it_t1, it_t2, shp_ps, shp_pt, shp_ss, shp_is, seqD_eQ, seqD_eP, seqD_eS, walkD_eP, walkD_eS, walkD_l, walkD_t]
    exact ⟨by show 1 + 1 ≤ sizeLine; omega, h⟩
  | st a b =>
    have ba := hm a List.mem_cons_self
    have bb := hm b (List.mem_cons_of_mem _ List.mem_cons_self)
    have ca := bd_car hk ba
    have cb := bd_car hk bb
    show dSeq _ _ _ [.pu (eK k), .pu (.tuple [.str "stretch", eP a, eP b]), .un, .un]
    refine seq_cut (fun ρ => ρ = [.pu (eK k), .pu (.tuple [.str "stretch", eP a, eP b]), .un, .un]) (fun E _ hE => ?_) ?_
    · simp only [isN, dRet, dRetF, dSetX, dCallX, dRetX, noOw, dTry, dCpy, dRaise, dRetO, dSetP, dSetS, dSetF, dSeq, dIf, dNext, dCall, dCallF, dB, dBin, dCons, dNil, dTup, dLst, dV, dC, dTV, onB, dTAnd, dTOr, dTNot, dAnd, dOr, dNot, dIfE, dIsN, dNotN, isN, dSl, dSlF, dNoPart, dPart, dPar, dParS, dAsg, dgN, dgT, dgCons, dgNil, dFE, dIsi, dListF, dNeg, dRev, dFrz, dApp, dAppS, dIns, dExtend, dClear, dReverse, dPop, oIx, oI, oIC, oAddU, oSubI, oMulU, oMulI, oFd, oMd, oPw, oLt, oLe, oGt, oGe, oEq, oNe, getF, setF, Cl.d, getS, setS, purF_nil, purF_cons, purH, allF_nil, allF_cons, allH, rho0, endsOf, scalD, bLen, bAbs, bInt, bIntU, bTup, true_and, and_true, Option.some.injEq, exists_eq_left', decide_eq_true_eq, Bool.not_eq_true', decide_eq_false_iff_not, it_eQ0, it_eQ1, it_eP0, it_eP1, it_eS0, it_eS1, fits_eQ, fits_eP, fits_eS, eqv_eQ, eqv_eP, eqv_eS, eqv_int, eqv_bool, shp_int, shp_bool, shp_none, shp_eQ, shp_eP, shp_eS, dCont, dBreak, dXi, dSetG, dAppG, oIsB, oNotB, dTx, pJoin, pSplit, pPart, pStarts, bStr, bIntS, dFmt, dJs, ↓reduceIte, nsp_none, nsp_bool, nsp_int, nsp_str, nsp_list, nsp_tuple, nsp_eQ, nsp_eP, nsp_eS, dat_pu, dat_ow, seqD_l, seqD_t, not_true_eq_false, Bool.true_eq_false, Bool.not_not, List.length_cons, List.length_nil, mkP, mkS, fits_list, fits_tuple, isIntD, isBoolD, isListD, isStrD, isTupD, Bool.not_true, Bool.not_false, Bool.false_eq_true, it_l0, it_l1, it_l2, it_t0, it_t1, it_t2, shp_ps, shp_pt, shp_ss, shp_is, seqD_eQ, seqD_eP, seqD_eS, walkD_eP, walkD_eS, walkD_l, walkD_t]
      exact hE _ rfl
    rintro _ rfl
    refine seq_cut (fun ρ => ρ = [.pu (eK k), .pu (.tuple [.str "stretch", eP a, eP b]), .ow [eP ((carOf k).pt a), eP ((carOf k).pt b)], .un]) (fun E _ hE => ?_) ?_
    · refine dLc_mapM (xs := [a, b]) (e := eP) (fun Q hQ => ?_) (fun p => eP ((carOf k).pt p)) (by show 2 ≤ sizeLine; omega) (fun q hq Ψ hΨ => ?_) ?_
      · have c : slD (.tuple [.str "stretch", eP a, eP b]) (some 1) none = some (.tuple [eP a, eP b]) := rfl
        simp only [diSeq, c, dRet, dRetF, dSetX, dCallX, dRetX, noOw, dTry, dCpy, dRaise, dRetO, dSetP, dSetS, dSetF, dSeq, dIf, dNext, dCall, dCallF, dB, dBin, dCons, dNil, dTup, dLst, dV, dC, dTV, onB, dTAnd, dTOr, dTNot, dAnd, dOr, dNot, dIfE, dIsN, dNotN, isN, dSl, dSlF, dNoPart, dPart, dPar, dParS, dAsg, dgN, dgT, dgCons, dgNil, dFE, dIsi, dListF, dNeg, dRev, dFrz, dApp, dAppS, dIns, dExtend, dClear, dReverse, dPop, oIx, oI, oIC, add_ii, add_ss, add_ll, add_tt, oSubI, oMulU, oMulI, oFd, oMd, oPw, oLt, oLe, oGt, oGe, oEq, oNe, getF, setF, Cl.d, getS, setS, purF_nil, purF_cons, purH, allF_nil, allF_cons, allH, rho0, endsOf, scalD, len_l, len_t, len_s, bAbs, bInt, bIntU, tup_l, tup_t, true_and, and_true, Option.some.injEq, exists_eq_left', decide_eq_true_eq, Bool.not_eq_true', decide_eq_false_iff_not, it_eQ0, it_eQ1, it_eP0, it_eP1, it_eS0, it_eS1, fits_eQ, fits_eP, fits_eS, eqv_eQ, eqv_eP, eqv_eS, eqv_int, eqv_bool, shp_int, shp_bool, shp_none, shp_eQ, shp_eP, shp_eS, dCont, dBreak, dXi, dSetG, dAppG, oIsB, oNotB, dTx, pJoin, pSplit, pPart, pStarts, bStr, bIntS, dFmt, dJs, ↓reduceIte, nsp_none, nsp_bool, nsp_int, nsp_str, nsp_list, nsp_tuple, nsp_eQ, nsp_eP, nsp_eS, dat_pu, dat_ow, seqD_l, seqD_t, not_true_eq_false, Bool.true_eq_false, Bool.not_not, List.length_cons, List.length_nil, mkP, mkS, fits_list, fits_tuple, isIntD, isBoolD, isListD, isStrD, isTupD, Bool.not_true, Bool.not_false, Bool.false_eq_true, it_l0, it_l1, it_l2, it_t0, it_t1, it_t2, shp_ps, shp_pt, shp_ss, shp_is, seqD_eQ, seqD_eP, seqD_eS, walkD_eP, walkD_eS, walkD_l, walkD_t]
        exact hQ
      · have bq : BdP n q := hm q hq
        simp only [dcN, wipeF, noneF, dRet, dRetF, dSetX, dCallX, dRetX, noOw, dTry, dCpy, dRaise, dRetO, dSetP, dSetS, dSetF, dSeq, dIf, dNext, dCall, dCallF, dB, dBin, dCons, dNil, dTup, dLst, dV, dC, dTV, onB, dTAnd, dTOr, dTNot, dAnd, dOr, dNot, dIfE, dIsN, dNotN, isN, dSl, dSlF, dNoPart, dPart, dPar, dParS, dAsg, dgN, dgT, dgCons, dgNil, dFE, dIsi, dListF, dNeg, dRev, dFrz, dApp, dAppS, dIns, dExtend, dClear, dReverse, dPop, oIx, oI, oIC, add_ii, add_ss, add_ll, add_tt, oSubI, oMulU, oMulI, oFd, oMd, oPw, oLt, oLe, oGt, oGe, oEq, oNe, getF, setF, Cl.d, getS, setS, purF_nil, purF_cons, purH, allF_nil, allF_cons, allH, rho0, endsOf, scalD, len_l, len_t, len_s, bAbs, bInt, bIntU, tup_l, tup_t, true_and, and_true, Option.some.injEq, exists_eq_left', decide_eq_true_eq, Bool.not_eq_true', decide_eq_false_iff_not, it_eQ0, it_eQ1, it_eP0, it_eP1, it_eS0, it_eS1, fits_eQ, fits_eP, fits_eS, eqv_eQ, eqv_eP, eqv_eS, eqv_int, eqv_bool, shp_int, shp_bool, shp_none, shp_eQ, shp_eP, shp_eS, dCont, dBreak, dXi, dSetG, dAppG, oIsB, oNotB, dTx, pJoin, pSplit, pPart, pStarts, bStr, bIntS, dFmt, dJs, ↓reduceIte, nsp_none, nsp_bool, nsp_int, nsp_str, nsp_list, nsp_tuple, nsp_eQ, nsp_eP, nsp_eS, dat_pu, dat_ow, seqD_l, seqD_t, not_true_eq_false, Bool.true_eq_false, Bool.not_not, List.length_cons, List.length_nil, mkP, mkS, fits_list, fits_tuple, isIntD, isBoolD, isListD, isStrD, isTupD, Bool.not_true, Bool.not_false, Bool.false_eq_true, it_l0, it_l1, it_l2, it_t0, it_t1, it_t2, shp_ps, shp_pt, shp_ss, shp_is, seqD_eQ, seqD_eP, seqD_eS, walkD_eP, walkD_eS, walkD_l, walkD_t]
        exact ⟨k, q, n, rfl, hk, bq, hn, hΨ⟩
      · exact hE _ rfl
    rintro _ rfl
    refine frz_cut rfl ?_
    have i0 : ∀ x y z : Dt, itemD (.tuple [x, y, z]) 0 = some x := fun x y z => rfl
    have k0 : ∀ x y : Dt, itemD (.list [x, y]) 0 = some x := fun x y => rfl
    have k1 : ∀ x y : Dt, itemD (.list [x, y]) 1 = some y := fun x y => rfl
    have hc : Φ (.pu (eM (if ltP ((carOf k).pt b) ((carOf k).pt a) then .st ((carOf k).pt b) ((carOf k).pt a) else .st ((carOf k).pt a) ((carOf k).pt b)))) := h
    generalize (carOf k).pt a = pa at *
    generalize (carOf k).pt b = pb at *
    simp only [i0, k0, k1, shp_stretch, eqv_str, dRet, dRetF, dSetX, dCallX, dRetX, noOw, dTry, dCpy, dRaise, dRetO, dSetP, dSetS, dSetF, dSeq, dIf, dNext, dCall, dCallF, dB, dBin, dCons, dNil, dTup, dLst, dV, dC, dTV, onB, dTAnd, dTOr, dTNot, dAnd, dOr, dNot, dIfE, dIsN, dNotN, isN, dSl, dSlF, dNoPart, dPart, dPar, dParS, dAsg, dgN, dgT, dgCons, dgNil, dFE, dIsi, dListF, dNeg, dRev, dFrz, dApp, dAppS, dIns, dExtend, dClear, dReverse, dPop, oIx, oI, oIC, add_ii, add_ss, add_ll, add_tt, oSubI, oMulU, oMulI, oFd, oMd, oPw, oLt, oLe, oGt, oGe, oEq, oNe, getF, setF, Cl.d, getS, setS, purF_nil, purF_cons, purH, allF_nil, allF_cons, allH, rho0, endsOf, scalD, len_l, len_t, len_s, bAbs, bInt, bIntU, tup_l, tup_t, true_and, and_true, Option.some.injEq, exists_eq_left', decide_eq_true_eq, Bool.not_eq_true', decide_eq_false_iff_not, it_eQ0, it_eQ1, it_eP0, it_eP1, it_eS0, it_eS1, fits_eQ, fits_eP, fits_eS, eqv_eQ, eqv_eP, eqv_eS, eqv_int, eqv_bool, shp_int, shp_bool, shp_none, shp_eQ, shp_eP, shp_eS, dCont, dBreak, dXi, dSetG, dAppG, oIsB, oNotB, dTx, pJoin, pSplit, pPart, pStarts, bStr, bIntS, dFmt, dJs, ↓reduceIte, nsp_none, nsp_bool, nsp_int, nsp_str, nsp_list, nsp_tuple, nsp_eQ, nsp_eP, nsp_eS, dat_pu, dat_ow, seqD_l, seqD_t, not_true_eq_false, Bool.true_eq_false, Bool.not_not, List.length_cons, List.length_nil, mkP, mkS, fits_list, fits_tuple, isIntD, isBoolD, isListD, isStrD, isTupD, Bool.not_true, Bool.not_false, Bool.false_eq_true, it_l0, it_l1, it_l2, it_t0, it_t1, it_t2, shp_ps, shp_pt, shp_ss, shp_is, seqD_eQ, seqD_eP, seqD_eS, walkD_eP, walkD_eS, walkD_l, walkD_t]
    refine ⟨pb, pa, n + n + 6, rfl, cb, ca, by omega, ?_⟩
    simp only [dRet, dRetF, dSetX, dCallX, dRetX, noOw, dTry, dCpy, dRaise, dRetO, dSetP, dSetS, dSetF, dSeq, dIf, dNext, dCall, dCallF, dB, dBin, dCons, dNil, dTup, dLst, dV, dC, dTV, onB, dTAnd, dTOr, dTNot, dAnd, dOr, dNot, dIfE, dIsN, dNotN, isN, dSl, dSlF, dNoPart, dPart, dPar, dParS, dAsg, dgN, dgT, dgCons, dgNil, dFE, dIsi, dListF, dNeg, dRev, dFrz, dApp, dAppS, dIns, dExtend, dClear, dReverse, dPop, oIx, oI, oIC, add_ii, add_ss, add_ll, add_tt, oSubI, oMulU, oMulI, oFd, oMd, oPw, oLt, oLe, oGt, oGe, oEq, oNe, getF, setF, Cl.d, getS, setS, purF_nil, purF_cons, purH, allF_nil, allF_cons, allH, rho0, endsOf, scalD, len_l, len_t, len_s, bAbs, bInt, bIntU, tup_l, tup_t, true_and, and_true, Option.some.injEq, exists_eq_left', decide_eq_true_eq, Bool.not_eq_true', decide_eq_false_iff_not, it_eQ0, it_eQ1, it_eP0, it_eP1, it_eS0, it_eS1, fits_eQ, fits_eP, fits_eS, eqv_eQ, eqv_eP, eqv_eS, eqv_int, eqv_bool, shp_int, shp_bool, shp_none, shp_eQ, shp_eP, shp_eS, dCont, dBreak, dXi, dSetG, dAppG, oIsB, oNotB, dTx, pJoin, pSplit, pPart, pStarts, bStr, bIntS, dFmt, dJs, ↓reduceIte, nsp_none, nsp_bool, nsp_int, nsp_str, nsp_list, nsp_tuple, nsp_eQ, nsp_eP, nsp_eS, dat_pu, dat_ow, seqD_l, seqD_t, not_true_eq_false, Bool.true_eq_false, Bool.not_not, List.length_cons, List.length_nil, mkP, mkS, fits_list, fits_tuple, isIntD, isBoolD, isListD, isStrD, isTupD, Bool.not_true, Bool.not_false, Bool.false_eq_true, it_l0, it_l1, it_l2, it_t0, it_t1, it_t2, shp_ps, shp_pt, shp_ss, shp_is, seqD_eQ, seqD_eP, seqD_eS, walkD_eP, walkD_eS, walkD_l, walkD_t]
    by_cases c : ltP pb pa
    · rw [if_pos c] at hc
      simp only [c, decide_true, i0, List.reverse_cons, List.reverse_nil, List.nil_append, List.cons_append, dRet, dRetF, dSetX, dCallX, dRetX, noOw, dTry, dCpy, dRaise, dRetO, dSetP, dSetS, dSetF, dSeq, dIf, dNext, dCall, dCallF, dB, dBin, dCons, dNil, dTup, dLst, dV, dC, dTV, onB, dTAnd, dTOr, dTNot, dAnd, dOr, dNot, dIfE, dIsN, dNotN, isN, dSl, dSlF, dNoPart, dPart, dPar, dParS, dAsg, dgN, dgT, dgCons, dgNil, dFE, dIsi, dListF, dNeg, dRev, dFrz, dApp, dAppS, dIns, dExtend, dClear, dReverse, dPop, oIx, oI, oIC, add_ii, add_ss, add_ll, add_tt, oSubI, oMulU, oMulI, oFd, oMd, oPw, oLt, oLe, oGt, oGe, oEq, oNe, getF, setF, Cl.d, getS, setS, purF_nil, purF_cons, purH, allF_nil, allF_cons, allH, rho0, endsOf, scalD, len_l, len_t, len_s, bAbs, bInt, bIntU, tup_l, tup_t, true_and, and_true, Option.some.injEq, exists_eq_left', decide_eq_true_eq, Bool.not_eq_true', decide_eq_false_iff_not, it_eQ0, it_eQ1, it_eP0, it_eP1, it_eS0, it_eS1, fits_eQ, fits_eP, fits_eS, eqv_eQ, eqv_eP, eqv_eS, eqv_int, eqv_bool, shp_int, shp_bool, shp_none, shp_eQ, shp_eP, shp_eS, dCont, dBreak, dXi, dSetG, dAppG, oIsB, oNotB, dTx, pJoin, pSplit, pPart, pStarts, bStr, bIntS, dFmt, dJs, ↓reduceIte, nsp_none, nsp_bool, nsp_int, nsp_str, nsp_list, nsp_tuple, nsp_eQ, nsp_eP, nsp_eS, dat_pu, dat_ow, seqD_l, seqD_t, not_true_eq_false, Bool.true_eq_false, Bool.not_not, List.length_cons, List.length_nil, mkP, mkS, fits_list, fits_tuple, isIntD, isBoolD, isListD, isStrD, isTupD, Bool.not_true, Bool.not_false, Bool.false_eq_true, it_l0, it_l1, it_l2, it_t0, it_t1, it_t2, shp_ps, shp_pt, shp_ss, shp_is, seqD_eQ, seqD_eP, seqD_eS, walkD_eP, walkD_eS, walkD_l, walkD_t]
      exact ⟨by show 1 + 2 ≤ sizeLine; omega, hc⟩
    · rw [if_neg c] at hc
      simp only [c, decide_false, i0, List.nil_append, List.cons_append, dRet, dRetF, dSetX, dCallX, dRetX, noOw, dTry, dCpy, dRaise, dRetO, dSetP, dSetS, dSetF, dSeq, dIf, dNext, dCall, dCallF, dB, dBin, dCons, dNil, dTup, dLst, dV, dC, dTV, onB, dTAnd, dTOr, dTNot, dAnd, dOr, dNot, dIfE, dIsN, dNotN, isN, dSl, dSlF, dNoPart, dPart, dPar, dParS, dAsg, dgN, dgT, dgCons, dgNil, dFE, dIsi, dListF, dNeg, dRev, dFrz, dApp, dAppS, dIns, dExtend, dClear, dReverse, dPop, oIx, oI, oIC, add_ii, add_ss, add_ll, add_tt, oSubI, oMulU, oMulI, oFd, oMd, oPw, oLt, oLe, oGt, oGe, oEq, oNe, getF, setF, Cl.d, getS, setS, purF_nil, purF_cons, purH, allF_nil, allF_cons, allH, rho0, endsOf, scalD, len_l, len_t, len_s, bAbs, bInt, bIntU, tup_l, tup_t, true_and, and_true, Option.some.injEq, exists_eq_left', decide_eq_true_eq, Bool.not_eq_true', decide_eq_false_iff_not, it_eQ0, it_eQ1, it_eP0, it_eP1, it_eS0, it_eS1, fits_eQ, fits_eP, fits_eS, eqv_eQ, eqv_eP, eqv_eS, eqv_int, eqv_bool, shp_int, shp_bool, shp_none, shp_eQ, shp_eP, shp_eS, dCont, dBreak, dXi, dSetG, dAppG, oIsB, oNotB, dTx, pJoin, pSplit, pPart, pStarts, bStr, bIntS, dFmt, dJs, ↓reduceIte, nsp_none, nsp_bool, nsp_int, nsp_str, nsp_list, nsp_tuple, nsp_eQ, nsp_eP, nsp_eS, dat_pu, dat_ow, seqD_l, seqD_t, not_true_eq_false, Bool.true_eq_false, Bool.not_not, List.length_cons, List.length_nil, mkP, mkS, fits_list, fits_tuple, isIntD, isBoolD, isListD, isStrD, isTupD, Bool.not_true, Bool.not_false, Bool.false_eq_true, it_l0, it_l1, it_l2, it_t0, it_t1, it_t2, shp_ps, shp_pt, shp_ss, shp_is, seqD_eQ, seqD_eP, seqD_eS, walkD_eP, walkD_eS, walkD_l, walkD_t]
      exact ⟨by show 1 + 2 ≤ sizeLine; omega, hc⟩
end L2.D3.K05
set_option maxHeartbeats 1000000
/-! The law of meets cut and carried: cuts. -/
namespace L2.D3.K05
open PySem PySem.Spec PyProof.Rows L2.D3
theorem meet_ends {s t : Sd} {n : Nat} (hs : BdS n s) (ht : BdS n t) : ∀ q ∈ endsM (meetM s t), BdP (27 * n + 18) q := by
  cases e : meetM s t with
  | no => intro q hq; cases hq
  | pt p => intro q hq; rw [List.mem_singleton.mp hq]; exact meet_pt hs ht e
  | st a b =>
    obtain ⟨ls, hs'⟩ := lo_hi_bd hs
    obtain ⟨lt, ht'⟩ := lo_hi_bd ht
    have bf : BdP n (firstP s t) := by unfold firstP; split <;> assumption
    have bl : BdP n (lastP s t) := by unfold lastP; split <;> assumption
    rw [meetM_eq] at e
    by_cases c : onLine s t
    · rw [if_pos c] at e
      unfold alongM at e
      by_cases k : ltP (lastP s t) (firstP s t)
      · rw [if_pos k] at e; cases e
      · rw [if_neg k] at e
        by_cases k2 : firstP s t = lastP s t
        · rw [if_pos k2] at e; cases e
        · rw [if_neg k2] at e
          cases e
          intro q hq
          rcases List.mem_cons.mp hq with rfl | hq
          · exact bf.mono (by omega)
          · rw [List.mem_singleton.mp hq]; exact bl.mono (by omega)
    · rw [if_neg c] at e
      by_cases k : sideS s t ∨ sideS t s
      · rw [if_pos k] at e; cases e
      · rw [if_neg k] at e; cases e
theorem eM_tail {m : Mt} (h : m ≠ .no) : slD (eM m) (some 1) none = some (.tuple ((endsM m).map eP)) := by
  cases m with
  | no => exact absurd rfl h
  | pt p => rfl
  | st a b => rfl
theorem isN_eM (m : Mt) : isN (eM m) = decide (m = .no) := by cases m <;> rfl
theorem fits_eM (m : Mt) : fitsD (eM m) := by cases m <;> trivial
theorem ends_len (m : Mt) : (endsM m).length ≤ 2 := by
  cases m
  · show 0 ≤ 2; decide
  · show 1 ≤ 2; decide
  · show 2 ≤ 2; decide
theorem rd__law_first_and_last (ds : List Dt) (Φ : Slot → Prop) (Ξ : XD → Prop) (h : sp__law_first_and_last ds Φ Ξ) : d__law_first_and_last (endsOf Φ Ξ) (rho0 N__law_first_and_last ds) := by
  obtain ⟨a, b, p, q, n, rfl, hb, hn, lo, hi, h⟩ := h
  have hz : (1000 : Nat) < sizeLine := by decide
  show dSeq _ _ _ [.pu (.list [eM a, eM b]), .un, .un, .un, .un, .un]
  refine seq_cut (fun ρ => ρ = [.pu (.list [eM a, eM b]), .ow [], .un, .un, .un, .un]) (fun E _ hE => ?_) ?_
  · simp only [dRet, dRetF, dSetX, dCallX, dRetX, noOw, dTry, dCpy, dRaise, dRetO, dSetP, dSetS, dSetF, dSeq, dIf, dNext, dCall, dCallF, dB, dBin, dCons, dNil, dTup, dLst, dV, dC, dTV, onB, dTAnd, dTOr, dTNot, dAnd, dOr, dNot, dIfE, dIsN, dNotN, isN, dSl, dSlF, dNoPart, dPart, dPar, dParS, dAsg, dgN, dgT, dgCons, dgNil, dFE, dIsi, dListF, dNeg, dRev, dFrz, dApp, dAppS, dIns, dExtend, dClear, dReverse, dPop, oIx, oI, oIC, add_ii, add_ss, add_ll, add_tt, oSubI, oMulU, oMulI, oFd, oMd, oPw, oLt, oLe, oGt, oGe, oEq, oNe, getF, setF, Cl.d, getS, setS, purF_nil, purF_cons, purH, allF_nil, allF_cons, allH, rho0, endsOf, scalD, len_l, len_t, len_s, bAbs, bInt, bIntU, tup_l, tup_t, true_and, and_true, Option.some.injEq, exists_eq_left', decide_eq_true_eq, Bool.not_eq_true', decide_eq_false_iff_not, it_eQ0, it_eQ1, it_eP0, it_eP1, it_eS0, it_eS1, fits_eQ, fits_eP, fits_eS, eqv_eQ, eqv_eP, eqv_eS, eqv_int, eqv_bool, shp_int, shp_bool, shp_none, shp_eQ, shp_eP, shp_eS, dCont, dBreak, dXi, dSetG, dAppG, oIsB, oNotB, dTx, pJoin, pSplit, pPart, pStarts, bStr, bIntS, dFmt, dJs, ↓reduceIte, nsp_none, nsp_bool, nsp_int, nsp_str, nsp_list, nsp_tuple, nsp_eQ, nsp_eP, nsp_eS, dat_pu, dat_ow, seqD_l, seqD_t, not_true_eq_false, Bool.true_eq_false, Bool.not_not, List.length_cons, List.length_nil, mkP, mkS, fits_list, fits_tuple, isIntD, isBoolD, isListD, isStrD, isTupD, Bool.not_true, Bool.not_false, Bool.false_eq_true, it_l0, it_l1, it_l2, it_t0, it_t1, it_t2, shp_ps, shp_pt, shp_ss, shp_is, seqD_eQ, seqD_eP, seqD_eS, walkD_eP, walkD_eS, walkD_l, walkD_t]
    exact hE _ rfl
  rintro _ rfl
  refine seq_for (ds := [a, b].map eM) (fun Q hQ => ?_) (fun k ρ => ∃ s : Slot, ρ = [.pu (.list [eM a, eM b]), .ow ((([a, b].take k).flatMap endsM).map eP), s, .un, .un, .un]) ⟨_, rfl⟩ ?_ ?_
  · simp only [diSeq, dRet, dRetF, dSetX, dCallX, dRetX, noOw, dTry, dCpy, dRaise, dRetO, dSetP, dSetS, dSetF, dSeq, dIf, dNext, dCall, dCallF, dB, dBin, dCons, dNil, dTup, dLst, dV, dC, dTV, onB, dTAnd, dTOr, dTNot, dAnd, dOr, dNot, dIfE, dIsN, dNotN, isN, dSl, dSlF, dNoPart, dPart, dPar, dParS, dAsg, dgN, dgT, dgCons, dgNil, dFE, dIsi, dListF, dNeg, dRev, dFrz, dApp, dAppS, dIns, dExtend, dClear, dReverse, dPop, oIx, oI, oIC, add_ii, add_ss, add_ll, add_tt, oSubI, oMulU, oMulI, oFd, oMd, oPw, oLt, oLe, oGt, oGe, oEq, oNe, getF, setF, Cl.d, getS, setS, purF_nil, purF_cons, purH, allF_nil, allF_cons, allH, rho0, endsOf, scalD, len_l, len_t, len_s, bAbs, bInt, bIntU, tup_l, tup_t, true_and, and_true, Option.some.injEq, exists_eq_left', decide_eq_true_eq, Bool.not_eq_true', decide_eq_false_iff_not, it_eQ0, it_eQ1, it_eP0, it_eP1, it_eS0, it_eS1, fits_eQ, fits_eP, fits_eS, eqv_eQ, eqv_eP, eqv_eS, eqv_int, eqv_bool, shp_int, shp_bool, shp_none, shp_eQ, shp_eP, shp_eS, dCont, dBreak, dXi, dSetG, dAppG, oIsB, oNotB, dTx, pJoin, pSplit, pPart, pStarts, bStr, bIntS, dFmt, dJs, ↓reduceIte, nsp_none, nsp_bool, nsp_int, nsp_str, nsp_list, nsp_tuple, nsp_eQ, nsp_eP, nsp_eS, dat_pu, dat_ow, seqD_l, seqD_t, not_true_eq_false, Bool.true_eq_false, Bool.not_not, List.length_cons, List.length_nil, mkP, mkS, fits_list, fits_tuple, isIntD, isBoolD, isListD, isStrD, isTupD, Bool.not_true, Bool.not_false, Bool.false_eq_true, it_l0, it_l1, it_l2, it_t0, it_t1, it_t2, shp_ps, shp_pt, shp_ss, shp_is, seqD_eQ, seqD_eP, seqD_eS, walkD_eP, walkD_eS, walkD_l, walkD_t]
    exact hQ
  · rintro k d ρ' hk ⟨s, rfl⟩
    obtain ⟨m, hm, rfl⟩ := map_get hk
    have hk2 : k < 2 := (List.getElem?_eq_some_iff.mp hm).1
    have tk : [a, b].take (k + 1) = [a, b].take k ++ [m] := by rw [List.take_add_one, hm]; rfl
    rw [tk, List.flatMap_append, List.map_append]
    have len : (([a, b].take k).flatMap endsM).length ≤ 4 := by
      have l1 := ends_len a
      have l2 := ends_len b
      match k, hk2 with
      | 0, _ => show 0 ≤ 4; decide
      | 1, _ => show (endsM a ++ []).length ≤ 4; rw [List.length_append]; show _ + 0 ≤ 4; omega
    generalize ([a, b].take k).flatMap endsM = es at *
    have e1 : [m].flatMap endsM = endsM m := by simp
    rw [e1]
    have lm := ends_len m
    simp only [isN_eM, fits_eM, dExtT, dRet, dRetF, dSetX, dCallX, dRetX, noOw, dTry, dCpy, dRaise, dRetO, dSetP, dSetS, dSetF, dSeq, dIf, dNext, dCall, dCallF, dB, dBin, dCons, dNil, dTup, dLst, dV, dC, dTV, onB, dTAnd, dTOr, dTNot, dAnd, dOr, dNot, dIfE, dIsN, dNotN, dSl, dSlF, dNoPart, dPart, dPar, dParS, dAsg, dgN, dgT, dgCons, dgNil, dFE, dIsi, dListF, dNeg, dRev, dFrz, dApp, dAppS, dIns, dExtend, dClear, dReverse, dPop, oIx, oI, oIC, add_ii, add_ss, add_ll, add_tt, oSubI, oMulU, oMulI, oFd, oMd, oPw, oLt, oLe, oGt, oGe, oEq, oNe, getF, setF, Cl.d, getS, setS, purF_nil, purF_cons, purH, allF_nil, allF_cons, allH, rho0, endsOf, scalD, len_l, len_t, len_s, bAbs, bInt, bIntU, tup_l, tup_t, true_and, and_true, Option.some.injEq, exists_eq_left', decide_eq_true_eq, Bool.not_eq_true', decide_eq_false_iff_not, it_eQ0, it_eQ1, it_eP0, it_eP1, it_eS0, it_eS1, fits_eQ, fits_eP, fits_eS, eqv_eQ, eqv_eP, eqv_eS, eqv_int, eqv_bool, shp_int, shp_bool, shp_none, shp_eQ, shp_eP, shp_eS, dCont, dBreak, dXi, dSetG, dAppG, oIsB, oNotB, dTx, pJoin, pSplit, pPart, pStarts, bStr, bIntS, dFmt, dJs, ↓reduceIte, nsp_none, nsp_bool, nsp_int, nsp_str, nsp_list, nsp_tuple, nsp_eQ, nsp_eP, nsp_eS, dat_pu, dat_ow, seqD_l, seqD_t, not_true_eq_false, Bool.true_eq_false, Bool.not_not, List.length_cons, List.length_nil, mkP, mkS, fits_list, fits_tuple, isIntD, isBoolD, isListD, isStrD, isTupD, Bool.not_true, Bool.not_false, Bool.false_eq_true, it_l0, it_l1, it_l2, it_t0, it_t1, it_t2, shp_ps, shp_pt, shp_ss, shp_is, seqD_eQ, seqD_eP, seqD_eS, walkD_eP, walkD_eS, walkD_l, walkD_t]
    by_cases c : m = .no
    · subst c
      simp only [endsM, List.map_nil, List.append_nil, decide_true, dRet, dRetF, dSetX, dCallX, dRetX, noOw, dTry, dCpy, dRaise, dRetO, dSetP, dSetS, dSetF, dSeq, dIf, dNext, dCall, dCallF, dB, dBin, dCons, dNil, dTup, dLst, dV, dC, dTV, onB, dTAnd, dTOr, dTNot, dAnd, dOr, dNot, dIfE, dIsN, dNotN, dSl, dSlF, dNoPart, dPart, dPar, dParS, dAsg, dgN, dgT, dgCons, dgNil, dFE, dIsi, dListF, dNeg, dRev, dFrz, dApp, dAppS, dIns, dExtend, dClear, dReverse, dPop, oIx, oI, oIC, add_ii, add_ss, add_ll, add_tt, oSubI, oMulU, oMulI, oFd, oMd, oPw, oLt, oLe, oGt, oGe, oEq, oNe, getF, setF, Cl.d, getS, setS, purF_nil, purF_cons, purH, allF_nil, allF_cons, allH, rho0, endsOf, scalD, len_l, len_t, len_s, bAbs, bInt, bIntU, tup_l, tup_t, true_and, and_true, Option.some.injEq, exists_eq_left', decide_eq_true_eq, Bool.not_eq_true', decide_eq_false_iff_not, it_eQ0, it_eQ1, it_eP0, it_eP1, it_eS0, it_eS1, fits_eQ, fits_eP, fits_eS, eqv_eQ, eqv_eP, eqv_eS, eqv_int, eqv_bool, shp_int, shp_bool, shp_none, shp_eQ, shp_eP, shp_eS, dCont, dBreak, dXi, dSetG, dAppG, oIsB, oNotB, dTx, pJoin, pSplit, pPart, pStarts, bStr, bIntS, dFmt, dJs, ↓reduceIte, nsp_none, nsp_bool, nsp_int, nsp_str, nsp_list, nsp_tuple, nsp_eQ, nsp_eP, nsp_eS, dat_pu, dat_ow, seqD_l, seqD_t, not_true_eq_false, Bool.true_eq_false, Bool.not_not, List.length_cons, List.length_nil, mkP, mkS, fits_list, fits_tuple, isIntD, isBoolD, isListD, isStrD, isTupD, Bool.not_true, Bool.not_false, Bool.false_eq_true, it_l0, it_l1, it_l2, it_t0, it_t1, it_t2, shp_ps, shp_pt, shp_ss, shp_is, seqD_eQ, seqD_eP, seqD_eS, walkD_eP, walkD_eS, walkD_l, walkD_t]
      exact ⟨_, rfl⟩
    · have et := eM_tail c
      simp only [c, decide_false, et, dRet, dRetF, dSetX, dCallX, dRetX, noOw, dTry, dCpy, dRaise, dRetO, dSetP, dSetS, dSetF, dSeq, dIf, dNext, dCall, dCallF, dB, dBin, dCons, dNil, dTup, dLst, dV, dC, dTV, onB, dTAnd, dTOr, dTNot, dAnd, dOr, dNot, dIfE, dIsN, dNotN, dSl, dSlF, dNoPart, dPart, dPar, dParS, dAsg, dgN, dgT, dgCons, dgNil, dFE, dIsi, dListF, dNeg, dRev, dFrz, dApp, dAppS, dIns, dExtend, dClear, dReverse, dPop, oIx, oI, oIC, add_ii, add_ss, add_ll, add_tt, oSubI, oMulU, oMulI, oFd, oMd, oPw, oLt, oLe, oGt, oGe, oEq, oNe, getF, setF, Cl.d, getS, setS, purF_nil, purF_cons, purH, allF_nil, allF_cons, allH, rho0, endsOf, scalD, len_l, len_t, len_s, bAbs, bInt, bIntU, tup_l, tup_t, true_and, and_true, Option.some.injEq, exists_eq_left', decide_eq_true_eq, Bool.not_eq_true', decide_eq_false_iff_not, it_eQ0, it_eQ1, it_eP0, it_eP1, it_eS0, it_eS1, fits_eQ, fits_eP, fits_eS, eqv_eQ, eqv_eP, eqv_eS, eqv_int, eqv_bool, shp_int, shp_bool, shp_none, shp_eQ, shp_eP, shp_eS, dCont, dBreak, dXi, dSetG, dAppG, oIsB, oNotB, dTx, pJoin, pSplit, pPart, pStarts, bStr, bIntS, dFmt, dJs, ↓reduceIte, nsp_none, nsp_bool, nsp_int, nsp_str, nsp_list, nsp_tuple, nsp_eQ, nsp_eP, nsp_eS, dat_pu, dat_ow, seqD_l, seqD_t, not_true_eq_false, Bool.true_eq_false, Bool.not_not, List.length_cons, List.length_nil, mkP, mkS, fits_list, fits_tuple, isIntD, isBoolD, isListD, isStrD, isTupD, Bool.not_true, Bool.not_false, Bool.false_eq_true, it_l0, it_l1, it_l2, it_t0, it_t1, it_t2, shp_ps, shp_pt, shp_ss, shp_is, seqD_eQ, seqD_eP, seqD_eS, walkD_eP, walkD_eS, walkD_l, walkD_t]
      exact ⟨by simp only [List.length_map]; omega, _, rfl⟩
  · rintro ρ' ⟨s, rfl⟩
    have e : ([a, b].take ([a, b].map eM).length).flatMap endsM = endsM a ++ endsM b := by simp
    rw [e]
    generalize endsM a ++ endsM b = es at *
    refine frz_cut rfl ?_
    show dSeq _ _ _ [.pu (.list [eM a, eM b]), .pu (.list (es.map eP)), s, .un, .un, .un]
    obtain ⟨e0, er, rfl⟩ : ∃ x r, es = x :: r := by
      cases es with
      | nil => exact absurd lo.mem (by simp)
      | cons x r => exact ⟨x, r, rfl⟩
    generalize hes : e0 :: er = es at *
    have m0 : e0 ∈ es := by rw [← hes]; exact List.mem_cons_self
    have i0 : itemD (.list (es.map eP)) 0 = some (eP e0) := by rw [← hes]; exact it_at (k := 0) rfl rfl
    refine seq_cut (fun ρ => ρ = [.pu (.list [eM a, eM b]), .pu (.list (es.map eP)), s, .pu (eP e0), .un, .un]) (fun E _ hE => ?_) ?_
    · simp only [i0, dRet, dRetF, dSetX, dCallX, dRetX, noOw, dTry, dCpy, dRaise, dRetO, dSetP, dSetS, dSetF, dSeq, dIf, dNext, dCall, dCallF, dB, dBin, dCons, dNil, dTup, dLst, dV, dC, dTV, onB, dTAnd, dTOr, dTNot, dAnd, dOr, dNot, dIfE, dIsN, dNotN, isN, dSl, dSlF, dNoPart, dPart, dPar, dParS, dAsg, dgN, dgT, dgCons, dgNil, dFE, dIsi, dListF, dNeg, dRev, dFrz, dApp, dAppS, dIns, dExtend, dClear, dReverse, dPop, oIx, oI, oIC, add_ii, add_ss, add_ll, add_tt, oSubI, oMulU, oMulI, oFd, oMd, oPw, oLt, oLe, oGt, oGe, oEq, oNe, getF, setF, Cl.d, getS, setS, purF_nil, purF_cons, purH, allF_nil, allF_cons, allH, rho0, endsOf, scalD, len_l, len_t, len_s, bAbs, bInt, bIntU, tup_l, tup_t, true_and, and_true, Option.some.injEq, exists_eq_left', decide_eq_true_eq, Bool.not_eq_true', decide_eq_false_iff_not, it_eQ0, it_eQ1, it_eP0, it_eP1, it_eS0, it_eS1, fits_eQ, fits_eP, fits_eS, eqv_eQ, eqv_eP, eqv_eS, eqv_int, eqv_bool, shp_int, shp_bool, shp_none, shp_eQ, shp_eP, shp_eS, dCont, dBreak, dXi, dSetG, dAppG, oIsB, oNotB, dTx, pJoin, pSplit, pPart, pStarts, bStr, bIntS, dFmt, dJs, ↓reduceIte, nsp_none, nsp_bool, nsp_int, nsp_str, nsp_list, nsp_tuple, nsp_eQ, nsp_eP, nsp_eS, dat_pu, dat_ow, seqD_l, seqD_t, not_true_eq_false, Bool.true_eq_false, Bool.not_not, List.length_cons, List.length_nil, mkP, mkS, fits_list, fits_tuple, isIntD, isBoolD, isListD, isStrD, isTupD, Bool.not_true, Bool.not_false, Bool.false_eq_true, it_l0, it_l1, it_l2, it_t0, it_t1, it_t2, shp_ps, shp_pt, shp_ss, shp_is, seqD_eQ, seqD_eP, seqD_eS, walkD_eP, walkD_eS, walkD_l, walkD_t]
      exact hE _ rfl
    rintro _ rfl
    refine seq_cut (fun ρ => ρ = [.pu (.list [eM a, eM b]), .pu (.list (es.map eP)), s, .pu (eP e0), .pu (eP e0), .un]) (fun E _ hE => ?_) ?_
    · simp only [i0, dRet, dRetF, dSetX, dCallX, dRetX, noOw, dTry, dCpy, dRaise, dRetO, dSetP, dSetS, dSetF, dSeq, dIf, dNext, dCall, dCallF, dB, dBin, dCons, dNil, dTup, dLst, dV, dC, dTV, onB, dTAnd, dTOr, dTNot, dAnd, dOr, dNot, dIfE, dIsN, dNotN, isN, dSl, dSlF, dNoPart, dPart, dPar, dParS, dAsg, dgN, dgT, dgCons, dgNil, dFE, dIsi, dListF, dNeg, dRev, dFrz, dApp, dAppS, dIns, dExtend, dClear, dReverse, dPop, oIx, oI, oIC, add_ii, add_ss, add_ll, add_tt, oSubI, oMulU, oMulI, oFd, oMd, oPw, oLt, oLe, oGt, oGe, oEq, oNe, getF, setF, Cl.d, getS, setS, purF_nil, purF_cons, purH, allF_nil, allF_cons, allH, rho0, endsOf, scalD, len_l, len_t, len_s, bAbs, bInt, bIntU, tup_l, tup_t, true_and, and_true, Option.some.injEq, exists_eq_left', decide_eq_true_eq, Bool.not_eq_true', decide_eq_false_iff_not, it_eQ0, it_eQ1, it_eP0, it_eP1, it_eS0, it_eS1, fits_eQ, fits_eP, fits_eS, eqv_eQ, eqv_eP, eqv_eS, eqv_int, eqv_bool, shp_int, shp_bool, shp_none, shp_eQ, shp_eP, shp_eS, dCont, dBreak, dXi, dSetG, dAppG, oIsB, oNotB, dTx, pJoin, pSplit, pPart, pStarts, bStr, bIntS, dFmt, dJs, ↓reduceIte, nsp_none, nsp_bool, nsp_int, nsp_str, nsp_list, nsp_tuple, nsp_eQ, nsp_eP, nsp_eS, dat_pu, dat_ow, seqD_l, seqD_t, not_true_eq_false, Bool.true_eq_false, Bool.not_not, List.length_cons, List.length_nil, mkP, mkS, fits_list, fits_tuple, isIntD, isBoolD, isListD, isStrD, isTupD, Bool.not_true, Bool.not_false, Bool.false_eq_true, it_l0, it_l1, it_l2, it_t0, it_t1, it_t2, shp_ps, shp_pt, shp_ss, shp_is, seqD_eQ, seqD_eP, seqD_eS, walkD_eP, walkD_eS, walkD_l, walkD_t]
      exact hE _ rfl
    rintro _ rfl
    refine seq_for (ds := es.map eP) (fun Q hQ => ?_) (fun k ρ => ∃ (x y : Pt) (u : Slot), x ∈ es ∧ y ∈ es ∧ (∀ z ∈ es.take k, ¬ ltP z x) ∧ (∀ z ∈ es.take k, ¬ ltP y z) ∧ ρ = [.pu (.list [eM a, eM b]), .pu (.list (es.map eP)), s, .pu (eP x), .pu (eP y), u]) ⟨e0, e0, _, m0, m0, (fun z hz => nomatch hz), (fun z hz => nomatch hz), rfl⟩ ?_ ?_
    · simp only [diSeq, dRet, dRetF, dSetX, dCallX, dRetX, noOw, dTry, dCpy, dRaise, dRetO, dSetP, dSetS, dSetF, dSeq, dIf, dNext, dCall, dCallF, dB, dBin, dCons, dNil, dTup, dLst, dV, dC, dTV, onB, dTAnd, dTOr, dTNot, dAnd, dOr, dNot, dIfE, dIsN, dNotN, isN, dSl, dSlF, dNoPart, dPart, dPar, dParS, dAsg, dgN, dgT, dgCons, dgNil, dFE, dIsi, dListF, dNeg, dRev, dFrz, dApp, dAppS, dIns, dExtend, dClear, dReverse, dPop, oIx, oI, oIC, add_ii, add_ss, add_ll, add_tt, oSubI, oMulU, oMulI, oFd, oMd, oPw, oLt, oLe, oGt, oGe, oEq, oNe, getF, setF, Cl.d, getS, setS, purF_nil, purF_cons, purH, allF_nil, allF_cons, allH, rho0, endsOf, scalD, len_l, len_t, len_s, bAbs, bInt, bIntU, tup_l, tup_t, true_and, and_true, Option.some.injEq, exists_eq_left', decide_eq_true_eq, Bool.not_eq_true', decide_eq_false_iff_not, it_eQ0, it_eQ1, it_eP0, it_eP1, it_eS0, it_eS1, fits_eQ, fits_eP, fits_eS, eqv_eQ, eqv_eP, eqv_eS, eqv_int, eqv_bool, shp_int, shp_bool, shp_none, shp_eQ, shp_eP, shp_eS, dCont, dBreak, dXi, dSetG, dAppG, oIsB, oNotB, dTx, pJoin, pSplit, pPart, pStarts, bStr, bIntS, dFmt, dJs, ↓reduceIte, nsp_none, nsp_bool, nsp_int, nsp_str, nsp_list, nsp_tuple, nsp_eQ, nsp_eP, nsp_eS, dat_pu, dat_ow, seqD_l, seqD_t, not_true_eq_false, Bool.true_eq_false, Bool.not_not, List.length_cons, List.length_nil, mkP, mkS, fits_list, fits_tuple, isIntD, isBoolD, isListD, isStrD, isTupD, Bool.not_true, Bool.not_false, Bool.false_eq_true, it_l0, it_l1, it_l2, it_t0, it_t1, it_t2, shp_ps, shp_pt, shp_ss, shp_is, seqD_eQ, seqD_eP, seqD_eS, walkD_eP, walkD_eS, walkD_l, walkD_t]
      exact hQ
    · rintro k d ρ' hk ⟨x, y, u, hx, hy, lx, ly, rfl⟩
      obtain ⟨z, hzk, rfl⟩ := map_get hk
      have mz := List.mem_of_getElem? hzk
      have tk : es.take (k + 1) = es.take k ++ [z] := by rw [List.take_add_one, hzk]; rfl
      rw [tk]
      simp only [dgN, setS]
      refine seq_cut (fun ρ => ∃ x : Pt, x ∈ es ∧ (∀ w ∈ es.take k ++ [z], ¬ ltP w x) ∧ ρ = [.pu (.list [eM a, eM b]), .pu (.list (es.map eP)), s, .pu (eP x), .pu (eP y), .pu (eP z)]) (fun E _ hE => ?_) ?_
      · simp only [dRet, dRetF, dSetX, dCallX, dRetX, noOw, dTry, dCpy, dRaise, dRetO, dSetP, dSetS, dSetF, dSeq, dIf, dNext, dCall, dCallF, dB, dBin, dCons, dNil, dTup, dLst, dV, dC, dTV, onB, dTAnd, dTOr, dTNot, dAnd, dOr, dNot, dIfE, dIsN, dNotN, isN, dSl, dSlF, dNoPart, dPart, dPar, dParS, dAsg, dgN, dgT, dgCons, dgNil, dFE, dIsi, dListF, dNeg, dRev, dFrz, dApp, dAppS, dIns, dExtend, dClear, dReverse, dPop, oIx, oI, oIC, add_ii, add_ss, add_ll, add_tt, oSubI, oMulU, oMulI, oFd, oMd, oPw, oLt, oLe, oGt, oGe, oEq, oNe, getF, setF, Cl.d, getS, setS, purF_nil, purF_cons, purH, allF_nil, allF_cons, allH, rho0, endsOf, scalD, len_l, len_t, len_s, bAbs, bInt, bIntU, tup_l, tup_t, true_and, and_true, Option.some.injEq, exists_eq_left', decide_eq_true_eq, Bool.not_eq_true', decide_eq_false_iff_not, it_eQ0, it_eQ1, it_eP0, it_eP1, it_eS0, it_eS1, fits_eQ, fits_eP, fits_eS, eqv_eQ, eqv_eP, eqv_eS, eqv_int, eqv_bool, shp_int, shp_bool, shp_none, shp_eQ, shp_eP, shp_eS, dCont, dBreak, dXi, dSetG, dAppG, oIsB, oNotB, dTx, pJoin, pSplit, pPart, pStarts, bStr, bIntS, dFmt, dJs, ↓reduceIte, nsp_none, nsp_bool, nsp_int, nsp_str, nsp_list, nsp_tuple, nsp_eQ, nsp_eP, nsp_eS, dat_pu, dat_ow, seqD_l, seqD_t, not_true_eq_false, Bool.true_eq_false, Bool.not_not, List.length_cons, List.length_nil, mkP, mkS, fits_list, fits_tuple, isIntD, isBoolD, isListD, isStrD, isTupD, Bool.not_true, Bool.not_false, Bool.false_eq_true, it_l0, it_l1, it_l2, it_t0, it_t1, it_t2, shp_ps, shp_pt, shp_ss, shp_is, seqD_eQ, seqD_eP, seqD_eS, walkD_eP, walkD_eS, walkD_l, walkD_t]
        refine ⟨z, x, n, rfl, hb z mz, hb x hx, by omega, ?_⟩
        simp only [dRet, dRetF, dSetX, dCallX, dRetX, noOw, dTry, dCpy, dRaise, dRetO, dSetP, dSetS, dSetF, dSeq, dIf, dNext, dCall, dCallF, dB, dBin, dCons, dNil, dTup, dLst, dV, dC, dTV, onB, dTAnd, dTOr, dTNot, dAnd, dOr, dNot, dIfE, dIsN, dNotN, isN, dSl, dSlF, dNoPart, dPart, dPar, dParS, dAsg, dgN, dgT, dgCons, dgNil, dFE, dIsi, dListF, dNeg, dRev, dFrz, dApp, dAppS, dIns, dExtend, dClear, dReverse, dPop, oIx, oI, oIC, add_ii, add_ss, add_ll, add_tt, oSubI, oMulU, oMulI, oFd, oMd, oPw, oLt, oLe, oGt, oGe, oEq, oNe, getF, setF, Cl.d, getS, setS, purF_nil, purF_cons, purH, allF_nil, allF_cons, allH, rho0, endsOf, scalD, len_l, len_t, len_s, bAbs, bInt, bIntU, tup_l, tup_t, true_and, and_true, Option.some.injEq, exists_eq_left', decide_eq_true_eq, Bool.not_eq_true', decide_eq_false_iff_not, it_eQ0, it_eQ1, it_eP0, it_eP1, it_eS0, it_eS1, fits_eQ, fits_eP, fits_eS, eqv_eQ, eqv_eP, eqv_eS, eqv_int, eqv_bool, shp_int, shp_bool, shp_none, shp_eQ, shp_eP, shp_eS, dCont, dBreak, dXi, dSetG, dAppG, oIsB, oNotB, dTx, pJoin, pSplit, pPart, pStarts, bStr, bIntS, dFmt, dJs, ↓reduceIte, nsp_none, nsp_bool, nsp_int, nsp_str, nsp_list, nsp_tuple, nsp_eQ, nsp_eP, nsp_eS, dat_pu, dat_ow, seqD_l, seqD_t, not_true_eq_false, Bool.true_eq_false, Bool.not_not, List.length_cons, List.length_nil, mkP, mkS, fits_list, fits_tuple, isIntD, isBoolD, isListD, isStrD, isTupD, Bool.not_true, Bool.not_false, Bool.false_eq_true, it_l0, it_l1, it_l2, it_t0, it_t1, it_t2, shp_ps, shp_pt, shp_ss, shp_is, seqD_eQ, seqD_eP, seqD_eS, walkD_eP, walkD_eS, walkD_l, walkD_t]
        by_cases c : ltP z x
        · refine ite_yes c ?_
          refine hE _ ⟨z, mz, fun w hw => ?_, rfl⟩
          rcases List.mem_append.mp hw with v | v
          · exact fun l => lx w v (ltP_trans l c)
          · rw [List.mem_singleton.mp v]; exact ltP_irrefl _
        · refine ite_no c ?_
          refine hE _ ⟨x, hx, fun w hw => ?_, rfl⟩
          rcases List.mem_append.mp hw with v | v
          · exact lx w v
          · rw [List.mem_singleton.mp v]; exact c
      rintro _ ⟨x2, hx2, lx2, rfl⟩
      simp only [dRet, dRetF, dSetX, dCallX, dRetX, noOw, dTry, dCpy, dRaise, dRetO, dSetP, dSetS, dSetF, dSeq, dIf, dNext, dCall, dCallF, dB, dBin, dCons, dNil, dTup, dLst, dV, dC, dTV, onB, dTAnd, dTOr, dTNot, dAnd, dOr, dNot, dIfE, dIsN, dNotN, isN, dSl, dSlF, dNoPart, dPart, dPar, dParS, dAsg, dgN, dgT, dgCons, dgNil, dFE, dIsi, dListF, dNeg, dRev, dFrz, dApp, dAppS, dIns, dExtend, dClear, dReverse, dPop, oIx, oI, oIC, add_ii, add_ss, add_ll, add_tt, oSubI, oMulU, oMulI, oFd, oMd, oPw, oLt, oLe, oGt, oGe, oEq, oNe, getF, setF, Cl.d, getS, setS, purF_nil, purF_cons, purH, allF_nil, allF_cons, allH, rho0, endsOf, scalD, len_l, len_t, len_s, bAbs, bInt, bIntU, tup_l, tup_t, true_and, and_true, Option.some.injEq, exists_eq_left', decide_eq_true_eq, Bool.not_eq_true', decide_eq_false_iff_not, it_eQ0, it_eQ1, it_eP0, it_eP1, it_eS0, it_eS1, fits_eQ, fits_eP, fits_eS, eqv_eQ, eqv_eP, eqv_eS, eqv_int, eqv_bool, shp_int, shp_bool, shp_none, shp_eQ, shp_eP, shp_eS, dCont, dBreak, dXi, dSetG, dAppG, oIsB, oNotB, dTx, pJoin, pSplit, pPart, pStarts, bStr, bIntS, dFmt, dJs, ↓reduceIte, nsp_none, nsp_bool, nsp_int, nsp_str, nsp_list, nsp_tuple, nsp_eQ, nsp_eP, nsp_eS, dat_pu, dat_ow, seqD_l, seqD_t, not_true_eq_false, Bool.true_eq_false, Bool.not_not, List.length_cons, List.length_nil, mkP, mkS, fits_list, fits_tuple, isIntD, isBoolD, isListD, isStrD, isTupD, Bool.not_true, Bool.not_false, Bool.false_eq_true, it_l0, it_l1, it_l2, it_t0, it_t1, it_t2, shp_ps, shp_pt, shp_ss, shp_is, seqD_eQ, seqD_eP, seqD_eS, walkD_eP, walkD_eS, walkD_l, walkD_t]
      refine ⟨y, z, n, rfl, hb y hy, hb z mz, by omega, ?_⟩
      simp only [dRet, dRetF, dSetX, dCallX, dRetX, noOw, dTry, dCpy, dRaise, dRetO, dSetP, dSetS, dSetF, dSeq, dIf, dNext, dCall, dCallF, dB, dBin, dCons, dNil, dTup, dLst, dV, dC, dTV, onB, dTAnd, dTOr, dTNot, dAnd, dOr, dNot, dIfE, dIsN, dNotN, isN, dSl, dSlF, dNoPart, dPart, dPar, dParS, dAsg, dgN, dgT, dgCons, dgNil, dFE, dIsi, dListF, dNeg, dRev, dFrz, dApp, dAppS, dIns, dExtend, dClear, dReverse, dPop, oIx, oI, oIC, add_ii, add_ss, add_ll, add_tt, oSubI, oMulU, oMulI, oFd, oMd, oPw, oLt, oLe, oGt, oGe, oEq, oNe, getF, setF, Cl.d, getS, setS, purF_nil, purF_cons, purH, allF_nil, allF_cons, allH, rho0, endsOf, scalD, len_l, len_t, len_s, bAbs, bInt, bIntU, tup_l, tup_t, true_and, and_true, Option.some.injEq, exists_eq_left', decide_eq_true_eq, Bool.not_eq_true', decide_eq_false_iff_not, it_eQ0, it_eQ1, it_eP0, it_eP1, it_eS0, it_eS1, fits_eQ, fits_eP, fits_eS, eqv_eQ, eqv_eP, eqv_eS, eqv_int, eqv_bool, shp_int, shp_bool, shp_none, shp_eQ, shp_eP, shp_eS, dCont, dBreak, dXi, dSetG, dAppG, oIsB, oNotB, dTx, pJoin, pSplit, pPart, pStarts, bStr, bIntS, dFmt, dJs, ↓reduceIte, nsp_none, nsp_bool, nsp_int, nsp_str, nsp_list, nsp_tuple, nsp_eQ, nsp_eP, nsp_eS, dat_pu, dat_ow, seqD_l, seqD_t, not_true_eq_false, Bool.true_eq_false, Bool.not_not, List.length_cons, List.length_nil, mkP, mkS, fits_list, fits_tuple, isIntD, isBoolD, isListD, isStrD, isTupD, Bool.not_true, Bool.not_false, Bool.false_eq_true, it_l0, it_l1, it_l2, it_t0, it_t1, it_t2, shp_ps, shp_pt, shp_ss, shp_is, seqD_eQ, seqD_eP, seqD_eS, walkD_eP, walkD_eS, walkD_l, walkD_t]
      by_cases c : ltP y z
      · refine ite_yes c ?_
        refine ⟨x2, z, _, hx2, mz, lx2, fun w hw => ?_, rfl⟩
        rcases List.mem_append.mp hw with v | v
        · exact fun l => ly w v (ltP_trans c l)
        · rw [List.mem_singleton.mp v]; exact ltP_irrefl _
      · refine ite_no c ?_
        refine ⟨x2, y, _, hx2, hy, lx2, fun w hw => ?_, rfl⟩
        rcases List.mem_append.mp hw with v | v
        · exact ly w v
        · rw [List.mem_singleton.mp v]; exact c
    · rintro ρ' ⟨x, y, u, hx, hy, lx, ly, rfl⟩
      rw [List.length_map, List.take_length] at lx ly
      have ex := lo.eq ⟨hx, lx⟩
      have ey := hi.eq ⟨hy, ly⟩
      subst ex
      subst ey
      simp only [dRet, dRetF, dSetX, dCallX, dRetX, noOw, dTry, dCpy, dRaise, dRetO, dSetP, dSetS, dSetF, dSeq, dIf, dNext, dCall, dCallF, dB, dBin, dCons, dNil, dTup, dLst, dV, dC, dTV, onB, dTAnd, dTOr, dTNot, dAnd, dOr, dNot, dIfE, dIsN, dNotN, isN, dSl, dSlF, dNoPart, dPart, dPar, dParS, dAsg, dgN, dgT, dgCons, dgNil, dFE, dIsi, dListF, dNeg, dRev, dFrz, dApp, dAppS, dIns, dExtend, dClear, dReverse, dPop, oIx, oI, oIC, add_ii, add_ss, add_ll, add_tt, oSubI, oMulU, oMulI, oFd, oMd, oPw, oLt, oLe, oGt, oGe, oEq, oNe, getF, setF, Cl.d, getS, setS, purF_nil, purF_cons, purH, allF_nil, allF_cons, allH, rho0, endsOf, scalD, len_l, len_t, len_s, bAbs, bInt, bIntU, tup_l, tup_t, true_and, and_true, Option.some.injEq, exists_eq_left', decide_eq_true_eq, Bool.not_eq_true', decide_eq_false_iff_not, it_eQ0, it_eQ1, it_eP0, it_eP1, it_eS0, it_eS1, fits_eQ, fits_eP, fits_eS, eqv_eQ, eqv_eP, eqv_eS, eqv_int, eqv_bool, shp_int, shp_bool, shp_none, shp_eQ, shp_eP, shp_eS, dCont, dBreak, dXi, dSetG, dAppG, oIsB, oNotB, dTx, pJoin, pSplit, pPart, pStarts, bStr, bIntS, dFmt, dJs, ↓reduceIte, nsp_none, nsp_bool, nsp_int, nsp_str, nsp_list, nsp_tuple, nsp_eQ, nsp_eP, nsp_eS, dat_pu, dat_ow, seqD_l, seqD_t, not_true_eq_false, Bool.true_eq_false, Bool.not_not, List.length_cons, List.length_nil, mkP, mkS, fits_list, fits_tuple, isIntD, isBoolD, isListD, isStrD, isTupD, Bool.not_true, Bool.not_false, Bool.false_eq_true, it_l0, it_l1, it_l2, it_t0, it_t1, it_t2, shp_ps, shp_pt, shp_ss, shp_is, seqD_eQ, seqD_eP, seqD_eS, walkD_eP, walkD_eS, walkD_l, walkD_t]
      exact h
theorem at_moved (j : Int) (s : Sd) : atP j s = movedP s ((j : Rat) / 6) := by
  unfold atP atQ movedP
  have n6 : (6 : Rat) ≠ 0 := by decide
  refine Prod.ext ?_ ?_
  · show ((6 - (j : Rat)) * s.1.1 + j * s.2.1) / 6 = s.1.1 + (j : Rat) / 6 * (s.2.1 - s.1.1)
    grind
  · show ((6 - (j : Rat)) * s.1.2 + j * s.2.2) / 6 = s.1.2 + (j : Rat) / 6 * (s.2.2 - s.1.2)
    grind
theorem six_share {j : Int} (h0 : 1 ≤ j) (h1 : j ≤ 5) : 0 < (j : Rat) / 6 ∧ (j : Rat) / 6 < 1 := by
  have hm : j = 1 ∨ j = 2 ∨ j = 3 ∨ j = 4 ∨ j = 5 := by omega
  rcases hm with rfl | rfl | rfl | rfl | rfl <;> exact ⟨by decide +kernel, by decide +kernel⟩
theorem shp_eM2 (a b : Mt) : SeqAt.shaped (.list [eM a, eM b]) = true := (sh_list fun d hd => by
  simp only [List.mem_cons, List.not_mem_nil, or_false] at hd
  rcases hd with rfl | rfl
  · exact sh_eM a
  · exact sh_eM b).shaped (by decide)
theorem eqv_eM2 (a b c d : Mt) : PyData.eqv (.list [eM a, eM b]) (.list [eM c, eM d]) = decide (a = c ∧ b = d) := by
  have h := eqv_list eqv_eM [a, b] [c, d]
  simp only [List.map_cons, List.map_nil] at h
  rw [h]
  simp
theorem rd__law_cut (ds : List Dt) (Φ : Slot → Prop) (Ξ : XD → Prop) (h : sp__law_cut ds Φ Ξ) : d__law_cut (endsOf Φ Ξ) (rho0 N__law_cut ds) := by
  obtain ⟨s, t, k, rfl, hs, ht, bs, bt, h⟩ := h
  have f := fmod_b (x := k) (m := 5) (by decide)
  show dSeq _ _ _ [.pu (eS s), .pu (eS t), .pu (eM (meetM s t)), .pu (.int k), .un, .un]
  obtain ⟨g0, g1⟩ := six_share (j := 1 + k.fmod 5) (by omega) (by omega)
  have am := at_moved (1 + k.fmod 5) s
  have bm : BdP 27 (atP (1 + k.fmod 5) s) := bdP_at rfl (by omega) bs
  obtain ⟨⟨n1, n2⟩, _⟩ := cut_on hs g0 g1
  obtain ⟨c1, c2, c3⟩ := cut_meets hs ht g0 g1
  rw [← am] at n1 n2 c1 c2 c3
  refine seq_cut (fun ρ => ρ = [.pu (eS s), .pu (eS t), .pu (eM (meetM s t)), .pu (.int k), .pu (eP (atP (1 + k.fmod 5) s)), .un]) (fun E _ hE => ?_) ?_
  · simp only [dRet, dRetF, dSetX, dCallX, dRetX, noOw, dTry, dCpy, dRaise, dRetO, dSetP, dSetS, dSetF, dSeq, dIf, dNext, dCall, dCallF, dB, dBin, dCons, dNil, dTup, dLst, dV, dC, dTV, onB, dTAnd, dTOr, dTNot, dAnd, dOr, dNot, dIfE, dIsN, dNotN, isN, dSl, dSlF, dNoPart, dPart, dPar, dParS, dAsg, dgN, dgT, dgCons, dgNil, dFE, dIsi, dListF, dNeg, dRev, dFrz, dApp, dAppS, dIns, dExtend, dClear, dReverse, dPop, oIx, oI, oIC, add_ii, add_ss, add_ll, add_tt, oSubI, oMulU, oMulI, oFd, oMd, oPw, oLt, oLe, oGt, oGe, oEq, oNe, getF, setF, Cl.d, getS, setS, purF_nil, purF_cons, purH, allF_nil, allF_cons, allH, rho0, endsOf, scalD, len_l, len_t, len_s, bAbs, bInt, bIntU, tup_l, tup_t, true_and, and_true, Option.some.injEq, exists_eq_left', decide_eq_true_eq, Bool.not_eq_true', decide_eq_false_iff_not, it_eQ0, it_eQ1, it_eP0, it_eP1, it_eS0, it_eS1, fits_eQ, fits_eP, fits_eS, eqv_eQ, eqv_eP, eqv_eS, eqv_int, eqv_bool, shp_int, shp_bool, shp_none, shp_eQ, shp_eP, shp_eS, dCont, dBreak, dXi, dSetG, dAppG, oIsB, oNotB, dTx, pJoin, pSplit, pPart, pStarts, bStr, bIntS, dFmt, dJs, ↓reduceIte, nsp_none, nsp_bool, nsp_int, nsp_str, nsp_list, nsp_tuple, nsp_eQ, nsp_eP, nsp_eS, dat_pu, dat_ow, seqD_l, seqD_t, not_true_eq_false, Bool.true_eq_false, Bool.not_not, List.length_cons, List.length_nil, mkP, mkS, fits_list, fits_tuple, isIntD, isBoolD, isListD, isStrD, isTupD, Bool.not_true, Bool.not_false, Bool.false_eq_true, it_l0, it_l1, it_l2, it_t0, it_t1, it_t2, shp_ps, shp_pt, shp_ss, shp_is, seqD_eQ, seqD_eP, seqD_eS, walkD_eP, walkD_eS, walkD_l, walkD_t]
    exact ⟨by decide, s, _, 9, rfl, bs, by decide, by omega, hE _ rfl⟩
  rintro _ rfl
  generalize atP (1 + k.fmod 5) s = m at *
  have b1 : BdS 27 (s.1, m) := ⟨bs.1.mono (by decide), bm⟩
  have b2 : BdS 27 (m, s.2) := ⟨bm, bs.2.mono (by decide)⟩
  have e1 := meet_ends b1 bt
  have e2 := meet_ends b2 bt
  refine seq_cut (fun ρ => ρ = [.pu (eS s), .pu (eS t), .pu (eM (meetM s t)), .pu (.int k), .pu (eP m), .pu (.list [eM (meetM (s.1, m) t), eM (meetM (m, s.2) t)])]) (fun E _ hE => ?_) ?_
  · simp only [dRet, dRetF, dSetX, dCallX, dRetX, noOw, dTry, dCpy, dRaise, dRetO, dSetP, dSetS, dSetF, dSeq, dIf, dNext, dCall, dCallF, dB, dBin, dCons, dNil, dTup, dLst, dV, dC, dTV, onB, dTAnd, dTOr, dTNot, dAnd, dOr, dNot, dIfE, dIsN, dNotN, isN, dSl, dSlF, dNoPart, dPart, dPar, dParS, dAsg, dgN, dgT, dgCons, dgNil, dFE, dIsi, dListF, dNeg, dRev, dFrz, dApp, dAppS, dIns, dExtend, dClear, dReverse, dPop, oIx, oI, oIC, add_ii, add_ss, add_ll, add_tt, oSubI, oMulU, oMulI, oFd, oMd, oPw, oLt, oLe, oGt, oGe, oEq, oNe, getF, setF, Cl.d, getS, setS, purF_nil, purF_cons, purH, allF_nil, allF_cons, allH, rho0, endsOf, scalD, len_l, len_t, len_s, bAbs, bInt, bIntU, tup_l, tup_t, true_and, and_true, Option.some.injEq, exists_eq_left', decide_eq_true_eq, Bool.not_eq_true', decide_eq_false_iff_not, it_eQ0, it_eQ1, it_eP0, it_eP1, it_eS0, it_eS1, fits_eQ, fits_eP, fits_eS, eqv_eQ, eqv_eP, eqv_eS, eqv_int, eqv_bool, shp_int, shp_bool, shp_none, shp_eQ, shp_eP, shp_eS, dCont, dBreak, dXi, dSetG, dAppG, oIsB, oNotB, dTx, pJoin, pSplit, pPart, pStarts, bStr, bIntS, dFmt, dJs, ↓reduceIte, nsp_none, nsp_bool, nsp_int, nsp_str, nsp_list, nsp_tuple, nsp_eQ, nsp_eP, nsp_eS, dat_pu, dat_ow, seqD_l, seqD_t, not_true_eq_false, Bool.true_eq_false, Bool.not_not, List.length_cons, List.length_nil, mkP, mkS, fits_list, fits_tuple, isIntD, isBoolD, isListD, isStrD, isTupD, Bool.not_true, Bool.not_false, Bool.false_eq_true, it_l0, it_l1, it_l2, it_t0, it_t1, it_t2, shp_ps, shp_pt, shp_ss, shp_is, seqD_eQ, seqD_eP, seqD_eS, walkD_eP, walkD_eS, walkD_l, walkD_t]
    refine ⟨(s.1, m), t, 27, rfl, n1, ht, b1, bt, by decide, .inl (by decide), ?_⟩
    simp only [dRet, dRetF, dSetX, dCallX, dRetX, noOw, dTry, dCpy, dRaise, dRetO, dSetP, dSetS, dSetF, dSeq, dIf, dNext, dCall, dCallF, dB, dBin, dCons, dNil, dTup, dLst, dV, dC, dTV, onB, dTAnd, dTOr, dTNot, dAnd, dOr, dNot, dIfE, dIsN, dNotN, isN, dSl, dSlF, dNoPart, dPart, dPar, dParS, dAsg, dgN, dgT, dgCons, dgNil, dFE, dIsi, dListF, dNeg, dRev, dFrz, dApp, dAppS, dIns, dExtend, dClear, dReverse, dPop, oIx, oI, oIC, add_ii, add_ss, add_ll, add_tt, oSubI, oMulU, oMulI, oFd, oMd, oPw, oLt, oLe, oGt, oGe, oEq, oNe, getF, setF, Cl.d, getS, setS, purF_nil, purF_cons, purH, allF_nil, allF_cons, allH, rho0, endsOf, scalD, len_l, len_t, len_s, bAbs, bInt, bIntU, tup_l, tup_t, true_and, and_true, Option.some.injEq, exists_eq_left', decide_eq_true_eq, Bool.not_eq_true', decide_eq_false_iff_not, it_eQ0, it_eQ1, it_eP0, it_eP1, it_eS0, it_eS1, fits_eQ, fits_eP, fits_eS, eqv_eQ, eqv_eP, eqv_eS, eqv_int, eqv_bool, shp_int, shp_bool, shp_none, shp_eQ, shp_eP, shp_eS, dCont, dBreak, dXi, dSetG, dAppG, oIsB, oNotB, dTx, pJoin, pSplit, pPart, pStarts, bStr, bIntS, dFmt, dJs, ↓reduceIte, nsp_none, nsp_bool, nsp_int, nsp_str, nsp_list, nsp_tuple, nsp_eQ, nsp_eP, nsp_eS, dat_pu, dat_ow, seqD_l, seqD_t, not_true_eq_false, Bool.true_eq_false, Bool.not_not, List.length_cons, List.length_nil, mkP, mkS, fits_list, fits_tuple, isIntD, isBoolD, isListD, isStrD, isTupD, Bool.not_true, Bool.not_false, Bool.false_eq_true, it_l0, it_l1, it_l2, it_t0, it_t1, it_t2, shp_ps, shp_pt, shp_ss, shp_is, seqD_eQ, seqD_eP, seqD_eS, walkD_eP, walkD_eS, walkD_l, walkD_t]
    exact ⟨(m, s.2), t, 27, rfl, n2, ht, b2, bt, by decide, .inl (by decide), hE _ rfl⟩
  rintro _ rfl
  generalize meetM (s.1, m) t = m1 at *
  generalize meetM (m, s.2) t = m2 at *
  generalize meetM s t = mm at *
  have en : PyData.list [.none, .none] = .list [eM .no, eM .no] := rfl
  refine seq_cut (fun ρ => mm ≠ .no ∧ ρ = [.pu (eS s), .pu (eS t), .pu (eM mm), .pu (.int k), .pu (eP m), .pu (.list [eM m1, eM m2])]) (fun E er hE => ?_) ?_
  · simp only [isN_eM, en, shp_eM2, eqv_eM2, dRet, dRetF, dSetX, dCallX, dRetX, noOw, dTry, dCpy, dRaise, dRetO, dSetP, dSetS, dSetF, dSeq, dIf, dNext, dCall, dCallF, dB, dBin, dCons, dNil, dTup, dLst, dV, dC, dTV, onB, dTAnd, dTOr, dTNot, dAnd, dOr, dNot, dIfE, dIsN, dNotN, dSl, dSlF, dNoPart, dPart, dPar, dParS, dAsg, dgN, dgT, dgCons, dgNil, dFE, dIsi, dListF, dNeg, dRev, dFrz, dApp, dAppS, dIns, dExtend, dClear, dReverse, dPop, oIx, oI, oIC, add_ii, add_ss, add_ll, add_tt, oSubI, oMulU, oMulI, oFd, oMd, oPw, oLt, oLe, oGt, oGe, oEq, oNe, getF, setF, Cl.d, getS, setS, purF_nil, purF_cons, purH, allF_nil, allF_cons, allH, rho0, endsOf, scalD, len_l, len_t, len_s, bAbs, bInt, bIntU, tup_l, tup_t, true_and, and_true, Option.some.injEq, exists_eq_left', decide_eq_true_eq, Bool.not_eq_true', decide_eq_false_iff_not, it_eQ0, it_eQ1, it_eP0, it_eP1, it_eS0, it_eS1, fits_eQ, fits_eP, fits_eS, eqv_eQ, eqv_eP, eqv_eS, eqv_int, eqv_bool, shp_int, shp_bool, shp_none, shp_eQ, shp_eP, shp_eS, dCont, dBreak, dXi, dSetG, dAppG, oIsB, oNotB, dTx, pJoin, pSplit, pPart, pStarts, bStr, bIntS, dFmt, dJs, ↓reduceIte, nsp_none, nsp_bool, nsp_int, nsp_str, nsp_list, nsp_tuple, nsp_eQ, nsp_eP, nsp_eS, dat_pu, dat_ow, seqD_l, seqD_t, not_true_eq_false, Bool.true_eq_false, Bool.not_not, List.length_cons, List.length_nil, mkP, mkS, fits_list, fits_tuple, isIntD, isBoolD, isListD, isStrD, isTupD, Bool.not_true, Bool.not_false, Bool.false_eq_true, it_l0, it_l1, it_l2, it_t0, it_t1, it_t2, shp_ps, shp_pt, shp_ss, shp_is, seqD_eQ, seqD_eP, seqD_eS, walkD_eP, walkD_eS, walkD_l, walkD_t]
    by_cases c : mm = .no
    · have k1 := c1.mp c
      refine ite_yes c ?_
      refine ite_yes c ?_
      rw [decide_eq_true k1, er]
      exact h
    · have k1 : ¬ (m1 = .no ∧ m2 = .no) := fun z => c (c1.mpr z)
      refine ite_no c ?_
      refine ite_no k1 ?_
      exact hE _ ⟨c, rfl⟩
  rintro _ ⟨c, rfl⟩
  have bd : ∀ p ∈ endsM m1 ++ endsM m2, BdP 747 p := fun p hp => by
    rcases List.mem_append.mp hp with z | z
    · exact (e1 p z).mono (by decide)
    · exact (e2 p z).mono (by decide)
  cases mm with
  | no => exact absurd rfl c
  | pt p =>
    obtain ⟨lo, hi⟩ := c2 p rfl
    simp only [eM, dRet, dRetF, dSetX, dCallX, dRetX, noOw, dTry, dCpy, dRaise, dRetO, dSetP, dSetS, dSetF, dSeq, dIf, dNext, dCall, dCallF, dB, dBin, dCons, dNil, dTup, dLst, dV, dC, dTV, onB, dTAnd, dTOr, dTNot, dAnd, dOr, dNot, dIfE, dIsN, dNotN, dSl, dSlF, dNoPart, dPart, dPar, dParS, dAsg, dgN, dgT, dgCons, dgNil, dFE, dIsi, dListF, dNeg, dRev, dFrz, dApp, dAppS, dIns, dExtend, dClear, dReverse, dPop, oIx, oI, oIC, add_ii, add_ss, add_ll, add_tt, oSubI, oMulU, oMulI, oFd, oMd, oPw, oLt, oLe, oGt, oGe, oEq, oNe, getF, setF, Cl.d, getS, setS, purF_nil, purF_cons, purH, allF_nil, allF_cons, allH, rho0, endsOf, scalD, len_l, len_t, len_s, bAbs, bInt, bIntU, tup_l, tup_t, true_and, and_true, Option.some.injEq, exists_eq_left', decide_eq_true_eq, Bool.not_eq_true', decide_eq_false_iff_not, it_eQ0, it_eQ1, it_eP0, it_eP1, it_eS0, it_eS1, fits_eQ, fits_eP, fits_eS, eqv_eQ, eqv_eP, eqv_eS, eqv_int, eqv_bool, shp_int, shp_bool, shp_none, shp_eQ, shp_eP, shp_eS, dCont, dBreak, dXi, dSetG, dAppG, oIsB, oNotB, dTx, pJoin, pSplit, pPart, pStarts, bStr, bIntS, dFmt, dJs, ↓reduceIte, nsp_none, nsp_bool, nsp_int, nsp_str, nsp_list, nsp_tuple, nsp_eQ, nsp_eP, nsp_eS, dat_pu, dat_ow, seqD_l, seqD_t, not_true_eq_false, Bool.true_eq_false, Bool.not_not, List.length_cons, List.length_nil, mkP, mkS, fits_list, fits_tuple, isIntD, isBoolD, isListD, isStrD, isTupD, Bool.not_true, Bool.not_false, Bool.false_eq_true, it_l0, it_l1, it_l2, it_t0, it_t1, it_t2, shp_ps, shp_pt, shp_ss, shp_is, seqD_eQ, seqD_eP, seqD_eS, walkD_eP, walkD_eS, walkD_l, walkD_t]
    refine ⟨m1, m2, p, p, 747, rfl, bd, by decide, lo, hi, ?_⟩
    have j3 : itemD (.tuple [.str "point", eP p]) (((0 + 1 + 1 : Nat) : Int) - 1) = some (eP p) := rfl
    simp only [j3, dRet, dRetF, dSetX, dCallX, dRetX, noOw, dTry, dCpy, dRaise, dRetO, dSetP, dSetS, dSetF, dSeq, dIf, dNext, dCall, dCallF, dB, dBin, dCons, dNil, dTup, dLst, dV, dC, dTV, onB, dTAnd, dTOr, dTNot, dAnd, dOr, dNot, dIfE, dIsN, dNotN, dSl, dSlF, dNoPart, dPart, dPar, dParS, dAsg, dgN, dgT, dgCons, dgNil, dFE, dIsi, dListF, dNeg, dRev, dFrz, dApp, dAppS, dIns, dExtend, dClear, dReverse, dPop, oIx, oI, oIC, add_ii, add_ss, add_ll, add_tt, oSubI, oMulU, oMulI, oFd, oMd, oPw, oLt, oLe, oGt, oGe, oEq, oNe, getF, setF, Cl.d, getS, setS, purF_nil, purF_cons, purH, allF_nil, allF_cons, allH, rho0, endsOf, scalD, len_l, len_t, len_s, bAbs, bInt, bIntU, tup_l, tup_t, true_and, and_true, Option.some.injEq, exists_eq_left', decide_eq_true_eq, Bool.not_eq_true', decide_eq_false_iff_not, it_eQ0, it_eQ1, it_eP0, it_eP1, it_eS0, it_eS1, fits_eQ, fits_eP, fits_eS, eqv_eQ, eqv_eP, eqv_eS, eqv_int, eqv_bool, shp_int, shp_bool, shp_none, shp_eQ, shp_eP, shp_eS, dCont, dBreak, dXi, dSetG, dAppG, oIsB, oNotB, dTx, pJoin, pSplit, pPart, pStarts, bStr, bIntS, dFmt, dJs, ↓reduceIte, nsp_none, nsp_bool, nsp_int, nsp_str, nsp_list, nsp_tuple, nsp_eQ, nsp_eP, nsp_eS, dat_pu, dat_ow, seqD_l, seqD_t, not_true_eq_false, Bool.true_eq_false, Bool.not_not, List.length_cons, List.length_nil, mkP, mkS, fits_list, fits_tuple, isIntD, isBoolD, isListD, isStrD, isTupD, Bool.not_true, Bool.not_false, Bool.false_eq_true, it_l0, it_l1, it_l2, it_t0, it_t1, it_t2, shp_ps, shp_pt, shp_ss, shp_is, seqD_eQ, seqD_eP, seqD_eS, walkD_eP, walkD_eS, walkD_l, walkD_t]
    exact h
  | st a b =>
    obtain ⟨lo, hi⟩ := c3 a b rfl
    simp only [eM, dRet, dRetF, dSetX, dCallX, dRetX, noOw, dTry, dCpy, dRaise, dRetO, dSetP, dSetS, dSetF, dSeq, dIf, dNext, dCall, dCallF, dB, dBin, dCons, dNil, dTup, dLst, dV, dC, dTV, onB, dTAnd, dTOr, dTNot, dAnd, dOr, dNot, dIfE, dIsN, dNotN, dSl, dSlF, dNoPart, dPart, dPar, dParS, dAsg, dgN, dgT, dgCons, dgNil, dFE, dIsi, dListF, dNeg, dRev, dFrz, dApp, dAppS, dIns, dExtend, dClear, dReverse, dPop, oIx, oI, oIC, add_ii, add_ss, add_ll, add_tt, oSubI, oMulU, oMulI, oFd, oMd, oPw, oLt, oLe, oGt, oGe, oEq, oNe, getF, setF, Cl.d, getS, setS, purF_nil, purF_cons, purH, allF_nil, allF_cons, allH, rho0, endsOf, scalD, len_l, len_t, len_s, bAbs, bInt, bIntU, tup_l, tup_t, true_and, and_true, Option.some.injEq, exists_eq_left', decide_eq_true_eq, Bool.not_eq_true', decide_eq_false_iff_not, it_eQ0, it_eQ1, it_eP0, it_eP1, it_eS0, it_eS1, fits_eQ, fits_eP, fits_eS, eqv_eQ, eqv_eP, eqv_eS, eqv_int, eqv_bool, shp_int, shp_bool, shp_none, shp_eQ, shp_eP, shp_eS, dCont, dBreak, dXi, dSetG, dAppG, oIsB, oNotB, dTx, pJoin, pSplit, pPart, pStarts, bStr, bIntS, dFmt, dJs, ↓reduceIte, nsp_none, nsp_bool, nsp_int, nsp_str, nsp_list, nsp_tuple, nsp_eQ, nsp_eP, nsp_eS, dat_pu, dat_ow, seqD_l, seqD_t, not_true_eq_false, Bool.true_eq_false, Bool.not_not, List.length_cons, List.length_nil, mkP, mkS, fits_list, fits_tuple, isIntD, isBoolD, isListD, isStrD, isTupD, Bool.not_true, Bool.not_false, Bool.false_eq_true, it_l0, it_l1, it_l2, it_t0, it_t1, it_t2, shp_ps, shp_pt, shp_ss, shp_is, seqD_eQ, seqD_eP, seqD_eS, walkD_eP, walkD_eS, walkD_l, walkD_t]
    refine ⟨m1, m2, a, b, 747, rfl, bd, by decide, lo, hi, ?_⟩
    have j1 : itemD (.tuple [.str "stretch", eP a, eP b]) 1 = some (eP a) := rfl
    have j2 : itemD (.tuple [.str "stretch", eP a, eP b]) (((0 + 1 + 1 + 1 : Nat) : Int) - 1) = some (eP b) := rfl
    simp only [j1, j2, dRet, dRetF, dSetX, dCallX, dRetX, noOw, dTry, dCpy, dRaise, dRetO, dSetP, dSetS, dSetF, dSeq, dIf, dNext, dCall, dCallF, dB, dBin, dCons, dNil, dTup, dLst, dV, dC, dTV, onB, dTAnd, dTOr, dTNot, dAnd, dOr, dNot, dIfE, dIsN, dNotN, dSl, dSlF, dNoPart, dPart, dPar, dParS, dAsg, dgN, dgT, dgCons, dgNil, dFE, dIsi, dListF, dNeg, dRev, dFrz, dApp, dAppS, dIns, dExtend, dClear, dReverse, dPop, oIx, oI, oIC, add_ii, add_ss, add_ll, add_tt, oSubI, oMulU, oMulI, oFd, oMd, oPw, oLt, oLe, oGt, oGe, oEq, oNe, getF, setF, Cl.d, getS, setS, purF_nil, purF_cons, purH, allF_nil, allF_cons, allH, rho0, endsOf, scalD, len_l, len_t, len_s, bAbs, bInt, bIntU, tup_l, tup_t, true_and, and_true, Option.some.injEq, exists_eq_left', decide_eq_true_eq, Bool.not_eq_true', decide_eq_false_iff_not, it_eQ0, it_eQ1, it_eP0, it_eP1, it_eS0, it_eS1, fits_eQ, fits_eP, fits_eS, eqv_eQ, eqv_eP, eqv_eS, eqv_int, eqv_bool, shp_int, shp_bool, shp_none, shp_eQ, shp_eP, shp_eS, dCont, dBreak, dXi, dSetG, dAppG, oIsB, oNotB, dTx, pJoin, pSplit, pPart, pStarts, bStr, bIntS, dFmt, dJs, ↓reduceIte, nsp_none, nsp_bool, nsp_int, nsp_str, nsp_list, nsp_tuple, nsp_eQ, nsp_eP, nsp_eS, dat_pu, dat_ow, seqD_l, seqD_t, not_true_eq_false, Bool.true_eq_false, Bool.not_not, List.length_cons, List.length_nil, mkP, mkS, fits_list, fits_tuple, isIntD, isBoolD, isListD, isStrD, isTupD, Bool.not_true, Bool.not_false, Bool.false_eq_true, it_l0, it_l1, it_l2, it_t0, it_t1, it_t2, shp_ps, shp_pt, shp_ss, shp_is, seqD_eQ, seqD_eP, seqD_eS, walkD_eP, walkD_eS, walkD_l, walkD_t]
    exact h
theorem rd__law_in_order (ds : List Dt) (Φ : Slot → Prop) (Ξ : XD → Prop) (h : sp__law_in_order ds Φ Ξ) : d__law_in_order (endsOf Φ Ξ) (rho0 N__law_in_order ds) := by
  obtain ⟨a, b, n, rfl, ha, hb, hn, h⟩ := h
  unfold loP hiP at h
  simp only at h
  simp only [d__law_in_order, N__law_in_order, dRet, dRetF, dSetX, dCallX, dRetX, noOw, dTry, dCpy, dRaise, dRetO, dSetP, dSetS, dSetF, dSeq, dIf, dNext, dCall, dCallF, dB, dBin, dCons, dNil, dTup, dLst, dV, dC, dTV, onB, dTAnd, dTOr, dTNot, dAnd, dOr, dNot, dIfE, dIsN, dNotN, isN, dSl, dSlF, dNoPart, dPart, dPar, dParS, dAsg, dgN, dgT, dgCons, dgNil, dFE, dIsi, dListF, dNeg, dRev, dFrz, dApp, dAppS, dIns, dExtend, dClear, dReverse, dPop, oIx, oI, oIC, add_ii, add_ss, add_ll, add_tt, oSubI, oMulU, oMulI, oFd, oMd, oPw, oLt, oLe, oGt, oGe, oEq, oNe, getF, setF, Cl.d, getS, setS, purF_nil, purF_cons, purH, allF_nil, allF_cons, allH, rho0, endsOf, scalD, len_l, len_t, len_s, bAbs, bInt, bIntU, tup_l, tup_t, true_and, and_true, Option.some.injEq, exists_eq_left', decide_eq_true_eq, Bool.not_eq_true', decide_eq_false_iff_not, it_eQ0, it_eQ1, it_eP0, it_eP1, it_eS0, it_eS1, fits_eQ, fits_eP, fits_eS, eqv_eQ, eqv_eP, eqv_eS, eqv_int, eqv_bool, shp_int, shp_bool, shp_none, shp_eQ, shp_eP, shp_eS, dCont, dBreak, dXi, dSetG, dAppG, oIsB, oNotB, dTx, pJoin, pSplit, pPart, pStarts, bStr, bIntS, dFmt, dJs, ↓reduceIte, nsp_none, nsp_bool, nsp_int, nsp_str, nsp_list, nsp_tuple, nsp_eQ, nsp_eP, nsp_eS, dat_pu, dat_ow, seqD_l, seqD_t, not_true_eq_false, Bool.true_eq_false, Bool.not_not, List.length_cons, List.length_nil, mkP, mkS, fits_list, fits_tuple, isIntD, isBoolD, isListD, isStrD, isTupD, Bool.not_true, Bool.not_false, Bool.false_eq_true, it_l0, it_l1, it_l2, it_t0, it_t1, it_t2, shp_ps, shp_pt, shp_ss, shp_is, seqD_eQ, seqD_eP, seqD_eS, walkD_eP, walkD_eS, walkD_l, walkD_t]
  refine ⟨b, a, n, rfl, hb, ha, by omega, ?_⟩
  simp only [dRet, dRetF, dSetX, dCallX, dRetX, noOw, dTry, dCpy, dRaise, dRetO, dSetP, dSetS, dSetF, dSeq, dIf, dNext, dCall, dCallF, dB, dBin, dCons, dNil, dTup, dLst, dV, dC, dTV, onB, dTAnd, dTOr, dTNot, dAnd, dOr, dNot, dIfE, dIsN, dNotN, isN, dSl, dSlF, dNoPart, dPart, dPar, dParS, dAsg, dgN, dgT, dgCons, dgNil, dFE, dIsi, dListF, dNeg, dRev, dFrz, dApp, dAppS, dIns, dExtend, dClear, dReverse, dPop, oIx, oI, oIC, add_ii, add_ss, add_ll, add_tt, oSubI, oMulU, oMulI, oFd, oMd, oPw, oLt, oLe, oGt, oGe, oEq, oNe, getF, setF, Cl.d, getS, setS, purF_nil, purF_cons, purH, allF_nil, allF_cons, allH, rho0, endsOf, scalD, len_l, len_t, len_s, bAbs, bInt, bIntU, tup_l, tup_t, true_and, and_true, Option.some.injEq, exists_eq_left', decide_eq_true_eq, Bool.not_eq_true', decide_eq_false_iff_not, it_eQ0, it_eQ1, it_eP0, it_eP1, it_eS0, it_eS1, fits_eQ, fits_eP, fits_eS, eqv_eQ, eqv_eP, eqv_eS, eqv_int, eqv_bool, shp_int, shp_bool, shp_none, shp_eQ, shp_eP, shp_eS, dCont, dBreak, dXi, dSetG, dAppG, oIsB, oNotB, dTx, pJoin, pSplit, pPart, pStarts, bStr, bIntS, dFmt, dJs, ↓reduceIte, nsp_none, nsp_bool, nsp_int, nsp_str, nsp_list, nsp_tuple, nsp_eQ, nsp_eP, nsp_eS, dat_pu, dat_ow, seqD_l, seqD_t, not_true_eq_false, Bool.true_eq_false, Bool.not_not, List.length_cons, List.length_nil, mkP, mkS, fits_list, fits_tuple, isIntD, isBoolD, isListD, isStrD, isTupD, Bool.not_true, Bool.not_false, Bool.false_eq_true, it_l0, it_l1, it_l2, it_t0, it_t1, it_t2, shp_ps, shp_pt, shp_ss, shp_is, seqD_eQ, seqD_eP, seqD_eS, walkD_eP, walkD_eS, walkD_l, walkD_t]
  by_cases c : ltP b a
  · rw [if_pos c, if_pos c] at h
    rw [if_pos c]
    exact h
  · rw [if_neg c, if_neg c] at h
    rw [if_neg c]
    exact h
theorem rd__law_on_both (ds : List Dt) (Φ : Slot → Prop) (Ξ : XD → Prop) (h : sp__law_on_both ds Φ Ξ) : d__law_on_both (endsOf Φ Ξ) (rho0 N__law_on_both ds) := by
  obtain ⟨s, t, rfl, hs, ht, bs, bt, h⟩ := h
  have bs2 : BdS 27 s := bs.mono (by decide)
  have be := meet_ends bs2 bt
  have on := ends_in (meet_desc hs ht)
  show dSeq _ _ _ [.pu (eS s), .pu (eS t), .pu (eM (meetM s t)), .un, .un]
  generalize meetM s t = m at *
  refine seq_cut (fun ρ => m ≠ .no ∧ ρ = [.pu (eS s), .pu (eS t), .pu (eM m), .un, .un]) (fun E er hE => ?_) ?_
  · simp only [isN_eM, dRet, dRetF, dSetX, dCallX, dRetX, noOw, dTry, dCpy, dRaise, dRetO, dSetP, dSetS, dSetF, dSeq, dIf, dNext, dCall, dCallF, dB, dBin, dCons, dNil, dTup, dLst, dV, dC, dTV, onB, dTAnd, dTOr, dTNot, dAnd, dOr, dNot, dIfE, dIsN, dNotN, dSl, dSlF, dNoPart, dPart, dPar, dParS, dAsg, dgN, dgT, dgCons, dgNil, dFE, dIsi, dListF, dNeg, dRev, dFrz, dApp, dAppS, dIns, dExtend, dClear, dReverse, dPop, oIx, oI, oIC, add_ii, add_ss, add_ll, add_tt, oSubI, oMulU, oMulI, oFd, oMd, oPw, oLt, oLe, oGt, oGe, oEq, oNe, getF, setF, Cl.d, getS, setS, purF_nil, purF_cons, purH, allF_nil, allF_cons, allH, rho0, endsOf, scalD, len_l, len_t, len_s, bAbs, bInt, bIntU, tup_l, tup_t, true_and, and_true, Option.some.injEq, exists_eq_left', decide_eq_true_eq, Bool.not_eq_true', decide_eq_false_iff_not, it_eQ0, it_eQ1, it_eP0, it_eP1, it_eS0, it_eS1, fits_eQ, fits_eP, fits_eS, eqv_eQ, eqv_eP, eqv_eS, eqv_int, eqv_bool, shp_int, shp_bool, shp_none, shp_eQ, shp_eP, shp_eS, dCont, dBreak, dXi, dSetG, dAppG, oIsB, oNotB, dTx, pJoin, pSplit, pPart, pStarts, bStr, bIntS, dFmt, dJs, ↓reduceIte, nsp_none, nsp_bool, nsp_int, nsp_str, nsp_list, nsp_tuple, nsp_eQ, nsp_eP, nsp_eS, dat_pu, dat_ow, seqD_l, seqD_t, not_true_eq_false, Bool.true_eq_false, Bool.not_not, List.length_cons, List.length_nil, mkP, mkS, fits_list, fits_tuple, isIntD, isBoolD, isListD, isStrD, isTupD, Bool.not_true, Bool.not_false, Bool.false_eq_true, it_l0, it_l1, it_l2, it_t0, it_t1, it_t2, shp_ps, shp_pt, shp_ss, shp_is, seqD_eQ, seqD_eP, seqD_eS, walkD_eP, walkD_eS, walkD_l, walkD_t]
    by_cases c : m = .no
    · refine ite_yes c ?_
      rw [er]
      exact h
    · exact ite_no c (hE _ ⟨c, rfl⟩)
  rintro _ ⟨c, rfl⟩
  refine seq_for (ds := (endsM m).map eP) (fun Q hQ => ?_) (fun k ρ => ∃ u v : Slot, ρ = [.pu (eS s), .pu (eS t), .pu (eM m), u, v]) ⟨_, _, rfl⟩ ?_ ?_
  · simp only [diSeq, fits_eM, eM_tail c, dRet, dRetF, dSetX, dCallX, dRetX, noOw, dTry, dCpy, dRaise, dRetO, dSetP, dSetS, dSetF, dSeq, dIf, dNext, dCall, dCallF, dB, dBin, dCons, dNil, dTup, dLst, dV, dC, dTV, onB, dTAnd, dTOr, dTNot, dAnd, dOr, dNot, dIfE, dIsN, dNotN, isN, dSl, dSlF, dNoPart, dPart, dPar, dParS, dAsg, dgN, dgT, dgCons, dgNil, dFE, dIsi, dListF, dNeg, dRev, dFrz, dApp, dAppS, dIns, dExtend, dClear, dReverse, dPop, oIx, oI, oIC, add_ii, add_ss, add_ll, add_tt, oSubI, oMulU, oMulI, oFd, oMd, oPw, oLt, oLe, oGt, oGe, oEq, oNe, getF, setF, Cl.d, getS, setS, purF_nil, purF_cons, purH, allF_nil, allF_cons, allH, rho0, endsOf, scalD, len_l, len_t, len_s, bAbs, bInt, bIntU, tup_l, tup_t, true_and, and_true, Option.some.injEq, exists_eq_left', decide_eq_true_eq, Bool.not_eq_true', decide_eq_false_iff_not, it_eQ0, it_eQ1, it_eP0, it_eP1, it_eS0, it_eS1, fits_eQ, fits_eP, fits_eS, eqv_eQ, eqv_eP, eqv_eS, eqv_int, eqv_bool, shp_int, shp_bool, shp_none, shp_eQ, shp_eP, shp_eS, dCont, dBreak, dXi, dSetG, dAppG, oIsB, oNotB, dTx, pJoin, pSplit, pPart, pStarts, bStr, bIntS, dFmt, dJs, ↓reduceIte, nsp_none, nsp_bool, nsp_int, nsp_str, nsp_list, nsp_tuple, nsp_eQ, nsp_eP, nsp_eS, dat_pu, dat_ow, seqD_l, seqD_t, not_true_eq_false, Bool.true_eq_false, Bool.not_not, List.length_cons, List.length_nil, mkP, mkS, fits_list, fits_tuple, isIntD, isBoolD, isListD, isStrD, isTupD, Bool.not_true, Bool.not_false, Bool.false_eq_true, it_l0, it_l1, it_l2, it_t0, it_t1, it_t2, shp_ps, shp_pt, shp_ss, shp_is, seqD_eQ, seqD_eP, seqD_eS, walkD_eP, walkD_eS, walkD_l, walkD_t]
    exact hQ
  · rintro k d ρ' hk ⟨u, v, rfl⟩
    obtain ⟨p, hp, rfl⟩ := map_get hk
    have mp := List.mem_of_getElem? hp
    have bp := be p mp
    obtain ⟨o1, o2⟩ := on p mp
    simp only [dgN, setS]
    refine seq_cut (fun ρ => ρ = [.pu (eS s), .pu (eS t), .pu (eM m), .pu (eP p), v]) (fun E _ hE => ?_) ?_
    · simp only [dRet, dRetF, dSetX, dCallX, dRetX, noOw, dTry, dCpy, dRaise, dRetO, dSetP, dSetS, dSetF, dSeq, dIf, dNext, dCall, dCallF, dB, dBin, dCons, dNil, dTup, dLst, dV, dC, dTV, onB, dTAnd, dTOr, dTNot, dAnd, dOr, dNot, dIfE, dIsN, dNotN, isN, dSl, dSlF, dNoPart, dPart, dPar, dParS, dAsg, dgN, dgT, dgCons, dgNil, dFE, dIsi, dListF, dNeg, dRev, dFrz, dApp, dAppS, dIns, dExtend, dClear, dReverse, dPop, oIx, oI, oIC, add_ii, add_ss, add_ll, add_tt, oSubI, oMulU, oMulI, oFd, oMd, oPw, oLt, oLe, oGt, oGe, oEq, oNe, getF, setF, Cl.d, getS, setS, purF_nil, purF_cons, purH, allF_nil, allF_cons, allH, rho0, endsOf, scalD, len_l, len_t, len_s, bAbs, bInt, bIntU, tup_l, tup_t, true_and, and_true, Option.some.injEq, exists_eq_left', decide_eq_true_eq, Bool.not_eq_true', decide_eq_false_iff_not, it_eQ0, it_eQ1, it_eP0, it_eP1, it_eS0, it_eS1, fits_eQ, fits_eP, fits_eS, eqv_eQ, eqv_eP, eqv_eS, eqv_int, eqv_bool, shp_int, shp_bool, shp_none, shp_eQ, shp_eP, shp_eS, dCont, dBreak, dXi, dSetG, dAppG, oIsB, oNotB, dTx, pJoin, pSplit, pPart, pStarts, bStr, bIntS, dFmt, dJs, ↓reduceIte, nsp_none, nsp_bool, nsp_int, nsp_str, nsp_list, nsp_tuple, nsp_eQ, nsp_eP, nsp_eS, dat_pu, dat_ow, seqD_l, seqD_t, not_true_eq_false, Bool.true_eq_false, Bool.not_not, List.length_cons, List.length_nil, mkP, mkS, fits_list, fits_tuple, isIntD, isBoolD, isListD, isStrD, isTupD, Bool.not_true, Bool.not_false, Bool.false_eq_true, it_l0, it_l1, it_l2, it_t0, it_t1, it_t2, shp_ps, shp_pt, shp_ss, shp_is, seqD_eQ, seqD_eP, seqD_eS, walkD_eP, walkD_eS, walkD_l, walkD_t]
      refine ⟨s, p, 747, rfl, hs, bs.mono (by decide), bp.mono (by decide), by decide, ?_⟩
      simp only [o1, decide_true, dRet, dRetF, dSetX, dCallX, dRetX, noOw, dTry, dCpy, dRaise, dRetO, dSetP, dSetS, dSetF, dSeq, dIf, dNext, dCall, dCallF, dB, dBin, dCons, dNil, dTup, dLst, dV, dC, dTV, onB, dTAnd, dTOr, dTNot, dAnd, dOr, dNot, dIfE, dIsN, dNotN, isN, dSl, dSlF, dNoPart, dPart, dPar, dParS, dAsg, dgN, dgT, dgCons, dgNil, dFE, dIsi, dListF, dNeg, dRev, dFrz, dApp, dAppS, dIns, dExtend, dClear, dReverse, dPop, oIx, oI, oIC, add_ii, add_ss, add_ll, add_tt, oSubI, oMulU, oMulI, oFd, oMd, oPw, oLt, oLe, oGt, oGe, oEq, oNe, getF, setF, Cl.d, getS, setS, purF_nil, purF_cons, purH, allF_nil, allF_cons, allH, rho0, endsOf, scalD, len_l, len_t, len_s, bAbs, bInt, bIntU, tup_l, tup_t, true_and, and_true, Option.some.injEq, exists_eq_left', decide_eq_true_eq, Bool.not_eq_true', decide_eq_false_iff_not, it_eQ0, it_eQ1, it_eP0, it_eP1, it_eS0, it_eS1, fits_eQ, fits_eP, fits_eS, eqv_eQ, eqv_eP, eqv_eS, eqv_int, eqv_bool, shp_int, shp_bool, shp_none, shp_eQ, shp_eP, shp_eS, dCont, dBreak, dXi, dSetG, dAppG, oIsB, oNotB, dTx, pJoin, pSplit, pPart, pStarts, bStr, bIntS, dFmt, dJs, ↓reduceIte, nsp_none, nsp_bool, nsp_int, nsp_str, nsp_list, nsp_tuple, nsp_eQ, nsp_eP, nsp_eS, dat_pu, dat_ow, seqD_l, seqD_t, not_true_eq_false, Bool.true_eq_false, Bool.not_not, List.length_cons, List.length_nil, mkP, mkS, fits_list, fits_tuple, isIntD, isBoolD, isListD, isStrD, isTupD, Bool.not_true, Bool.not_false, Bool.false_eq_true, it_l0, it_l1, it_l2, it_t0, it_t1, it_t2, shp_ps, shp_pt, shp_ss, shp_is, seqD_eQ, seqD_eP, seqD_eS, walkD_eP, walkD_eS, walkD_l, walkD_t]
      refine ⟨t, p, 747, rfl, ht, bt.mono (by decide), bp.mono (by decide), by decide, ?_⟩
      simp only [o2, decide_true, dRet, dRetF, dSetX, dCallX, dRetX, noOw, dTry, dCpy, dRaise, dRetO, dSetP, dSetS, dSetF, dSeq, dIf, dNext, dCall, dCallF, dB, dBin, dCons, dNil, dTup, dLst, dV, dC, dTV, onB, dTAnd, dTOr, dTNot, dAnd, dOr, dNot, dIfE, dIsN, dNotN, isN, dSl, dSlF, dNoPart, dPart, dPar, dParS, dAsg, dgN, dgT, dgCons, dgNil, dFE, dIsi, dListF, dNeg, dRev, dFrz, dApp, dAppS, dIns, dExtend, dClear, dReverse, dPop, oIx, oI, oIC, add_ii, add_ss, add_ll, add_tt, oSubI, oMulU, oMulI, oFd, oMd, oPw, oLt, oLe, oGt, oGe, oEq, oNe, getF, setF, Cl.d, getS, setS, purF_nil, purF_cons, purH, allF_nil, allF_cons, allH, rho0, endsOf, scalD, len_l, len_t, len_s, bAbs, bInt, bIntU, tup_l, tup_t, true_and, and_true, Option.some.injEq, exists_eq_left', decide_eq_true_eq, Bool.not_eq_true', decide_eq_false_iff_not, it_eQ0, it_eQ1, it_eP0, it_eP1, it_eS0, it_eS1, fits_eQ, fits_eP, fits_eS, eqv_eQ, eqv_eP, eqv_eS, eqv_int, eqv_bool, shp_int, shp_bool, shp_none, shp_eQ, shp_eP, shp_eS, dCont, dBreak, dXi, dSetG, dAppG, oIsB, oNotB, dTx, pJoin, pSplit, pPart, pStarts, bStr, bIntS, dFmt, dJs, ↓reduceIte, nsp_none, nsp_bool, nsp_int, nsp_str, nsp_list, nsp_tuple, nsp_eQ, nsp_eP, nsp_eS, dat_pu, dat_ow, seqD_l, seqD_t, not_true_eq_false, Bool.true_eq_false, Bool.not_not, List.length_cons, List.length_nil, mkP, mkS, fits_list, fits_tuple, isIntD, isBoolD, isListD, isStrD, isTupD, Bool.not_true, Bool.not_false, Bool.false_eq_true, it_l0, it_l1, it_l2, it_t0, it_t1, it_t2, shp_ps, shp_pt, shp_ss, shp_is, seqD_eQ, seqD_eP, seqD_eS, walkD_eP, walkD_eS, walkD_l, walkD_t]
      exact hE _ rfl
    rintro _ rfl
    refine seq_cut (fun ρ => ρ = [.pu (eS s), .pu (eS t), .pu (eM m), .pu (eP p), .pu (eP s.1)]) (fun E _ hE => ?_) ?_
    · simp only [dRet, dRetF, dSetX, dCallX, dRetX, noOw, dTry, dCpy, dRaise, dRetO, dSetP, dSetS, dSetF, dSeq, dIf, dNext, dCall, dCallF, dB, dBin, dCons, dNil, dTup, dLst, dV, dC, dTV, onB, dTAnd, dTOr, dTNot, dAnd, dOr, dNot, dIfE, dIsN, dNotN, isN, dSl, dSlF, dNoPart, dPart, dPar, dParS, dAsg, dgN, dgT, dgCons, dgNil, dFE, dIsi, dListF, dNeg, dRev, dFrz, dApp, dAppS, dIns, dExtend, dClear, dReverse, dPop, oIx, oI, oIC, add_ii, add_ss, add_ll, add_tt, oSubI, oMulU, oMulI, oFd, oMd, oPw, oLt, oLe, oGt, oGe, oEq, oNe, getF, setF, Cl.d, getS, setS, purF_nil, purF_cons, purH, allF_nil, allF_cons, allH, rho0, endsOf, scalD, len_l, len_t, len_s, bAbs, bInt, bIntU, tup_l, tup_t, true_and, and_true, Option.some.injEq, exists_eq_left', decide_eq_true_eq, Bool.not_eq_true', decide_eq_false_iff_not, it_eQ0, it_eQ1, it_eP0, it_eP1, it_eS0, it_eS1, fits_eQ, fits_eP, fits_eS, eqv_eQ, eqv_eP, eqv_eS, eqv_int, eqv_bool, shp_int, shp_bool, shp_none, shp_eQ, shp_eP, shp_eS, dCont, dBreak, dXi, dSetG, dAppG, oIsB, oNotB, dTx, pJoin, pSplit, pPart, pStarts, bStr, bIntS, dFmt, dJs, ↓reduceIte, nsp_none, nsp_bool, nsp_int, nsp_str, nsp_list, nsp_tuple, nsp_eQ, nsp_eP, nsp_eS, dat_pu, dat_ow, seqD_l, seqD_t, not_true_eq_false, Bool.true_eq_false, Bool.not_not, List.length_cons, List.length_nil, mkP, mkS, fits_list, fits_tuple, isIntD, isBoolD, isListD, isStrD, isTupD, Bool.not_true, Bool.not_false, Bool.false_eq_true, it_l0, it_l1, it_l2, it_t0, it_t1, it_t2, shp_ps, shp_pt, shp_ss, shp_is, seqD_eQ, seqD_eP, seqD_eS, walkD_eP, walkD_eS, walkD_l, walkD_t]
      exact hE _ rfl
    rintro _ rfl
    simp only [dRet, dRetF, dSetX, dCallX, dRetX, noOw, dTry, dCpy, dRaise, dRetO, dSetP, dSetS, dSetF, dSeq, dIf, dNext, dCall, dCallF, dB, dBin, dCons, dNil, dTup, dLst, dV, dC, dTV, onB, dTAnd, dTOr, dTNot, dAnd, dOr, dNot, dIfE, dIsN, dNotN, isN, dSl, dSlF, dNoPart, dPart, dPar, dParS, dAsg, dgN, dgT, dgCons, dgNil, dFE, dIsi, dListF, dNeg, dRev, dFrz, dApp, dAppS, dIns, dExtend, dClear, dReverse, dPop, oIx, oI, oIC, add_ii, add_ss, add_ll, add_tt, oSubI, oMulU, oMulI, oFd, oMd, oPw, oLt, oLe, oGt, oGe, oEq, oNe, getF, setF, Cl.d, getS, setS, purF_nil, purF_cons, purH, allF_nil, allF_cons, allH, rho0, endsOf, scalD, len_l, len_t, len_s, bAbs, bInt, bIntU, tup_l, tup_t, true_and, and_true, Option.some.injEq, exists_eq_left', decide_eq_true_eq, Bool.not_eq_true', decide_eq_false_iff_not, it_eQ0, it_eQ1, it_eP0, it_eP1, it_eS0, it_eS1, fits_eQ, fits_eP, fits_eS, eqv_eQ, eqv_eP, eqv_eS, eqv_int, eqv_bool, shp_int, shp_bool, shp_none, shp_eQ, shp_eP, shp_eS, dCont, dBreak, dXi, dSetG, dAppG, oIsB, oNotB, dTx, pJoin, pSplit, pPart, pStarts, bStr, bIntS, dFmt, dJs, ↓reduceIte, nsp_none, nsp_bool, nsp_int, nsp_str, nsp_list, nsp_tuple, nsp_eQ, nsp_eP, nsp_eS, dat_pu, dat_ow, seqD_l, seqD_t, not_true_eq_false, Bool.true_eq_false, Bool.not_not, List.length_cons, List.length_nil, mkP, mkS, fits_list, fits_tuple, isIntD, isBoolD, isListD, isStrD, isTupD, Bool.not_true, Bool.not_false, Bool.false_eq_true, it_l0, it_l1, it_l2, it_t0, it_t1, it_t2, shp_ps, shp_pt, shp_ss, shp_is, seqD_eQ, seqD_eP, seqD_eS, walkD_eP, walkD_eS, walkD_l, walkD_t]
    by_cases e : p = s.1
    · refine ite_no (fun z => z e) ?_
      exact ⟨_, _, rfl⟩
    · refine ite_yes e ?_
      have ne : s.1 ≠ p := fun z => e z.symm
      have x1 : crossQ s.1 p p = 0 := by unfold crossQ; grind
      have x2 : crossQ s.1 p s.1 = 0 := by unfold crossQ; grind
      refine ⟨(s.1, p), (p, s.1), 747, rfl, ne, e, ⟨bs.1.mono (by decide), bp.mono (by decide)⟩, ⟨bp.mono (by decide), bs.1.mono (by decide)⟩, by decide, .inr ⟨x1, x2⟩, ?_⟩
      have mb : meetM (s.1, p) (p, s.1) = .st (loP (s.1, p)) (hiP (s.1, p)) := meet_back (s := (s.1, p)) ne
      rw [mb]
      simp only [dRet, dRetF, dSetX, dCallX, dRetX, noOw, dTry, dCpy, dRaise, dRetO, dSetP, dSetS, dSetF, dSeq, dIf, dNext, dCall, dCallF, dB, dBin, dCons, dNil, dTup, dLst, dV, dC, dTV, onB, dTAnd, dTOr, dTNot, dAnd, dOr, dNot, dIfE, dIsN, dNotN, isN, dSl, dSlF, dNoPart, dPart, dPar, dParS, dAsg, dgN, dgT, dgCons, dgNil, dFE, dIsi, dListF, dNeg, dRev, dFrz, dApp, dAppS, dIns, dExtend, dClear, dReverse, dPop, oIx, oI, oIC, add_ii, add_ss, add_ll, add_tt, oSubI, oMulU, oMulI, oFd, oMd, oPw, oLt, oLe, oGt, oGe, oEq, oNe, getF, setF, Cl.d, getS, setS, purF_nil, purF_cons, purH, allF_nil, allF_cons, allH, rho0, endsOf, scalD, len_l, len_t, len_s, bAbs, bInt, bIntU, tup_l, tup_t, true_and, and_true, Option.some.injEq, exists_eq_left', decide_eq_true_eq, Bool.not_eq_true', decide_eq_false_iff_not, it_eQ0, it_eQ1, it_eP0, it_eP1, it_eS0, it_eS1, fits_eQ, fits_eP, fits_eS, eqv_eQ, eqv_eP, eqv_eS, eqv_int, eqv_bool, shp_int, shp_bool, shp_none, shp_eQ, shp_eP, shp_eS, dCont, dBreak, dXi, dSetG, dAppG, oIsB, oNotB, dTx, pJoin, pSplit, pPart, pStarts, bStr, bIntS, dFmt, dJs, ↓reduceIte, nsp_none, nsp_bool, nsp_int, nsp_str, nsp_list, nsp_tuple, nsp_eQ, nsp_eP, nsp_eS, dat_pu, dat_ow, seqD_l, seqD_t, not_true_eq_false, Bool.true_eq_false, Bool.not_not, List.length_cons, List.length_nil, mkP, mkS, fits_list, fits_tuple, isIntD, isBoolD, isListD, isStrD, isTupD, Bool.not_true, Bool.not_false, Bool.false_eq_true, it_l0, it_l1, it_l2, it_t0, it_t1, it_t2, shp_ps, shp_pt, shp_ss, shp_is, seqD_eQ, seqD_eP, seqD_eS, walkD_eP, walkD_eS, walkD_l, walkD_t]
      refine ⟨s.1, p, 747, rfl, bs.1.mono (by decide), bp.mono (by decide), by decide, ?_⟩
      simp only [shp_eM, eqv_eM, dRet, dRetF, dSetX, dCallX, dRetX, noOw, dTry, dCpy, dRaise, dRetO, dSetP, dSetS, dSetF, dSeq, dIf, dNext, dCall, dCallF, dB, dBin, dCons, dNil, dTup, dLst, dV, dC, dTV, onB, dTAnd, dTOr, dTNot, dAnd, dOr, dNot, dIfE, dIsN, dNotN, isN, dSl, dSlF, dNoPart, dPart, dPar, dParS, dAsg, dgN, dgT, dgCons, dgNil, dFE, dIsi, dListF, dNeg, dRev, dFrz, dApp, dAppS, dIns, dExtend, dClear, dReverse, dPop, oIx, oI, oIC, add_ii, add_ss, add_ll, add_tt, oSubI, oMulU, oMulI, oFd, oMd, oPw, oLt, oLe, oGt, oGe, oEq, oNe, getF, setF, Cl.d, getS, setS, purF_nil, purF_cons, purH, allF_nil, allF_cons, allH, rho0, endsOf, scalD, len_l, len_t, len_s, bAbs, bInt, bIntU, tup_l, tup_t, true_and, and_true, Option.some.injEq, exists_eq_left', decide_eq_true_eq, Bool.not_eq_true', decide_eq_false_iff_not, it_eQ0, it_eQ1, it_eP0, it_eP1, it_eS0, it_eS1, fits_eQ, fits_eP, fits_eS, eqv_eQ, eqv_eP, eqv_eS, eqv_int, eqv_bool, shp_int, shp_bool, shp_none, shp_eQ, shp_eP, shp_eS, dCont, dBreak, dXi, dSetG, dAppG, oIsB, oNotB, dTx, pJoin, pSplit, pPart, pStarts, bStr, bIntS, dFmt, dJs, ↓reduceIte, nsp_none, nsp_bool, nsp_int, nsp_str, nsp_list, nsp_tuple, nsp_eQ, nsp_eP, nsp_eS, dat_pu, dat_ow, seqD_l, seqD_t, not_true_eq_false, Bool.true_eq_false, Bool.not_not, List.length_cons, List.length_nil, mkP, mkS, fits_list, fits_tuple, isIntD, isBoolD, isListD, isStrD, isTupD, Bool.not_true, Bool.not_false, Bool.false_eq_true, it_l0, it_l1, it_l2, it_t0, it_t1, it_t2, shp_ps, shp_pt, shp_ss, shp_is, seqD_eQ, seqD_eP, seqD_eS, walkD_eP, walkD_eS, walkD_l, walkD_t]
      exact ⟨_, _, rfl⟩
  · rintro ρ' ⟨u, v, rfl⟩
    exact h
end L2.D3.K05
set_option maxHeartbeats 1000000
/-! The law of meets cut and carried. -/
namespace L2.D3.K05
open PySem PySem.Spec PyProof.Rows L2.D3
theorem car_sgn {k : KI} (hk : KOk k) (s : Sd) (p : Pt) : sgnQ (crossQ ((carOf k).sd s).1 ((carOf k).sd s).2 ((carOf k).pt p)) = if k.a * k.e - k.b * k.d < 0 then 0 - sgnQ (crossQ s.1 s.2 p) else sgnQ (crossQ s.1 s.2 p) := by
  have dn := det_ne hk
  have e : (carOf k).det = ((k.a * k.e - k.b * k.d : Int) : Rat) := by
    unfold Car.det carOf
    simp only
    rw [Rat.intCast_sub, Rat.intCast_mul, Rat.intCast_mul]
  have i : (carOf k).det < 0 ↔ k.a * k.e - k.b * k.d < 0 := by
    rw [e]
    exact_mod_cast Iff.rfl
  show sgnQ (crossQ ((carOf k).pt s.1) ((carOf k).pt s.2) ((carOf k).pt p)) = _
  rw [car_cross, sgn_mul, if_neg dn]
  simp only [i, Int.zero_sub]
theorem it_eK (k : KI) : itemD (eK k) 0 = some (.int k.a) ∧ itemD (eK k) 1 = some (.int k.b) ∧ itemD (eK k) 3 = some (.int k.d) ∧ itemD (eK k) 4 = some (.int k.e) := ⟨rfl, rfl, rfl, rfl⟩
theorem drop_drw {xs : List Int} (k : Nat) (hx : ∀ x ∈ xs, Drw x) : ∀ x ∈ xs.drop k, Drw x := fun x h => hx x (List.mem_of_mem_drop h)
theorem rd_law (ds : List Dt) (Φ : Slot → Prop) (Ξ : XD → Prop) (h : sp_law ds Φ Ξ) : d_law (endsOf Φ Ξ) (rho0 N_law ds) := by
  obtain ⟨ns, hl, rfl, h⟩ := h
  have hz : (1000 : Nat) < sizeLine := by decide
  show dSeq _ _ _ [.pu (.list (ns.map .int)), .un, .un, .un, .un, .un, .un, .un, .un, .un, .un, .un, .un]
  refine seq_forA (fun ds => ∃ cs : List Int, ds = cs.map .int) (fun Q hQ => ?_) (fun k ρ => ∃ x1 x2 x3 x4 x5 x6 x7 x9 x10 x11 x12 : Slot, ρ = [.pu (.list (ns.map .int)), x1, x2, x3, x4, x5, x6, x7, .un, x9, x10, x11, x12]) ⟨_, _, _, _, _, _, _, _, _, _, _, rfl⟩ ?_ ?_
  · simp only [diSeq, slD, cutD_map, dRet, dRetF, dSetX, dCallX, dRetX, noOw, dTry, dCpy, dRaise, dRetO, dSetP, dSetS, dSetF, dSeq, dIf, dNext, dCall, dCallF, dB, dBin, dCons, dNil, dTup, dLst, dV, dC, dTV, onB, dTAnd, dTOr, dTNot, dAnd, dOr, dNot, dIfE, dIsN, dNotN, isN, dSl, dSlF, dNoPart, dPart, dPar, dParS, dAsg, dgN, dgT, dgCons, dgNil, dFE, dIsi, dListF, dNeg, dRev, dFrz, dApp, dAppS, dIns, dExtend, dClear, dReverse, dPop, oIx, oI, oIC, add_ii, add_ss, add_ll, add_tt, oSubI, oMulU, oMulI, oFd, oMd, oPw, oLt, oLe, oGt, oGe, oEq, oNe, getF, setF, Cl.d, getS, setS, purF_nil, purF_cons, purH, allF_nil, allF_cons, allH, rho0, endsOf, scalD, len_l, len_t, len_s, bAbs, bInt, bIntU, tup_l, tup_t, true_and, and_true, Option.some.injEq, exists_eq_left', decide_eq_true_eq, Bool.not_eq_true', decide_eq_false_iff_not, it_eQ0, it_eQ1, it_eP0, it_eP1, it_eS0, it_eS1, fits_eQ, fits_eP, fits_eS, eqv_eQ, eqv_eP, eqv_eS, eqv_int, eqv_bool, shp_int, shp_bool, shp_none, shp_eQ, shp_eP, shp_eS, dCont, dBreak, dXi, dSetG, dAppG, oIsB, oNotB, dTx, pJoin, pSplit, pPart, pStarts, bStr, bIntS, dFmt, dJs, ↓reduceIte, nsp_none, nsp_bool, nsp_int, nsp_str, nsp_list, nsp_tuple, nsp_eQ, nsp_eP, nsp_eS, dat_pu, dat_ow, seqD_l, seqD_t, not_true_eq_false, Bool.true_eq_false, Bool.not_not, List.length_cons, List.length_nil, mkP, mkS, fits_list, fits_tuple, isIntD, isBoolD, isListD, isStrD, isTupD, Bool.not_true, Bool.not_false, Bool.false_eq_true, it_l0, it_l1, it_l2, it_t0, it_t1, it_t2, shp_ps, shp_pt, shp_ss, shp_is, seqD_eQ, seqD_eP, seqD_eS, walkD_eP, walkD_eS, walkD_l, walkD_t]
    refine ⟨ns, 0, rfl, hl, by decide, by decide, fun c => ?_⟩
    simp only [slD, cutD_map, List.length_map, dRet, dRetF, dSetX, dCallX, dRetX, noOw, dTry, dCpy, dRaise, dRetO, dSetP, dSetS, dSetF, dSeq, dIf, dNext, dCall, dCallF, dB, dBin, dCons, dNil, dTup, dLst, dV, dC, dTV, onB, dTAnd, dTOr, dTNot, dAnd, dOr, dNot, dIfE, dIsN, dNotN, isN, dSl, dSlF, dNoPart, dPart, dPar, dParS, dAsg, dgN, dgT, dgCons, dgNil, dFE, dIsi, dListF, dNeg, dRev, dFrz, dApp, dAppS, dIns, dExtend, dClear, dReverse, dPop, oIx, oI, oIC, add_ii, add_ss, add_ll, add_tt, oSubI, oMulU, oMulI, oFd, oMd, oPw, oLt, oLe, oGt, oGe, oEq, oNe, getF, setF, Cl.d, getS, setS, purF_nil, purF_cons, purH, allF_nil, allF_cons, allH, rho0, endsOf, scalD, len_l, len_t, len_s, bAbs, bInt, bIntU, tup_l, tup_t, true_and, and_true, Option.some.injEq, exists_eq_left', decide_eq_true_eq, Bool.not_eq_true', decide_eq_false_iff_not, it_eQ0, it_eQ1, it_eP0, it_eP1, it_eS0, it_eS1, fits_eQ, fits_eP, fits_eS, eqv_eQ, eqv_eP, eqv_eS, eqv_int, eqv_bool, shp_int, shp_bool, shp_none, shp_eQ, shp_eP, shp_eS, dCont, dBreak, dXi, dSetG, dAppG, oIsB, oNotB, dTx, pJoin, pSplit, pPart, pStarts, bStr, bIntS, dFmt, dJs, ↓reduceIte, nsp_none, nsp_bool, nsp_int, nsp_str, nsp_list, nsp_tuple, nsp_eQ, nsp_eP, nsp_eS, dat_pu, dat_ow, seqD_l, seqD_t, not_true_eq_false, Bool.true_eq_false, Bool.not_not, List.length_cons, List.length_nil, mkP, mkS, fits_list, fits_tuple, isIntD, isBoolD, isListD, isStrD, isTupD, Bool.not_true, Bool.not_false, Bool.false_eq_true, it_l0, it_l1, it_l2, it_t0, it_t1, it_t2, shp_ps, shp_pt, shp_ss, shp_is, seqD_eQ, seqD_eP, seqD_eS, walkD_eP, walkD_eS, walkD_l, walkD_t]
    have l2 := cutD_len ns (some 1) (some 13)
    exact ⟨by omega, hQ _ ⟨c :: cutD ns (some 1) (some 13), rfl⟩⟩
  · rintro ds ⟨cs, rfl⟩ k0 d ρ' hk ⟨x1, x2, x3, x4, x5, x6, x7, x9, x10, x11, x12, rfl⟩
    obtain ⟨c, hc, rfl⟩ := map_get hk
    simp only [dgN, setS]
    refine seq_cut (fun ρ => ∃ xs : List Int, xs.length = 30 ∧ (∀ x ∈ xs, Drw x) ∧ ρ = [.pu (.list (ns.map .int)), .pu (.int c), .pu (.list (xs.map .int)), x3, x4, x5, x6, x7, .un, x9, x10, x11, x12]) (fun E _ hE => ?_) ?_
    · simp only [dRet, dRetF, dSetX, dCallX, dRetX, noOw, dTry, dCpy, dRaise, dRetO, dSetP, dSetS, dSetF, dSeq, dIf, dNext, dCall, dCallF, dB, dBin, dCons, dNil, dTup, dLst, dV, dC, dTV, onB, dTAnd, dTOr, dTNot, dAnd, dOr, dNot, dIfE, dIsN, dNotN, isN, dSl, dSlF, dNoPart, dPart, dPar, dParS, dAsg, dgN, dgT, dgCons, dgNil, dFE, dIsi, dListF, dNeg, dRev, dFrz, dApp, dAppS, dIns, dExtend, dClear, dReverse, dPop, oIx, oI, oIC, add_ii, add_ss, add_ll, add_tt, oSubI, oMulU, oMulI, oFd, oMd, oPw, oLt, oLe, oGt, oGe, oEq, oNe, getF, setF, Cl.d, getS, setS, purF_nil, purF_cons, purH, allF_nil, allF_cons, allH, rho0, endsOf, scalD, len_l, len_t, len_s, bAbs, bInt, bIntU, tup_l, tup_t, true_and, and_true, Option.some.injEq, exists_eq_left', decide_eq_true_eq, Bool.not_eq_true', decide_eq_false_iff_not, it_eQ0, it_eQ1, it_eP0, it_eP1, it_eS0, it_eS1, fits_eQ, fits_eP, fits_eS, eqv_eQ, eqv_eP, eqv_eS, eqv_int, eqv_bool, shp_int, shp_bool, shp_none, shp_eQ, shp_eP, shp_eS, dCont, dBreak, dXi, dSetG, dAppG, oIsB, oNotB, dTx, pJoin, pSplit, pPart, pStarts, bStr, bIntS, dFmt, dJs, ↓reduceIte, nsp_none, nsp_bool, nsp_int, nsp_str, nsp_list, nsp_tuple, nsp_eQ, nsp_eP, nsp_eS, dat_pu, dat_ow, seqD_l, seqD_t, not_true_eq_false, Bool.true_eq_false, Bool.not_not, List.length_cons, List.length_nil, mkP, mkS, fits_list, fits_tuple, isIntD, isBoolD, isListD, isStrD, isTupD, Bool.not_true, Bool.not_false, Bool.false_eq_true, it_l0, it_l1, it_l2, it_t0, it_t1, it_t2, shp_ps, shp_pt, shp_ss, shp_is, seqD_eQ, seqD_eP, seqD_eS, walkD_eP, walkD_eS, walkD_l, walkD_t]
      exact ⟨c, 30, rfl, by decide, fun xs h1 h2 => hE _ ⟨xs, h1, h2, rfl⟩⟩
    rintro _ ⟨xs, xl, hx, rfl⟩
    have md := fmod_b (x := xs.getD 21 default) (m := 2) (by decide)
    have c9 : cutD xs (some 9) none = xs.drop 9 := cutD_from xs 9
    have c22 : cutD xs (some 22) none = xs.drop 22 := cutD_from xs 22
    have i21 := it_drw (xs := xs) 21 (by omega)
    have i20 := it_drw (xs := xs) 20 (by omega)
    have i21' : itemD (.list (xs.map .int)) 21 = some (.int (xs.getD 21 default)) := i21
    have i20' : itemD (.list (xs.map .int)) 20 = some (.int (xs.getD 20 default)) := i20
    refine seq_cut (fun ρ => ∃ s : Sd, BdS 9 s ∧ s.1 ≠ s.2 ∧ ρ = [.pu (.list (ns.map .int)), .pu (.int c), .pu (.list (xs.map .int)), .pu (eS s), x4, x5, x6, x7, .un, x9, x10, x11, x12]) (fun E _ hE => ?_) ?_
    · simp only [i21', dRet, dRetF, dSetX, dCallX, dRetX, noOw, dTry, dCpy, dRaise, dRetO, dSetP, dSetS, dSetF, dSeq, dIf, dNext, dCall, dCallF, dB, dBin, dCons, dNil, dTup, dLst, dV, dC, dTV, onB, dTAnd, dTOr, dTNot, dAnd, dOr, dNot, dIfE, dIsN, dNotN, isN, dSl, dSlF, dNoPart, dPart, dPar, dParS, dAsg, dgN, dgT, dgCons, dgNil, dFE, dIsi, dListF, dNeg, dRev, dFrz, dApp, dAppS, dIns, dExtend, dClear, dReverse, dPop, oIx, oI, oIC, add_ii, add_ss, add_ll, add_tt, oSubI, oMulU, oMulI, oFd, oMd, oPw, oLt, oLe, oGt, oGe, oEq, oNe, getF, setF, Cl.d, getS, setS, purF_nil, purF_cons, purH, allF_nil, allF_cons, allH, rho0, endsOf, scalD, len_l, len_t, len_s, bAbs, bInt, bIntU, tup_l, tup_t, true_and, and_true, Option.some.injEq, exists_eq_left', decide_eq_true_eq, Bool.not_eq_true', decide_eq_false_iff_not, it_eQ0, it_eQ1, it_eP0, it_eP1, it_eS0, it_eS1, fits_eQ, fits_eP, fits_eS, eqv_eQ, eqv_eP, eqv_eS, eqv_int, eqv_bool, shp_int, shp_bool, shp_none, shp_eQ, shp_eP, shp_eS, dCont, dBreak, dXi, dSetG, dAppG, oIsB, oNotB, dTx, pJoin, pSplit, pPart, pStarts, bStr, bIntS, dFmt, dJs, ↓reduceIte, nsp_none, nsp_bool, nsp_int, nsp_str, nsp_list, nsp_tuple, nsp_eQ, nsp_eP, nsp_eS, dat_pu, dat_ow, seqD_l, seqD_t, not_true_eq_false, Bool.true_eq_false, Bool.not_not, List.length_cons, List.length_nil, mkP, mkS, fits_list, fits_tuple, isIntD, isBoolD, isListD, isStrD, isTupD, Bool.not_true, Bool.not_false, Bool.false_eq_true, it_l0, it_l1, it_l2, it_t0, it_t1, it_t2, shp_ps, shp_pt, shp_ss, shp_is, seqD_eQ, seqD_eP, seqD_eS, walkD_eP, walkD_eS, walkD_l, walkD_t]
      exact ⟨by decide, xs, _, rfl, by omega, hx, md.1, by omega, fun s bs hs => hE _ ⟨s, bs, hs, rfl⟩⟩
    rintro _ ⟨s, bs, hs, rfl⟩
    refine seq_cut (fun ρ => ∃ t : Sd, BdS 27 t ∧ t.1 ≠ t.2 ∧ ρ = [.pu (.list (ns.map .int)), .pu (.int c), .pu (.list (xs.map .int)), .pu (eS s), .pu (eS t), x5, x6, x7, .un, x9, x10, x11, x12]) (fun E _ hE => ?_) ?_
    · simp only [i21', sl_l, cutD_map, c9, dRet, dRetF, dSetX, dCallX, dRetX, noOw, dTry, dCpy, dRaise, dRetO, dSetP, dSetS, dSetF, dSeq, dIf, dNext, dCall, dCallF, dB, dBin, dCons, dNil, dTup, dLst, dV, dC, dTV, onB, dTAnd, dTOr, dTNot, dAnd, dOr, dNot, dIfE, dIsN, dNotN, isN, dSl, dSlF, dNoPart, dPart, dPar, dParS, dAsg, dgN, dgT, dgCons, dgNil, dFE, dIsi, dListF, dNeg, dRev, dFrz, dApp, dAppS, dIns, dExtend, dClear, dReverse, dPop, oIx, oI, oIC, add_ii, add_ss, add_ll, add_tt, oSubI, oMulU, oMulI, oFd, oMd, oPw, oLt, oLe, oGt, oGe, oEq, oNe, getF, setF, Cl.d, getS, setS, purF_nil, purF_cons, purH, allF_nil, allF_cons, allH, rho0, endsOf, scalD, len_l, len_t, len_s, bAbs, bInt, bIntU, tup_l, tup_t, true_and, and_true, Option.some.injEq, exists_eq_left', decide_eq_true_eq, Bool.not_eq_true', decide_eq_false_iff_not, it_eQ0, it_eQ1, it_eP0, it_eP1, it_eS0, it_eS1, fits_eQ, fits_eP, fits_eS, eqv_eQ, eqv_eP, eqv_eS, eqv_int, eqv_bool, shp_int, shp_bool, shp_none, shp_eQ, shp_eP, shp_eS, dCont, dBreak, dXi, dSetG, dAppG, oIsB, oNotB, dTx, pJoin, pSplit, pPart, pStarts, bStr, bIntS, dFmt, dJs, ↓reduceIte, nsp_none, nsp_bool, nsp_int, nsp_str, nsp_list, nsp_tuple, nsp_eQ, nsp_eP, nsp_eS, dat_pu, dat_ow, seqD_l, seqD_t, not_true_eq_false, Bool.true_eq_false, Bool.not_not, List.length_cons, List.length_nil, mkP, mkS, fits_list, fits_tuple, isIntD, isBoolD, isListD, isStrD, isTupD, Bool.not_true, Bool.not_false, Bool.false_eq_true, it_l0, it_l1, it_l2, it_t0, it_t1, it_t2, shp_ps, shp_pt, shp_ss, shp_is, seqD_eQ, seqD_eP, seqD_eS, walkD_eP, walkD_eS, walkD_l, walkD_t]
      exact ⟨by decide, s, xs.drop 9, _, rfl, hs, bs, by rw [List.length_drop]; omega, drop_drw 9 hx, md.1, by omega, fun t bt ht => hE _ ⟨t, bt, ht, rfl⟩⟩
    rintro _ ⟨t, bt, ht, rfl⟩
    have bs2 : BdS 27 s := bs.mono (by decide)
    refine seq_cut (fun ρ => ρ = [.pu (.list (ns.map .int)), .pu (.int c), .pu (.list (xs.map .int)), .pu (eS s), .pu (eS t), .pu (eM (meetM s t)), x6, x7, .un, x9, x10, x11, x12]) (fun E _ hE => ?_) ?_
    · simp only [dRet, dRetF, dSetX, dCallX, dRetX, noOw, dTry, dCpy, dRaise, dRetO, dSetP, dSetS, dSetF, dSeq, dIf, dNext, dCall, dCallF, dB, dBin, dCons, dNil, dTup, dLst, dV, dC, dTV, onB, dTAnd, dTOr, dTNot, dAnd, dOr, dNot, dIfE, dIsN, dNotN, isN, dSl, dSlF, dNoPart, dPart, dPar, dParS, dAsg, dgN, dgT, dgCons, dgNil, dFE, dIsi, dListF, dNeg, dRev, dFrz, dApp, dAppS, dIns, dExtend, dClear, dReverse, dPop, oIx, oI, oIC, add_ii, add_ss, add_ll, add_tt, oSubI, oMulU, oMulI, oFd, oMd, oPw, oLt, oLe, oGt, oGe, oEq, oNe, getF, setF, Cl.d, getS, setS, purF_nil, purF_cons, purH, allF_nil, allF_cons, allH, rho0, endsOf, scalD, len_l, len_t, len_s, bAbs, bInt, bIntU, tup_l, tup_t, true_and, and_true, Option.some.injEq, exists_eq_left', decide_eq_true_eq, Bool.not_eq_true', decide_eq_false_iff_not, it_eQ0, it_eQ1, it_eP0, it_eP1, it_eS0, it_eS1, fits_eQ, fits_eP, fits_eS, eqv_eQ, eqv_eP, eqv_eS, eqv_int, eqv_bool, shp_int, shp_bool, shp_none, shp_eQ, shp_eP, shp_eS, dCont, dBreak, dXi, dSetG, dAppG, oIsB, oNotB, dTx, pJoin, pSplit, pPart, pStarts, bStr, bIntS, dFmt, dJs, ↓reduceIte, nsp_none, nsp_bool, nsp_int, nsp_str, nsp_list, nsp_tuple, nsp_eQ, nsp_eP, nsp_eS, dat_pu, dat_ow, seqD_l, seqD_t, not_true_eq_false, Bool.true_eq_false, Bool.not_not, List.length_cons, List.length_nil, mkP, mkS, fits_list, fits_tuple, isIntD, isBoolD, isListD, isStrD, isTupD, Bool.not_true, Bool.not_false, Bool.false_eq_true, it_l0, it_l1, it_l2, it_t0, it_t1, it_t2, shp_ps, shp_pt, shp_ss, shp_is, seqD_eQ, seqD_eP, seqD_eS, walkD_eP, walkD_eS, walkD_l, walkD_t]
      exact ⟨s, t, 27, rfl, hs, ht, bs2, bt, by decide, .inl (by decide), hE _ rfl⟩
    rintro _ rfl
    refine seq_cut (fun ρ => ∃ k : KI, KOk k ∧ ρ = [.pu (.list (ns.map .int)), .pu (.int c), .pu (.list (xs.map .int)), .pu (eS s), .pu (eS t), .pu (eM (meetM s t)), .pu (eK k), x7, .un, x9, x10, x11, x12]) (fun E _ hE => ?_) ?_
    · simp only [sl_l, cutD_map, c22, dRet, dRetF, dSetX, dCallX, dRetX, noOw, dTry, dCpy, dRaise, dRetO, dSetP, dSetS, dSetF, dSeq, dIf, dNext, dCall, dCallF, dB, dBin, dCons, dNil, dTup, dLst, dV, dC, dTV, onB, dTAnd, dTOr, dTNot, dAnd, dOr, dNot, dIfE, dIsN, dNotN, isN, dSl, dSlF, dNoPart, dPart, dPar, dParS, dAsg, dgN, dgT, dgCons, dgNil, dFE, dIsi, dListF, dNeg, dRev, dFrz, dApp, dAppS, dIns, dExtend, dClear, dReverse, dPop, oIx, oI, oIC, add_ii, add_ss, add_ll, add_tt, oSubI, oMulU, oMulI, oFd, oMd, oPw, oLt, oLe, oGt, oGe, oEq, oNe, getF, setF, Cl.d, getS, setS, purF_nil, purF_cons, purH, allF_nil, allF_cons, allH, rho0, endsOf, scalD, len_l, len_t, len_s, bAbs, bInt, bIntU, tup_l, tup_t, true_and, and_true, Option.some.injEq, exists_eq_left', decide_eq_true_eq, Bool.not_eq_true', decide_eq_false_iff_not, it_eQ0, it_eQ1, it_eP0, it_eP1, it_eS0, it_eS1, fits_eQ, fits_eP, fits_eS, eqv_eQ, eqv_eP, eqv_eS, eqv_int, eqv_bool, shp_int, shp_bool, shp_none, shp_eQ, shp_eP, shp_eS, dCont, dBreak, dXi, dSetG, dAppG, oIsB, oNotB, dTx, pJoin, pSplit, pPart, pStarts, bStr, bIntS, dFmt, dJs, ↓reduceIte, nsp_none, nsp_bool, nsp_int, nsp_str, nsp_list, nsp_tuple, nsp_eQ, nsp_eP, nsp_eS, dat_pu, dat_ow, seqD_l, seqD_t, not_true_eq_false, Bool.true_eq_false, Bool.not_not, List.length_cons, List.length_nil, mkP, mkS, fits_list, fits_tuple, isIntD, isBoolD, isListD, isStrD, isTupD, Bool.not_true, Bool.not_false, Bool.false_eq_true, it_l0, it_l1, it_l2, it_t0, it_t1, it_t2, shp_ps, shp_pt, shp_ss, shp_is, seqD_eQ, seqD_eP, seqD_eS, walkD_eP, walkD_eS, walkD_l, walkD_t]
      exact ⟨xs.drop 22, rfl, by rw [List.length_drop]; omega, drop_drw 22 hx, fun k hk => hE _ ⟨k, hk, rfl⟩⟩
    rintro _ ⟨k, hk, rfl⟩
    have dn := det_ne hk
    have car : ∀ (u : Sd), BdS 27 u → ∀ p ∈ [u.1, u.2], BdP 27 p := fun u bu p hp => by
      rcases List.mem_cons.mp hp with rfl | hp
      · exact bu.1
      · rw [List.mem_singleton.mp hp]; exact bu.2
    refine seq_cut (fun ρ => ρ = [.pu (.list (ns.map .int)), .pu (.int c), .pu (.list (xs.map .int)), .pu (eS s), .pu (eS t), .pu (eM (meetM s t)), .pu (eK k), .pu (eS ((carOf k).sd s)), .un, x9, x10, x11, x12]) (fun E _ hE => ?_) ?_
    · simp only [dRet, dRetF, dSetX, dCallX, dRetX, noOw, dTry, dCpy, dRaise, dRetO, dSetP, dSetS, dSetF, dSeq, dIf, dNext, dCall, dCallF, dB, dBin, dCons, dNil, dTup, dLst, dV, dC, dTV, onB, dTAnd, dTOr, dTNot, dAnd, dOr, dNot, dIfE, dIsN, dNotN, isN, dSl, dSlF, dNoPart, dPart, dPar, dParS, dAsg, dgN, dgT, dgCons, dgNil, dFE, dIsi, dListF, dNeg, dRev, dFrz, dApp, dAppS, dIns, dExtend, dClear, dReverse, dPop, oIx, oI, oIC, add_ii, add_ss, add_ll, add_tt, oSubI, oMulU, oMulI, oFd, oMd, oPw, oLt, oLe, oGt, oGe, oEq, oNe, getF, setF, Cl.d, getS, setS, purF_nil, purF_cons, purH, allF_nil, allF_cons, allH, rho0, endsOf, scalD, len_l, len_t, len_s, bAbs, bInt, bIntU, tup_l, tup_t, true_and, and_true, Option.some.injEq, exists_eq_left', decide_eq_true_eq, Bool.not_eq_true', decide_eq_false_iff_not, it_eQ0, it_eQ1, it_eP0, it_eP1, it_eS0, it_eS1, fits_eQ, fits_eP, fits_eS, eqv_eQ, eqv_eP, eqv_eS, eqv_int, eqv_bool, shp_int, shp_bool, shp_none, shp_eQ, shp_eP, shp_eS, dCont, dBreak, dXi, dSetG, dAppG, oIsB, oNotB, dTx, pJoin, pSplit, pPart, pStarts, bStr, bIntS, dFmt, dJs, ↓reduceIte, nsp_none, nsp_bool, nsp_int, nsp_str, nsp_list, nsp_tuple, nsp_eQ, nsp_eP, nsp_eS, dat_pu, dat_ow, seqD_l, seqD_t, not_true_eq_false, Bool.true_eq_false, Bool.not_not, List.length_cons, List.length_nil, mkP, mkS, fits_list, fits_tuple, isIntD, isBoolD, isListD, isStrD, isTupD, Bool.not_true, Bool.not_false, Bool.false_eq_true, it_l0, it_l1, it_l2, it_t0, it_t1, it_t2, shp_ps, shp_pt, shp_ss, shp_is, seqD_eQ, seqD_eP, seqD_eS, walkD_eP, walkD_eS, walkD_l, walkD_t]
      refine dLc_mapM (xs := [s.1, s.2]) (e := eP) (fun Q hQ => ?_) (fun p => eP ((carOf k).pt p)) (by show 2 ≤ sizeLine; omega) (fun p hp Ψ hΨ => ?_) ?_
      · simp only [diSeq, dRet, dRetF, dSetX, dCallX, dRetX, noOw, dTry, dCpy, dRaise, dRetO, dSetP, dSetS, dSetF, dSeq, dIf, dNext, dCall, dCallF, dB, dBin, dCons, dNil, dTup, dLst, dV, dC, dTV, onB, dTAnd, dTOr, dTNot, dAnd, dOr, dNot, dIfE, dIsN, dNotN, isN, dSl, dSlF, dNoPart, dPart, dPar, dParS, dAsg, dgN, dgT, dgCons, dgNil, dFE, dIsi, dListF, dNeg, dRev, dFrz, dApp, dAppS, dIns, dExtend, dClear, dReverse, dPop, oIx, oI, oIC, add_ii, add_ss, add_ll, add_tt, oSubI, oMulU, oMulI, oFd, oMd, oPw, oLt, oLe, oGt, oGe, oEq, oNe, getF, setF, Cl.d, getS, setS, purF_nil, purF_cons, purH, allF_nil, allF_cons, allH, rho0, endsOf, scalD, len_l, len_t, len_s, bAbs, bInt, bIntU, tup_l, tup_t, true_and, and_true, Option.some.injEq, exists_eq_left', decide_eq_true_eq, Bool.not_eq_true', decide_eq_false_iff_not, it_eQ0, it_eQ1, it_eP0, it_eP1, it_eS0, it_eS1, fits_eQ, fits_eP, fits_eS, eqv_eQ, eqv_eP, eqv_eS, eqv_int, eqv_bool, shp_int, shp_bool, shp_none, shp_eQ, shp_eP, shp_eS, dCont, dBreak, dXi, dSetG, dAppG, oIsB, oNotB, dTx, pJoin, pSplit, pPart, pStarts, bStr, bIntS, dFmt, dJs, ↓reduceIte, nsp_none, nsp_bool, nsp_int, nsp_str, nsp_list, nsp_tuple, nsp_eQ, nsp_eP, nsp_eS, dat_pu, dat_ow, seqD_l, seqD_t, not_true_eq_false, Bool.true_eq_false, Bool.not_not, List.length_cons, List.length_nil, mkP, mkS, fits_list, fits_tuple, isIntD, isBoolD, isListD, isStrD, isTupD, Bool.not_true, Bool.not_false, Bool.false_eq_true, it_l0, it_l1, it_l2, it_t0, it_t1, it_t2, shp_ps, shp_pt, shp_ss, shp_is, seqD_eQ, seqD_eP, seqD_eS, walkD_eP, walkD_eS, walkD_l, walkD_t]
        exact hQ
      · have bp := car s bs2 p hp
        simp only [dcN, wipeF, noneF, dRet, dRetF, dSetX, dCallX, dRetX, noOw, dTry, dCpy, dRaise, dRetO, dSetP, dSetS, dSetF, dSeq, dIf, dNext, dCall, dCallF, dB, dBin, dCons, dNil, dTup, dLst, dV, dC, dTV, onB, dTAnd, dTOr, dTNot, dAnd, dOr, dNot, dIfE, dIsN, dNotN, isN, dSl, dSlF, dNoPart, dPart, dPar, dParS, dAsg, dgN, dgT, dgCons, dgNil, dFE, dIsi, dListF, dNeg, dRev, dFrz, dApp, dAppS, dIns, dExtend, dClear, dReverse, dPop, oIx, oI, oIC, add_ii, add_ss, add_ll, add_tt, oSubI, oMulU, oMulI, oFd, oMd, oPw, oLt, oLe, oGt, oGe, oEq, oNe, getF, setF, Cl.d, getS, setS, purF_nil, purF_cons, purH, allF_nil, allF_cons, allH, rho0, endsOf, scalD, len_l, len_t, len_s, bAbs, bInt, bIntU, tup_l, tup_t, true_and, and_true, Option.some.injEq, exists_eq_left', decide_eq_true_eq, Bool.not_eq_true', decide_eq_false_iff_not, it_eQ0, it_eQ1, it_eP0, it_eP1, it_eS0, it_eS1, fits_eQ, fits_eP, fits_eS, eqv_eQ, eqv_eP, eqv_eS, eqv_int, eqv_bool, shp_int, shp_bool, shp_none, shp_eQ, shp_eP, shp_eS, dCont, dBreak, dXi, dSetG, dAppG, oIsB, oNotB, dTx, pJoin, pSplit, pPart, pStarts, bStr, bIntS, dFmt, dJs, ↓reduceIte, nsp_none, nsp_bool, nsp_int, nsp_str, nsp_list, nsp_tuple, nsp_eQ, nsp_eP, nsp_eS, dat_pu, dat_ow, seqD_l, seqD_t, not_true_eq_false, Bool.true_eq_false, Bool.not_not, List.length_cons, List.length_nil, mkP, mkS, fits_list, fits_tuple, isIntD, isBoolD, isListD, isStrD, isTupD, Bool.not_true, Bool.not_false, Bool.false_eq_true, it_l0, it_l1, it_l2, it_t0, it_t1, it_t2, shp_ps, shp_pt, shp_ss, shp_is, seqD_eQ, seqD_eP, seqD_eS, walkD_eP, walkD_eS, walkD_l, walkD_t]
        exact ⟨k, p, 27, rfl, hk, bp, by decide, hΨ⟩
      · simp only [List.map_cons, List.map_nil, dRet, dRetF, dSetX, dCallX, dRetX, noOw, dTry, dCpy, dRaise, dRetO, dSetP, dSetS, dSetF, dSeq, dIf, dNext, dCall, dCallF, dB, dBin, dCons, dNil, dTup, dLst, dV, dC, dTV, onB, dTAnd, dTOr, dTNot, dAnd, dOr, dNot, dIfE, dIsN, dNotN, isN, dSl, dSlF, dNoPart, dPart, dPar, dParS, dAsg, dgN, dgT, dgCons, dgNil, dFE, dIsi, dListF, dNeg, dRev, dFrz, dApp, dAppS, dIns, dExtend, dClear, dReverse, dPop, oIx, oI, oIC, add_ii, add_ss, add_ll, add_tt, oSubI, oMulU, oMulI, oFd, oMd, oPw, oLt, oLe, oGt, oGe, oEq, oNe, getF, setF, Cl.d, getS, setS, purF_nil, purF_cons, purH, allF_nil, allF_cons, allH, rho0, endsOf, scalD, len_l, len_t, len_s, bAbs, bInt, bIntU, tup_l, tup_t, true_and, and_true, Option.some.injEq, exists_eq_left', decide_eq_true_eq, Bool.not_eq_true', decide_eq_false_iff_not, it_eQ0, it_eQ1, it_eP0, it_eP1, it_eS0, it_eS1, fits_eQ, fits_eP, fits_eS, eqv_eQ, eqv_eP, eqv_eS, eqv_int, eqv_bool, shp_int, shp_bool, shp_none, shp_eQ, shp_eP, shp_eS, dCont, dBreak, dXi, dSetG, dAppG, oIsB, oNotB, dTx, pJoin, pSplit, pPart, pStarts, bStr, bIntS, dFmt, dJs, ↓reduceIte, nsp_none, nsp_bool, nsp_int, nsp_str, nsp_list, nsp_tuple, nsp_eQ, nsp_eP, nsp_eS, dat_pu, dat_ow, seqD_l, seqD_t, not_true_eq_false, Bool.true_eq_false, Bool.not_not, List.length_cons, List.length_nil, mkP, mkS, fits_list, fits_tuple, isIntD, isBoolD, isListD, isStrD, isTupD, Bool.not_true, Bool.not_false, Bool.false_eq_true, it_l0, it_l1, it_l2, it_t0, it_t1, it_t2, shp_ps, shp_pt, shp_ss, shp_is, seqD_eQ, seqD_eP, seqD_eS, walkD_eP, walkD_eS, walkD_l, walkD_t]
        exact hE _ rfl
    rintro _ rfl
    refine seq_cut (fun ρ => ρ = [.pu (.list (ns.map .int)), .pu (.int c), .pu (.list (xs.map .int)), .pu (eS s), .pu (eS t), .pu (eM (meetM s t)), .pu (eK k), .pu (eS ((carOf k).sd s)), .un, .pu (eS ((carOf k).sd t)), x10, x11, x12]) (fun E _ hE => ?_) ?_
    · simp only [dRet, dRetF, dSetX, dCallX, dRetX, noOw, dTry, dCpy, dRaise, dRetO, dSetP, dSetS, dSetF, dSeq, dIf, dNext, dCall, dCallF, dB, dBin, dCons, dNil, dTup, dLst, dV, dC, dTV, onB, dTAnd, dTOr, dTNot, dAnd, dOr, dNot, dIfE, dIsN, dNotN, isN, dSl, dSlF, dNoPart, dPart, dPar, dParS, dAsg, dgN, dgT, dgCons, dgNil, dFE, dIsi, dListF, dNeg, dRev, dFrz, dApp, dAppS, dIns, dExtend, dClear, dReverse, dPop, oIx, oI, oIC, add_ii, add_ss, add_ll, add_tt, oSubI, oMulU, oMulI, oFd, oMd, oPw, oLt, oLe, oGt, oGe, oEq, oNe, getF, setF, Cl.d, getS, setS, purF_nil, purF_cons, purH, allF_nil, allF_cons, allH, rho0, endsOf, scalD, len_l, len_t, len_s, bAbs, bInt, bIntU, tup_l, tup_t, true_and, and_true, Option.some.injEq, exists_eq_left', decide_eq_true_eq, Bool.not_eq_true', decide_eq_false_iff_not, it_eQ0, it_eQ1, it_eP0, it_eP1, it_eS0, it_eS1, fits_eQ, fits_eP, fits_eS, eqv_eQ, eqv_eP, eqv_eS, eqv_int, eqv_bool, shp_int, shp_bool, shp_none, shp_eQ, shp_eP, shp_eS, dCont, dBreak, dXi, dSetG, dAppG, oIsB, oNotB, dTx, pJoin, pSplit, pPart, pStarts, bStr, bIntS, dFmt, dJs, ↓reduceIte, nsp_none, nsp_bool, nsp_int, nsp_str, nsp_list, nsp_tuple, nsp_eQ, nsp_eP, nsp_eS, dat_pu, dat_ow, seqD_l, seqD_t, not_true_eq_false, Bool.true_eq_false, Bool.not_not, List.length_cons, List.length_nil, mkP, mkS, fits_list, fits_tuple, isIntD, isBoolD, isListD, isStrD, isTupD, Bool.not_true, Bool.not_false, Bool.false_eq_true, it_l0, it_l1, it_l2, it_t0, it_t1, it_t2, shp_ps, shp_pt, shp_ss, shp_is, seqD_eQ, seqD_eP, seqD_eS, walkD_eP, walkD_eS, walkD_l, walkD_t]
      refine dLc_mapM (xs := [t.1, t.2]) (e := eP) (fun Q hQ => ?_) (fun p => eP ((carOf k).pt p)) (by show 2 ≤ sizeLine; omega) (fun p hp Ψ hΨ => ?_) ?_
      · simp only [diSeq, dRet, dRetF, dSetX, dCallX, dRetX, noOw, dTry, dCpy, dRaise, dRetO, dSetP, dSetS, dSetF, dSeq, dIf, dNext, dCall, dCallF, dB, dBin, dCons, dNil, dTup, dLst, dV, dC, dTV, onB, dTAnd, dTOr, dTNot, dAnd, dOr, dNot, dIfE, dIsN, dNotN, isN, dSl, dSlF, dNoPart, dPart, dPar, dParS, dAsg, dgN, dgT, dgCons, dgNil, dFE, dIsi, dListF, dNeg, dRev, dFrz, dApp, dAppS, dIns, dExtend, dClear, dReverse, dPop, oIx, oI, oIC, add_ii, add_ss, add_ll, add_tt, oSubI, oMulU, oMulI, oFd, oMd, oPw, oLt, oLe, oGt, oGe, oEq, oNe, getF, setF, Cl.d, getS, setS, purF_nil, purF_cons, purH, allF_nil, allF_cons, allH, rho0, endsOf, scalD, len_l, len_t, len_s, bAbs, bInt, bIntU, tup_l, tup_t, true_and, and_true, Option.some.injEq, exists_eq_left', decide_eq_true_eq, Bool.not_eq_true', decide_eq_false_iff_not, it_eQ0, it_eQ1, it_eP0, it_eP1, it_eS0, it_eS1, fits_eQ, fits_eP, fits_eS, eqv_eQ, eqv_eP, eqv_eS, eqv_int, eqv_bool, shp_int, shp_bool, shp_none, shp_eQ, shp_eP, shp_eS, dCont, dBreak, dXi, dSetG, dAppG, oIsB, oNotB, dTx, pJoin, pSplit, pPart, pStarts, bStr, bIntS, dFmt, dJs, ↓reduceIte, nsp_none, nsp_bool, nsp_int, nsp_str, nsp_list, nsp_tuple, nsp_eQ, nsp_eP, nsp_eS, dat_pu, dat_ow, seqD_l, seqD_t, not_true_eq_false, Bool.true_eq_false, Bool.not_not, List.length_cons, List.length_nil, mkP, mkS, fits_list, fits_tuple, isIntD, isBoolD, isListD, isStrD, isTupD, Bool.not_true, Bool.not_false, Bool.false_eq_true, it_l0, it_l1, it_l2, it_t0, it_t1, it_t2, shp_ps, shp_pt, shp_ss, shp_is, seqD_eQ, seqD_eP, seqD_eS, walkD_eP, walkD_eS, walkD_l, walkD_t]
        exact hQ
      · have bp := car t bt p hp
        simp only [dcN, wipeF, noneF, dRet, dRetF, dSetX, dCallX, dRetX, noOw, dTry, dCpy, dRaise, dRetO, dSetP, dSetS, dSetF, dSeq, dIf, dNext, dCall, dCallF, dB, dBin, dCons, dNil, dTup, dLst, dV, dC, dTV, onB, dTAnd, dTOr, dTNot, dAnd, dOr, dNot, dIfE, dIsN, dNotN, isN, dSl, dSlF, dNoPart, dPart, dPar, dParS, dAsg, dgN, dgT, dgCons, dgNil, dFE, dIsi, dListF, dNeg, dRev, dFrz, dApp, dAppS, dIns, dExtend, dClear, dReverse, dPop, oIx, oI, oIC, add_ii, add_ss, add_ll, add_tt, oSubI, oMulU, oMulI, oFd, oMd, oPw, oLt, oLe, oGt, oGe, oEq, oNe, getF, setF, Cl.d, getS, setS, purF_nil, purF_cons, purH, allF_nil, allF_cons, allH, rho0, endsOf, scalD, len_l, len_t, len_s, bAbs, bInt, bIntU, tup_l, tup_t, true_and, and_true, Option.some.injEq, exists_eq_left', decide_eq_true_eq, Bool.not_eq_true', decide_eq_false_iff_not, it_eQ0, it_eQ1, it_eP0, it_eP1, it_eS0, it_eS1, fits_eQ, fits_eP, fits_eS, eqv_eQ, eqv_eP, eqv_eS, eqv_int, eqv_bool, shp_int, shp_bool, shp_none, shp_eQ, shp_eP, shp_eS, dCont, dBreak, dXi, dSetG, dAppG, oIsB, oNotB, dTx, pJoin, pSplit, pPart, pStarts, bStr, bIntS, dFmt, dJs, ↓reduceIte, nsp_none, nsp_bool, nsp_int, nsp_str, nsp_list, nsp_tuple, nsp_eQ, nsp_eP, nsp_eS, dat_pu, dat_ow, seqD_l, seqD_t, not_true_eq_false, Bool.true_eq_false, Bool.not_not, List.length_cons, List.length_nil, mkP, mkS, fits_list, fits_tuple, isIntD, isBoolD, isListD, isStrD, isTupD, Bool.not_true, Bool.not_false, Bool.false_eq_true, it_l0, it_l1, it_l2, it_t0, it_t1, it_t2, shp_ps, shp_pt, shp_ss, shp_is, seqD_eQ, seqD_eP, seqD_eS, walkD_eP, walkD_eS, walkD_l, walkD_t]
        exact ⟨k, p, 27, rfl, hk, bp, by decide, hΨ⟩
      · simp only [List.map_cons, List.map_nil, dRet, dRetF, dSetX, dCallX, dRetX, noOw, dTry, dCpy, dRaise, dRetO, dSetP, dSetS, dSetF, dSeq, dIf, dNext, dCall, dCallF, dB, dBin, dCons, dNil, dTup, dLst, dV, dC, dTV, onB, dTAnd, dTOr, dTNot, dAnd, dOr, dNot, dIfE, dIsN, dNotN, isN, dSl, dSlF, dNoPart, dPart, dPar, dParS, dAsg, dgN, dgT, dgCons, dgNil, dFE, dIsi, dListF, dNeg, dRev, dFrz, dApp, dAppS, dIns, dExtend, dClear, dReverse, dPop, oIx, oI, oIC, add_ii, add_ss, add_ll, add_tt, oSubI, oMulU, oMulI, oFd, oMd, oPw, oLt, oLe, oGt, oGe, oEq, oNe, getF, setF, Cl.d, getS, setS, purF_nil, purF_cons, purH, allF_nil, allF_cons, allH, rho0, endsOf, scalD, len_l, len_t, len_s, bAbs, bInt, bIntU, tup_l, tup_t, true_and, and_true, Option.some.injEq, exists_eq_left', decide_eq_true_eq, Bool.not_eq_true', decide_eq_false_iff_not, it_eQ0, it_eQ1, it_eP0, it_eP1, it_eS0, it_eS1, fits_eQ, fits_eP, fits_eS, eqv_eQ, eqv_eP, eqv_eS, eqv_int, eqv_bool, shp_int, shp_bool, shp_none, shp_eQ, shp_eP, shp_eS, dCont, dBreak, dXi, dSetG, dAppG, oIsB, oNotB, dTx, pJoin, pSplit, pPart, pStarts, bStr, bIntS, dFmt, dJs, ↓reduceIte, nsp_none, nsp_bool, nsp_int, nsp_str, nsp_list, nsp_tuple, nsp_eQ, nsp_eP, nsp_eS, dat_pu, dat_ow, seqD_l, seqD_t, not_true_eq_false, Bool.true_eq_false, Bool.not_not, List.length_cons, List.length_nil, mkP, mkS, fits_list, fits_tuple, isIntD, isBoolD, isListD, isStrD, isTupD, Bool.not_true, Bool.not_false, Bool.false_eq_true, it_l0, it_l1, it_l2, it_t0, it_t1, it_t2, shp_ps, shp_pt, shp_ss, shp_is, seqD_eQ, seqD_eP, seqD_eS, walkD_eP, walkD_eS, walkD_l, walkD_t]
        exact hE _ rfl
    rintro _ rfl
    have bcs : BdS 60 ((carOf k).sd s) := ⟨(bd_car hk bs2.1).mono (by decide), (bd_car hk bs2.2).mono (by decide)⟩
    have bct : BdS 60 ((carOf k).sd t) := ⟨(bd_car hk bt.1).mono (by decide), (bd_car hk bt.2).mono (by decide)⟩
    have mc := meet_carried dn hs ht
    have be := meet_ends bs2 bt
    refine seq_cut (fun ρ => ρ = [.pu (.list (ns.map .int)), .pu (.int c), .pu (.list (xs.map .int)), .pu (eS s), .pu (eS t), .pu (eM (meetM s t)), .pu (eK k), .pu (eS ((carOf k).sd s)), .un, .pu (eS ((carOf k).sd t)), x10, x11, x12]) (fun E _ hE => ?_) ?_
    · simp only [dRet, dRetF, dSetX, dCallX, dRetX, noOw, dTry, dCpy, dRaise, dRetO, dSetP, dSetS, dSetF, dSeq, dIf, dNext, dCall, dCallF, dB, dBin, dCons, dNil, dTup, dLst, dV, dC, dTV, onB, dTAnd, dTOr, dTNot, dAnd, dOr, dNot, dIfE, dIsN, dNotN, isN, dSl, dSlF, dNoPart, dPart, dPar, dParS, dAsg, dgN, dgT, dgCons, dgNil, dFE, dIsi, dListF, dNeg, dRev, dFrz, dApp, dAppS, dIns, dExtend, dClear, dReverse, dPop, oIx, oI, oIC, add_ii, add_ss, add_ll, add_tt, oSubI, oMulU, oMulI, oFd, oMd, oPw, oLt, oLe, oGt, oGe, oEq, oNe, getF, setF, Cl.d, getS, setS, purF_nil, purF_cons, purH, allF_nil, allF_cons, allH, rho0, endsOf, scalD, len_l, len_t, len_s, bAbs, bInt, bIntU, tup_l, tup_t, true_and, and_true, Option.some.injEq, exists_eq_left', decide_eq_true_eq, Bool.not_eq_true', decide_eq_false_iff_not, it_eQ0, it_eQ1, it_eP0, it_eP1, it_eS0, it_eS1, fits_eQ, fits_eP, fits_eS, eqv_eQ, eqv_eP, eqv_eS, eqv_int, eqv_bool, shp_int, shp_bool, shp_none, shp_eQ, shp_eP, shp_eS, dCont, dBreak, dXi, dSetG, dAppG, oIsB, oNotB, dTx, pJoin, pSplit, pPart, pStarts, bStr, bIntS, dFmt, dJs, ↓reduceIte, nsp_none, nsp_bool, nsp_int, nsp_str, nsp_list, nsp_tuple, nsp_eQ, nsp_eP, nsp_eS, dat_pu, dat_ow, seqD_l, seqD_t, not_true_eq_false, Bool.true_eq_false, Bool.not_not, List.length_cons, List.length_nil, mkP, mkS, fits_list, fits_tuple, isIntD, isBoolD, isListD, isStrD, isTupD, Bool.not_true, Bool.not_false, Bool.false_eq_true, it_l0, it_l1, it_l2, it_t0, it_t1, it_t2, shp_ps, shp_pt, shp_ss, shp_is, seqD_eQ, seqD_eP, seqD_eS, walkD_eP, walkD_eS, walkD_l, walkD_t]
      refine ⟨_, _, 60, rfl, car_ne dn hs, car_ne dn ht, bcs, bct, by decide, .inl (by decide), ?_⟩
      rw [mc]
      simp only [dRet, dRetF, dSetX, dCallX, dRetX, noOw, dTry, dCpy, dRaise, dRetO, dSetP, dSetS, dSetF, dSeq, dIf, dNext, dCall, dCallF, dB, dBin, dCons, dNil, dTup, dLst, dV, dC, dTV, onB, dTAnd, dTOr, dTNot, dAnd, dOr, dNot, dIfE, dIsN, dNotN, isN, dSl, dSlF, dNoPart, dPart, dPar, dParS, dAsg, dgN, dgT, dgCons, dgNil, dFE, dIsi, dListF, dNeg, dRev, dFrz, dApp, dAppS, dIns, dExtend, dClear, dReverse, dPop, oIx, oI, oIC, add_ii, add_ss, add_ll, add_tt, oSubI, oMulU, oMulI, oFd, oMd, oPw, oLt, oLe, oGt, oGe, oEq, oNe, getF, setF, Cl.d, getS, setS, purF_nil, purF_cons, purH, allF_nil, allF_cons, allH, rho0, endsOf, scalD, len_l, len_t, len_s, bAbs, bInt, bIntU, tup_l, tup_t, true_and, and_true, Option.some.injEq, exists_eq_left', decide_eq_true_eq, Bool.not_eq_true', decide_eq_false_iff_not, it_eQ0, it_eQ1, it_eP0, it_eP1, it_eS0, it_eS1, fits_eQ, fits_eP, fits_eS, eqv_eQ, eqv_eP, eqv_eS, eqv_int, eqv_bool, shp_int, shp_bool, shp_none, shp_eQ, shp_eP, shp_eS, dCont, dBreak, dXi, dSetG, dAppG, oIsB, oNotB, dTx, pJoin, pSplit, pPart, pStarts, bStr, bIntS, dFmt, dJs, ↓reduceIte, nsp_none, nsp_bool, nsp_int, nsp_str, nsp_list, nsp_tuple, nsp_eQ, nsp_eP, nsp_eS, dat_pu, dat_ow, seqD_l, seqD_t, not_true_eq_false, Bool.true_eq_false, Bool.not_not, List.length_cons, List.length_nil, mkP, mkS, fits_list, fits_tuple, isIntD, isBoolD, isListD, isStrD, isTupD, Bool.not_true, Bool.not_false, Bool.false_eq_true, it_l0, it_l1, it_l2, it_t0, it_t1, it_t2, shp_ps, shp_pt, shp_ss, shp_is, seqD_eQ, seqD_eP, seqD_eS, walkD_eP, walkD_eS, walkD_l, walkD_t]
      refine ⟨k, meetM s t, 747, rfl, hk, fun p hp => (be p hp).mono (by decide), by decide, ?_⟩
      simp only [shp_eM, eqv_eM, dRet, dRetF, dSetX, dCallX, dRetX, noOw, dTry, dCpy, dRaise, dRetO, dSetP, dSetS, dSetF, dSeq, dIf, dNext, dCall, dCallF, dB, dBin, dCons, dNil, dTup, dLst, dV, dC, dTV, onB, dTAnd, dTOr, dTNot, dAnd, dOr, dNot, dIfE, dIsN, dNotN, isN, dSl, dSlF, dNoPart, dPart, dPar, dParS, dAsg, dgN, dgT, dgCons, dgNil, dFE, dIsi, dListF, dNeg, dRev, dFrz, dApp, dAppS, dIns, dExtend, dClear, dReverse, dPop, oIx, oI, oIC, add_ii, add_ss, add_ll, add_tt, oSubI, oMulU, oMulI, oFd, oMd, oPw, oLt, oLe, oGt, oGe, oEq, oNe, getF, setF, Cl.d, getS, setS, purF_nil, purF_cons, purH, allF_nil, allF_cons, allH, rho0, endsOf, scalD, len_l, len_t, len_s, bAbs, bInt, bIntU, tup_l, tup_t, true_and, and_true, Option.some.injEq, exists_eq_left', decide_eq_true_eq, Bool.not_eq_true', decide_eq_false_iff_not, it_eQ0, it_eQ1, it_eP0, it_eP1, it_eS0, it_eS1, fits_eQ, fits_eP, fits_eS, eqv_eQ, eqv_eP, eqv_eS, eqv_int, eqv_bool, shp_int, shp_bool, shp_none, shp_eQ, shp_eP, shp_eS, dCont, dBreak, dXi, dSetG, dAppG, oIsB, oNotB, dTx, pJoin, pSplit, pPart, pStarts, bStr, bIntS, dFmt, dJs, ↓reduceIte, nsp_none, nsp_bool, nsp_int, nsp_str, nsp_list, nsp_tuple, nsp_eQ, nsp_eP, nsp_eS, dat_pu, dat_ow, seqD_l, seqD_t, not_true_eq_false, Bool.true_eq_false, Bool.not_not, List.length_cons, List.length_nil, mkP, mkS, fits_list, fits_tuple, isIntD, isBoolD, isListD, isStrD, isTupD, Bool.not_true, Bool.not_false, Bool.false_eq_true, it_l0, it_l1, it_l2, it_t0, it_t1, it_t2, shp_ps, shp_pt, shp_ss, shp_is, seqD_eQ, seqD_eP, seqD_eS, walkD_eP, walkD_eS, walkD_l, walkD_t]
      exact hE _ rfl
    rintro _ rfl
    refine seq_cut (fun ρ => ρ = [.pu (.list (ns.map .int)), .pu (.int c), .pu (.list (xs.map .int)), .pu (eS s), .pu (eS t), .pu (eM (meetM s t)), .pu (eK k), .pu (eS ((carOf k).sd s)), .un, .pu (eS ((carOf k).sd t)), x10, x11, x12]) (fun E _ hE => ?_) ?_
    · simp only [i20', dRet, dRetF, dSetX, dCallX, dRetX, noOw, dTry, dCpy, dRaise, dRetO, dSetP, dSetS, dSetF, dSeq, dIf, dNext, dCall, dCallF, dB, dBin, dCons, dNil, dTup, dLst, dV, dC, dTV, onB, dTAnd, dTOr, dTNot, dAnd, dOr, dNot, dIfE, dIsN, dNotN, isN, dSl, dSlF, dNoPart, dPart, dPar, dParS, dAsg, dgN, dgT, dgCons, dgNil, dFE, dIsi, dListF, dNeg, dRev, dFrz, dApp, dAppS, dIns, dExtend, dClear, dReverse, dPop, oIx, oI, oIC, add_ii, add_ss, add_ll, add_tt, oSubI, oMulU, oMulI, oFd, oMd, oPw, oLt, oLe, oGt, oGe, oEq, oNe, getF, setF, Cl.d, getS, setS, purF_nil, purF_cons, purH, allF_nil, allF_cons, allH, rho0, endsOf, scalD, len_l, len_t, len_s, bAbs, bInt, bIntU, tup_l, tup_t, true_and, and_true, Option.some.injEq, exists_eq_left', decide_eq_true_eq, Bool.not_eq_true', decide_eq_false_iff_not, it_eQ0, it_eQ1, it_eP0, it_eP1, it_eS0, it_eS1, fits_eQ, fits_eP, fits_eS, eqv_eQ, eqv_eP, eqv_eS, eqv_int, eqv_bool, shp_int, shp_bool, shp_none, shp_eQ, shp_eP, shp_eS, dCont, dBreak, dXi, dSetG, dAppG, oIsB, oNotB, dTx, pJoin, pSplit, pPart, pStarts, bStr, bIntS, dFmt, dJs, ↓reduceIte, nsp_none, nsp_bool, nsp_int, nsp_str, nsp_list, nsp_tuple, nsp_eQ, nsp_eP, nsp_eS, dat_pu, dat_ow, seqD_l, seqD_t, not_true_eq_false, Bool.true_eq_false, Bool.not_not, List.length_cons, List.length_nil, mkP, mkS, fits_list, fits_tuple, isIntD, isBoolD, isListD, isStrD, isTupD, Bool.not_true, Bool.not_false, Bool.false_eq_true, it_l0, it_l1, it_l2, it_t0, it_t1, it_t2, shp_ps, shp_pt, shp_ss, shp_is, seqD_eQ, seqD_eP, seqD_eS, walkD_eP, walkD_eS, walkD_l, walkD_t]
      refine ⟨s, t, _, rfl, hs, ht, bs, bt, ?_⟩
      simp only [dRet, dRetF, dSetX, dCallX, dRetX, noOw, dTry, dCpy, dRaise, dRetO, dSetP, dSetS, dSetF, dSeq, dIf, dNext, dCall, dCallF, dB, dBin, dCons, dNil, dTup, dLst, dV, dC, dTV, onB, dTAnd, dTOr, dTNot, dAnd, dOr, dNot, dIfE, dIsN, dNotN, isN, dSl, dSlF, dNoPart, dPart, dPar, dParS, dAsg, dgN, dgT, dgCons, dgNil, dFE, dIsi, dListF, dNeg, dRev, dFrz, dApp, dAppS, dIns, dExtend, dClear, dReverse, dPop, oIx, oI, oIC, add_ii, add_ss, add_ll, add_tt, oSubI, oMulU, oMulI, oFd, oMd, oPw, oLt, oLe, oGt, oGe, oEq, oNe, getF, setF, Cl.d, getS, setS, purF_nil, purF_cons, purH, allF_nil, allF_cons, allH, rho0, endsOf, scalD, len_l, len_t, len_s, bAbs, bInt, bIntU, tup_l, tup_t, true_and, and_true, Option.some.injEq, exists_eq_left', decide_eq_true_eq, Bool.not_eq_true', decide_eq_false_iff_not, it_eQ0, it_eQ1, it_eP0, it_eP1, it_eS0, it_eS1, fits_eQ, fits_eP, fits_eS, eqv_eQ, eqv_eP, eqv_eS, eqv_int, eqv_bool, shp_int, shp_bool, shp_none, shp_eQ, shp_eP, shp_eS, dCont, dBreak, dXi, dSetG, dAppG, oIsB, oNotB, dTx, pJoin, pSplit, pPart, pStarts, bStr, bIntS, dFmt, dJs, ↓reduceIte, nsp_none, nsp_bool, nsp_int, nsp_str, nsp_list, nsp_tuple, nsp_eQ, nsp_eP, nsp_eS, dat_pu, dat_ow, seqD_l, seqD_t, not_true_eq_false, Bool.true_eq_false, Bool.not_not, List.length_cons, List.length_nil, mkP, mkS, fits_list, fits_tuple, isIntD, isBoolD, isListD, isStrD, isTupD, Bool.not_true, Bool.not_false, Bool.false_eq_true, it_l0, it_l1, it_l2, it_t0, it_t1, it_t2, shp_ps, shp_pt, shp_ss, shp_is, seqD_eQ, seqD_eP, seqD_eS, walkD_eP, walkD_eS, walkD_l, walkD_t]
      exact hE _ rfl
    rintro _ rfl
    refine seq_cut (fun ρ => ρ = [.pu (.list (ns.map .int)), .pu (.int c), .pu (.list (xs.map .int)), .pu (eS s), .pu (eS t), .pu (eM (meetM s t)), .pu (eK k), .pu (eS ((carOf k).sd s)), .un, .pu (eS ((carOf k).sd t)), x10, x11, x12]) (fun E _ hE => ?_) ?_
    · simp only [dRet, dRetF, dSetX, dCallX, dRetX, noOw, dTry, dCpy, dRaise, dRetO, dSetP, dSetS, dSetF, dSeq, dIf, dNext, dCall, dCallF, dB, dBin, dCons, dNil, dTup, dLst, dV, dC, dTV, onB, dTAnd, dTOr, dTNot, dAnd, dOr, dNot, dIfE, dIsN, dNotN, isN, dSl, dSlF, dNoPart, dPart, dPar, dParS, dAsg, dgN, dgT, dgCons, dgNil, dFE, dIsi, dListF, dNeg, dRev, dFrz, dApp, dAppS, dIns, dExtend, dClear, dReverse, dPop, oIx, oI, oIC, add_ii, add_ss, add_ll, add_tt, oSubI, oMulU, oMulI, oFd, oMd, oPw, oLt, oLe, oGt, oGe, oEq, oNe, getF, setF, Cl.d, getS, setS, purF_nil, purF_cons, purH, allF_nil, allF_cons, allH, rho0, endsOf, scalD, len_l, len_t, len_s, bAbs, bInt, bIntU, tup_l, tup_t, true_and, and_true, Option.some.injEq, exists_eq_left', decide_eq_true_eq, Bool.not_eq_true', decide_eq_false_iff_not, it_eQ0, it_eQ1, it_eP0, it_eP1, it_eS0, it_eS1, fits_eQ, fits_eP, fits_eS, eqv_eQ, eqv_eP, eqv_eS, eqv_int, eqv_bool, shp_int, shp_bool, shp_none, shp_eQ, shp_eP, shp_eS, dCont, dBreak, dXi, dSetG, dAppG, oIsB, oNotB, dTx, pJoin, pSplit, pPart, pStarts, bStr, bIntS, dFmt, dJs, ↓reduceIte, nsp_none, nsp_bool, nsp_int, nsp_str, nsp_list, nsp_tuple, nsp_eQ, nsp_eP, nsp_eS, dat_pu, dat_ow, seqD_l, seqD_t, not_true_eq_false, Bool.true_eq_false, Bool.not_not, List.length_cons, List.length_nil, mkP, mkS, fits_list, fits_tuple, isIntD, isBoolD, isListD, isStrD, isTupD, Bool.not_true, Bool.not_false, Bool.false_eq_true, it_l0, it_l1, it_l2, it_t0, it_t1, it_t2, shp_ps, shp_pt, shp_ss, shp_is, seqD_eQ, seqD_eP, seqD_eS, walkD_eP, walkD_eS, walkD_l, walkD_t]
      refine ⟨s, t, rfl, hs, ht, bs, bt, ?_⟩
      simp only [dRet, dRetF, dSetX, dCallX, dRetX, noOw, dTry, dCpy, dRaise, dRetO, dSetP, dSetS, dSetF, dSeq, dIf, dNext, dCall, dCallF, dB, dBin, dCons, dNil, dTup, dLst, dV, dC, dTV, onB, dTAnd, dTOr, dTNot, dAnd, dOr, dNot, dIfE, dIsN, dNotN, isN, dSl, dSlF, dNoPart, dPart, dPar, dParS, dAsg, dgN, dgT, dgCons, dgNil, dFE, dIsi, dListF, dNeg, dRev, dFrz, dApp, dAppS, dIns, dExtend, dClear, dReverse, dPop, oIx, oI, oIC, add_ii, add_ss, add_ll, add_tt, oSubI, oMulU, oMulI, oFd, oMd, oPw, oLt, oLe, oGt, oGe, oEq, oNe, getF, setF, Cl.d, getS, setS, purF_nil, purF_cons, purH, allF_nil, allF_cons, allH, rho0, endsOf, scalD, len_l, len_t, len_s, bAbs, bInt, bIntU, tup_l, tup_t, true_and, and_true, Option.some.injEq, exists_eq_left', decide_eq_true_eq, Bool.not_eq_true', decide_eq_false_iff_not, it_eQ0, it_eQ1, it_eP0, it_eP1, it_eS0, it_eS1, fits_eQ, fits_eP, fits_eS, eqv_eQ, eqv_eP, eqv_eS, eqv_int, eqv_bool, shp_int, shp_bool, shp_none, shp_eQ, shp_eP, shp_eS, dCont, dBreak, dXi, dSetG, dAppG, oIsB, oNotB, dTx, pJoin, pSplit, pPart, pStarts, bStr, bIntS, dFmt, dJs, ↓reduceIte, nsp_none, nsp_bool, nsp_int, nsp_str, nsp_list, nsp_tuple, nsp_eQ, nsp_eP, nsp_eS, dat_pu, dat_ow, seqD_l, seqD_t, not_true_eq_false, Bool.true_eq_false, Bool.not_not, List.length_cons, List.length_nil, mkP, mkS, fits_list, fits_tuple, isIntD, isBoolD, isListD, isStrD, isTupD, Bool.not_true, Bool.not_false, Bool.false_eq_true, it_l0, it_l1, it_l2, it_t0, it_t1, it_t2, shp_ps, shp_pt, shp_ss, shp_is, seqD_eQ, seqD_eP, seqD_eS, walkD_eP, walkD_eS, walkD_l, walkD_t]
      exact hE _ rfl
    rintro _ rfl
    obtain ⟨k0', k1', k3', k4'⟩ := it_eK k
    have fk : fitsD (eK k) := trivial
    have ha := hk.a
    have hb := hk.b
    have hd := hk.d
    have he := hk.e
    refine seq_cut (fun ρ => ρ = [.pu (.list (ns.map .int)), .pu (.int c), .pu (.list (xs.map .int)), .pu (eS s), .pu (eS t), .pu (eM (meetM s t)), .pu (eK k), .pu (eS ((carOf k).sd s)), .un, .pu (eS ((carOf k).sd t)), .pu (.int (k.a * k.e - k.b * k.d)), x11, x12]) (fun E _ hE => ?_) ?_
    · simp only [fk, k0', k1', k3', k4', dRet, dRetF, dSetX, dCallX, dRetX, noOw, dTry, dCpy, dRaise, dRetO, dSetP, dSetS, dSetF, dSeq, dIf, dNext, dCall, dCallF, dB, dBin, dCons, dNil, dTup, dLst, dV, dC, dTV, onB, dTAnd, dTOr, dTNot, dAnd, dOr, dNot, dIfE, dIsN, dNotN, isN, dSl, dSlF, dNoPart, dPart, dPar, dParS, dAsg, dgN, dgT, dgCons, dgNil, dFE, dIsi, dListF, dNeg, dRev, dFrz, dApp, dAppS, dIns, dExtend, dClear, dReverse, dPop, oIx, oI, oIC, add_ii, add_ss, add_ll, add_tt, oSubI, oMulU, oMulI, oFd, oMd, oPw, oLt, oLe, oGt, oGe, oEq, oNe, getF, setF, Cl.d, getS, setS, purF_nil, purF_cons, purH, allF_nil, allF_cons, allH, rho0, endsOf, scalD, len_l, len_t, len_s, bAbs, bInt, bIntU, tup_l, tup_t, true_and, and_true, Option.some.injEq, exists_eq_left', decide_eq_true_eq, Bool.not_eq_true', decide_eq_false_iff_not, it_eQ0, it_eQ1, it_eP0, it_eP1, it_eS0, it_eS1, fits_eQ, fits_eP, fits_eS, eqv_eQ, eqv_eP, eqv_eS, eqv_int, eqv_bool, shp_int, shp_bool, shp_none, shp_eQ, shp_eP, shp_eS, dCont, dBreak, dXi, dSetG, dAppG, oIsB, oNotB, dTx, pJoin, pSplit, pPart, pStarts, bStr, bIntS, dFmt, dJs, ↓reduceIte, nsp_none, nsp_bool, nsp_int, nsp_str, nsp_list, nsp_tuple, nsp_eQ, nsp_eP, nsp_eS, dat_pu, dat_ow, seqD_l, seqD_t, not_true_eq_false, Bool.true_eq_false, Bool.not_not, List.length_cons, List.length_nil, mkP, mkS, fits_list, fits_tuple, isIntD, isBoolD, isListD, isStrD, isTupD, Bool.not_true, Bool.not_false, Bool.false_eq_true, it_l0, it_l1, it_l2, it_t0, it_t1, it_t2, shp_ps, shp_pt, shp_ss, shp_is, seqD_eQ, seqD_eP, seqD_eS, walkD_eP, walkD_eS, walkD_l, walkD_t]
      exact ⟨cmN (by omega) (by omega), cmN (by omega) (by omega), hE _ rfl⟩
    rintro _ rfl
    refine dFor_iv (ds := (List.range 2).map fun (k : Nat) => PyData.int k) (fun Q hQ => ?_) (fun j ρ => ∃ y z : Slot, ρ = [.pu (.list (ns.map .int)), .pu (.int c), .pu (.list (xs.map .int)), .pu (eS s), .pu (eS t), .pu (eM (meetM s t)), .pu (eK k), .pu (eS ((carOf k).sd s)), .un, .pu (eS ((carOf k).sd t)), .pu (.int (k.a * k.e - k.b * k.d)), y, z]) ⟨_, _, rfl⟩ ?_ ?_
    · simp only [diRng1, dRet, dRetF, dSetX, dCallX, dRetX, noOw, dTry, dCpy, dRaise, dRetO, dSetP, dSetS, dSetF, dSeq, dIf, dNext, dCall, dCallF, dB, dBin, dCons, dNil, dTup, dLst, dV, dC, dTV, onB, dTAnd, dTOr, dTNot, dAnd, dOr, dNot, dIfE, dIsN, dNotN, isN, dSl, dSlF, dNoPart, dPart, dPar, dParS, dAsg, dgN, dgT, dgCons, dgNil, dFE, dIsi, dListF, dNeg, dRev, dFrz, dApp, dAppS, dIns, dExtend, dClear, dReverse, dPop, oIx, oI, oIC, add_ii, add_ss, add_ll, add_tt, oSubI, oMulU, oMulI, oFd, oMd, oPw, oLt, oLe, oGt, oGe, oEq, oNe, getF, setF, Cl.d, getS, setS, purF_nil, purF_cons, purH, allF_nil, allF_cons, allH, rho0, endsOf, scalD, len_l, len_t, len_s, bAbs, bInt, bIntU, tup_l, tup_t, true_and, and_true, Option.some.injEq, exists_eq_left', decide_eq_true_eq, Bool.not_eq_true', decide_eq_false_iff_not, it_eQ0, it_eQ1, it_eP0, it_eP1, it_eS0, it_eS1, fits_eQ, fits_eP, fits_eS, eqv_eQ, eqv_eP, eqv_eS, eqv_int, eqv_bool, shp_int, shp_bool, shp_none, shp_eQ, shp_eP, shp_eS, dCont, dBreak, dXi, dSetG, dAppG, oIsB, oNotB, dTx, pJoin, pSplit, pPart, pStarts, bStr, bIntS, dFmt, dJs, ↓reduceIte, nsp_none, nsp_bool, nsp_int, nsp_str, nsp_list, nsp_tuple, nsp_eQ, nsp_eP, nsp_eS, dat_pu, dat_ow, seqD_l, seqD_t, not_true_eq_false, Bool.true_eq_false, Bool.not_not, List.length_cons, List.length_nil, mkP, mkS, fits_list, fits_tuple, isIntD, isBoolD, isListD, isStrD, isTupD, Bool.not_true, Bool.not_false, Bool.false_eq_true, it_l0, it_l1, it_l2, it_t0, it_t1, it_t2, shp_ps, shp_pt, shp_ss, shp_is, seqD_eQ, seqD_eP, seqD_eS, walkD_eP, walkD_eS, walkD_l, walkD_t]
      exact ⟨by decide, by decide, hQ⟩
    · rintro j d ρ' hj ⟨y, z, rfl⟩
      obtain ⟨hj2, rfl⟩ := rng_get hj
      obtain ⟨p, bp, ip, iq⟩ : ∃ p : Pt, BdP 27 p ∧ itemD (eS t) (j : Int) = some (eP p) ∧ itemD (eS ((carOf k).sd t)) (j : Int) = some (eP ((carOf k).pt p)) := by
        match j, hj2 with
        | 0, _ => exact ⟨t.1, bt.1, rfl, rfl⟩
        | 1, _ => exact ⟨t.2, bt.2, rfl, rfl⟩
      simp only [dgN, setS]
      refine seq_cut (fun ρ => ρ = [.pu (.list (ns.map .int)), .pu (.int c), .pu (.list (xs.map .int)), .pu (eS s), .pu (eS t), .pu (eM (meetM s t)), .pu (eK k), .pu (eS ((carOf k).sd s)), .un, .pu (eS ((carOf k).sd t)), .pu (.int (k.a * k.e - k.b * k.d)), .pu (.int j), .pu (.int (sgnQ (crossQ s.1 s.2 p)))]) (fun E _ hE => ?_) ?_
      · simp only [ip, dRet, dRetF, dSetX, dCallX, dRetX, noOw, dTry, dCpy, dRaise, dRetO, dSetP, dSetS, dSetF, dSeq, dIf, dNext, dCall, dCallF, dB, dBin, dCons, dNil, dTup, dLst, dV, dC, dTV, onB, dTAnd, dTOr, dTNot, dAnd, dOr, dNot, dIfE, dIsN, dNotN, isN, dSl, dSlF, dNoPart, dPart, dPar, dParS, dAsg, dgN, dgT, dgCons, dgNil, dFE, dIsi, dListF, dNeg, dRev, dFrz, dApp, dAppS, dIns, dExtend, dClear, dReverse, dPop, oIx, oI, oIC, add_ii, add_ss, add_ll, add_tt, oSubI, oMulU, oMulI, oFd, oMd, oPw, oLt, oLe, oGt, oGe, oEq, oNe, getF, setF, Cl.d, getS, setS, purF_nil, purF_cons, purH, allF_nil, allF_cons, allH, rho0, endsOf, scalD, len_l, len_t, len_s, bAbs, bInt, bIntU, tup_l, tup_t, true_and, and_true, Option.some.injEq, exists_eq_left', decide_eq_true_eq, Bool.not_eq_true', decide_eq_false_iff_not, it_eQ0, it_eQ1, it_eP0, it_eP1, it_eS0, it_eS1, fits_eQ, fits_eP, fits_eS, eqv_eQ, eqv_eP, eqv_eS, eqv_int, eqv_bool, shp_int, shp_bool, shp_none, shp_eQ, shp_eP, shp_eS, dCont, dBreak, dXi, dSetG, dAppG, oIsB, oNotB, dTx, pJoin, pSplit, pPart, pStarts, bStr, bIntS, dFmt, dJs, ↓reduceIte, nsp_none, nsp_bool, nsp_int, nsp_str, nsp_list, nsp_tuple, nsp_eQ, nsp_eP, nsp_eS, dat_pu, dat_ow, seqD_l, seqD_t, not_true_eq_false, Bool.true_eq_false, Bool.not_not, List.length_cons, List.length_nil, mkP, mkS, fits_list, fits_tuple, isIntD, isBoolD, isListD, isStrD, isTupD, Bool.not_true, Bool.not_false, Bool.false_eq_true, it_l0, it_l1, it_l2, it_t0, it_t1, it_t2, shp_ps, shp_pt, shp_ss, shp_is, seqD_eQ, seqD_eP, seqD_eS, walkD_eP, walkD_eS, walkD_l, walkD_t]
        exact ⟨s, p, 27, rfl, bs2, bp, by decide, hE _ rfl⟩
      rintro _ rfl
      refine seq_cut (fun ρ => ρ = [.pu (.list (ns.map .int)), .pu (.int c), .pu (.list (xs.map .int)), .pu (eS s), .pu (eS t), .pu (eM (meetM s t)), .pu (eK k), .pu (eS ((carOf k).sd s)), .un, .pu (eS ((carOf k).sd t)), .pu (.int (k.a * k.e - k.b * k.d)), .pu (.int j), .pu (.int (sgnQ (crossQ ((carOf k).sd s).1 ((carOf k).sd s).2 ((carOf k).pt p))))]) (fun E _ hE => ?_) ?_
      · rw [car_sgn hk] at hE
        simp only [dRet, dRetF, dSetX, dCallX, dRetX, noOw, dTry, dCpy, dRaise, dRetO, dSetP, dSetS, dSetF, dSeq, dIf, dNext, dCall, dCallF, dB, dBin, dCons, dNil, dTup, dLst, dV, dC, dTV, onB, dTAnd, dTOr, dTNot, dAnd, dOr, dNot, dIfE, dIsN, dNotN, isN, dSl, dSlF, dNoPart, dPart, dPar, dParS, dAsg, dgN, dgT, dgCons, dgNil, dFE, dIsi, dListF, dNeg, dRev, dFrz, dApp, dAppS, dIns, dExtend, dClear, dReverse, dPop, oIx, oI, oIC, add_ii, add_ss, add_ll, add_tt, oSubI, oMulU, oMulI, oFd, oMd, oPw, oLt, oLe, oGt, oGe, oEq, oNe, getF, setF, Cl.d, getS, setS, purF_nil, purF_cons, purH, allF_nil, allF_cons, allH, rho0, endsOf, scalD, len_l, len_t, len_s, bAbs, bInt, bIntU, tup_l, tup_t, true_and, and_true, Option.some.injEq, exists_eq_left', decide_eq_true_eq, Bool.not_eq_true', decide_eq_false_iff_not, it_eQ0, it_eQ1, it_eP0, it_eP1, it_eS0, it_eS1, fits_eQ, fits_eP, fits_eS, eqv_eQ, eqv_eP, eqv_eS, eqv_int, eqv_bool, shp_int, shp_bool, shp_none, shp_eQ, shp_eP, shp_eS, dCont, dBreak, dXi, dSetG, dAppG, oIsB, oNotB, dTx, pJoin, pSplit, pPart, pStarts, bStr, bIntS, dFmt, dJs, ↓reduceIte, nsp_none, nsp_bool, nsp_int, nsp_str, nsp_list, nsp_tuple, nsp_eQ, nsp_eP, nsp_eS, dat_pu, dat_ow, seqD_l, seqD_t, not_true_eq_false, Bool.true_eq_false, Bool.not_not, List.length_cons, List.length_nil, mkP, mkS, fits_list, fits_tuple, isIntD, isBoolD, isListD, isStrD, isTupD, Bool.not_true, Bool.not_false, Bool.false_eq_true, it_l0, it_l1, it_l2, it_t0, it_t1, it_t2, shp_ps, shp_pt, shp_ss, shp_is, seqD_eQ, seqD_eP, seqD_eS, walkD_eP, walkD_eS, walkD_l, walkD_t]
        by_cases z : k.a * k.e - k.b * k.d < 0
        · rw [if_pos z] at hE ⊢
          exact hE _ rfl
        · rw [if_neg z] at hE ⊢
          exact hE _ rfl
      rintro _ rfl
      simp only [iq, dRet, dRetF, dSetX, dCallX, dRetX, noOw, dTry, dCpy, dRaise, dRetO, dSetP, dSetS, dSetF, dSeq, dIf, dNext, dCall, dCallF, dB, dBin, dCons, dNil, dTup, dLst, dV, dC, dTV, onB, dTAnd, dTOr, dTNot, dAnd, dOr, dNot, dIfE, dIsN, dNotN, isN, dSl, dSlF, dNoPart, dPart, dPar, dParS, dAsg, dgN, dgT, dgCons, dgNil, dFE, dIsi, dListF, dNeg, dRev, dFrz, dApp, dAppS, dIns, dExtend, dClear, dReverse, dPop, oIx, oI, oIC, add_ii, add_ss, add_ll, add_tt, oSubI, oMulU, oMulI, oFd, oMd, oPw, oLt, oLe, oGt, oGe, oEq, oNe, getF, setF, Cl.d, getS, setS, purF_nil, purF_cons, purH, allF_nil, allF_cons, allH, rho0, endsOf, scalD, len_l, len_t, len_s, bAbs, bInt, bIntU, tup_l, tup_t, true_and, and_true, Option.some.injEq, exists_eq_left', decide_eq_true_eq, Bool.not_eq_true', decide_eq_false_iff_not, it_eQ0, it_eQ1, it_eP0, it_eP1, it_eS0, it_eS1, fits_eQ, fits_eP, fits_eS, eqv_eQ, eqv_eP, eqv_eS, eqv_int, eqv_bool, shp_int, shp_bool, shp_none, shp_eQ, shp_eP, shp_eS, dCont, dBreak, dXi, dSetG, dAppG, oIsB, oNotB, dTx, pJoin, pSplit, pPart, pStarts, bStr, bIntS, dFmt, dJs, ↓reduceIte, nsp_none, nsp_bool, nsp_int, nsp_str, nsp_list, nsp_tuple, nsp_eQ, nsp_eP, nsp_eS, dat_pu, dat_ow, seqD_l, seqD_t, not_true_eq_false, Bool.true_eq_false, Bool.not_not, List.length_cons, List.length_nil, mkP, mkS, fits_list, fits_tuple, isIntD, isBoolD, isListD, isStrD, isTupD, Bool.not_true, Bool.not_false, Bool.false_eq_true, it_l0, it_l1, it_l2, it_t0, it_t1, it_t2, shp_ps, shp_pt, shp_ss, shp_is, seqD_eQ, seqD_eP, seqD_eS, walkD_eP, walkD_eS, walkD_l, walkD_t]
      refine ⟨_, _, 60, rfl, bcs, (bd_car hk bp).mono (by decide), by decide, ?_⟩
      simp only [dRet, dRetF, dSetX, dCallX, dRetX, noOw, dTry, dCpy, dRaise, dRetO, dSetP, dSetS, dSetF, dSeq, dIf, dNext, dCall, dCallF, dB, dBin, dCons, dNil, dTup, dLst, dV, dC, dTV, onB, dTAnd, dTOr, dTNot, dAnd, dOr, dNot, dIfE, dIsN, dNotN, isN, dSl, dSlF, dNoPart, dPart, dPar, dParS, dAsg, dgN, dgT, dgCons, dgNil, dFE, dIsi, dListF, dNeg, dRev, dFrz, dApp, dAppS, dIns, dExtend, dClear, dReverse, dPop, oIx, oI, oIC, add_ii, add_ss, add_ll, add_tt, oSubI, oMulU, oMulI, oFd, oMd, oPw, oLt, oLe, oGt, oGe, oEq, oNe, getF, setF, Cl.d, getS, setS, purF_nil, purF_cons, purH, allF_nil, allF_cons, allH, rho0, endsOf, scalD, len_l, len_t, len_s, bAbs, bInt, bIntU, tup_l, tup_t, true_and, and_true, Option.some.injEq, exists_eq_left', decide_eq_true_eq, Bool.not_eq_true', decide_eq_false_iff_not, it_eQ0, it_eQ1, it_eP0, it_eP1, it_eS0, it_eS1, fits_eQ, fits_eP, fits_eS, eqv_eQ, eqv_eP, eqv_eS, eqv_int, eqv_bool, shp_int, shp_bool, shp_none, shp_eQ, shp_eP, shp_eS, dCont, dBreak, dXi, dSetG, dAppG, oIsB, oNotB, dTx, pJoin, pSplit, pPart, pStarts, bStr, bIntS, dFmt, dJs, ↓reduceIte, nsp_none, nsp_bool, nsp_int, nsp_str, nsp_list, nsp_tuple, nsp_eQ, nsp_eP, nsp_eS, dat_pu, dat_ow, seqD_l, seqD_t, not_true_eq_false, Bool.true_eq_false, Bool.not_not, List.length_cons, List.length_nil, mkP, mkS, fits_list, fits_tuple, isIntD, isBoolD, isListD, isStrD, isTupD, Bool.not_true, Bool.not_false, Bool.false_eq_true, it_l0, it_l1, it_l2, it_t0, it_t1, it_t2, shp_ps, shp_pt, shp_ss, shp_is, seqD_eQ, seqD_eP, seqD_eS, walkD_eP, walkD_eS, walkD_l, walkD_t]
      first
        | exact ⟨_, _, rfl⟩
        | (refine ite_no (fun z => z rfl) ?_; exact ⟨_, _, rfl⟩)
    · rintro ρ' ⟨y, z, rfl⟩
      exact ⟨_, _, _, _, _, _, _, _, _, _, _, rfl⟩
  · rintro ds ⟨cs, rfl⟩ ρ' ⟨x1, x2, x3, x4, x5, x6, x7, x9, x10, x11, x12, rfl⟩
    exact h
end L2.D3.K05
set_option maxHeartbeats 0
namespace L2.D3.K05
open PySem PySem.Spec PyProof.Rows L2.D3
def top (i : Nat) : Stmt := PySem.Challenge.pw_landsheets_k05_whole_meets_cut_and_carri.main.body.getD i (.Pass ⟨0, 0, 0, 0⟩)
abbrev s_great_part : Stmt := top 4
abbrev s_lowest : Stmt := top 5
abbrev s_plus : Stmt := top 6
abbrev s_minus : Stmt := top 7
abbrev s_times : Stmt := top 8
abbrev s_over : Stmt := top 9
abbrev s_below : Stmt := top 10
abbrev s_before : Stmt := top 12
abbrev s_in_order : Stmt := top 13
abbrev s_cross_of : Stmt := top 14
abbrev s_sign_of : Stmt := top 15
abbrev s_side_of : Stmt := top 16
abbrev s_is_on : Stmt := top 17
abbrev s_moved : Stmt := top 19
abbrev s_meet_along : Stmt := top 20
abbrev s_crossing : Stmt := top 21
abbrev s_meet : Stmt := top 22
abbrev s__law_cell : Stmt := top 24
abbrev s__law_numbers : Stmt := top 25
abbrev s__law_low : Stmt := top 26
abbrev s__law_fraction : Stmt := top 27
abbrev s__law_less : Stmt := top 28
abbrev s__law_before : Stmt := top 29
abbrev s__law_at : Stmt := top 30
abbrev s__law_spot : Stmt := top 31
abbrev s__law_side : Stmt := top 32
abbrev s__law_other : Stmt := top 33
abbrev s__law_made_of : Stmt := top 34
abbrev s__law_carrying : Stmt := top 35
abbrev s__law_carried : Stmt := top 36
abbrev s__law_told : Stmt := top 37
abbrev s__law_first_and_last : Stmt := top 38
abbrev s__law_cut : Stmt := top 39
abbrev s__law_on_both : Stmt := top 40
abbrev s__law_in_order : Stmt := top 41
abbrev s_law : Stmt := top 42
abbrev M_great_part : List Str := ["one", "other", "high", "low"]
abbrev M_lowest : List Str := ["top", "bottom", "shared"]
abbrev M_plus : List Str := ["a", "b"]
abbrev M_minus : List Str := ["a", "b"]
abbrev M_times : List Str := ["a", "b"]
abbrev M_over : List Str := ["a", "b"]
abbrev M_below : List Str := ["a", "b"]
abbrev M_before : List Str := ["a", "b"]
abbrev M_in_order : List Str := ["points", "found", "point", "low", "high", "middle"]
abbrev M_cross_of : List Str := ["a", "b", "c", "first", "second"]
abbrev M_sign_of : List Str := ["number"]
abbrev M_side_of : List Str := ["side", "point"]
abbrev M_is_on : List Str := ["side", "point", "low", "high"]
abbrev M_moved : List Str := ["one", "far", "start", "end", "x", "y"]
abbrev M_meet_along : List Str := ["one", "other", "low", "high", "first", "last"]
abbrev M_crossing : List Str := ["one", "other", "start", "end", "here", "there"]
abbrev M_meet : List Str := ["one", "other", "ends", "back"]
abbrev M__law_cell : List Str := ["_law_script", "_law_k", "_law_state", "_law_cell_here"]
abbrev M__law_numbers : List Str := ["_law_cell_here", "_law_many", "_law_found", "_law_state", "_law_digits", "_law_k"]
abbrev M__law_low : List Str := ["_law_top", "_law_bottom", "_law_high", "_law_low_here"]
abbrev M__law_fraction : List Str := ["_law_x", "_law_y", "_law_mode", "_law_sign"]
abbrev M__law_less : List Str := ["_law_a", "_law_b"]
abbrev M__law_before : List Str := ["_law_one", "_law_other_here"]
abbrev M__law_at : List Str := ["_law_side_here", "_law_k", "_law_found", "_law_start", "_law_end", "_law_top"]
abbrev M__law_spot : List Str := ["_law_xs", "_law_mode"]
abbrev M__law_side : List Str := ["_law_xs", "_law_mode", "_law_start", "_law_end"]
abbrev M__law_other : List Str := ["_law_side_here", "_law_xs", "_law_mode", "_law_other_here", "_law_way"]
abbrev M__law_made_of : List Str := ["_law_point", "_law_parts", "_law_a", "_law_b", "_law_c", "_law_d", "_law_top"]
abbrev M__law_carrying : List Str := ["_law_xs", "_law_parts", "_law_x"]
abbrev M__law_carried : List Str := ["_law_carrying_here", "_law_point"]
abbrev M__law_told : List Str := ["_law_carrying_here", "_law_found", "_law_ends", "_law_point"]
abbrev M__law_first_and_last : List Str := ["_law_parts", "_law_ends", "_law_part", "_law_low_here", "_law_high", "_law_point"]
abbrev M__law_cut : List Str := ["_law_one", "_law_other_here", "_law_found", "_law_k", "_law_amid", "_law_parts"]
abbrev M__law_on_both : List Str := ["_law_one", "_law_other_here", "_law_found", "_law_point", "_law_start"]
abbrev M__law_in_order : List Str := ["_law_one", "_law_other_here"]
abbrev M_law : List Str := ["_law_script", "_law_cell_here", "_law_xs", "_law_one", "_law_other_here", "_law_found", "_law_carrying_here", "_law_first", "_law_point", "_law_second", "_law_turn", "_law_k", "_law_due"]
theorem sc_great_part : FnScope M_great_part ["one", "other"] (defScope s_great_part) := ⟨rfl, rfl, rfl, by decide +kernel, rfl, by decide +kernel, by decide +kernel⟩
theorem sc_lowest : FnScope M_lowest ["top", "bottom"] (defScope s_lowest) := ⟨rfl, rfl, rfl, by decide +kernel, rfl, by decide +kernel, by decide +kernel⟩
theorem sc_plus : FnScope M_plus ["a", "b"] (defScope s_plus) := ⟨rfl, rfl, rfl, by decide +kernel, rfl, by decide +kernel, by decide +kernel⟩
theorem sc_minus : FnScope M_minus ["a", "b"] (defScope s_minus) := ⟨rfl, rfl, rfl, by decide +kernel, rfl, by decide +kernel, by decide +kernel⟩
theorem sc_times : FnScope M_times ["a", "b"] (defScope s_times) := ⟨rfl, rfl, rfl, by decide +kernel, rfl, by decide +kernel, by decide +kernel⟩
theorem sc_over : FnScope M_over ["a", "b"] (defScope s_over) := ⟨rfl, rfl, rfl, by decide +kernel, rfl, by decide +kernel, by decide +kernel⟩
theorem sc_below : FnScope M_below ["a", "b"] (defScope s_below) := ⟨rfl, rfl, rfl, by decide +kernel, rfl, by decide +kernel, by decide +kernel⟩
theorem sc_before : FnScope M_before ["a", "b"] (defScope s_before) := ⟨rfl, rfl, rfl, by decide +kernel, rfl, by decide +kernel, by decide +kernel⟩
theorem sc_in_order : FnScope M_in_order ["points"] (defScope s_in_order) := ⟨rfl, rfl, rfl, by decide +kernel, rfl, by decide +kernel, by decide +kernel⟩
theorem sc_cross_of : FnScope M_cross_of ["a", "b", "c"] (defScope s_cross_of) := ⟨rfl, rfl, rfl, by decide +kernel, rfl, by decide +kernel, by decide +kernel⟩
theorem sc_sign_of : FnScope M_sign_of ["number"] (defScope s_sign_of) := ⟨rfl, rfl, rfl, by decide +kernel, rfl, by decide +kernel, by decide +kernel⟩
theorem sc_side_of : FnScope M_side_of ["side", "point"] (defScope s_side_of) := ⟨rfl, rfl, rfl, by decide +kernel, rfl, by decide +kernel, by decide +kernel⟩
theorem sc_is_on : FnScope M_is_on ["side", "point"] (defScope s_is_on) := ⟨rfl, rfl, rfl, by decide +kernel, rfl, by decide +kernel, by decide +kernel⟩
theorem sc_moved : FnScope M_moved ["one", "far"] (defScope s_moved) := ⟨rfl, rfl, rfl, by decide +kernel, rfl, by decide +kernel, by decide +kernel⟩
theorem sc_meet_along : FnScope M_meet_along ["one", "other"] (defScope s_meet_along) := ⟨rfl, rfl, rfl, by decide +kernel, rfl, by decide +kernel, by decide +kernel⟩
theorem sc_crossing : FnScope M_crossing ["one", "other"] (defScope s_crossing) := ⟨rfl, rfl, rfl, by decide +kernel, rfl, by decide +kernel, by decide +kernel⟩
theorem sc_meet : FnScope M_meet ["one", "other"] (defScope s_meet) := ⟨rfl, rfl, rfl, by decide +kernel, rfl, by decide +kernel, by decide +kernel⟩
theorem sc__law_cell : FnScope M__law_cell ["_law_script", "_law_k"] (defScope s__law_cell) := ⟨rfl, rfl, rfl, by decide +kernel, rfl, by decide +kernel, by decide +kernel⟩
theorem sc__law_numbers : FnScope M__law_numbers ["_law_cell_here", "_law_many"] (defScope s__law_numbers) := ⟨rfl, rfl, rfl, by decide +kernel, rfl, by decide +kernel, by decide +kernel⟩
theorem sc__law_low : FnScope M__law_low ["_law_top", "_law_bottom"] (defScope s__law_low) := ⟨rfl, rfl, rfl, by decide +kernel, rfl, by decide +kernel, by decide +kernel⟩
theorem sc__law_fraction : FnScope M__law_fraction ["_law_x", "_law_y", "_law_mode"] (defScope s__law_fraction) := ⟨rfl, rfl, rfl, by decide +kernel, rfl, by decide +kernel, by decide +kernel⟩
theorem sc__law_less : FnScope M__law_less ["_law_a", "_law_b"] (defScope s__law_less) := ⟨rfl, rfl, rfl, by decide +kernel, rfl, by decide +kernel, by decide +kernel⟩
theorem sc__law_before : FnScope M__law_before ["_law_one", "_law_other_here"] (defScope s__law_before) := ⟨rfl, rfl, rfl, by decide +kernel, rfl, by decide +kernel, by decide +kernel⟩
theorem sc__law_at : FnScope M__law_at ["_law_side_here", "_law_k"] (defScope s__law_at) := ⟨rfl, rfl, rfl, by decide +kernel, rfl, by decide +kernel, by decide +kernel⟩
theorem sc__law_spot : FnScope M__law_spot ["_law_xs", "_law_mode"] (defScope s__law_spot) := ⟨rfl, rfl, rfl, by decide +kernel, rfl, by decide +kernel, by decide +kernel⟩
theorem sc__law_side : FnScope M__law_side ["_law_xs", "_law_mode"] (defScope s__law_side) := ⟨rfl, rfl, rfl, by decide +kernel, rfl, by decide +kernel, by decide +kernel⟩
theorem sc__law_other : FnScope M__law_other ["_law_side_here", "_law_xs", "_law_mode"] (defScope s__law_other) := ⟨rfl, rfl, rfl, by decide +kernel, rfl, by decide +kernel, by decide +kernel⟩
theorem sc__law_made_of : FnScope M__law_made_of ["_law_point", "_law_parts"] (defScope s__law_made_of) := ⟨rfl, rfl, rfl, by decide +kernel, rfl, by decide +kernel, by decide +kernel⟩
theorem sc__law_carrying : FnScope M__law_carrying ["_law_xs"] (defScope s__law_carrying) := ⟨rfl, rfl, rfl, by decide +kernel, rfl, by decide +kernel, by decide +kernel⟩
theorem sc__law_carried : FnScope M__law_carried ["_law_carrying_here", "_law_point"] (defScope s__law_carried) := ⟨rfl, rfl, rfl, by decide +kernel, rfl, by decide +kernel, by decide +kernel⟩
theorem sc__law_told : FnScope M__law_told ["_law_carrying_here", "_law_found"] (defScope s__law_told) := ⟨rfl, rfl, rfl, by decide +kernel, rfl, by decide +kernel, by decide +kernel⟩
theorem sc__law_first_and_last : FnScope M__law_first_and_last ["_law_parts"] (defScope s__law_first_and_last) := ⟨rfl, rfl, rfl, by decide +kernel, rfl, by decide +kernel, by decide +kernel⟩
theorem sc__law_cut : FnScope M__law_cut ["_law_one", "_law_other_here", "_law_found", "_law_k"] (defScope s__law_cut) := ⟨rfl, rfl, rfl, by decide +kernel, rfl, by decide +kernel, by decide +kernel⟩
theorem sc__law_on_both : FnScope M__law_on_both ["_law_one", "_law_other_here", "_law_found"] (defScope s__law_on_both) := ⟨rfl, rfl, rfl, by decide +kernel, rfl, by decide +kernel, by decide +kernel⟩
theorem sc__law_in_order : FnScope M__law_in_order ["_law_one", "_law_other_here"] (defScope s__law_in_order) := ⟨rfl, rfl, rfl, by decide +kernel, rfl, by decide +kernel, by decide +kernel⟩
theorem sc_law : FnScope M_law ["_law_script"] (defScope s_law) := ⟨rfl, rfl, rfl, by decide +kernel, rfl, by decide +kernel, by decide +kernel⟩
section
variable {P : Program} {w : World} {K : PySem.W.Frag} {mg : Str → Option Value} {base : Heap}
theorem der_great_part {f : Addr} {cdv : Value} {A : Around} {outer : List Env} {s : Shared} {H : Hp} {E : XK} (b_abs : mg "abs" = none) (hr : Room 0 (A.deeper (envOfC "great_part" (defScope s_great_part) s.heap.objs.size f cdv))) :
    GSs (cxOf (L2.CX P w) P w K mg base M_great_part "great_part" (defScope s_great_part) f cdv A outer s H E) (fun cls d _ H => E cls d H) (defBody s_great_part) d_great_part :=
  (s_cons (s_par (i := 2) (j := 3) rfl sc_great_part.nd rfl rfl (by decide) rfl rfl (a_cons (g_callB c_abs b_abs (by decide +kernel) (a_cons (gv 0) a_nil)) (a_cons (g_callB c_abs b_abs (by decide +kernel) (a_cons (gv 1) a_nil)) a_nil)) rfl)
    (s_cons (s_while (passes_of rfl) (t_cmp o_gt (gv 3) g_int) (s_one (s_par (i := 2) (j := 3) rfl sc_great_part.nd rfl rfl (by decide) rfl rfl (a_cons (gv 3) (a_cons (g_op o_md (gv 2) (gv 3)) a_nil)) rfl)))
    (s_one (s_ret (gv 2)))))
theorem der_lowest {f : Addr} {cdv : Value} {A : Around} {outer : List Env} {s : Shared} {H : Hp} {E : XK} (n_great_part : FN P w K mg base "great_part" 1 sp_great_part) (hr : Room 1 (A.deeper (envOfC "lowest" (defScope s_lowest) s.heap.objs.size f cdv))) :
    GSs (cxOf (L2.CX P w) P w K mg base M_lowest "lowest" (defScope s_lowest) f cdv A outer s H E) (fun cls d _ H => E cls d H) (defBody s_lowest) d_lowest :=
  (s_cons (s_setP (i := 2) sc_lowest.nd rfl (g_call n_great_part (hr.mono (by decide)) (a_cons (gv 0) (a_cons (gv 1) a_nil))))
    (s_cons (s_if (t_cmp o_lt (gv 1) g_int) (s_one (s_setP (i := 2) sc_lowest.nd rfl (g_op o_sub g_int (gv 2)))) s_nil)
    (s_one (s_ret (g_tup (a_cons (g_op o_fd (gv 0) (gv 2)) (a_cons (g_op o_fd (gv 1) (gv 2)) a_nil)))))))
theorem der_plus {f : Addr} {cdv : Value} {A : Around} {outer : List Env} {s : Shared} {H : Hp} {E : XK} (n_lowest : FN P w K mg base "lowest" 2 sp_lowest) (hr : Room 2 (A.deeper (envOfC "plus" (defScope s_plus) s.heap.objs.size f cdv))) :
    GSs (cxOf (L2.CX P w) P w K mg base M_plus "plus" (defScope s_plus) f cdv A outer s H E) (fun cls d _ H => E cls d H) (defBody s_plus) d_plus :=
  (s_one (s_ret (g_call n_lowest (hr.mono (by decide)) (a_cons (g_op o_addU (g_op o_mulU (g_ix (gv 0) g_int) (g_ix (gv 1) g_int)) (g_op o_mulU (g_ix (gv 1) g_int) (g_ix (gv 0) g_int))) (a_cons (g_op o_mulU (g_ix (gv 0) g_int) (g_ix (gv 1) g_int)) a_nil)))))
theorem der_minus {f : Addr} {cdv : Value} {A : Around} {outer : List Env} {s : Shared} {H : Hp} {E : XK} (n_lowest : FN P w K mg base "lowest" 2 sp_lowest) (hr : Room 2 (A.deeper (envOfC "minus" (defScope s_minus) s.heap.objs.size f cdv))) :
    GSs (cxOf (L2.CX P w) P w K mg base M_minus "minus" (defScope s_minus) f cdv A outer s H E) (fun cls d _ H => E cls d H) (defBody s_minus) d_minus :=
  (s_one (s_ret (g_call n_lowest (hr.mono (by decide)) (a_cons (g_op o_sub (g_op o_mulU (g_ix (gv 0) g_int) (g_ix (gv 1) g_int)) (g_op o_mulU (g_ix (gv 1) g_int) (g_ix (gv 0) g_int))) (a_cons (g_op o_mulU (g_ix (gv 0) g_int) (g_ix (gv 1) g_int)) a_nil)))))
theorem der_times {f : Addr} {cdv : Value} {A : Around} {outer : List Env} {s : Shared} {H : Hp} {E : XK} (n_lowest : FN P w K mg base "lowest" 2 sp_lowest) (hr : Room 2 (A.deeper (envOfC "times" (defScope s_times) s.heap.objs.size f cdv))) :
    GSs (cxOf (L2.CX P w) P w K mg base M_times "times" (defScope s_times) f cdv A outer s H E) (fun cls d _ H => E cls d H) (defBody s_times) d_times :=
  (s_one (s_ret (g_call n_lowest (hr.mono (by decide)) (a_cons (g_op o_mulU (g_ix (gv 0) g_int) (g_ix (gv 1) g_int)) (a_cons (g_op o_mulU (g_ix (gv 0) g_int) (g_ix (gv 1) g_int)) a_nil)))))
theorem der_over {f : Addr} {cdv : Value} {A : Around} {outer : List Env} {s : Shared} {H : Hp} {E : XK} (n_lowest : FN P w K mg base "lowest" 2 sp_lowest) (x_f_NoNumber : ExF K "NoNumber") (x_k_NoNumber : mg "NoNumber" = some (.ref (He.ga K "NoNumber"))) (hr : Room 2 (A.deeper (envOfC "over" (defScope s_over) s.heap.objs.size f cdv))) :
    GSs (cxOf (L2.CX P w) P w K mg base M_over "over" (defScope s_over) f cdv A outer s H E) (fun cls d _ H => E cls d H) (defBody s_over) d_over :=
  (s_cons (s_if (t_cmp (o_eq hr) (g_ix (gv 1) g_int) g_int) (s_one (s_raise rfl (takes_of rfl rfl rfl rfl) x_f_NoNumber x_k_NoNumber)) s_nil)
    (s_one (s_ret (g_call n_lowest (hr.mono (by decide)) (a_cons (g_op o_mulU (g_ix (gv 0) g_int) (g_ix (gv 1) g_int)) (a_cons (g_op o_mulU (g_ix (gv 0) g_int) (g_ix (gv 1) g_int)) a_nil))))))
theorem der_below {f : Addr} {cdv : Value} {A : Around} {outer : List Env} {s : Shared} {H : Hp} {E : XK}  (hr : Room 0 (A.deeper (envOfC "below" (defScope s_below) s.heap.objs.size f cdv))) :
    GSs (cxOf (L2.CX P w) P w K mg base M_below "below" (defScope s_below) f cdv A outer s H E) (fun cls d _ H => E cls d H) (defBody s_below) d_below :=
  (s_one (s_ret (g_cmp o_lt (g_op o_mulU (g_ix (gv 0) g_int) (g_ix (gv 1) g_int)) (g_op o_mulU (g_ix (gv 1) g_int) (g_ix (gv 0) g_int)))))
theorem der_before {f : Addr} {cdv : Value} {A : Around} {outer : List Env} {s : Shared} {H : Hp} {E : XK} (n_below : FN P w K mg base "below" 1 sp_below) (hr : Room 1 (A.deeper (envOfC "before" (defScope s_before) s.heap.objs.size f cdv))) :
    GSs (cxOf (L2.CX P w) P w K mg base M_before "before" (defScope s_before) f cdv A outer s H E) (fun cls d _ H => E cls d H) (defBody s_before) d_before :=
  (s_cons (s_if (t_cmp (o_ne hr) (g_ix (gv 0) g_int) (g_ix (gv 1) g_int)) (s_one (s_ret (g_call n_below (hr.mono (by decide)) (a_cons (g_ix (gv 0) g_int) (a_cons (g_ix (gv 1) g_int) a_nil))))) s_nil)
    (s_one (s_ret (g_call n_below (hr.mono (by decide)) (a_cons (g_ix (gv 0) g_int) (a_cons (g_ix (gv 1) g_int) a_nil))))))
theorem der_in_order {f : Addr} {cdv : Value} {A : Around} {outer : List Env} {s : Shared} {H : Hp} {E : XK} (n_before : FN P w K mg base "before" 2 sp_before) (b_len : mg "len" = none) (hr : Room 2 (A.deeper (envOfC "in_order" (defScope s_in_order) s.heap.objs.size f cdv))) :
    GSs (cxOf (L2.CX P w) P w K mg base M_in_order "in_order" (defScope s_in_order) f cdv A outer s H E) (fun cls d _ H => E cls d H) (defBody s_in_order) d_in_order :=
  (s_cons (s_setF (i := 1) sc_in_order.nd rfl (f_lst a_nil))
    (s_cons (s_for (passes_of rfl) rfl (gi_seq (gv 0)) (gg_name 2 sc_in_order.nd) (s_cons (s_parS (i := 3) (j := 4) rfl sc_in_order.nd rfl rfl (by decide) rfl rfl (a_cons g_int (a_cons (g_callB c_len b_len (by decide +kernel) (a_cons (gv 1) a_nil)) a_nil)) rfl)
    (s_cons (s_while (passes_of rfl) (t_cmp o_lt (gv 3) (gv 4)) (s_cons (s_setP (i := 5) sc_in_order.nd rfl (g_op o_fd (g_op o_addU (gv 3) (gv 4)) g_int))
    (s_one (s_if (t_val (g_call n_before (hr.mono (by decide)) (a_cons (g_ix (gv 1) (gv 5)) (a_cons (gv 2) a_nil)))) (s_one (s_setP (i := 3) sc_in_order.nd rfl (g_op o_addU (gv 5) g_int))) (s_one (s_setP (i := 4) sc_in_order.nd rfl (gv 5)))))))
    (s_one (s_if (GW.t (w_or (t_cmp (o_eq hr) (gv 3) (g_callB c_len b_len (by decide +kernel) (a_cons (gv 1) a_nil))) (w_or1 (t_cmp (o_ne hr) (g_ix (gv 1) (gv 3)) (gv 2))))) (s_one (s_ins (i := 1) (gv 3) (gv 2))) s_nil)))))
    (s_one (s_retO 1))))
theorem der_cross_of {f : Addr} {cdv : Value} {A : Around} {outer : List Env} {s : Shared} {H : Hp} {E : XK} (n_times : FN P w K mg base "times" 3 sp_times) (n_minus : FN P w K mg base "minus" 3 sp_minus) (hr : Room 3 (A.deeper (envOfC "cross_of" (defScope s_cross_of) s.heap.objs.size f cdv))) :
    GSs (cxOf (L2.CX P w) P w K mg base M_cross_of "cross_of" (defScope s_cross_of) f cdv A outer s H E) (fun cls d _ H => E cls d H) (defBody s_cross_of) d_cross_of :=
  (s_cons (s_setP (i := 3) sc_cross_of.nd rfl (g_call n_times (hr.mono (by decide)) (a_cons (g_call n_minus (hr.mono (by decide)) (a_cons (g_ix (gv 1) g_int) (a_cons (g_ix (gv 0) g_int) a_nil))) (a_cons (g_call n_minus (hr.mono (by decide)) (a_cons (g_ix (gv 2) g_int) (a_cons (g_ix (gv 0) g_int) a_nil))) a_nil))))
    (s_cons (s_setP (i := 4) sc_cross_of.nd rfl (g_call n_times (hr.mono (by decide)) (a_cons (g_call n_minus (hr.mono (by decide)) (a_cons (g_ix (gv 1) g_int) (a_cons (g_ix (gv 0) g_int) a_nil))) (a_cons (g_call n_minus (hr.mono (by decide)) (a_cons (g_ix (gv 2) g_int) (a_cons (g_ix (gv 0) g_int) a_nil))) a_nil))))
    (s_one (s_ret (g_call n_minus (hr.mono (by decide)) (a_cons (gv 3) (a_cons (gv 4) a_nil)))))))
theorem der_sign_of {f : Addr} {cdv : Value} {A : Around} {outer : List Env} {s : Shared} {H : Hp} {E : XK} (b_int : mg "int" = none) (hr : Room 0 (A.deeper (envOfC "sign_of" (defScope s_sign_of) s.heap.objs.size f cdv))) :
    GSs (cxOf (L2.CX P w) P w K mg base M_sign_of "sign_of" (defScope s_sign_of) f cdv A outer s H E) (fun cls d _ H => E cls d H) (defBody s_sign_of) d_sign_of :=
  (s_one (s_ret (g_op o_sub (g_callT c_intU b_int (by decide +kernel) (a_cons (g_cmp o_gt (g_ix (gv 0) g_int) g_int) a_nil)) (g_callT c_intU b_int (by decide +kernel) (a_cons (g_cmp o_lt (g_ix (gv 0) g_int) g_int) a_nil)))))
theorem der_side_of {f : Addr} {cdv : Value} {A : Around} {outer : List Env} {s : Shared} {H : Hp} {E : XK} (n_sign_of : FN P w K mg base "sign_of" 1 sp_sign_of) (n_cross_of : FN P w K mg base "cross_of" 4 sp_cross_of) (hr : Room 4 (A.deeper (envOfC "side_of" (defScope s_side_of) s.heap.objs.size f cdv))) :
    GSs (cxOf (L2.CX P w) P w K mg base M_side_of "side_of" (defScope s_side_of) f cdv A outer s H E) (fun cls d _ H => E cls d H) (defBody s_side_of) d_side_of :=
  (s_one (s_ret (g_call n_sign_of (hr.mono (by decide)) (a_cons (g_call n_cross_of (hr.mono (by decide)) (a_cons (g_ix (gv 0) g_int) (a_cons (g_ix (gv 0) g_int) (a_cons (gv 1) a_nil)))) a_nil))))
theorem der_is_on {f : Addr} {cdv : Value} {A : Around} {outer : List Env} {s : Shared} {H : Hp} {E : XK} (n_side_of : FN P w K mg base "side_of" 5 sp_side_of) (n_in_order : FN P w K mg base "in_order" 3 sp_in_order) (n_before : FN P w K mg base "before" 2 sp_before) (b_list : mg "list" = none) (hr : Room 5 (A.deeper (envOfC "is_on" (defScope s_is_on) s.heap.objs.size f cdv))) :
    GSs (cxOf (L2.CX P w) P w K mg base M_is_on "is_on" (defScope s_is_on) f cdv A outer s H E) (fun cls d _ H => E cls d H) (defBody s_is_on) d_is_on :=
  (s_cons (s_if (t_cmp (o_ne hr) (g_call n_side_of (hr.mono (by decide)) (a_cons (gv 0) (a_cons (gv 1) a_nil))) g_int) (s_one (s_ret g_bl)) s_nil)
    (s_cons (s_asg (g_call n_in_order (hr.mono (by decide)) (a_cons (GF.g (f_list b_list (by decide +kernel) (a_cons (gv 0) a_nil))) a_nil)) (gg_tup (n := 2) rfl (ggs_cons (gg_name 2 sc_is_on.nd) (ggs_cons (gg_name 3 sc_is_on.nd) ggs_nil))))
    (s_one (s_ret (g_and (g_not (g_call n_before (hr.mono (by decide)) (a_cons (gv 1) (a_cons (gv 2) a_nil)))) (g_one (g_not (g_call n_before (hr.mono (by decide)) (a_cons (gv 3) (a_cons (gv 1) a_nil))))))))))
theorem der_moved {f : Addr} {cdv : Value} {A : Around} {outer : List Env} {s : Shared} {H : Hp} {E : XK} (n_plus : FN P w K mg base "plus" 3 sp_plus) (n_times : FN P w K mg base "times" 3 sp_times) (n_minus : FN P w K mg base "minus" 3 sp_minus) (hr : Room 3 (A.deeper (envOfC "moved" (defScope s_moved) s.heap.objs.size f cdv))) :
    GSs (cxOf (L2.CX P w) P w K mg base M_moved "moved" (defScope s_moved) f cdv A outer s H E) (fun cls d _ H => E cls d H) (defBody s_moved) d_moved :=
  (s_cons (s_asg (gv 0) (gg_tup (n := 2) rfl (ggs_cons (gg_name 2 sc_moved.nd) (ggs_cons (gg_name 3 sc_moved.nd) ggs_nil))))
    (s_cons (s_setP (i := 4) sc_moved.nd rfl (g_call n_plus (hr.mono (by decide)) (a_cons (g_ix (gv 2) g_int) (a_cons (g_call n_times (hr.mono (by decide)) (a_cons (gv 1) (a_cons (g_call n_minus (hr.mono (by decide)) (a_cons (g_ix (gv 3) g_int) (a_cons (g_ix (gv 2) g_int) a_nil))) a_nil))) a_nil))))
    (s_cons (s_setP (i := 5) sc_moved.nd rfl (g_call n_plus (hr.mono (by decide)) (a_cons (g_ix (gv 2) g_int) (a_cons (g_call n_times (hr.mono (by decide)) (a_cons (gv 1) (a_cons (g_call n_minus (hr.mono (by decide)) (a_cons (g_ix (gv 3) g_int) (a_cons (g_ix (gv 2) g_int) a_nil))) a_nil))) a_nil))))
    (s_one (s_ret (g_tup (a_cons (gv 4) (a_cons (gv 5) a_nil))))))))
theorem der_meet_along {f : Addr} {cdv : Value} {A : Around} {outer : List Env} {s : Shared} {H : Hp} {E : XK} (n_in_order : FN P w K mg base "in_order" 3 sp_in_order) (n_before : FN P w K mg base "before" 2 sp_before) (b_list : mg "list" = none) (hr : Room 3 (A.deeper (envOfC "meet_along" (defScope s_meet_along) s.heap.objs.size f cdv))) :
    GSs (cxOf (L2.CX P w) P w K mg base M_meet_along "meet_along" (defScope s_meet_along) f cdv A outer s H E) (fun cls d _ H => E cls d H) (defBody s_meet_along) d_meet_along :=
  (s_cons (s_asg (g_call n_in_order (hr.mono (by decide)) (a_cons (GF.g (f_list b_list (by decide +kernel) (a_cons (gv 0) a_nil))) a_nil)) (gg_tup (n := 2) rfl (ggs_cons (gg_name 2 sc_meet_along.nd) (ggs_cons (gg_name 3 sc_meet_along.nd) ggs_nil))))
    (s_cons (s_asg (g_call n_in_order (hr.mono (by decide)) (a_cons (GF.g (f_list b_list (by decide +kernel) (a_cons (gv 1) a_nil))) a_nil)) (gg_tup (n := 2) rfl (ggs_cons (gg_name 4 sc_meet_along.nd) (ggs_cons (gg_name 5 sc_meet_along.nd) ggs_nil))))
    (s_cons (s_if (t_val (g_call n_before (hr.mono (by decide)) (a_cons (gv 4) (a_cons (gv 2) a_nil)))) (s_one (s_setP (i := 4) sc_meet_along.nd rfl (gv 2))) s_nil)
    (s_cons (s_if (t_val (g_call n_before (hr.mono (by decide)) (a_cons (gv 3) (a_cons (gv 5) a_nil)))) (s_one (s_setP (i := 5) sc_meet_along.nd rfl (gv 3))) s_nil)
    (s_cons (s_if (t_val (g_call n_before (hr.mono (by decide)) (a_cons (gv 5) (a_cons (gv 4) a_nil)))) (s_one (s_ret g_non)) s_nil)
    (s_cons (s_if (t_cmp (o_eq hr) (gv 4) (gv 5)) (s_one (s_ret (g_tup (a_cons g_str (a_cons (gv 4) a_nil))))) s_nil)
    (s_one (s_ret (g_tup (a_cons g_str (a_cons (gv 4) (a_cons (gv 5) a_nil))))))))))))
theorem der_crossing {f : Addr} {cdv : Value} {A : Around} {outer : List Env} {s : Shared} {H : Hp} {E : XK} (n_cross_of : FN P w K mg base "cross_of" 4 sp_cross_of) (n_moved : FN P w K mg base "moved" 4 sp_moved) (n_over : FN P w K mg base "over" 3 sp_over) (n_minus : FN P w K mg base "minus" 3 sp_minus) (hr : Room 4 (A.deeper (envOfC "crossing" (defScope s_crossing) s.heap.objs.size f cdv))) :
    GSs (cxOf (L2.CX P w) P w K mg base M_crossing "crossing" (defScope s_crossing) f cdv A outer s H E) (fun cls d _ H => E cls d H) (defBody s_crossing) d_crossing :=
  (s_cons (s_asg (gv 1) (gg_tup (n := 2) rfl (ggs_cons (gg_name 2 sc_crossing.nd) (ggs_cons (gg_name 3 sc_crossing.nd) ggs_nil))))
    (s_cons (s_setP (i := 4) sc_crossing.nd rfl (g_call n_cross_of (hr.mono (by decide)) (a_cons (gv 2) (a_cons (gv 3) (a_cons (g_ix (gv 0) g_int) a_nil)))))
    (s_cons (s_setP (i := 5) sc_crossing.nd rfl (g_call n_cross_of (hr.mono (by decide)) (a_cons (gv 2) (a_cons (gv 3) (a_cons (g_ix (gv 0) g_int) a_nil)))))
    (s_one (s_ret (g_call n_moved (hr.mono (by decide)) (a_cons (gv 0) (a_cons (g_call n_over (hr.mono (by decide)) (a_cons (gv 4) (a_cons (g_call n_minus (hr.mono (by decide)) (a_cons (gv 4) (a_cons (gv 5) a_nil))) a_nil))) a_nil))))))))
theorem der_meet {f : Addr} {cdv : Value} {A : Around} {outer : List Env} {s : Shared} {H : Hp} {E : XK} (n_side_of : FN P w K mg base "side_of" 5 sp_side_of) (n_meet_along : FN P w K mg base "meet_along" 4 sp_meet_along) (n_crossing : FN P w K mg base "crossing" 5 sp_crossing) (hr : Room 5 (A.deeper (envOfC "meet" (defScope s_meet) s.heap.objs.size f cdv))) :
    GSs (cxOf (L2.CX P w) P w K mg base M_meet "meet" (defScope s_meet) f cdv A outer s H E) (fun cls d _ H => E cls d H) (defBody s_meet) d_meet :=
  (s_cons (s_setP (i := 2) sc_meet.nd rfl (g_lst (a_cons (g_call n_side_of (hr.mono (by decide)) (a_cons (gv 0) (a_cons (g_ix (gv 1) g_int) a_nil))) (a_cons (g_call n_side_of (hr.mono (by decide)) (a_cons (gv 0) (a_cons (g_ix (gv 1) g_int) a_nil))) a_nil))))
    (s_cons (s_if (t_cmp (o_eq hr) (gv 2) (g_lst (a_cons g_int (a_cons g_int a_nil)))) (s_one (s_ret (g_call n_meet_along (hr.mono (by decide)) (a_cons (gv 0) (a_cons (gv 1) a_nil))))) s_nil)
    (s_cons (s_setP (i := 3) sc_meet.nd rfl (g_lst (a_cons (g_call n_side_of (hr.mono (by decide)) (a_cons (gv 1) (a_cons (g_ix (gv 0) g_int) a_nil))) (a_cons (g_call n_side_of (hr.mono (by decide)) (a_cons (gv 1) (a_cons (g_ix (gv 0) g_int) a_nil))) a_nil))))
    (s_cons (s_if (GW.t (w_or (t_cmp (o_eq hr) (g_ix (gv 2) g_int) (g_ix (gv 2) g_int)) (w_or1 (t_cmp (o_eq hr) (g_ix (gv 3) g_int) (g_ix (gv 3) g_int))))) (s_one (s_ret g_non)) s_nil)
    (s_one (s_ret (g_tup (a_cons g_str (a_cons (g_call n_crossing (hr.mono (by decide)) (a_cons (gv 0) (a_cons (gv 1) a_nil))) a_nil)))))))))
theorem der__law_cell {f : Addr} {cdv : Value} {A : Around} {outer : List Env} {s : Shared} {H : Hp} {E : XK} (b_len : mg "len" = none) (hr : Room 0 (A.deeper (envOfC "_law_cell" (defScope s__law_cell) s.heap.objs.size f cdv))) :
    GSs (cxOf (L2.CX P w) P w K mg base M__law_cell "_law_cell" (defScope s__law_cell) f cdv A outer s H E) (fun cls d _ H => E cls d H) (defBody s__law_cell) d__law_cell :=
  (s_cons (s_if (t_cmp o_lt (gv 1) (g_callB c_len b_len (by decide +kernel) (a_cons (gv 0) a_nil))) (s_one (s_ret (g_ix (gv 0) (gv 1)))) s_nil)
    (s_cons (s_setP (i := 2) sc__law_cell.nd rfl (g_op o_md (g_op o_mulU g_int (g_op o_addU (g_op o_addU (g_op o_mulU (gv 1) (gv 1)) (g_op o_mulU g_int (gv 1))) g_int)) g_int))
    (s_cons (s_for (passes_of rfl) rfl (gi_seq (g_slice (gv 0) go_none (go_some g_int))) (gg_name 3 sc__law_cell.nd) (s_one (s_setP (i := 2) sc__law_cell.nd rfl (g_op o_md (g_op o_addU (g_op o_mulU (gv 2) g_int) (gv 3)) g_int))))
    (s_one (s_ret (gv 2))))))
theorem der__law_numbers {f : Addr} {cdv : Value} {A : Around} {outer : List Env} {s : Shared} {H : Hp} {E : XK} (b_abs : mg "abs" = none) (b_range : mg "range" = none) (b_int : mg "int" = none) (hr : Room 0 (A.deeper (envOfC "_law_numbers" (defScope s__law_numbers) s.heap.objs.size f cdv))) :
    GSs (cxOf (L2.CX P w) P w K mg base M__law_numbers "_law_numbers" (defScope s__law_numbers) f cdv A outer s H E) (fun cls d _ H => E cls d H) (defBody s__law_numbers) d__law_numbers :=
  (s_cons (s_setF (i := 2) sc__law_numbers.nd rfl (f_lst a_nil))
    (s_cons (s_setP (i := 3) sc__law_numbers.nd rfl (g_op o_md (g_op o_mulU (g_op o_addU (g_op o_md (gv 0) g_int) g_int) g_int) g_int))
    (s_cons (s_setP (i := 4) sc__law_numbers.nd rfl g_int)
    (s_cons (s_if (GW.t (w_or (t_cmp o_lt (gv 0) g_int) (w_or1 (t_cmp o_ge (gv 0) (g_op o_pw g_int g_int))))) (s_one (s_setP (i := 4) sc__law_numbers.nd rfl (g_callB c_abs b_abs (by decide +kernel) (a_cons (gv 0) a_nil)))) s_nil)
    (s_cons (s_for (passes_of rfl) rfl (gi_rng1 b_range (a_cons (gv 1) a_nil)) (gg_name 5 sc__law_numbers.nd) (s_cons (s_setP (i := 3) sc__law_numbers.nd rfl (g_op o_md (g_op o_addU (g_op o_addU (g_op o_mulU (gv 3) (g_op o_addU (g_op o_md (gv 3) g_int) g_int)) (g_op o_mulU g_int (gv 5))) g_int) g_int))
    (s_cons (s_app (i := 2) (g_ix (g_lst (a_cons (gv 3) (a_cons (g_op o_md (gv 4) g_int) a_nil))) (g_callT c_intU b_int (by decide +kernel) (a_cons (g_cmp o_gt (gv 4) g_int) a_nil))))
    (s_one (s_setP (i := 4) sc__law_numbers.nd rfl (g_op o_fd (gv 4) g_int))))))
    (s_one (s_retO 2)))))))
theorem der__law_low {f : Addr} {cdv : Value} {A : Around} {outer : List Env} {s : Shared} {H : Hp} {E : XK} (b_abs : mg "abs" = none) (hr : Room 0 (A.deeper (envOfC "_law_low" (defScope s__law_low) s.heap.objs.size f cdv))) :
    GSs (cxOf (L2.CX P w) P w K mg base M__law_low "_law_low" (defScope s__law_low) f cdv A outer s H E) (fun cls d _ H => E cls d H) (defBody s__law_low) d__law_low :=
  (s_cons (s_par (i := 2) (j := 3) rfl sc__law_low.nd rfl rfl (by decide) rfl rfl (a_cons (g_callB c_abs b_abs (by decide +kernel) (a_cons (gv 0) a_nil)) (a_cons (g_callB c_abs b_abs (by decide +kernel) (a_cons (gv 1) a_nil)) a_nil)) rfl)
    (s_cons (s_while (passes_of rfl) (t_cmp o_gt (gv 3) g_int) (s_one (s_par (i := 2) (j := 3) rfl sc__law_low.nd rfl rfl (by decide) rfl rfl (a_cons (gv 3) (a_cons (g_op o_md (gv 2) (gv 3)) a_nil)) rfl)))
    (s_cons (s_if (t_cmp o_lt (gv 1) g_int) (s_one (s_setP (i := 2) sc__law_low.nd rfl (g_op o_sub g_int (gv 2)))) s_nil)
    (s_one (s_ret (g_tup (a_cons (g_op o_fd (gv 0) (gv 2)) (a_cons (g_op o_fd (gv 1) (gv 2)) a_nil))))))))
theorem der__law_fraction {f : Addr} {cdv : Value} {A : Around} {outer : List Env} {s : Shared} {H : Hp} {E : XK} (n__law_low : FN P w K mg base "_law_low" 1 sp__law_low) (hr : Room 1 (A.deeper (envOfC "_law_fraction" (defScope s__law_fraction) s.heap.objs.size f cdv))) :
    GSs (cxOf (L2.CX P w) P w K mg base M__law_fraction "_law_fraction" (defScope s__law_fraction) f cdv A outer s H E) (fun cls d _ H => E cls d H) (defBody s__law_fraction) d__law_fraction :=
  (s_cons (s_setP (i := 3) sc__law_fraction.nd rfl (g_op o_sub g_int (g_op o_mulU g_int (g_op o_md (g_op o_fd (gv 1) g_int) g_int))))
    (s_cons (s_if (t_cmp (o_eq hr) (gv 2) g_int) (s_one (s_ret (g_tup (a_cons (g_op o_mulU (gv 3) (g_op o_md (gv 0) g_int)) (a_cons g_int a_nil))))) s_nil)
    (s_one (s_ret (g_call n__law_low (hr.mono (by decide)) (a_cons (g_op o_mulU (gv 3) (g_op o_md (gv 0) g_int)) (a_cons (g_op o_addU g_int (g_op o_md (gv 1) g_int)) a_nil)))))))
theorem der__law_less {f : Addr} {cdv : Value} {A : Around} {outer : List Env} {s : Shared} {H : Hp} {E : XK}  (hr : Room 0 (A.deeper (envOfC "_law_less" (defScope s__law_less) s.heap.objs.size f cdv))) :
    GSs (cxOf (L2.CX P w) P w K mg base M__law_less "_law_less" (defScope s__law_less) f cdv A outer s H E) (fun cls d _ H => E cls d H) (defBody s__law_less) d__law_less :=
  (s_one (s_ret (g_cmp o_lt (g_op o_mulU (g_ix (gv 0) g_int) (g_ix (gv 1) g_int)) (g_op o_mulU (g_ix (gv 1) g_int) (g_ix (gv 0) g_int)))))
theorem der__law_before {f : Addr} {cdv : Value} {A : Around} {outer : List Env} {s : Shared} {H : Hp} {E : XK} (n__law_less : FN P w K mg base "_law_less" 1 sp__law_less) (hr : Room 1 (A.deeper (envOfC "_law_before" (defScope s__law_before) s.heap.objs.size f cdv))) :
    GSs (cxOf (L2.CX P w) P w K mg base M__law_before "_law_before" (defScope s__law_before) f cdv A outer s H E) (fun cls d _ H => E cls d H) (defBody s__law_before) d__law_before :=
  (s_cons (s_if (t_cmp (o_ne hr) (g_ix (gv 0) g_int) (g_ix (gv 1) g_int)) (s_one (s_ret (g_call n__law_less (hr.mono (by decide)) (a_cons (g_ix (gv 0) g_int) (a_cons (g_ix (gv 1) g_int) a_nil))))) s_nil)
    (s_one (s_ret (g_call n__law_less (hr.mono (by decide)) (a_cons (g_ix (gv 0) g_int) (a_cons (g_ix (gv 1) g_int) a_nil))))))
theorem der__law_at {f : Addr} {cdv : Value} {A : Around} {outer : List Env} {s : Shared} {H : Hp} {E : XK} (n__law_low : FN P w K mg base "_law_low" 1 sp__law_low) (b_zip : mg "zip" = none) (hr : Room 1 (A.deeper (envOfC "_law_at" (defScope s__law_at) s.heap.objs.size f cdv))) :
    GSs (cxOf (L2.CX P w) P w K mg base M__law_at "_law_at" (defScope s__law_at) f cdv A outer s H E) (fun cls d _ H => E cls d H) (defBody s__law_at) d__law_at :=
  (s_cons (s_setF (i := 2) sc__law_at.nd rfl (f_lst a_nil))
    (s_cons (s_for (passes_of rfl) rfl (gi_zip b_zip (a_cons (g_ix (gv 0) g_int) (a_cons (g_ix (gv 0) g_int) a_nil))) (gg_tup (n := 2) rfl (ggs_cons (gg_name 3 sc__law_at.nd) (ggs_cons (gg_name 4 sc__law_at.nd) ggs_nil))) (s_cons (s_setP (i := 5) sc__law_at.nd rfl (g_op o_addU (g_op o_mulU (g_op o_mulU (g_op o_sub g_int (gv 1)) (g_ix (gv 3) g_int)) (g_ix (gv 4) g_int)) (g_op o_mulU (g_op o_mulU (gv 1) (g_ix (gv 4) g_int)) (g_ix (gv 3) g_int))))
    (s_one (s_app (i := 2) (g_call n__law_low (hr.mono (by decide)) (a_cons (gv 5) (a_cons (g_op o_mulU (g_op o_mulU g_int (g_ix (gv 3) g_int)) (g_ix (gv 4) g_int)) a_nil)))))))
    (s_one (s_ret (g_tup (a_cons (g_ix (gv 2) g_int) (a_cons (g_ix (gv 2) g_int) a_nil)))))))
theorem der__law_spot {f : Addr} {cdv : Value} {A : Around} {outer : List Env} {s : Shared} {H : Hp} {E : XK} (n__law_fraction : FN P w K mg base "_law_fraction" 2 sp__law_fraction) (hr : Room 2 (A.deeper (envOfC "_law_spot" (defScope s__law_spot) s.heap.objs.size f cdv))) :
    GSs (cxOf (L2.CX P w) P w K mg base M__law_spot "_law_spot" (defScope s__law_spot) f cdv A outer s H E) (fun cls d _ H => E cls d H) (defBody s__law_spot) d__law_spot :=
  (s_one (s_ret (g_tup (a_cons (g_call n__law_fraction (hr.mono (by decide)) (a_cons (g_ix (gv 0) g_int) (a_cons (g_ix (gv 0) g_int) (a_cons (gv 1) a_nil)))) (a_cons (g_call n__law_fraction (hr.mono (by decide)) (a_cons (g_ix (gv 0) g_int) (a_cons (g_ix (gv 0) g_int) (a_cons (gv 1) a_nil)))) a_nil)))))
theorem der__law_side {f : Addr} {cdv : Value} {A : Around} {outer : List Env} {s : Shared} {H : Hp} {E : XK} (n__law_spot : FN P w K mg base "_law_spot" 3 sp__law_spot) (n__law_low : FN P w K mg base "_law_low" 1 sp__law_low) (b_int : mg "int" = none) (hr : Room 3 (A.deeper (envOfC "_law_side" (defScope s__law_side) s.heap.objs.size f cdv))) :
    GSs (cxOf (L2.CX P w) P w K mg base M__law_side "_law_side" (defScope s__law_side) f cdv A outer s H E) (fun cls d _ H => E cls d H) (defBody s__law_side) d__law_side :=
  (s_cons (s_setP (i := 2) sc__law_side.nd rfl (g_call n__law_spot (hr.mono (by decide)) (a_cons (gv 0) (a_cons (gv 1) a_nil))))
    (s_cons (s_setP (i := 3) sc__law_side.nd rfl (g_call n__law_spot (hr.mono (by decide)) (a_cons (g_slice (gv 0) (go_some g_int) go_none) (a_cons (gv 1) a_nil))))
    (s_cons (s_if (t_cmp (o_eq hr) (g_op o_md (g_ix (gv 0) g_int) g_int) g_int) (s_one (s_setP (i := 3) sc__law_side.nd rfl (g_tup (a_cons (g_ix (gv 3) g_int) (a_cons (g_ix (gv 2) g_int) a_nil))))) s_nil)
    (s_cons (s_if (t_cmp (o_eq hr) (g_op o_md (g_ix (gv 0) g_int) g_int) g_int) (s_one (s_setP (i := 3) sc__law_side.nd rfl (g_tup (a_cons (g_ix (gv 2) g_int) (a_cons (g_ix (gv 3) g_int) a_nil))))) s_nil)
    (s_cons (s_if (t_cmp (o_eq hr) (gv 2) (gv 3)) (s_one (s_setP (i := 3) sc__law_side.nd rfl (g_tup (a_cons (g_call n__law_low (hr.mono (by decide)) (a_cons (g_op o_addU (g_ix (g_ix (gv 2) g_int) g_int) (g_op o_mulU (g_ix (g_ix (gv 2) g_int) g_int) (g_op o_sub g_int (g_op o_mulU g_int (g_callT c_intU b_int (by decide +kernel) (a_cons (g_cmp o_gt (g_ix (g_ix (gv 2) g_int) g_int) g_int) a_nil)))))) (a_cons (g_ix (g_ix (gv 2) g_int) g_int) a_nil))) (a_cons (g_ix (gv 2) g_int) a_nil))))) s_nil)
    (s_one (s_ret (g_tup (a_cons (gv 2) (a_cons (gv 3) a_nil))))))))))
theorem der__law_other {f : Addr} {cdv : Value} {A : Around} {outer : List Env} {s : Shared} {H : Hp} {E : XK} (n__law_side : FN P w K mg base "_law_side" 4 sp__law_side) (n__law_at : FN P w K mg base "_law_at" 2 sp__law_at) (hr : Room 4 (A.deeper (envOfC "_law_other" (defScope s__law_other) s.heap.objs.size f cdv))) :
    GSs (cxOf (L2.CX P w) P w K mg base M__law_other "_law_other" (defScope s__law_other) f cdv A outer s H E) (fun cls d _ H => E cls d H) (defBody s__law_other) d__law_other :=
  (s_cons (s_setP (i := 3) sc__law_other.nd rfl (g_call n__law_side (hr.mono (by decide)) (a_cons (gv 1) (a_cons (gv 2) a_nil))))
    (s_cons (s_setP (i := 4) sc__law_other.nd rfl (g_op o_md (g_ix (gv 1) g_int) g_int))
    (s_cons (s_if (GW.t (w_and (t_cmp o_lt (gv 2) g_int) (w_and1 (t_cmp (o_in hr) (gv 4) (g_tup (a_cons g_int (a_cons g_int (a_cons g_int a_nil)))))))) (s_one (s_setP (i := 3) sc__law_other.nd rfl (g_tup (a_cons (g_call n__law_at (hr.mono (by decide)) (a_cons (gv 0) (a_cons (g_op o_sub (g_op o_md (g_ix (gv 1) g_int) g_int) g_int) a_nil))) (a_cons (g_ix (gv 3) g_int) a_nil))))) s_nil)
    (s_cons (s_if (GW.t (w_and (t_cmp o_lt (gv 2) g_int) (w_and1 (t_cmp (o_eq hr) (gv 4) g_int)))) (s_one (s_setP (i := 3) sc__law_other.nd rfl (g_tup (a_cons (g_ix (gv 3) g_int) (a_cons (g_call n__law_at (hr.mono (by decide)) (a_cons (gv 0) (a_cons (g_op o_sub (g_op o_md (g_ix (gv 1) g_int) g_int) g_int) a_nil))) a_nil))))) s_nil)
    (s_cons (s_if (t_cmp (o_eq hr) (gv 4) g_int) (s_one (s_setP (i := 3) sc__law_other.nd rfl (g_tup (a_cons (g_ix (gv 3) g_int) (a_cons (g_ix (gv 0) (g_op o_md (g_ix (gv 1) g_int) g_int)) a_nil))))) s_nil)
    (s_cons (s_if (t_cmp (o_eq hr) (gv 4) g_int) (s_one (s_setP (i := 3) sc__law_other.nd rfl (g_ix (g_lst (a_cons (gv 0) (a_cons (g_tup (a_cons (g_ix (gv 0) g_int) (a_cons (g_ix (gv 0) g_int) a_nil))) a_nil))) (g_op o_md (g_ix (gv 1) g_int) g_int)))) s_nil)
    (s_cons (s_if (GW.t (w_and (t_cmp (o_eq hr) (gv 4) g_int) (w_and1 (t_cmp (o_eq hr) (g_ix (g_ix (gv 0) g_int) g_int) (g_ix (g_ix (gv 0) g_int) g_int))))) (s_one (s_setP (i := 3) sc__law_other.nd rfl (g_tup (a_cons (g_tup (a_cons (g_ix (g_ix (gv 3) g_int) g_int) (a_cons (g_ix (g_ix (gv 0) g_int) g_int) a_nil))) (a_cons (g_tup (a_cons (g_ix (g_ix (gv 3) g_int) g_int) (a_cons (g_ix (g_ix (gv 0) g_int) g_int) a_nil))) a_nil))))) s_nil)
    (s_cons (s_if (t_cmp (o_eq hr) (g_ix (gv 3) g_int) (g_ix (gv 3) g_int)) (s_one (s_ret (gv 0))) s_nil)
    (s_one (s_ret (gv 3)))))))))))
theorem der__law_made_of {f : Addr} {cdv : Value} {A : Around} {outer : List Env} {s : Shared} {H : Hp} {E : XK} (n__law_low : FN P w K mg base "_law_low" 1 sp__law_low) (hr : Room 1 (A.deeper (envOfC "_law_made_of" (defScope s__law_made_of) s.heap.objs.size f cdv))) :
    GSs (cxOf (L2.CX P w) P w K mg base M__law_made_of "_law_made_of" (defScope s__law_made_of) f cdv A outer s H E) (fun cls d _ H => E cls d H) (defBody s__law_made_of) d__law_made_of :=
  (s_cons (s_asg (gv 0) (gg_tup (n := 2) rfl (ggs_cons (gg_tup (n := 2) rfl (ggs_cons (gg_name 2 sc__law_made_of.nd) (ggs_cons (gg_name 3 sc__law_made_of.nd) ggs_nil))) (ggs_cons (gg_tup (n := 2) rfl (ggs_cons (gg_name 4 sc__law_made_of.nd) (ggs_cons (gg_name 5 sc__law_made_of.nd) ggs_nil))) ggs_nil))))
    (s_cons (s_setP (i := 6) sc__law_made_of.nd rfl (g_op o_addU (g_op o_mulU (g_op o_mulU (g_ix (gv 1) g_int) (gv 2)) (gv 5)) (g_op o_mulU (g_op o_mulU (g_ix (gv 1) g_int) (gv 4)) (gv 3))))
    (s_one (s_ret (g_call n__law_low (hr.mono (by decide)) (a_cons (g_op o_addU (gv 6) (g_op o_mulU (g_op o_mulU (g_ix (gv 1) g_int) (gv 3)) (gv 5))) (a_cons (g_op o_mulU (gv 3) (gv 5)) a_nil)))))))
theorem der__law_carrying {f : Addr} {cdv : Value} {A : Around} {outer : List Env} {s : Shared} {H : Hp} {E : XK}  (hr : Room 0 (A.deeper (envOfC "_law_carrying" (defScope s__law_carrying) s.heap.objs.size f cdv))) :
    GSs (cxOf (L2.CX P w) P w K mg base M__law_carrying "_law_carrying" (defScope s__law_carrying) f cdv A outer s H E) (fun cls d _ H => E cls d H) (defBody s__law_carrying) d__law_carrying :=
  (s_cons (s_setLc (i := 1) [("_law_x", 2)] rfl sc__law_carrying.nd rfl rfl (sw_true rfl rfl rfl (by decide +kernel)) (gi_seq (g_slice (gv 0) go_none (go_some g_int))) (blkOk_by (N := M__law_carrying) (sc := defScope s__law_carrying) (by decide +kernel)) (fun _ _ _ _ _ => pg_name (i := 2) sc__law_carrying.nd rfl (Or.inl rfl)) (sgc_name (i := 2) (by decide)) (fun _ _ _ _ _ => ts_nil) (fun _ _ _ _ _ => (g_op o_sub (g_op o_md (gv 2) g_int) g_int)))
    (s_frz 1 (s_cons (s_if (t_cmp (o_eq hr) (g_op o_mulU (g_ix (gv 1) g_int) (g_ix (gv 1) g_int)) (g_op o_mulU (g_ix (gv 1) g_int) (g_ix (gv 1) g_int))) (s_one (s_setP (i := 1) sc__law_carrying.nd rfl (g_ix (g_lst (a_cons (g_lst (a_cons g_int (a_cons g_int (a_cons g_int (a_cons g_int a_nil))))) (a_cons (g_lst (a_cons g_int (a_cons g_int (a_cons g_int (a_cons g_int a_nil))))) (a_cons (g_lst (a_cons g_int (a_cons (g_neg g_int) (a_cons g_int (a_cons g_int a_nil))))) a_nil)))) (g_op o_md (g_ix (gv 0) g_int) g_int)))) s_nil)
    (s_one (s_ret (g_tup (a_cons (g_ix (gv 1) g_int) (a_cons (g_ix (gv 1) g_int) (a_cons (g_op o_sub (g_op o_md (g_ix (gv 0) g_int) g_int) g_int) (a_cons (g_ix (gv 1) g_int) (a_cons (g_ix (gv 1) g_int) (a_cons (g_op o_sub (g_op o_md (g_ix (gv 0) g_int) g_int) g_int) a_nil))))))))))))
theorem der__law_carried {f : Addr} {cdv : Value} {A : Around} {outer : List Env} {s : Shared} {H : Hp} {E : XK} (n__law_made_of : FN P w K mg base "_law_made_of" 2 sp__law_made_of) (hr : Room 2 (A.deeper (envOfC "_law_carried" (defScope s__law_carried) s.heap.objs.size f cdv))) :
    GSs (cxOf (L2.CX P w) P w K mg base M__law_carried "_law_carried" (defScope s__law_carried) f cdv A outer s H E) (fun cls d _ H => E cls d H) (defBody s__law_carried) d__law_carried :=
  (s_one (s_ret (g_tup (a_cons (g_call n__law_made_of (hr.mono (by decide)) (a_cons (gv 1) (a_cons (g_slice (gv 0) go_none (go_some g_int)) a_nil))) (a_cons (g_call n__law_made_of (hr.mono (by decide)) (a_cons (gv 1) (a_cons (g_slice (gv 0) (go_some g_int) go_none) a_nil))) a_nil)))))
theorem der__law_told {f : Addr} {cdv : Value} {A : Around} {outer : List Env} {s : Shared} {H : Hp} {E : XK} (n__law_carried : FN P w K mg base "_law_carried" 3 sp__law_carried) (n__law_before : FN P w K mg base "_law_before" 2 sp__law_before) (b_tuple : mg "tuple" = none) (hr : Room 3 (A.deeper (envOfC "_law_told" (defScope s__law_told) s.heap.objs.size f cdv))) :
    GSs (cxOf (L2.CX P w) P w K mg base M__law_told "_law_told" (defScope s__law_told) f cdv A outer s H E) (fun cls d _ H => E cls d H) (defBody s__law_told) d__law_told :=
  (s_cons (s_if (t_isN (gv 1)) (s_one (s_ret g_non)) s_nil)
    (s_cons (s_setLc (i := 2) [("_law_point", 3)] rfl sc__law_told.nd rfl rfl (sw_true rfl rfl rfl (by decide +kernel)) (gi_seq (g_slice (gv 1) (go_some g_int) go_none)) (blkOk_by (N := M__law_told) (sc := defScope s__law_told) (by decide +kernel)) (fun _ _ _ _ _ => pg_name (i := 3) sc__law_told.nd rfl (Or.inl rfl)) (sgc_name (i := 3) (by decide)) (fun _ _ _ _ _ => ts_nil) (fun _ _ _ _ _ => (g_call n__law_carried (hr.mono (by decide)) (a_cons (gv 0) (a_cons (gv 3) a_nil)))))
    (s_frz 2 (s_cons (s_if (GW.t (w_and (t_cmp (o_eq hr) (g_ix (gv 1) g_int) g_str) (w_and1 (t_val (g_call n__law_before (hr.mono (by decide)) (a_cons (g_ix (gv 2) g_int) (a_cons (g_ix (gv 2) g_int) a_nil))))))) (s_one (s_setP (i := 2) sc__law_told.nd rfl (g_rev (gv 2)))) s_nil)
    (s_one (s_ret (g_op o_addU (g_tup (a_cons (g_ix (gv 1) g_int) a_nil)) (g_callT c_tuple b_tuple (by decide +kernel) (a_cons (gv 2) a_nil)))))))))
theorem der__law_first_and_last {f : Addr} {cdv : Value} {A : Around} {outer : List Env} {s : Shared} {H : Hp} {E : XK} (n__law_before : FN P w K mg base "_law_before" 2 sp__law_before) (x_noL : NoL K) (hr : Room 2 (A.deeper (envOfC "_law_first_and_last" (defScope s__law_first_and_last) s.heap.objs.size f cdv))) :
    GSs (cxOf (L2.CX P w) P w K mg base M__law_first_and_last "_law_first_and_last" (defScope s__law_first_and_last) f cdv A outer s H E) (fun cls d _ H => E cls d H) (defBody s__law_first_and_last) d__law_first_and_last :=
  (s_cons (s_setF (i := 1) sc__law_first_and_last.nd rfl (f_lst a_nil))
    (s_cons (s_for (passes_of rfl) rfl (gi_seq (gv 0)) (gg_name 2 sc__law_first_and_last.nd) (s_one (s_if (t_notN (gv 2)) (s_one (s_extT (i := 1) (g_slice (gv 2) (go_some g_int) go_none))) s_nil)))
    (s_frz 1 (s_cons (s_setP (i := 3) sc__law_first_and_last.nd rfl (g_ix (gv 1) g_int))
    (s_cons (s_setP (i := 4) sc__law_first_and_last.nd rfl (g_ix (gv 1) g_int))
    (s_cons (s_for (passes_of rfl) rfl (gi_seq (gv 1)) (gg_name 5 sc__law_first_and_last.nd) (s_cons (s_if (t_val (g_call n__law_before (hr.mono (by decide)) (a_cons (gv 5) (a_cons (gv 3) a_nil)))) (s_one (s_setP (i := 3) sc__law_first_and_last.nd rfl (gv 5))) s_nil)
    (s_one (s_if (t_val (g_call n__law_before (hr.mono (by decide)) (a_cons (gv 4) (a_cons (gv 5) a_nil)))) (s_one (s_setP (i := 4) sc__law_first_and_last.nd rfl (gv 5))) s_nil))))
    (s_one (s_ret (g_tup (a_cons (gv 3) (a_cons (gv 4) a_nil)))))))))))
theorem der__law_cut {f : Addr} {cdv : Value} {A : Around} {outer : List Env} {s : Shared} {H : Hp} {E : XK} (n__law_at : FN P w K mg base "_law_at" 2 sp__law_at) (n_meet : FN P w K mg base "meet" 6 sp_meet) (n__law_first_and_last : FN P w K mg base "_law_first_and_last" 3 sp__law_first_and_last) (b_len : mg "len" = none) (hr : Room 6 (A.deeper (envOfC "_law_cut" (defScope s__law_cut) s.heap.objs.size f cdv))) :
    GSs (cxOf (L2.CX P w) P w K mg base M__law_cut "_law_cut" (defScope s__law_cut) f cdv A outer s H E) (fun cls d _ H => E cls d H) (defBody s__law_cut) d__law_cut :=
  (s_cons (s_setP (i := 4) sc__law_cut.nd rfl (g_call n__law_at (hr.mono (by decide)) (a_cons (gv 0) (a_cons (g_op o_addU g_int (g_op o_md (gv 3) g_int)) a_nil))))
    (s_cons (s_setP (i := 5) sc__law_cut.nd rfl (g_lst (a_cons (g_call n_meet (hr.mono (by decide)) (a_cons (g_tup (a_cons (g_ix (gv 0) g_int) (a_cons (gv 4) a_nil))) (a_cons (gv 1) a_nil))) (a_cons (g_call n_meet (hr.mono (by decide)) (a_cons (g_tup (a_cons (gv 4) (a_cons (g_ix (gv 0) g_int) a_nil))) (a_cons (gv 1) a_nil))) a_nil))))
    (s_cons (s_if (GW.t (w_or (t_isN (gv 2)) (w_or1 (t_cmp (o_eq hr) (gv 5) (g_lst (a_cons g_non (a_cons g_non a_nil))))))) (s_one (s_ret (g_and (g_isN (gv 2)) (g_one (g_cmp (o_eq hr) (gv 5) (g_lst (a_cons g_non (a_cons g_non a_nil)))))))) s_nil)
    (s_one (s_ret (g_cmp (o_eq hr) (g_call n__law_first_and_last (hr.mono (by decide)) (a_cons (gv 5) a_nil)) (g_tup (a_cons (g_ix (gv 2) g_int) (a_cons (g_ix (gv 2) (g_op o_sub (g_callB c_len b_len (by decide +kernel) (a_cons (gv 2) a_nil)) g_int)) a_nil)))))))))
theorem der__law_on_both {f : Addr} {cdv : Value} {A : Around} {outer : List Env} {s : Shared} {H : Hp} {E : XK} (n_is_on : FN P w K mg base "is_on" 6 sp_is_on) (n_meet : FN P w K mg base "meet" 6 sp_meet) (n__law_in_order : FN P w K mg base "_law_in_order" 3 sp__law_in_order) (hr : Room 6 (A.deeper (envOfC "_law_on_both" (defScope s__law_on_both) s.heap.objs.size f cdv))) :
    GSs (cxOf (L2.CX P w) P w K mg base M__law_on_both "_law_on_both" (defScope s__law_on_both) f cdv A outer s H E) (fun cls d _ H => E cls d H) (defBody s__law_on_both) d__law_on_both :=
  (s_cons (s_if (t_isN (gv 2)) (s_one (s_ret g_bl)) s_nil)
    (s_cons (s_for (passes_of rfl) rfl (gi_seq (g_slice (gv 2) (go_some g_int) go_none)) (gg_name 3 sc__law_on_both.nd) (s_cons (s_if (GW.t (w_or (t_not (t_val (g_call n_is_on (hr.mono (by decide)) (a_cons (gv 0) (a_cons (gv 3) a_nil))))) (w_or1 (t_not (t_val (g_call n_is_on (hr.mono (by decide)) (a_cons (gv 1) (a_cons (gv 3) a_nil)))))))) (s_one (s_ret g_bl)) s_nil)
    (s_cons (s_setP (i := 4) sc__law_on_both.nd rfl (g_ix (gv 0) g_int))
    (s_one (s_if (GW.t (w_and (t_cmp (o_ne hr) (gv 3) (gv 4)) (w_and1 (t_cmp (o_ne hr) (g_call n_meet (hr.mono (by decide)) (a_cons (g_tup (a_cons (gv 4) (a_cons (gv 3) a_nil))) (a_cons (g_tup (a_cons (gv 3) (a_cons (gv 4) a_nil))) a_nil))) (g_call n__law_in_order (hr.mono (by decide)) (a_cons (gv 4) (a_cons (gv 3) a_nil))))))) (s_one (s_ret g_bl)) s_nil)))))
    (s_one (s_ret g_bl))))
theorem der__law_in_order {f : Addr} {cdv : Value} {A : Around} {outer : List Env} {s : Shared} {H : Hp} {E : XK} (n__law_before : FN P w K mg base "_law_before" 2 sp__law_before) (hr : Room 2 (A.deeper (envOfC "_law_in_order" (defScope s__law_in_order) s.heap.objs.size f cdv))) :
    GSs (cxOf (L2.CX P w) P w K mg base M__law_in_order "_law_in_order" (defScope s__law_in_order) f cdv A outer s H E) (fun cls d _ H => E cls d H) (defBody s__law_in_order) d__law_in_order :=
  (s_cons (s_if (t_val (g_call n__law_before (hr.mono (by decide)) (a_cons (gv 1) (a_cons (gv 0) a_nil)))) (s_one (s_ret (g_tup (a_cons g_str (a_cons (gv 1) (a_cons (gv 0) a_nil)))))) s_nil)
    (s_one (s_ret (g_tup (a_cons g_str (a_cons (gv 0) (a_cons (gv 1) a_nil)))))))
theorem der_law {f : Addr} {cdv : Value} {A : Around} {outer : List Env} {s : Shared} {H : Hp} {E : XK} (n__law_cell : FN P w K mg base "_law_cell" 1 sp__law_cell) (n__law_numbers : FN P w K mg base "_law_numbers" 1 sp__law_numbers) (n__law_side : FN P w K mg base "_law_side" 4 sp__law_side) (n__law_other : FN P w K mg base "_law_other" 5 sp__law_other) (n_meet : FN P w K mg base "meet" 6 sp_meet) (n__law_carrying : FN P w K mg base "_law_carrying" 1 sp__law_carrying) (n__law_carried : FN P w K mg base "_law_carried" 3 sp__law_carried) (n__law_told : FN P w K mg base "_law_told" 4 sp__law_told) (n__law_cut : FN P w K mg base "_law_cut" 7 sp__law_cut) (n__law_on_both : FN P w K mg base "_law_on_both" 7 sp__law_on_both) (n_side_of : FN P w K mg base "side_of" 5 sp_side_of) (b_tuple : mg "tuple" = none) (b_range : mg "range" = none) (hr : Room 7 (A.deeper (envOfC "law" (defScope s_law) s.heap.objs.size f cdv))) :
    GSs (cxOf (L2.CX P w) P w K mg base M_law "law" (defScope s_law) f cdv A outer s H E) (fun cls d _ H => E cls d H) (defBody s_law) d_law :=
  (s_cons (s_for (passes_of rfl) rfl (gi_seq (g_op o_addU (g_lst (a_cons (g_call n__law_cell (hr.mono (by decide)) (a_cons (gv 0) (a_cons g_int a_nil))) a_nil)) (g_slice (gv 0) (go_some g_int) (go_some g_int)))) (gg_name 1 sc_law.nd) (s_cons (s_setP (i := 2) sc_law.nd rfl (g_call n__law_numbers (hr.mono (by decide)) (a_cons (gv 1) (a_cons g_int a_nil))))
    (s_cons (s_setP (i := 3) sc_law.nd rfl (g_call n__law_side (hr.mono (by decide)) (a_cons (gv 2) (a_cons (g_op o_md (g_ix (gv 2) g_int) g_int) a_nil))))
    (s_cons (s_setP (i := 4) sc_law.nd rfl (g_call n__law_other (hr.mono (by decide)) (a_cons (gv 3) (a_cons (g_slice (gv 2) (go_some g_int) go_none) (a_cons (g_op o_md (g_ix (gv 2) g_int) g_int) a_nil)))))
    (s_cons (s_setP (i := 5) sc_law.nd rfl (g_call n_meet (hr.mono (by decide)) (a_cons (gv 3) (a_cons (gv 4) a_nil))))
    (s_cons (s_setP (i := 6) sc_law.nd rfl (g_call n__law_carrying (hr.mono (by decide)) (a_cons (g_slice (gv 2) (go_some g_int) go_none) a_nil)))
    (s_cons (s_setP (i := 7) sc_law.nd rfl (g_callT c_tuple b_tuple (by decide +kernel) (a_cons (GF.g (f_lc [("_law_point", 8)] rfl sc_law.nd (gi_seq (gv 3)) (blkOk_by (N := M_law) (sc := defScope s_law) (by decide +kernel)) (fun _ _ _ _ _ => pg_name (i := 8) sc_law.nd rfl (Or.inl rfl)) (sgc_name (i := 8) (by decide)) (fun _ _ _ _ _ => ts_nil) (fun _ _ _ _ _ => (g_call n__law_carried (hr.mono (by decide)) (a_cons (gv 6) (a_cons (gv 8) a_nil)))))) a_nil)))
    (s_cons (s_setP (i := 9) sc_law.nd rfl (g_callT c_tuple b_tuple (by decide +kernel) (a_cons (GF.g (f_lc [("_law_point", 8)] rfl sc_law.nd (gi_seq (gv 4)) (blkOk_by (N := M_law) (sc := defScope s_law) (by decide +kernel)) (fun _ _ _ _ _ => pg_name (i := 8) sc_law.nd rfl (Or.inl rfl)) (sgc_name (i := 8) (by decide)) (fun _ _ _ _ _ => ts_nil) (fun _ _ _ _ _ => (g_call n__law_carried (hr.mono (by decide)) (a_cons (gv 6) (a_cons (gv 8) a_nil)))))) a_nil)))
    (s_cons (s_if (t_cmp (o_ne hr) (g_call n_meet (hr.mono (by decide)) (a_cons (gv 7) (a_cons (gv 9) a_nil))) (g_call n__law_told (hr.mono (by decide)) (a_cons (gv 6) (a_cons (gv 5) a_nil)))) (s_one (s_ret g_bl)) s_nil)
    (s_cons (s_if (t_not (t_val (g_call n__law_cut (hr.mono (by decide)) (a_cons (gv 3) (a_cons (gv 4) (a_cons (gv 5) (a_cons (g_ix (gv 2) g_int) a_nil))))))) (s_one (s_ret g_bl)) s_nil)
    (s_cons (s_if (t_not (t_val (g_call n__law_on_both (hr.mono (by decide)) (a_cons (gv 3) (a_cons (gv 4) (a_cons (gv 5) a_nil)))))) (s_one (s_ret g_bl)) s_nil)
    (s_cons (s_setP (i := 10) sc_law.nd rfl (g_op o_sub (g_op o_mulU (g_ix (gv 6) g_int) (g_ix (gv 6) g_int)) (g_op o_mulU (g_ix (gv 6) g_int) (g_ix (gv 6) g_int))))
    (s_one (s_for (passes_of rfl) rfl (gi_rng1 b_range (a_cons g_int a_nil)) (gg_name 11 sc_law.nd) (s_cons (s_setP (i := 12) sc_law.nd rfl (g_call n_side_of (hr.mono (by decide)) (a_cons (gv 3) (a_cons (g_ix (gv 4) (gv 11)) a_nil))))
    (s_cons (s_if (t_cmp o_lt (gv 10) g_int) (s_one (s_setP (i := 12) sc_law.nd rfl (g_op o_sub g_int (gv 12)))) s_nil)
    (s_one (s_if (t_cmp (o_ne hr) (g_call n_side_of (hr.mono (by decide)) (a_cons (gv 7) (a_cons (g_ix (gv 9) (gv 11)) a_nil))) (gv 12)) (s_one (s_ret g_bl)) s_nil))))))))))))))))))
    (s_one (s_ret g_bl)))
end
theorem len_great_part (ds : List Dt) (Φ : Slot → Prop) (Ξ : XD → Prop) (h : sp_great_part ds Φ Ξ) : ds.length = 2 := by
  first | (obtain ⟨rfl, _⟩ := h; rfl) | (obtain ⟨_, rfl, _⟩ := h; rfl) | (obtain ⟨_, _, rfl, _⟩ := h; rfl) | (obtain ⟨_, _, _, rfl, _⟩ := h; rfl) | (obtain ⟨_, _, _, _, rfl, _⟩ := h; rfl) | (obtain ⟨_, _, _, _, _, rfl, _⟩ := h; rfl) | (obtain ⟨_, _, _, _, _, _, rfl, _⟩ := h; rfl) | (obtain ⟨_, _, _, _, _, _, _, rfl, _⟩ := h; rfl) | (obtain ⟨_, _, _, _, _, _, _, _, rfl, _⟩ := h; rfl) | (obtain ⟨_, _, _, _, _, _, _, _, _, rfl, _⟩ := h; rfl) | (obtain ⟨_, rfl | rfl, _⟩ := h <;> rfl) | (obtain ⟨_, _, rfl | rfl, _⟩ := h <;> rfl) | (obtain ⟨_, _, _, rfl | rfl, _⟩ := h <;> rfl) | (obtain ⟨_, _, _, _, rfl | rfl, _⟩ := h <;> rfl)
theorem len_lowest (ds : List Dt) (Φ : Slot → Prop) (Ξ : XD → Prop) (h : sp_lowest ds Φ Ξ) : ds.length = 2 := by
  first | (obtain ⟨rfl, _⟩ := h; rfl) | (obtain ⟨_, rfl, _⟩ := h; rfl) | (obtain ⟨_, _, rfl, _⟩ := h; rfl) | (obtain ⟨_, _, _, rfl, _⟩ := h; rfl) | (obtain ⟨_, _, _, _, rfl, _⟩ := h; rfl) | (obtain ⟨_, _, _, _, _, rfl, _⟩ := h; rfl) | (obtain ⟨_, _, _, _, _, _, rfl, _⟩ := h; rfl) | (obtain ⟨_, _, _, _, _, _, _, rfl, _⟩ := h; rfl) | (obtain ⟨_, _, _, _, _, _, _, _, rfl, _⟩ := h; rfl) | (obtain ⟨_, _, _, _, _, _, _, _, _, rfl, _⟩ := h; rfl) | (obtain ⟨_, rfl | rfl, _⟩ := h <;> rfl) | (obtain ⟨_, _, rfl | rfl, _⟩ := h <;> rfl) | (obtain ⟨_, _, _, rfl | rfl, _⟩ := h <;> rfl) | (obtain ⟨_, _, _, _, rfl | rfl, _⟩ := h <;> rfl)
theorem len_plus (ds : List Dt) (Φ : Slot → Prop) (Ξ : XD → Prop) (h : sp_plus ds Φ Ξ) : ds.length = 2 := by
  first | (obtain ⟨rfl, _⟩ := h; rfl) | (obtain ⟨_, rfl, _⟩ := h; rfl) | (obtain ⟨_, _, rfl, _⟩ := h; rfl) | (obtain ⟨_, _, _, rfl, _⟩ := h; rfl) | (obtain ⟨_, _, _, _, rfl, _⟩ := h; rfl) | (obtain ⟨_, _, _, _, _, rfl, _⟩ := h; rfl) | (obtain ⟨_, _, _, _, _, _, rfl, _⟩ := h; rfl) | (obtain ⟨_, _, _, _, _, _, _, rfl, _⟩ := h; rfl) | (obtain ⟨_, _, _, _, _, _, _, _, rfl, _⟩ := h; rfl) | (obtain ⟨_, _, _, _, _, _, _, _, _, rfl, _⟩ := h; rfl) | (obtain ⟨_, rfl | rfl, _⟩ := h <;> rfl) | (obtain ⟨_, _, rfl | rfl, _⟩ := h <;> rfl) | (obtain ⟨_, _, _, rfl | rfl, _⟩ := h <;> rfl) | (obtain ⟨_, _, _, _, rfl | rfl, _⟩ := h <;> rfl)
theorem len_minus (ds : List Dt) (Φ : Slot → Prop) (Ξ : XD → Prop) (h : sp_minus ds Φ Ξ) : ds.length = 2 := by
  first | (obtain ⟨rfl, _⟩ := h; rfl) | (obtain ⟨_, rfl, _⟩ := h; rfl) | (obtain ⟨_, _, rfl, _⟩ := h; rfl) | (obtain ⟨_, _, _, rfl, _⟩ := h; rfl) | (obtain ⟨_, _, _, _, rfl, _⟩ := h; rfl) | (obtain ⟨_, _, _, _, _, rfl, _⟩ := h; rfl) | (obtain ⟨_, _, _, _, _, _, rfl, _⟩ := h; rfl) | (obtain ⟨_, _, _, _, _, _, _, rfl, _⟩ := h; rfl) | (obtain ⟨_, _, _, _, _, _, _, _, rfl, _⟩ := h; rfl) | (obtain ⟨_, _, _, _, _, _, _, _, _, rfl, _⟩ := h; rfl) | (obtain ⟨_, rfl | rfl, _⟩ := h <;> rfl) | (obtain ⟨_, _, rfl | rfl, _⟩ := h <;> rfl) | (obtain ⟨_, _, _, rfl | rfl, _⟩ := h <;> rfl) | (obtain ⟨_, _, _, _, rfl | rfl, _⟩ := h <;> rfl)
theorem len_times (ds : List Dt) (Φ : Slot → Prop) (Ξ : XD → Prop) (h : sp_times ds Φ Ξ) : ds.length = 2 := by
  first | (obtain ⟨rfl, _⟩ := h; rfl) | (obtain ⟨_, rfl, _⟩ := h; rfl) | (obtain ⟨_, _, rfl, _⟩ := h; rfl) | (obtain ⟨_, _, _, rfl, _⟩ := h; rfl) | (obtain ⟨_, _, _, _, rfl, _⟩ := h; rfl) | (obtain ⟨_, _, _, _, _, rfl, _⟩ := h; rfl) | (obtain ⟨_, _, _, _, _, _, rfl, _⟩ := h; rfl) | (obtain ⟨_, _, _, _, _, _, _, rfl, _⟩ := h; rfl) | (obtain ⟨_, _, _, _, _, _, _, _, rfl, _⟩ := h; rfl) | (obtain ⟨_, _, _, _, _, _, _, _, _, rfl, _⟩ := h; rfl) | (obtain ⟨_, rfl | rfl, _⟩ := h <;> rfl) | (obtain ⟨_, _, rfl | rfl, _⟩ := h <;> rfl) | (obtain ⟨_, _, _, rfl | rfl, _⟩ := h <;> rfl) | (obtain ⟨_, _, _, _, rfl | rfl, _⟩ := h <;> rfl)
theorem len_over (ds : List Dt) (Φ : Slot → Prop) (Ξ : XD → Prop) (h : sp_over ds Φ Ξ) : ds.length = 2 := by
  first | (obtain ⟨rfl, _⟩ := h; rfl) | (obtain ⟨_, rfl, _⟩ := h; rfl) | (obtain ⟨_, _, rfl, _⟩ := h; rfl) | (obtain ⟨_, _, _, rfl, _⟩ := h; rfl) | (obtain ⟨_, _, _, _, rfl, _⟩ := h; rfl) | (obtain ⟨_, _, _, _, _, rfl, _⟩ := h; rfl) | (obtain ⟨_, _, _, _, _, _, rfl, _⟩ := h; rfl) | (obtain ⟨_, _, _, _, _, _, _, rfl, _⟩ := h; rfl) | (obtain ⟨_, _, _, _, _, _, _, _, rfl, _⟩ := h; rfl) | (obtain ⟨_, _, _, _, _, _, _, _, _, rfl, _⟩ := h; rfl) | (obtain ⟨_, rfl | rfl, _⟩ := h <;> rfl) | (obtain ⟨_, _, rfl | rfl, _⟩ := h <;> rfl) | (obtain ⟨_, _, _, rfl | rfl, _⟩ := h <;> rfl) | (obtain ⟨_, _, _, _, rfl | rfl, _⟩ := h <;> rfl)
theorem len_below (ds : List Dt) (Φ : Slot → Prop) (Ξ : XD → Prop) (h : sp_below ds Φ Ξ) : ds.length = 2 := by
  first | (obtain ⟨rfl, _⟩ := h; rfl) | (obtain ⟨_, rfl, _⟩ := h; rfl) | (obtain ⟨_, _, rfl, _⟩ := h; rfl) | (obtain ⟨_, _, _, rfl, _⟩ := h; rfl) | (obtain ⟨_, _, _, _, rfl, _⟩ := h; rfl) | (obtain ⟨_, _, _, _, _, rfl, _⟩ := h; rfl) | (obtain ⟨_, _, _, _, _, _, rfl, _⟩ := h; rfl) | (obtain ⟨_, _, _, _, _, _, _, rfl, _⟩ := h; rfl) | (obtain ⟨_, _, _, _, _, _, _, _, rfl, _⟩ := h; rfl) | (obtain ⟨_, _, _, _, _, _, _, _, _, rfl, _⟩ := h; rfl) | (obtain ⟨_, rfl | rfl, _⟩ := h <;> rfl) | (obtain ⟨_, _, rfl | rfl, _⟩ := h <;> rfl) | (obtain ⟨_, _, _, rfl | rfl, _⟩ := h <;> rfl) | (obtain ⟨_, _, _, _, rfl | rfl, _⟩ := h <;> rfl)
theorem len_before (ds : List Dt) (Φ : Slot → Prop) (Ξ : XD → Prop) (h : sp_before ds Φ Ξ) : ds.length = 2 := by
  first | (obtain ⟨rfl, _⟩ := h; rfl) | (obtain ⟨_, rfl, _⟩ := h; rfl) | (obtain ⟨_, _, rfl, _⟩ := h; rfl) | (obtain ⟨_, _, _, rfl, _⟩ := h; rfl) | (obtain ⟨_, _, _, _, rfl, _⟩ := h; rfl) | (obtain ⟨_, _, _, _, _, rfl, _⟩ := h; rfl) | (obtain ⟨_, _, _, _, _, _, rfl, _⟩ := h; rfl) | (obtain ⟨_, _, _, _, _, _, _, rfl, _⟩ := h; rfl) | (obtain ⟨_, _, _, _, _, _, _, _, rfl, _⟩ := h; rfl) | (obtain ⟨_, _, _, _, _, _, _, _, _, rfl, _⟩ := h; rfl) | (obtain ⟨_, rfl | rfl, _⟩ := h <;> rfl) | (obtain ⟨_, _, rfl | rfl, _⟩ := h <;> rfl) | (obtain ⟨_, _, _, rfl | rfl, _⟩ := h <;> rfl) | (obtain ⟨_, _, _, _, rfl | rfl, _⟩ := h <;> rfl)
theorem len_in_order (ds : List Dt) (Φ : Slot → Prop) (Ξ : XD → Prop) (h : sp_in_order ds Φ Ξ) : ds.length = 1 := by
  first | (obtain ⟨rfl, _⟩ := h; rfl) | (obtain ⟨_, rfl, _⟩ := h; rfl) | (obtain ⟨_, _, rfl, _⟩ := h; rfl) | (obtain ⟨_, _, _, rfl, _⟩ := h; rfl) | (obtain ⟨_, _, _, _, rfl, _⟩ := h; rfl) | (obtain ⟨_, _, _, _, _, rfl, _⟩ := h; rfl) | (obtain ⟨_, _, _, _, _, _, rfl, _⟩ := h; rfl) | (obtain ⟨_, _, _, _, _, _, _, rfl, _⟩ := h; rfl) | (obtain ⟨_, _, _, _, _, _, _, _, rfl, _⟩ := h; rfl) | (obtain ⟨_, _, _, _, _, _, _, _, _, rfl, _⟩ := h; rfl) | (obtain ⟨_, rfl | rfl, _⟩ := h <;> rfl) | (obtain ⟨_, _, rfl | rfl, _⟩ := h <;> rfl) | (obtain ⟨_, _, _, rfl | rfl, _⟩ := h <;> rfl) | (obtain ⟨_, _, _, _, rfl | rfl, _⟩ := h <;> rfl)
theorem len_cross_of (ds : List Dt) (Φ : Slot → Prop) (Ξ : XD → Prop) (h : sp_cross_of ds Φ Ξ) : ds.length = 3 := by
  first | (obtain ⟨rfl, _⟩ := h; rfl) | (obtain ⟨_, rfl, _⟩ := h; rfl) | (obtain ⟨_, _, rfl, _⟩ := h; rfl) | (obtain ⟨_, _, _, rfl, _⟩ := h; rfl) | (obtain ⟨_, _, _, _, rfl, _⟩ := h; rfl) | (obtain ⟨_, _, _, _, _, rfl, _⟩ := h; rfl) | (obtain ⟨_, _, _, _, _, _, rfl, _⟩ := h; rfl) | (obtain ⟨_, _, _, _, _, _, _, rfl, _⟩ := h; rfl) | (obtain ⟨_, _, _, _, _, _, _, _, rfl, _⟩ := h; rfl) | (obtain ⟨_, _, _, _, _, _, _, _, _, rfl, _⟩ := h; rfl) | (obtain ⟨_, rfl | rfl, _⟩ := h <;> rfl) | (obtain ⟨_, _, rfl | rfl, _⟩ := h <;> rfl) | (obtain ⟨_, _, _, rfl | rfl, _⟩ := h <;> rfl) | (obtain ⟨_, _, _, _, rfl | rfl, _⟩ := h <;> rfl)
theorem len_sign_of (ds : List Dt) (Φ : Slot → Prop) (Ξ : XD → Prop) (h : sp_sign_of ds Φ Ξ) : ds.length = 1 := by
  first | (obtain ⟨rfl, _⟩ := h; rfl) | (obtain ⟨_, rfl, _⟩ := h; rfl) | (obtain ⟨_, _, rfl, _⟩ := h; rfl) | (obtain ⟨_, _, _, rfl, _⟩ := h; rfl) | (obtain ⟨_, _, _, _, rfl, _⟩ := h; rfl) | (obtain ⟨_, _, _, _, _, rfl, _⟩ := h; rfl) | (obtain ⟨_, _, _, _, _, _, rfl, _⟩ := h; rfl) | (obtain ⟨_, _, _, _, _, _, _, rfl, _⟩ := h; rfl) | (obtain ⟨_, _, _, _, _, _, _, _, rfl, _⟩ := h; rfl) | (obtain ⟨_, _, _, _, _, _, _, _, _, rfl, _⟩ := h; rfl) | (obtain ⟨_, rfl | rfl, _⟩ := h <;> rfl) | (obtain ⟨_, _, rfl | rfl, _⟩ := h <;> rfl) | (obtain ⟨_, _, _, rfl | rfl, _⟩ := h <;> rfl) | (obtain ⟨_, _, _, _, rfl | rfl, _⟩ := h <;> rfl)
theorem len_side_of (ds : List Dt) (Φ : Slot → Prop) (Ξ : XD → Prop) (h : sp_side_of ds Φ Ξ) : ds.length = 2 := by
  first | (obtain ⟨rfl, _⟩ := h; rfl) | (obtain ⟨_, rfl, _⟩ := h; rfl) | (obtain ⟨_, _, rfl, _⟩ := h; rfl) | (obtain ⟨_, _, _, rfl, _⟩ := h; rfl) | (obtain ⟨_, _, _, _, rfl, _⟩ := h; rfl) | (obtain ⟨_, _, _, _, _, rfl, _⟩ := h; rfl) | (obtain ⟨_, _, _, _, _, _, rfl, _⟩ := h; rfl) | (obtain ⟨_, _, _, _, _, _, _, rfl, _⟩ := h; rfl) | (obtain ⟨_, _, _, _, _, _, _, _, rfl, _⟩ := h; rfl) | (obtain ⟨_, _, _, _, _, _, _, _, _, rfl, _⟩ := h; rfl) | (obtain ⟨_, rfl | rfl, _⟩ := h <;> rfl) | (obtain ⟨_, _, rfl | rfl, _⟩ := h <;> rfl) | (obtain ⟨_, _, _, rfl | rfl, _⟩ := h <;> rfl) | (obtain ⟨_, _, _, _, rfl | rfl, _⟩ := h <;> rfl)
theorem len_is_on (ds : List Dt) (Φ : Slot → Prop) (Ξ : XD → Prop) (h : sp_is_on ds Φ Ξ) : ds.length = 2 := by
  first | (obtain ⟨rfl, _⟩ := h; rfl) | (obtain ⟨_, rfl, _⟩ := h; rfl) | (obtain ⟨_, _, rfl, _⟩ := h; rfl) | (obtain ⟨_, _, _, rfl, _⟩ := h; rfl) | (obtain ⟨_, _, _, _, rfl, _⟩ := h; rfl) | (obtain ⟨_, _, _, _, _, rfl, _⟩ := h; rfl) | (obtain ⟨_, _, _, _, _, _, rfl, _⟩ := h; rfl) | (obtain ⟨_, _, _, _, _, _, _, rfl, _⟩ := h; rfl) | (obtain ⟨_, _, _, _, _, _, _, _, rfl, _⟩ := h; rfl) | (obtain ⟨_, _, _, _, _, _, _, _, _, rfl, _⟩ := h; rfl) | (obtain ⟨_, rfl | rfl, _⟩ := h <;> rfl) | (obtain ⟨_, _, rfl | rfl, _⟩ := h <;> rfl) | (obtain ⟨_, _, _, rfl | rfl, _⟩ := h <;> rfl) | (obtain ⟨_, _, _, _, rfl | rfl, _⟩ := h <;> rfl)
theorem len_moved (ds : List Dt) (Φ : Slot → Prop) (Ξ : XD → Prop) (h : sp_moved ds Φ Ξ) : ds.length = 2 := by
  first | (obtain ⟨rfl, _⟩ := h; rfl) | (obtain ⟨_, rfl, _⟩ := h; rfl) | (obtain ⟨_, _, rfl, _⟩ := h; rfl) | (obtain ⟨_, _, _, rfl, _⟩ := h; rfl) | (obtain ⟨_, _, _, _, rfl, _⟩ := h; rfl) | (obtain ⟨_, _, _, _, _, rfl, _⟩ := h; rfl) | (obtain ⟨_, _, _, _, _, _, rfl, _⟩ := h; rfl) | (obtain ⟨_, _, _, _, _, _, _, rfl, _⟩ := h; rfl) | (obtain ⟨_, _, _, _, _, _, _, _, rfl, _⟩ := h; rfl) | (obtain ⟨_, _, _, _, _, _, _, _, _, rfl, _⟩ := h; rfl) | (obtain ⟨_, rfl | rfl, _⟩ := h <;> rfl) | (obtain ⟨_, _, rfl | rfl, _⟩ := h <;> rfl) | (obtain ⟨_, _, _, rfl | rfl, _⟩ := h <;> rfl) | (obtain ⟨_, _, _, _, rfl | rfl, _⟩ := h <;> rfl)
theorem len_meet_along (ds : List Dt) (Φ : Slot → Prop) (Ξ : XD → Prop) (h : sp_meet_along ds Φ Ξ) : ds.length = 2 := by
  first | (obtain ⟨rfl, _⟩ := h; rfl) | (obtain ⟨_, rfl, _⟩ := h; rfl) | (obtain ⟨_, _, rfl, _⟩ := h; rfl) | (obtain ⟨_, _, _, rfl, _⟩ := h; rfl) | (obtain ⟨_, _, _, _, rfl, _⟩ := h; rfl) | (obtain ⟨_, _, _, _, _, rfl, _⟩ := h; rfl) | (obtain ⟨_, _, _, _, _, _, rfl, _⟩ := h; rfl) | (obtain ⟨_, _, _, _, _, _, _, rfl, _⟩ := h; rfl) | (obtain ⟨_, _, _, _, _, _, _, _, rfl, _⟩ := h; rfl) | (obtain ⟨_, _, _, _, _, _, _, _, _, rfl, _⟩ := h; rfl) | (obtain ⟨_, rfl | rfl, _⟩ := h <;> rfl) | (obtain ⟨_, _, rfl | rfl, _⟩ := h <;> rfl) | (obtain ⟨_, _, _, rfl | rfl, _⟩ := h <;> rfl) | (obtain ⟨_, _, _, _, rfl | rfl, _⟩ := h <;> rfl)
theorem len_crossing (ds : List Dt) (Φ : Slot → Prop) (Ξ : XD → Prop) (h : sp_crossing ds Φ Ξ) : ds.length = 2 := by
  first | (obtain ⟨rfl, _⟩ := h; rfl) | (obtain ⟨_, rfl, _⟩ := h; rfl) | (obtain ⟨_, _, rfl, _⟩ := h; rfl) | (obtain ⟨_, _, _, rfl, _⟩ := h; rfl) | (obtain ⟨_, _, _, _, rfl, _⟩ := h; rfl) | (obtain ⟨_, _, _, _, _, rfl, _⟩ := h; rfl) | (obtain ⟨_, _, _, _, _, _, rfl, _⟩ := h; rfl) | (obtain ⟨_, _, _, _, _, _, _, rfl, _⟩ := h; rfl) | (obtain ⟨_, _, _, _, _, _, _, _, rfl, _⟩ := h; rfl) | (obtain ⟨_, _, _, _, _, _, _, _, _, rfl, _⟩ := h; rfl) | (obtain ⟨_, rfl | rfl, _⟩ := h <;> rfl) | (obtain ⟨_, _, rfl | rfl, _⟩ := h <;> rfl) | (obtain ⟨_, _, _, rfl | rfl, _⟩ := h <;> rfl) | (obtain ⟨_, _, _, _, rfl | rfl, _⟩ := h <;> rfl)
theorem len_meet (ds : List Dt) (Φ : Slot → Prop) (Ξ : XD → Prop) (h : sp_meet ds Φ Ξ) : ds.length = 2 := by
  first | (obtain ⟨rfl, _⟩ := h; rfl) | (obtain ⟨_, rfl, _⟩ := h; rfl) | (obtain ⟨_, _, rfl, _⟩ := h; rfl) | (obtain ⟨_, _, _, rfl, _⟩ := h; rfl) | (obtain ⟨_, _, _, _, rfl, _⟩ := h; rfl) | (obtain ⟨_, _, _, _, _, rfl, _⟩ := h; rfl) | (obtain ⟨_, _, _, _, _, _, rfl, _⟩ := h; rfl) | (obtain ⟨_, _, _, _, _, _, _, rfl, _⟩ := h; rfl) | (obtain ⟨_, _, _, _, _, _, _, _, rfl, _⟩ := h; rfl) | (obtain ⟨_, _, _, _, _, _, _, _, _, rfl, _⟩ := h; rfl) | (obtain ⟨_, rfl | rfl, _⟩ := h <;> rfl) | (obtain ⟨_, _, rfl | rfl, _⟩ := h <;> rfl) | (obtain ⟨_, _, _, rfl | rfl, _⟩ := h <;> rfl) | (obtain ⟨_, _, _, _, rfl | rfl, _⟩ := h <;> rfl)
theorem len__law_cell (ds : List Dt) (Φ : Slot → Prop) (Ξ : XD → Prop) (h : sp__law_cell ds Φ Ξ) : ds.length = 2 := by
  first | (obtain ⟨rfl, _⟩ := h; rfl) | (obtain ⟨_, rfl, _⟩ := h; rfl) | (obtain ⟨_, _, rfl, _⟩ := h; rfl) | (obtain ⟨_, _, _, rfl, _⟩ := h; rfl) | (obtain ⟨_, _, _, _, rfl, _⟩ := h; rfl) | (obtain ⟨_, _, _, _, _, rfl, _⟩ := h; rfl) | (obtain ⟨_, _, _, _, _, _, rfl, _⟩ := h; rfl) | (obtain ⟨_, _, _, _, _, _, _, rfl, _⟩ := h; rfl) | (obtain ⟨_, _, _, _, _, _, _, _, rfl, _⟩ := h; rfl) | (obtain ⟨_, _, _, _, _, _, _, _, _, rfl, _⟩ := h; rfl) | (obtain ⟨_, rfl | rfl, _⟩ := h <;> rfl) | (obtain ⟨_, _, rfl | rfl, _⟩ := h <;> rfl) | (obtain ⟨_, _, _, rfl | rfl, _⟩ := h <;> rfl) | (obtain ⟨_, _, _, _, rfl | rfl, _⟩ := h <;> rfl)
theorem len__law_numbers (ds : List Dt) (Φ : Slot → Prop) (Ξ : XD → Prop) (h : sp__law_numbers ds Φ Ξ) : ds.length = 2 := by
  first | (obtain ⟨rfl, _⟩ := h; rfl) | (obtain ⟨_, rfl, _⟩ := h; rfl) | (obtain ⟨_, _, rfl, _⟩ := h; rfl) | (obtain ⟨_, _, _, rfl, _⟩ := h; rfl) | (obtain ⟨_, _, _, _, rfl, _⟩ := h; rfl) | (obtain ⟨_, _, _, _, _, rfl, _⟩ := h; rfl) | (obtain ⟨_, _, _, _, _, _, rfl, _⟩ := h; rfl) | (obtain ⟨_, _, _, _, _, _, _, rfl, _⟩ := h; rfl) | (obtain ⟨_, _, _, _, _, _, _, _, rfl, _⟩ := h; rfl) | (obtain ⟨_, _, _, _, _, _, _, _, _, rfl, _⟩ := h; rfl) | (obtain ⟨_, rfl | rfl, _⟩ := h <;> rfl) | (obtain ⟨_, _, rfl | rfl, _⟩ := h <;> rfl) | (obtain ⟨_, _, _, rfl | rfl, _⟩ := h <;> rfl) | (obtain ⟨_, _, _, _, rfl | rfl, _⟩ := h <;> rfl)
theorem len__law_low (ds : List Dt) (Φ : Slot → Prop) (Ξ : XD → Prop) (h : sp__law_low ds Φ Ξ) : ds.length = 2 := by
  first | (obtain ⟨rfl, _⟩ := h; rfl) | (obtain ⟨_, rfl, _⟩ := h; rfl) | (obtain ⟨_, _, rfl, _⟩ := h; rfl) | (obtain ⟨_, _, _, rfl, _⟩ := h; rfl) | (obtain ⟨_, _, _, _, rfl, _⟩ := h; rfl) | (obtain ⟨_, _, _, _, _, rfl, _⟩ := h; rfl) | (obtain ⟨_, _, _, _, _, _, rfl, _⟩ := h; rfl) | (obtain ⟨_, _, _, _, _, _, _, rfl, _⟩ := h; rfl) | (obtain ⟨_, _, _, _, _, _, _, _, rfl, _⟩ := h; rfl) | (obtain ⟨_, _, _, _, _, _, _, _, _, rfl, _⟩ := h; rfl) | (obtain ⟨_, rfl | rfl, _⟩ := h <;> rfl) | (obtain ⟨_, _, rfl | rfl, _⟩ := h <;> rfl) | (obtain ⟨_, _, _, rfl | rfl, _⟩ := h <;> rfl) | (obtain ⟨_, _, _, _, rfl | rfl, _⟩ := h <;> rfl)
theorem len__law_fraction (ds : List Dt) (Φ : Slot → Prop) (Ξ : XD → Prop) (h : sp__law_fraction ds Φ Ξ) : ds.length = 3 := by
  first | (obtain ⟨rfl, _⟩ := h; rfl) | (obtain ⟨_, rfl, _⟩ := h; rfl) | (obtain ⟨_, _, rfl, _⟩ := h; rfl) | (obtain ⟨_, _, _, rfl, _⟩ := h; rfl) | (obtain ⟨_, _, _, _, rfl, _⟩ := h; rfl) | (obtain ⟨_, _, _, _, _, rfl, _⟩ := h; rfl) | (obtain ⟨_, _, _, _, _, _, rfl, _⟩ := h; rfl) | (obtain ⟨_, _, _, _, _, _, _, rfl, _⟩ := h; rfl) | (obtain ⟨_, _, _, _, _, _, _, _, rfl, _⟩ := h; rfl) | (obtain ⟨_, _, _, _, _, _, _, _, _, rfl, _⟩ := h; rfl) | (obtain ⟨_, rfl | rfl, _⟩ := h <;> rfl) | (obtain ⟨_, _, rfl | rfl, _⟩ := h <;> rfl) | (obtain ⟨_, _, _, rfl | rfl, _⟩ := h <;> rfl) | (obtain ⟨_, _, _, _, rfl | rfl, _⟩ := h <;> rfl)
theorem len__law_less (ds : List Dt) (Φ : Slot → Prop) (Ξ : XD → Prop) (h : sp__law_less ds Φ Ξ) : ds.length = 2 := by
  first | (obtain ⟨rfl, _⟩ := h; rfl) | (obtain ⟨_, rfl, _⟩ := h; rfl) | (obtain ⟨_, _, rfl, _⟩ := h; rfl) | (obtain ⟨_, _, _, rfl, _⟩ := h; rfl) | (obtain ⟨_, _, _, _, rfl, _⟩ := h; rfl) | (obtain ⟨_, _, _, _, _, rfl, _⟩ := h; rfl) | (obtain ⟨_, _, _, _, _, _, rfl, _⟩ := h; rfl) | (obtain ⟨_, _, _, _, _, _, _, rfl, _⟩ := h; rfl) | (obtain ⟨_, _, _, _, _, _, _, _, rfl, _⟩ := h; rfl) | (obtain ⟨_, _, _, _, _, _, _, _, _, rfl, _⟩ := h; rfl) | (obtain ⟨_, rfl | rfl, _⟩ := h <;> rfl) | (obtain ⟨_, _, rfl | rfl, _⟩ := h <;> rfl) | (obtain ⟨_, _, _, rfl | rfl, _⟩ := h <;> rfl) | (obtain ⟨_, _, _, _, rfl | rfl, _⟩ := h <;> rfl)
theorem len__law_before (ds : List Dt) (Φ : Slot → Prop) (Ξ : XD → Prop) (h : sp__law_before ds Φ Ξ) : ds.length = 2 := by
  first | (obtain ⟨rfl, _⟩ := h; rfl) | (obtain ⟨_, rfl, _⟩ := h; rfl) | (obtain ⟨_, _, rfl, _⟩ := h; rfl) | (obtain ⟨_, _, _, rfl, _⟩ := h; rfl) | (obtain ⟨_, _, _, _, rfl, _⟩ := h; rfl) | (obtain ⟨_, _, _, _, _, rfl, _⟩ := h; rfl) | (obtain ⟨_, _, _, _, _, _, rfl, _⟩ := h; rfl) | (obtain ⟨_, _, _, _, _, _, _, rfl, _⟩ := h; rfl) | (obtain ⟨_, _, _, _, _, _, _, _, rfl, _⟩ := h; rfl) | (obtain ⟨_, _, _, _, _, _, _, _, _, rfl, _⟩ := h; rfl) | (obtain ⟨_, rfl | rfl, _⟩ := h <;> rfl) | (obtain ⟨_, _, rfl | rfl, _⟩ := h <;> rfl) | (obtain ⟨_, _, _, rfl | rfl, _⟩ := h <;> rfl) | (obtain ⟨_, _, _, _, rfl | rfl, _⟩ := h <;> rfl)
theorem len__law_at (ds : List Dt) (Φ : Slot → Prop) (Ξ : XD → Prop) (h : sp__law_at ds Φ Ξ) : ds.length = 2 := by
  first | (obtain ⟨rfl, _⟩ := h; rfl) | (obtain ⟨_, rfl, _⟩ := h; rfl) | (obtain ⟨_, _, rfl, _⟩ := h; rfl) | (obtain ⟨_, _, _, rfl, _⟩ := h; rfl) | (obtain ⟨_, _, _, _, rfl, _⟩ := h; rfl) | (obtain ⟨_, _, _, _, _, rfl, _⟩ := h; rfl) | (obtain ⟨_, _, _, _, _, _, rfl, _⟩ := h; rfl) | (obtain ⟨_, _, _, _, _, _, _, rfl, _⟩ := h; rfl) | (obtain ⟨_, _, _, _, _, _, _, _, rfl, _⟩ := h; rfl) | (obtain ⟨_, _, _, _, _, _, _, _, _, rfl, _⟩ := h; rfl) | (obtain ⟨_, rfl | rfl, _⟩ := h <;> rfl) | (obtain ⟨_, _, rfl | rfl, _⟩ := h <;> rfl) | (obtain ⟨_, _, _, rfl | rfl, _⟩ := h <;> rfl) | (obtain ⟨_, _, _, _, rfl | rfl, _⟩ := h <;> rfl)
theorem len__law_spot (ds : List Dt) (Φ : Slot → Prop) (Ξ : XD → Prop) (h : sp__law_spot ds Φ Ξ) : ds.length = 2 := by
  first | (obtain ⟨rfl, _⟩ := h; rfl) | (obtain ⟨_, rfl, _⟩ := h; rfl) | (obtain ⟨_, _, rfl, _⟩ := h; rfl) | (obtain ⟨_, _, _, rfl, _⟩ := h; rfl) | (obtain ⟨_, _, _, _, rfl, _⟩ := h; rfl) | (obtain ⟨_, _, _, _, _, rfl, _⟩ := h; rfl) | (obtain ⟨_, _, _, _, _, _, rfl, _⟩ := h; rfl) | (obtain ⟨_, _, _, _, _, _, _, rfl, _⟩ := h; rfl) | (obtain ⟨_, _, _, _, _, _, _, _, rfl, _⟩ := h; rfl) | (obtain ⟨_, _, _, _, _, _, _, _, _, rfl, _⟩ := h; rfl) | (obtain ⟨_, rfl | rfl, _⟩ := h <;> rfl) | (obtain ⟨_, _, rfl | rfl, _⟩ := h <;> rfl) | (obtain ⟨_, _, _, rfl | rfl, _⟩ := h <;> rfl) | (obtain ⟨_, _, _, _, rfl | rfl, _⟩ := h <;> rfl)
theorem len__law_side (ds : List Dt) (Φ : Slot → Prop) (Ξ : XD → Prop) (h : sp__law_side ds Φ Ξ) : ds.length = 2 := by
  first | (obtain ⟨rfl, _⟩ := h; rfl) | (obtain ⟨_, rfl, _⟩ := h; rfl) | (obtain ⟨_, _, rfl, _⟩ := h; rfl) | (obtain ⟨_, _, _, rfl, _⟩ := h; rfl) | (obtain ⟨_, _, _, _, rfl, _⟩ := h; rfl) | (obtain ⟨_, _, _, _, _, rfl, _⟩ := h; rfl) | (obtain ⟨_, _, _, _, _, _, rfl, _⟩ := h; rfl) | (obtain ⟨_, _, _, _, _, _, _, rfl, _⟩ := h; rfl) | (obtain ⟨_, _, _, _, _, _, _, _, rfl, _⟩ := h; rfl) | (obtain ⟨_, _, _, _, _, _, _, _, _, rfl, _⟩ := h; rfl) | (obtain ⟨_, rfl | rfl, _⟩ := h <;> rfl) | (obtain ⟨_, _, rfl | rfl, _⟩ := h <;> rfl) | (obtain ⟨_, _, _, rfl | rfl, _⟩ := h <;> rfl) | (obtain ⟨_, _, _, _, rfl | rfl, _⟩ := h <;> rfl)
theorem len__law_other (ds : List Dt) (Φ : Slot → Prop) (Ξ : XD → Prop) (h : sp__law_other ds Φ Ξ) : ds.length = 3 := by
  first | (obtain ⟨rfl, _⟩ := h; rfl) | (obtain ⟨_, rfl, _⟩ := h; rfl) | (obtain ⟨_, _, rfl, _⟩ := h; rfl) | (obtain ⟨_, _, _, rfl, _⟩ := h; rfl) | (obtain ⟨_, _, _, _, rfl, _⟩ := h; rfl) | (obtain ⟨_, _, _, _, _, rfl, _⟩ := h; rfl) | (obtain ⟨_, _, _, _, _, _, rfl, _⟩ := h; rfl) | (obtain ⟨_, _, _, _, _, _, _, rfl, _⟩ := h; rfl) | (obtain ⟨_, _, _, _, _, _, _, _, rfl, _⟩ := h; rfl) | (obtain ⟨_, _, _, _, _, _, _, _, _, rfl, _⟩ := h; rfl) | (obtain ⟨_, rfl | rfl, _⟩ := h <;> rfl) | (obtain ⟨_, _, rfl | rfl, _⟩ := h <;> rfl) | (obtain ⟨_, _, _, rfl | rfl, _⟩ := h <;> rfl) | (obtain ⟨_, _, _, _, rfl | rfl, _⟩ := h <;> rfl)
theorem len__law_made_of (ds : List Dt) (Φ : Slot → Prop) (Ξ : XD → Prop) (h : sp__law_made_of ds Φ Ξ) : ds.length = 2 := by
  first | (obtain ⟨rfl, _⟩ := h; rfl) | (obtain ⟨_, rfl, _⟩ := h; rfl) | (obtain ⟨_, _, rfl, _⟩ := h; rfl) | (obtain ⟨_, _, _, rfl, _⟩ := h; rfl) | (obtain ⟨_, _, _, _, rfl, _⟩ := h; rfl) | (obtain ⟨_, _, _, _, _, rfl, _⟩ := h; rfl) | (obtain ⟨_, _, _, _, _, _, rfl, _⟩ := h; rfl) | (obtain ⟨_, _, _, _, _, _, _, rfl, _⟩ := h; rfl) | (obtain ⟨_, _, _, _, _, _, _, _, rfl, _⟩ := h; rfl) | (obtain ⟨_, _, _, _, _, _, _, _, _, rfl, _⟩ := h; rfl) | (obtain ⟨_, rfl | rfl, _⟩ := h <;> rfl) | (obtain ⟨_, _, rfl | rfl, _⟩ := h <;> rfl) | (obtain ⟨_, _, _, rfl | rfl, _⟩ := h <;> rfl) | (obtain ⟨_, _, _, _, rfl | rfl, _⟩ := h <;> rfl)
theorem len__law_carrying (ds : List Dt) (Φ : Slot → Prop) (Ξ : XD → Prop) (h : sp__law_carrying ds Φ Ξ) : ds.length = 1 := by
  first | (obtain ⟨rfl, _⟩ := h; rfl) | (obtain ⟨_, rfl, _⟩ := h; rfl) | (obtain ⟨_, _, rfl, _⟩ := h; rfl) | (obtain ⟨_, _, _, rfl, _⟩ := h; rfl) | (obtain ⟨_, _, _, _, rfl, _⟩ := h; rfl) | (obtain ⟨_, _, _, _, _, rfl, _⟩ := h; rfl) | (obtain ⟨_, _, _, _, _, _, rfl, _⟩ := h; rfl) | (obtain ⟨_, _, _, _, _, _, _, rfl, _⟩ := h; rfl) | (obtain ⟨_, _, _, _, _, _, _, _, rfl, _⟩ := h; rfl) | (obtain ⟨_, _, _, _, _, _, _, _, _, rfl, _⟩ := h; rfl) | (obtain ⟨_, rfl | rfl, _⟩ := h <;> rfl) | (obtain ⟨_, _, rfl | rfl, _⟩ := h <;> rfl) | (obtain ⟨_, _, _, rfl | rfl, _⟩ := h <;> rfl) | (obtain ⟨_, _, _, _, rfl | rfl, _⟩ := h <;> rfl)
theorem len__law_carried (ds : List Dt) (Φ : Slot → Prop) (Ξ : XD → Prop) (h : sp__law_carried ds Φ Ξ) : ds.length = 2 := by
  first | (obtain ⟨rfl, _⟩ := h; rfl) | (obtain ⟨_, rfl, _⟩ := h; rfl) | (obtain ⟨_, _, rfl, _⟩ := h; rfl) | (obtain ⟨_, _, _, rfl, _⟩ := h; rfl) | (obtain ⟨_, _, _, _, rfl, _⟩ := h; rfl) | (obtain ⟨_, _, _, _, _, rfl, _⟩ := h; rfl) | (obtain ⟨_, _, _, _, _, _, rfl, _⟩ := h; rfl) | (obtain ⟨_, _, _, _, _, _, _, rfl, _⟩ := h; rfl) | (obtain ⟨_, _, _, _, _, _, _, _, rfl, _⟩ := h; rfl) | (obtain ⟨_, _, _, _, _, _, _, _, _, rfl, _⟩ := h; rfl) | (obtain ⟨_, rfl | rfl, _⟩ := h <;> rfl) | (obtain ⟨_, _, rfl | rfl, _⟩ := h <;> rfl) | (obtain ⟨_, _, _, rfl | rfl, _⟩ := h <;> rfl) | (obtain ⟨_, _, _, _, rfl | rfl, _⟩ := h <;> rfl)
theorem len__law_told (ds : List Dt) (Φ : Slot → Prop) (Ξ : XD → Prop) (h : sp__law_told ds Φ Ξ) : ds.length = 2 := by
  first | (obtain ⟨rfl, _⟩ := h; rfl) | (obtain ⟨_, rfl, _⟩ := h; rfl) | (obtain ⟨_, _, rfl, _⟩ := h; rfl) | (obtain ⟨_, _, _, rfl, _⟩ := h; rfl) | (obtain ⟨_, _, _, _, rfl, _⟩ := h; rfl) | (obtain ⟨_, _, _, _, _, rfl, _⟩ := h; rfl) | (obtain ⟨_, _, _, _, _, _, rfl, _⟩ := h; rfl) | (obtain ⟨_, _, _, _, _, _, _, rfl, _⟩ := h; rfl) | (obtain ⟨_, _, _, _, _, _, _, _, rfl, _⟩ := h; rfl) | (obtain ⟨_, _, _, _, _, _, _, _, _, rfl, _⟩ := h; rfl) | (obtain ⟨_, rfl | rfl, _⟩ := h <;> rfl) | (obtain ⟨_, _, rfl | rfl, _⟩ := h <;> rfl) | (obtain ⟨_, _, _, rfl | rfl, _⟩ := h <;> rfl) | (obtain ⟨_, _, _, _, rfl | rfl, _⟩ := h <;> rfl)
theorem len__law_first_and_last (ds : List Dt) (Φ : Slot → Prop) (Ξ : XD → Prop) (h : sp__law_first_and_last ds Φ Ξ) : ds.length = 1 := by
  first | (obtain ⟨rfl, _⟩ := h; rfl) | (obtain ⟨_, rfl, _⟩ := h; rfl) | (obtain ⟨_, _, rfl, _⟩ := h; rfl) | (obtain ⟨_, _, _, rfl, _⟩ := h; rfl) | (obtain ⟨_, _, _, _, rfl, _⟩ := h; rfl) | (obtain ⟨_, _, _, _, _, rfl, _⟩ := h; rfl) | (obtain ⟨_, _, _, _, _, _, rfl, _⟩ := h; rfl) | (obtain ⟨_, _, _, _, _, _, _, rfl, _⟩ := h; rfl) | (obtain ⟨_, _, _, _, _, _, _, _, rfl, _⟩ := h; rfl) | (obtain ⟨_, _, _, _, _, _, _, _, _, rfl, _⟩ := h; rfl) | (obtain ⟨_, rfl | rfl, _⟩ := h <;> rfl) | (obtain ⟨_, _, rfl | rfl, _⟩ := h <;> rfl) | (obtain ⟨_, _, _, rfl | rfl, _⟩ := h <;> rfl) | (obtain ⟨_, _, _, _, rfl | rfl, _⟩ := h <;> rfl)
theorem len__law_cut (ds : List Dt) (Φ : Slot → Prop) (Ξ : XD → Prop) (h : sp__law_cut ds Φ Ξ) : ds.length = 4 := by
  first | (obtain ⟨rfl, _⟩ := h; rfl) | (obtain ⟨_, rfl, _⟩ := h; rfl) | (obtain ⟨_, _, rfl, _⟩ := h; rfl) | (obtain ⟨_, _, _, rfl, _⟩ := h; rfl) | (obtain ⟨_, _, _, _, rfl, _⟩ := h; rfl) | (obtain ⟨_, _, _, _, _, rfl, _⟩ := h; rfl) | (obtain ⟨_, _, _, _, _, _, rfl, _⟩ := h; rfl) | (obtain ⟨_, _, _, _, _, _, _, rfl, _⟩ := h; rfl) | (obtain ⟨_, _, _, _, _, _, _, _, rfl, _⟩ := h; rfl) | (obtain ⟨_, _, _, _, _, _, _, _, _, rfl, _⟩ := h; rfl) | (obtain ⟨_, rfl | rfl, _⟩ := h <;> rfl) | (obtain ⟨_, _, rfl | rfl, _⟩ := h <;> rfl) | (obtain ⟨_, _, _, rfl | rfl, _⟩ := h <;> rfl) | (obtain ⟨_, _, _, _, rfl | rfl, _⟩ := h <;> rfl)
theorem len__law_on_both (ds : List Dt) (Φ : Slot → Prop) (Ξ : XD → Prop) (h : sp__law_on_both ds Φ Ξ) : ds.length = 3 := by
  first | (obtain ⟨rfl, _⟩ := h; rfl) | (obtain ⟨_, rfl, _⟩ := h; rfl) | (obtain ⟨_, _, rfl, _⟩ := h; rfl) | (obtain ⟨_, _, _, rfl, _⟩ := h; rfl) | (obtain ⟨_, _, _, _, rfl, _⟩ := h; rfl) | (obtain ⟨_, _, _, _, _, rfl, _⟩ := h; rfl) | (obtain ⟨_, _, _, _, _, _, rfl, _⟩ := h; rfl) | (obtain ⟨_, _, _, _, _, _, _, rfl, _⟩ := h; rfl) | (obtain ⟨_, _, _, _, _, _, _, _, rfl, _⟩ := h; rfl) | (obtain ⟨_, _, _, _, _, _, _, _, _, rfl, _⟩ := h; rfl) | (obtain ⟨_, rfl | rfl, _⟩ := h <;> rfl) | (obtain ⟨_, _, rfl | rfl, _⟩ := h <;> rfl) | (obtain ⟨_, _, _, rfl | rfl, _⟩ := h <;> rfl) | (obtain ⟨_, _, _, _, rfl | rfl, _⟩ := h <;> rfl)
theorem len__law_in_order (ds : List Dt) (Φ : Slot → Prop) (Ξ : XD → Prop) (h : sp__law_in_order ds Φ Ξ) : ds.length = 2 := by
  first | (obtain ⟨rfl, _⟩ := h; rfl) | (obtain ⟨_, rfl, _⟩ := h; rfl) | (obtain ⟨_, _, rfl, _⟩ := h; rfl) | (obtain ⟨_, _, _, rfl, _⟩ := h; rfl) | (obtain ⟨_, _, _, _, rfl, _⟩ := h; rfl) | (obtain ⟨_, _, _, _, _, rfl, _⟩ := h; rfl) | (obtain ⟨_, _, _, _, _, _, rfl, _⟩ := h; rfl) | (obtain ⟨_, _, _, _, _, _, _, rfl, _⟩ := h; rfl) | (obtain ⟨_, _, _, _, _, _, _, _, rfl, _⟩ := h; rfl) | (obtain ⟨_, _, _, _, _, _, _, _, _, rfl, _⟩ := h; rfl) | (obtain ⟨_, rfl | rfl, _⟩ := h <;> rfl) | (obtain ⟨_, _, rfl | rfl, _⟩ := h <;> rfl) | (obtain ⟨_, _, _, rfl | rfl, _⟩ := h <;> rfl) | (obtain ⟨_, _, _, _, rfl | rfl, _⟩ := h <;> rfl)
theorem len_law (ds : List Dt) (Φ : Slot → Prop) (Ξ : XD → Prop) (h : sp_law ds Φ Ξ) : ds.length = 1 := by
  first | (obtain ⟨rfl, _⟩ := h; rfl) | (obtain ⟨_, rfl, _⟩ := h; rfl) | (obtain ⟨_, _, rfl, _⟩ := h; rfl) | (obtain ⟨_, _, _, rfl, _⟩ := h; rfl) | (obtain ⟨_, _, _, _, rfl, _⟩ := h; rfl) | (obtain ⟨_, _, _, _, _, rfl, _⟩ := h; rfl) | (obtain ⟨_, _, _, _, _, _, rfl, _⟩ := h; rfl) | (obtain ⟨_, _, _, _, _, _, _, rfl, _⟩ := h; rfl) | (obtain ⟨_, _, _, _, _, _, _, _, rfl, _⟩ := h; rfl) | (obtain ⟨_, _, _, _, _, _, _, _, _, rfl, _⟩ := h; rfl) | (obtain ⟨_, rfl | rfl, _⟩ := h <;> rfl) | (obtain ⟨_, _, rfl | rfl, _⟩ := h <;> rfl) | (obtain ⟨_, _, _, rfl | rfl, _⟩ := h <;> rfl) | (obtain ⟨_, _, _, _, rfl | rfl, _⟩ := h <;> rfl)
section
variable {P : Program} {w : World} {K : PySem.W.Frag} {mg : Str → Option Value} {base : Heap}
theorem ok_great_part {f : Addr} {fd : FuncData} (F : FnP K "great_part" s_great_part f fd) (b_abs : mg "abs" = none) : FnOk P w K mg base (L2.CX P w) 1 f fd ["one", "other"] (lift K sp_great_part) :=
  fn_ok F sc_great_part (by decide) len_great_part (fun cdv A outer s H E hr => ⟨d_great_part, der_great_part b_abs hr, fun ds Φ Ξ h => by rw [rho0_len_eq (N := M_great_part) (M := N_great_part) rfl]; exact rd_great_part ds Φ Ξ h⟩)
theorem ok_lowest {f : Addr} {fd : FuncData} (F : FnP K "lowest" s_lowest f fd) (n_great_part : FN P w K mg base "great_part" 1 sp_great_part) : FnOk P w K mg base (L2.CX P w) 2 f fd ["top", "bottom"] (lift K sp_lowest) :=
  fn_ok F sc_lowest (by decide) len_lowest (fun cdv A outer s H E hr => ⟨d_lowest, der_lowest n_great_part hr, fun ds Φ Ξ h => by rw [rho0_len_eq (N := M_lowest) (M := N_lowest) rfl]; exact rd_lowest ds Φ Ξ h⟩)
theorem ok_plus {f : Addr} {fd : FuncData} (F : FnP K "plus" s_plus f fd) (n_lowest : FN P w K mg base "lowest" 2 sp_lowest) : FnOk P w K mg base (L2.CX P w) 3 f fd ["a", "b"] (lift K sp_plus) :=
  fn_ok F sc_plus (by decide) len_plus (fun cdv A outer s H E hr => ⟨d_plus, der_plus n_lowest hr, fun ds Φ Ξ h => by rw [rho0_len_eq (N := M_plus) (M := N_plus) rfl]; exact rd_plus ds Φ Ξ h⟩)
theorem ok_minus {f : Addr} {fd : FuncData} (F : FnP K "minus" s_minus f fd) (n_lowest : FN P w K mg base "lowest" 2 sp_lowest) : FnOk P w K mg base (L2.CX P w) 3 f fd ["a", "b"] (lift K sp_minus) :=
  fn_ok F sc_minus (by decide) len_minus (fun cdv A outer s H E hr => ⟨d_minus, der_minus n_lowest hr, fun ds Φ Ξ h => by rw [rho0_len_eq (N := M_minus) (M := N_minus) rfl]; exact rd_minus ds Φ Ξ h⟩)
theorem ok_times {f : Addr} {fd : FuncData} (F : FnP K "times" s_times f fd) (n_lowest : FN P w K mg base "lowest" 2 sp_lowest) : FnOk P w K mg base (L2.CX P w) 3 f fd ["a", "b"] (lift K sp_times) :=
  fn_ok F sc_times (by decide) len_times (fun cdv A outer s H E hr => ⟨d_times, der_times n_lowest hr, fun ds Φ Ξ h => by rw [rho0_len_eq (N := M_times) (M := N_times) rfl]; exact rd_times ds Φ Ξ h⟩)
theorem ok_over {f : Addr} {fd : FuncData} (F : FnP K "over" s_over f fd) (n_lowest : FN P w K mg base "lowest" 2 sp_lowest) (x_f_NoNumber : ExF K "NoNumber") (x_k_NoNumber : mg "NoNumber" = some (.ref (He.ga K "NoNumber"))) : FnOk P w K mg base (L2.CX P w) 3 f fd ["a", "b"] (lift K sp_over) :=
  fn_ok F sc_over (by decide) len_over (fun cdv A outer s H E hr => ⟨d_over, der_over n_lowest x_f_NoNumber x_k_NoNumber hr, fun ds Φ Ξ h => by rw [rho0_len_eq (N := M_over) (M := N_over) rfl]; exact rd_over ds Φ Ξ h⟩)
theorem ok_below {f : Addr} {fd : FuncData} (F : FnP K "below" s_below f fd)  : FnOk P w K mg base (L2.CX P w) 1 f fd ["a", "b"] (lift K sp_below) :=
  fn_ok F sc_below (by decide) len_below (fun cdv A outer s H E hr => ⟨d_below, der_below  hr, fun ds Φ Ξ h => by rw [rho0_len_eq (N := M_below) (M := N_below) rfl]; exact rd_below ds Φ Ξ h⟩)
theorem ok_before {f : Addr} {fd : FuncData} (F : FnP K "before" s_before f fd) (n_below : FN P w K mg base "below" 1 sp_below) : FnOk P w K mg base (L2.CX P w) 2 f fd ["a", "b"] (lift K sp_before) :=
  fn_ok F sc_before (by decide) len_before (fun cdv A outer s H E hr => ⟨d_before, der_before n_below hr, fun ds Φ Ξ h => by rw [rho0_len_eq (N := M_before) (M := N_before) rfl]; exact rd_before ds Φ Ξ h⟩)
theorem ok_in_order {f : Addr} {fd : FuncData} (F : FnP K "in_order" s_in_order f fd) (n_before : FN P w K mg base "before" 2 sp_before) (b_len : mg "len" = none) : FnOk P w K mg base (L2.CX P w) 3 f fd ["points"] (lift K sp_in_order) :=
  fn_ok F sc_in_order (by decide) len_in_order (fun cdv A outer s H E hr => ⟨d_in_order, der_in_order n_before b_len hr, fun ds Φ Ξ h => by rw [rho0_len_eq (N := M_in_order) (M := N_in_order) rfl]; exact rd_in_order ds Φ Ξ h⟩)
theorem ok_cross_of {f : Addr} {fd : FuncData} (F : FnP K "cross_of" s_cross_of f fd) (n_times : FN P w K mg base "times" 3 sp_times) (n_minus : FN P w K mg base "minus" 3 sp_minus) : FnOk P w K mg base (L2.CX P w) 4 f fd ["a", "b", "c"] (lift K sp_cross_of) :=
  fn_ok F sc_cross_of (by decide) len_cross_of (fun cdv A outer s H E hr => ⟨d_cross_of, der_cross_of n_times n_minus hr, fun ds Φ Ξ h => by rw [rho0_len_eq (N := M_cross_of) (M := N_cross_of) rfl]; exact rd_cross_of ds Φ Ξ h⟩)
theorem ok_sign_of {f : Addr} {fd : FuncData} (F : FnP K "sign_of" s_sign_of f fd) (b_int : mg "int" = none) : FnOk P w K mg base (L2.CX P w) 1 f fd ["number"] (lift K sp_sign_of) :=
  fn_ok F sc_sign_of (by decide) len_sign_of (fun cdv A outer s H E hr => ⟨d_sign_of, der_sign_of b_int hr, fun ds Φ Ξ h => by rw [rho0_len_eq (N := M_sign_of) (M := N_sign_of) rfl]; exact rd_sign_of ds Φ Ξ h⟩)
theorem ok_side_of {f : Addr} {fd : FuncData} (F : FnP K "side_of" s_side_of f fd) (n_sign_of : FN P w K mg base "sign_of" 1 sp_sign_of) (n_cross_of : FN P w K mg base "cross_of" 4 sp_cross_of) : FnOk P w K mg base (L2.CX P w) 5 f fd ["side", "point"] (lift K sp_side_of) :=
  fn_ok F sc_side_of (by decide) len_side_of (fun cdv A outer s H E hr => ⟨d_side_of, der_side_of n_sign_of n_cross_of hr, fun ds Φ Ξ h => by rw [rho0_len_eq (N := M_side_of) (M := N_side_of) rfl]; exact rd_side_of ds Φ Ξ h⟩)
theorem ok_is_on {f : Addr} {fd : FuncData} (F : FnP K "is_on" s_is_on f fd) (n_side_of : FN P w K mg base "side_of" 5 sp_side_of) (n_in_order : FN P w K mg base "in_order" 3 sp_in_order) (n_before : FN P w K mg base "before" 2 sp_before) (b_list : mg "list" = none) : FnOk P w K mg base (L2.CX P w) 6 f fd ["side", "point"] (lift K sp_is_on) :=
  fn_ok F sc_is_on (by decide) len_is_on (fun cdv A outer s H E hr => ⟨d_is_on, der_is_on n_side_of n_in_order n_before b_list hr, fun ds Φ Ξ h => by rw [rho0_len_eq (N := M_is_on) (M := N_is_on) rfl]; exact rd_is_on ds Φ Ξ h⟩)
theorem ok_moved {f : Addr} {fd : FuncData} (F : FnP K "moved" s_moved f fd) (n_plus : FN P w K mg base "plus" 3 sp_plus) (n_times : FN P w K mg base "times" 3 sp_times) (n_minus : FN P w K mg base "minus" 3 sp_minus) : FnOk P w K mg base (L2.CX P w) 4 f fd ["one", "far"] (lift K sp_moved) :=
  fn_ok F sc_moved (by decide) len_moved (fun cdv A outer s H E hr => ⟨d_moved, der_moved n_plus n_times n_minus hr, fun ds Φ Ξ h => by rw [rho0_len_eq (N := M_moved) (M := N_moved) rfl]; exact rd_moved ds Φ Ξ h⟩)
theorem ok_meet_along {f : Addr} {fd : FuncData} (F : FnP K "meet_along" s_meet_along f fd) (n_in_order : FN P w K mg base "in_order" 3 sp_in_order) (n_before : FN P w K mg base "before" 2 sp_before) (b_list : mg "list" = none) : FnOk P w K mg base (L2.CX P w) 4 f fd ["one", "other"] (lift K sp_meet_along) :=
  fn_ok F sc_meet_along (by decide) len_meet_along (fun cdv A outer s H E hr => ⟨d_meet_along, der_meet_along n_in_order n_before b_list hr, fun ds Φ Ξ h => by rw [rho0_len_eq (N := M_meet_along) (M := N_meet_along) rfl]; exact rd_meet_along ds Φ Ξ h⟩)
theorem ok_crossing {f : Addr} {fd : FuncData} (F : FnP K "crossing" s_crossing f fd) (n_cross_of : FN P w K mg base "cross_of" 4 sp_cross_of) (n_moved : FN P w K mg base "moved" 4 sp_moved) (n_over : FN P w K mg base "over" 3 sp_over) (n_minus : FN P w K mg base "minus" 3 sp_minus) : FnOk P w K mg base (L2.CX P w) 5 f fd ["one", "other"] (lift K sp_crossing) :=
  fn_ok F sc_crossing (by decide) len_crossing (fun cdv A outer s H E hr => ⟨d_crossing, der_crossing n_cross_of n_moved n_over n_minus hr, fun ds Φ Ξ h => by rw [rho0_len_eq (N := M_crossing) (M := N_crossing) rfl]; exact rd_crossing ds Φ Ξ h⟩)
theorem ok_meet {f : Addr} {fd : FuncData} (F : FnP K "meet" s_meet f fd) (n_side_of : FN P w K mg base "side_of" 5 sp_side_of) (n_meet_along : FN P w K mg base "meet_along" 4 sp_meet_along) (n_crossing : FN P w K mg base "crossing" 5 sp_crossing) : FnOk P w K mg base (L2.CX P w) 6 f fd ["one", "other"] (lift K sp_meet) :=
  fn_ok F sc_meet (by decide) len_meet (fun cdv A outer s H E hr => ⟨d_meet, der_meet n_side_of n_meet_along n_crossing hr, fun ds Φ Ξ h => by rw [rho0_len_eq (N := M_meet) (M := N_meet) rfl]; exact rd_meet ds Φ Ξ h⟩)
theorem ok__law_cell {f : Addr} {fd : FuncData} (F : FnP K "_law_cell" s__law_cell f fd) (b_len : mg "len" = none) : FnOk P w K mg base (L2.CX P w) 1 f fd ["_law_script", "_law_k"] (lift K sp__law_cell) :=
  fn_ok F sc__law_cell (by decide) len__law_cell (fun cdv A outer s H E hr => ⟨d__law_cell, der__law_cell b_len hr, fun ds Φ Ξ h => by rw [rho0_len_eq (N := M__law_cell) (M := N__law_cell) rfl]; exact rd__law_cell ds Φ Ξ h⟩)
theorem ok__law_numbers {f : Addr} {fd : FuncData} (F : FnP K "_law_numbers" s__law_numbers f fd) (b_abs : mg "abs" = none) (b_range : mg "range" = none) (b_int : mg "int" = none) : FnOk P w K mg base (L2.CX P w) 1 f fd ["_law_cell_here", "_law_many"] (lift K sp__law_numbers) :=
  fn_ok F sc__law_numbers (by decide) len__law_numbers (fun cdv A outer s H E hr => ⟨d__law_numbers, der__law_numbers b_abs b_range b_int hr, fun ds Φ Ξ h => by rw [rho0_len_eq (N := M__law_numbers) (M := N__law_numbers) rfl]; exact rd__law_numbers ds Φ Ξ h⟩)
theorem ok__law_low {f : Addr} {fd : FuncData} (F : FnP K "_law_low" s__law_low f fd) (b_abs : mg "abs" = none) : FnOk P w K mg base (L2.CX P w) 1 f fd ["_law_top", "_law_bottom"] (lift K sp__law_low) :=
  fn_ok F sc__law_low (by decide) len__law_low (fun cdv A outer s H E hr => ⟨d__law_low, der__law_low b_abs hr, fun ds Φ Ξ h => by rw [rho0_len_eq (N := M__law_low) (M := N__law_low) rfl]; exact rd__law_low ds Φ Ξ h⟩)
theorem ok__law_fraction {f : Addr} {fd : FuncData} (F : FnP K "_law_fraction" s__law_fraction f fd) (n__law_low : FN P w K mg base "_law_low" 1 sp__law_low) : FnOk P w K mg base (L2.CX P w) 2 f fd ["_law_x", "_law_y", "_law_mode"] (lift K sp__law_fraction) :=
  fn_ok F sc__law_fraction (by decide) len__law_fraction (fun cdv A outer s H E hr => ⟨d__law_fraction, der__law_fraction n__law_low hr, fun ds Φ Ξ h => by rw [rho0_len_eq (N := M__law_fraction) (M := N__law_fraction) rfl]; exact rd__law_fraction ds Φ Ξ h⟩)
theorem ok__law_less {f : Addr} {fd : FuncData} (F : FnP K "_law_less" s__law_less f fd)  : FnOk P w K mg base (L2.CX P w) 1 f fd ["_law_a", "_law_b"] (lift K sp__law_less) :=
  fn_ok F sc__law_less (by decide) len__law_less (fun cdv A outer s H E hr => ⟨d__law_less, der__law_less  hr, fun ds Φ Ξ h => by rw [rho0_len_eq (N := M__law_less) (M := N__law_less) rfl]; exact rd__law_less ds Φ Ξ h⟩)
theorem ok__law_before {f : Addr} {fd : FuncData} (F : FnP K "_law_before" s__law_before f fd) (n__law_less : FN P w K mg base "_law_less" 1 sp__law_less) : FnOk P w K mg base (L2.CX P w) 2 f fd ["_law_one", "_law_other_here"] (lift K sp__law_before) :=
  fn_ok F sc__law_before (by decide) len__law_before (fun cdv A outer s H E hr => ⟨d__law_before, der__law_before n__law_less hr, fun ds Φ Ξ h => by rw [rho0_len_eq (N := M__law_before) (M := N__law_before) rfl]; exact rd__law_before ds Φ Ξ h⟩)
theorem ok__law_at {f : Addr} {fd : FuncData} (F : FnP K "_law_at" s__law_at f fd) (n__law_low : FN P w K mg base "_law_low" 1 sp__law_low) (b_zip : mg "zip" = none) : FnOk P w K mg base (L2.CX P w) 2 f fd ["_law_side_here", "_law_k"] (lift K sp__law_at) :=
  fn_ok F sc__law_at (by decide) len__law_at (fun cdv A outer s H E hr => ⟨d__law_at, der__law_at n__law_low b_zip hr, fun ds Φ Ξ h => by rw [rho0_len_eq (N := M__law_at) (M := N__law_at) rfl]; exact rd__law_at ds Φ Ξ h⟩)
theorem ok__law_spot {f : Addr} {fd : FuncData} (F : FnP K "_law_spot" s__law_spot f fd) (n__law_fraction : FN P w K mg base "_law_fraction" 2 sp__law_fraction) : FnOk P w K mg base (L2.CX P w) 3 f fd ["_law_xs", "_law_mode"] (lift K sp__law_spot) :=
  fn_ok F sc__law_spot (by decide) len__law_spot (fun cdv A outer s H E hr => ⟨d__law_spot, der__law_spot n__law_fraction hr, fun ds Φ Ξ h => by rw [rho0_len_eq (N := M__law_spot) (M := N__law_spot) rfl]; exact rd__law_spot ds Φ Ξ h⟩)
theorem ok__law_side {f : Addr} {fd : FuncData} (F : FnP K "_law_side" s__law_side f fd) (n__law_spot : FN P w K mg base "_law_spot" 3 sp__law_spot) (n__law_low : FN P w K mg base "_law_low" 1 sp__law_low) (b_int : mg "int" = none) : FnOk P w K mg base (L2.CX P w) 4 f fd ["_law_xs", "_law_mode"] (lift K sp__law_side) :=
  fn_ok F sc__law_side (by decide) len__law_side (fun cdv A outer s H E hr => ⟨d__law_side, der__law_side n__law_spot n__law_low b_int hr, fun ds Φ Ξ h => by rw [rho0_len_eq (N := M__law_side) (M := N__law_side) rfl]; exact rd__law_side ds Φ Ξ h⟩)
theorem ok__law_other {f : Addr} {fd : FuncData} (F : FnP K "_law_other" s__law_other f fd) (n__law_side : FN P w K mg base "_law_side" 4 sp__law_side) (n__law_at : FN P w K mg base "_law_at" 2 sp__law_at) : FnOk P w K mg base (L2.CX P w) 5 f fd ["_law_side_here", "_law_xs", "_law_mode"] (lift K sp__law_other) :=
  fn_ok F sc__law_other (by decide) len__law_other (fun cdv A outer s H E hr => ⟨d__law_other, der__law_other n__law_side n__law_at hr, fun ds Φ Ξ h => by rw [rho0_len_eq (N := M__law_other) (M := N__law_other) rfl]; exact rd__law_other ds Φ Ξ h⟩)
theorem ok__law_made_of {f : Addr} {fd : FuncData} (F : FnP K "_law_made_of" s__law_made_of f fd) (n__law_low : FN P w K mg base "_law_low" 1 sp__law_low) : FnOk P w K mg base (L2.CX P w) 2 f fd ["_law_point", "_law_parts"] (lift K sp__law_made_of) :=
  fn_ok F sc__law_made_of (by decide) len__law_made_of (fun cdv A outer s H E hr => ⟨d__law_made_of, der__law_made_of n__law_low hr, fun ds Φ Ξ h => by rw [rho0_len_eq (N := M__law_made_of) (M := N__law_made_of) rfl]; exact rd__law_made_of ds Φ Ξ h⟩)
theorem ok__law_carrying {f : Addr} {fd : FuncData} (F : FnP K "_law_carrying" s__law_carrying f fd)  : FnOk P w K mg base (L2.CX P w) 1 f fd ["_law_xs"] (lift K sp__law_carrying) :=
  fn_ok F sc__law_carrying (by decide) len__law_carrying (fun cdv A outer s H E hr => ⟨d__law_carrying, der__law_carrying  hr, fun ds Φ Ξ h => by rw [rho0_len_eq (N := M__law_carrying) (M := N__law_carrying) rfl]; exact rd__law_carrying ds Φ Ξ h⟩)
theorem ok__law_carried {f : Addr} {fd : FuncData} (F : FnP K "_law_carried" s__law_carried f fd) (n__law_made_of : FN P w K mg base "_law_made_of" 2 sp__law_made_of) : FnOk P w K mg base (L2.CX P w) 3 f fd ["_law_carrying_here", "_law_point"] (lift K sp__law_carried) :=
  fn_ok F sc__law_carried (by decide) len__law_carried (fun cdv A outer s H E hr => ⟨d__law_carried, der__law_carried n__law_made_of hr, fun ds Φ Ξ h => by rw [rho0_len_eq (N := M__law_carried) (M := N__law_carried) rfl]; exact rd__law_carried ds Φ Ξ h⟩)
theorem ok__law_told {f : Addr} {fd : FuncData} (F : FnP K "_law_told" s__law_told f fd) (n__law_carried : FN P w K mg base "_law_carried" 3 sp__law_carried) (n__law_before : FN P w K mg base "_law_before" 2 sp__law_before) (b_tuple : mg "tuple" = none) : FnOk P w K mg base (L2.CX P w) 4 f fd ["_law_carrying_here", "_law_found"] (lift K sp__law_told) :=
  fn_ok F sc__law_told (by decide) len__law_told (fun cdv A outer s H E hr => ⟨d__law_told, der__law_told n__law_carried n__law_before b_tuple hr, fun ds Φ Ξ h => by rw [rho0_len_eq (N := M__law_told) (M := N__law_told) rfl]; exact rd__law_told ds Φ Ξ h⟩)
theorem ok__law_first_and_last {f : Addr} {fd : FuncData} (F : FnP K "_law_first_and_last" s__law_first_and_last f fd) (n__law_before : FN P w K mg base "_law_before" 2 sp__law_before) (x_noL : NoL K) : FnOk P w K mg base (L2.CX P w) 3 f fd ["_law_parts"] (lift K sp__law_first_and_last) :=
  fn_ok F sc__law_first_and_last (by decide) len__law_first_and_last (fun cdv A outer s H E hr => ⟨d__law_first_and_last, der__law_first_and_last n__law_before x_noL hr, fun ds Φ Ξ h => by rw [rho0_len_eq (N := M__law_first_and_last) (M := N__law_first_and_last) rfl]; exact rd__law_first_and_last ds Φ Ξ h⟩)
theorem ok__law_cut {f : Addr} {fd : FuncData} (F : FnP K "_law_cut" s__law_cut f fd) (n__law_at : FN P w K mg base "_law_at" 2 sp__law_at) (n_meet : FN P w K mg base "meet" 6 sp_meet) (n__law_first_and_last : FN P w K mg base "_law_first_and_last" 3 sp__law_first_and_last) (b_len : mg "len" = none) : FnOk P w K mg base (L2.CX P w) 7 f fd ["_law_one", "_law_other_here", "_law_found", "_law_k"] (lift K sp__law_cut) :=
  fn_ok F sc__law_cut (by decide) len__law_cut (fun cdv A outer s H E hr => ⟨d__law_cut, der__law_cut n__law_at n_meet n__law_first_and_last b_len hr, fun ds Φ Ξ h => by rw [rho0_len_eq (N := M__law_cut) (M := N__law_cut) rfl]; exact rd__law_cut ds Φ Ξ h⟩)
theorem ok__law_on_both {f : Addr} {fd : FuncData} (F : FnP K "_law_on_both" s__law_on_both f fd) (n_is_on : FN P w K mg base "is_on" 6 sp_is_on) (n_meet : FN P w K mg base "meet" 6 sp_meet) (n__law_in_order : FN P w K mg base "_law_in_order" 3 sp__law_in_order) : FnOk P w K mg base (L2.CX P w) 7 f fd ["_law_one", "_law_other_here", "_law_found"] (lift K sp__law_on_both) :=
  fn_ok F sc__law_on_both (by decide) len__law_on_both (fun cdv A outer s H E hr => ⟨d__law_on_both, der__law_on_both n_is_on n_meet n__law_in_order hr, fun ds Φ Ξ h => by rw [rho0_len_eq (N := M__law_on_both) (M := N__law_on_both) rfl]; exact rd__law_on_both ds Φ Ξ h⟩)
theorem ok__law_in_order {f : Addr} {fd : FuncData} (F : FnP K "_law_in_order" s__law_in_order f fd) (n__law_before : FN P w K mg base "_law_before" 2 sp__law_before) : FnOk P w K mg base (L2.CX P w) 3 f fd ["_law_one", "_law_other_here"] (lift K sp__law_in_order) :=
  fn_ok F sc__law_in_order (by decide) len__law_in_order (fun cdv A outer s H E hr => ⟨d__law_in_order, der__law_in_order n__law_before hr, fun ds Φ Ξ h => by rw [rho0_len_eq (N := M__law_in_order) (M := N__law_in_order) rfl]; exact rd__law_in_order ds Φ Ξ h⟩)
theorem ok_law {f : Addr} {fd : FuncData} (F : FnP K "law" s_law f fd) (n__law_cell : FN P w K mg base "_law_cell" 1 sp__law_cell) (n__law_numbers : FN P w K mg base "_law_numbers" 1 sp__law_numbers) (n__law_side : FN P w K mg base "_law_side" 4 sp__law_side) (n__law_other : FN P w K mg base "_law_other" 5 sp__law_other) (n_meet : FN P w K mg base "meet" 6 sp_meet) (n__law_carrying : FN P w K mg base "_law_carrying" 1 sp__law_carrying) (n__law_carried : FN P w K mg base "_law_carried" 3 sp__law_carried) (n__law_told : FN P w K mg base "_law_told" 4 sp__law_told) (n__law_cut : FN P w K mg base "_law_cut" 7 sp__law_cut) (n__law_on_both : FN P w K mg base "_law_on_both" 7 sp__law_on_both) (n_side_of : FN P w K mg base "side_of" 5 sp_side_of) (b_tuple : mg "tuple" = none) (b_range : mg "range" = none) : FnOk P w K mg base (L2.CX P w) 8 f fd ["_law_script"] (lift K sp_law) :=
  fn_ok F sc_law (by decide) len_law (fun cdv A outer s H E hr => ⟨d_law, der_law n__law_cell n__law_numbers n__law_side n__law_other n_meet n__law_carrying n__law_carried n__law_told n__law_cut n__law_on_both n_side_of b_tuple b_range hr, fun ds Φ Ξ h => by rw [rho0_len_eq (N := M_law) (M := N_law) rfl]; exact rd_law ds Φ Ξ h⟩)
end
def D_great_part : He.DefD := ⟨("great_part", none), "great_part", "great_part", defArgs s_great_part, defBody s_great_part, defScope s_great_part, [], []⟩
def D_lowest : He.DefD := ⟨("lowest", none), "lowest", "lowest", defArgs s_lowest, defBody s_lowest, defScope s_lowest, [], []⟩
def D_plus : He.DefD := ⟨("plus", none), "plus", "plus", defArgs s_plus, defBody s_plus, defScope s_plus, [], []⟩
def D_minus : He.DefD := ⟨("minus", none), "minus", "minus", defArgs s_minus, defBody s_minus, defScope s_minus, [], []⟩
def D_times : He.DefD := ⟨("times", none), "times", "times", defArgs s_times, defBody s_times, defScope s_times, [], []⟩
def D_over : He.DefD := ⟨("over", none), "over", "over", defArgs s_over, defBody s_over, defScope s_over, [], []⟩
def D_below : He.DefD := ⟨("below", none), "below", "below", defArgs s_below, defBody s_below, defScope s_below, [], []⟩
def D_before : He.DefD := ⟨("before", none), "before", "before", defArgs s_before, defBody s_before, defScope s_before, [], []⟩
def D_in_order : He.DefD := ⟨("in_order", none), "in_order", "in_order", defArgs s_in_order, defBody s_in_order, defScope s_in_order, [], []⟩
def D_cross_of : He.DefD := ⟨("cross_of", none), "cross_of", "cross_of", defArgs s_cross_of, defBody s_cross_of, defScope s_cross_of, [], []⟩
def D_sign_of : He.DefD := ⟨("sign_of", none), "sign_of", "sign_of", defArgs s_sign_of, defBody s_sign_of, defScope s_sign_of, [], []⟩
def D_side_of : He.DefD := ⟨("side_of", none), "side_of", "side_of", defArgs s_side_of, defBody s_side_of, defScope s_side_of, [], []⟩
def D_is_on : He.DefD := ⟨("is_on", none), "is_on", "is_on", defArgs s_is_on, defBody s_is_on, defScope s_is_on, [], []⟩
def D_moved : He.DefD := ⟨("moved", none), "moved", "moved", defArgs s_moved, defBody s_moved, defScope s_moved, [], []⟩
def D_meet_along : He.DefD := ⟨("meet_along", none), "meet_along", "meet_along", defArgs s_meet_along, defBody s_meet_along, defScope s_meet_along, [], []⟩
def D_crossing : He.DefD := ⟨("crossing", none), "crossing", "crossing", defArgs s_crossing, defBody s_crossing, defScope s_crossing, [], []⟩
def D_meet : He.DefD := ⟨("meet", none), "meet", "meet", defArgs s_meet, defBody s_meet, defScope s_meet, [], []⟩
def D__law_cell : He.DefD := ⟨("_law_cell", none), "_law_cell", "_law_cell", defArgs s__law_cell, defBody s__law_cell, defScope s__law_cell, [], []⟩
def D__law_numbers : He.DefD := ⟨("_law_numbers", none), "_law_numbers", "_law_numbers", defArgs s__law_numbers, defBody s__law_numbers, defScope s__law_numbers, [], []⟩
def D__law_low : He.DefD := ⟨("_law_low", none), "_law_low", "_law_low", defArgs s__law_low, defBody s__law_low, defScope s__law_low, [], []⟩
def D__law_fraction : He.DefD := ⟨("_law_fraction", none), "_law_fraction", "_law_fraction", defArgs s__law_fraction, defBody s__law_fraction, defScope s__law_fraction, [], []⟩
def D__law_less : He.DefD := ⟨("_law_less", none), "_law_less", "_law_less", defArgs s__law_less, defBody s__law_less, defScope s__law_less, [], []⟩
def D__law_before : He.DefD := ⟨("_law_before", none), "_law_before", "_law_before", defArgs s__law_before, defBody s__law_before, defScope s__law_before, [], []⟩
def D__law_at : He.DefD := ⟨("_law_at", none), "_law_at", "_law_at", defArgs s__law_at, defBody s__law_at, defScope s__law_at, [], []⟩
def D__law_spot : He.DefD := ⟨("_law_spot", none), "_law_spot", "_law_spot", defArgs s__law_spot, defBody s__law_spot, defScope s__law_spot, [], []⟩
def D__law_side : He.DefD := ⟨("_law_side", none), "_law_side", "_law_side", defArgs s__law_side, defBody s__law_side, defScope s__law_side, [], []⟩
def D__law_other : He.DefD := ⟨("_law_other", none), "_law_other", "_law_other", defArgs s__law_other, defBody s__law_other, defScope s__law_other, [], []⟩
def D__law_made_of : He.DefD := ⟨("_law_made_of", none), "_law_made_of", "_law_made_of", defArgs s__law_made_of, defBody s__law_made_of, defScope s__law_made_of, [], []⟩
def D__law_carrying : He.DefD := ⟨("_law_carrying", none), "_law_carrying", "_law_carrying", defArgs s__law_carrying, defBody s__law_carrying, defScope s__law_carrying, [], []⟩
def D__law_carried : He.DefD := ⟨("_law_carried", none), "_law_carried", "_law_carried", defArgs s__law_carried, defBody s__law_carried, defScope s__law_carried, [], []⟩
def D__law_told : He.DefD := ⟨("_law_told", none), "_law_told", "_law_told", defArgs s__law_told, defBody s__law_told, defScope s__law_told, [], []⟩
def D__law_first_and_last : He.DefD := ⟨("_law_first_and_last", none), "_law_first_and_last", "_law_first_and_last", defArgs s__law_first_and_last, defBody s__law_first_and_last, defScope s__law_first_and_last, [], []⟩
def D__law_cut : He.DefD := ⟨("_law_cut", none), "_law_cut", "_law_cut", defArgs s__law_cut, defBody s__law_cut, defScope s__law_cut, [], []⟩
def D__law_on_both : He.DefD := ⟨("_law_on_both", none), "_law_on_both", "_law_on_both", defArgs s__law_on_both, defBody s__law_on_both, defScope s__law_on_both, [], []⟩
def D__law_in_order : He.DefD := ⟨("_law_in_order", none), "_law_in_order", "_law_in_order", defArgs s__law_in_order, defBody s__law_in_order, defScope s__law_in_order, [], []⟩
def D_law : He.DefD := ⟨("law", none), "law", "law", defArgs s_law, defBody s_law, defScope s_law, [], []⟩
def fn : List He.DefD := [D_great_part, D_lowest, D_plus, D_minus, D_times, D_over, D_below, D_before, D_in_order, D_cross_of, D_sign_of, D_side_of, D_is_on, D_moved, D_meet_along, D_crossing, D_meet, D__law_cell, D__law_numbers, D__law_low, D__law_fraction, D__law_less, D__law_before, D__law_at, D__law_spot, D__law_side, D__law_other, D__law_made_of, D__law_carrying, D__law_carried, D__law_told, D__law_first_and_last, D__law_cut, D__law_on_both, D__law_in_order, D_law]
def fa : List He.Fa := [.glo "great_part", .glo "lowest", .glo "plus", .glo "minus", .glo "times", .glo "over", .glo "below", .glo "before", .glo "in_order", .glo "cross_of", .glo "sign_of", .glo "side_of", .glo "is_on", .glo "moved", .glo "meet_along", .glo "crossing", .glo "meet", .glo "_law_cell", .glo "_law_numbers", .glo "_law_low", .glo "_law_fraction", .glo "_law_less", .glo "_law_before", .glo "_law_at", .glo "_law_spot", .glo "_law_side", .glo "_law_other", .glo "_law_made_of", .glo "_law_carrying", .glo "_law_carried", .glo "_law_told", .glo "_law_first_and_last", .glo "_law_cut", .glo "_law_on_both", .glo "_law_in_order", .glo "law", .free "abs", .free "len", .free "int", .free "list", .free "range", .free "zip", .free "tuple", .glo "NoNumber", .exc "NoNumber"]
abbrev R : PySem.W.OpenRow := PySem.W.OpenLaw.row PySem.Challenge.rw_landsheets_k05_whole_meets_cut_and_carri
def xt (K : PySem.W.Frag) : Bool := noLB K
abbrev hk : PySem.W.Hook := hookX 4 fa fn xt
def ob (s : PySem.W.SharedT) : Bool × He.AlD := obsX 4 fa fn xt (HandSHeadRun.getT s)
theorem ob_eq (s : PySem.W.SharedT) : ob s = hk.obs s.abs := obsX_eq (HandSHeadRun.getT_eq s)
def loose : List Str := (["SheetError", "NoNumber", "great_part", "lowest", "plus", "minus", "times", "over", "below", "before", "in_order", "cross_of", "sign_of", "side_of", "is_on", "moved", "meet_along", "crossing", "meet", "_law_cell", "_law_numbers", "_law_low", "_law_fraction", "_law_less", "_law_before", "_law_at", "_law_spot", "_law_side", "_law_other", "_law_made_of"] : List Str) ++ (["_law_carrying", "_law_carried", "_law_told", "_law_first_and_last", "_law_cut", "_law_on_both", "_law_in_order"] : List Str)
theorem run (w : World) : HandSHeadRun.RunEq R (PySem.W.view R.prog [42]) hk ob 20000 loose w := by
  intro os
  kernel_rfl
theorem facts {P : Program} {w : World} {K : PySem.W.Frag} {h : Heap} {mg : Str → Option Value} {f : Addr} (X : K.In h) (G : h.Ns mainGlobals mg) (hfa : mg ("law" : Str) = some (.ref f)) (c : He.SaysD fa fn K) (cx : xt K = true) :
    ∃ fd : FuncData, (∀ (s : Shared) (v : Value), BindsTo s fd ⟨[v], []⟩ [("_law_script", v)]) ∧ ∀ base : Heap, K.In base → base.Ns mainGlobals mg → FnOk P w K mg base (L2.CX P w) 8 f fd ["_law_script"] (lift K sp_law) := by
  have x_noL : NoL K := noL_of cx
  have x_k_NoNumber : mg "NoNumber" = some (.ref (He.ga K "NoNumber")) := He.glo_ok X G (c.fact 43 (f := .glo "NoNumber") rfl)
  have x_f_NoNumber : ExF K "NoNumber" := exF_of (c.fact 44 (f := .exc "NoNumber") rfl)
  have b_abs : mg "abs" = none := He.free_ok X G (c.fact 36 (f := .free "abs") rfl)
  have b_len : mg "len" = none := He.free_ok X G (c.fact 37 (f := .free "len") rfl)
  have b_int : mg "int" = none := He.free_ok X G (c.fact 38 (f := .free "int") rfl)
  have b_list : mg "list" = none := He.free_ok X G (c.fact 39 (f := .free "list") rfl)
  have b_range : mg "range" = none := He.free_ok X G (c.fact 40 (f := .free "range") rfl)
  have b_zip : mg "zip" = none := He.free_ok X G (c.fact 41 (f := .free "zip") rfl)
  have b_tuple : mg "tuple" = none := He.free_ok X G (c.fact 42 (f := .free "tuple") rfl)
  obtain ⟨fd_great_part, F_great_part⟩ := c.def_ 0 (d := D_great_part) rfl
  have g_great_part := He.glo_ok X G (c.fact 0 (f := .glo "great_part") rfl)
  have bi_great_part : Binds K fd_great_part ["one", "other"] [] := F_great_part.bindsN fun _ _ _ _ _ _ us hl => match us, hl with | [_, _], _ => rfl
  obtain ⟨fd_lowest, F_lowest⟩ := c.def_ 1 (d := D_lowest) rfl
  have g_lowest := He.glo_ok X G (c.fact 1 (f := .glo "lowest") rfl)
  have bi_lowest : Binds K fd_lowest ["top", "bottom"] [] := F_lowest.bindsN fun _ _ _ _ _ _ us hl => match us, hl with | [_, _], _ => rfl
  obtain ⟨fd_plus, F_plus⟩ := c.def_ 2 (d := D_plus) rfl
  have g_plus := He.glo_ok X G (c.fact 2 (f := .glo "plus") rfl)
  have bi_plus : Binds K fd_plus ["a", "b"] [] := F_plus.bindsN fun _ _ _ _ _ _ us hl => match us, hl with | [_, _], _ => rfl
  obtain ⟨fd_minus, F_minus⟩ := c.def_ 3 (d := D_minus) rfl
  have g_minus := He.glo_ok X G (c.fact 3 (f := .glo "minus") rfl)
  have bi_minus : Binds K fd_minus ["a", "b"] [] := F_minus.bindsN fun _ _ _ _ _ _ us hl => match us, hl with | [_, _], _ => rfl
  obtain ⟨fd_times, F_times⟩ := c.def_ 4 (d := D_times) rfl
  have g_times := He.glo_ok X G (c.fact 4 (f := .glo "times") rfl)
  have bi_times : Binds K fd_times ["a", "b"] [] := F_times.bindsN fun _ _ _ _ _ _ us hl => match us, hl with | [_, _], _ => rfl
  obtain ⟨fd_over, F_over⟩ := c.def_ 5 (d := D_over) rfl
  have g_over := He.glo_ok X G (c.fact 5 (f := .glo "over") rfl)
  have bi_over : Binds K fd_over ["a", "b"] [] := F_over.bindsN fun _ _ _ _ _ _ us hl => match us, hl with | [_, _], _ => rfl
  obtain ⟨fd_below, F_below⟩ := c.def_ 6 (d := D_below) rfl
  have g_below := He.glo_ok X G (c.fact 6 (f := .glo "below") rfl)
  have bi_below : Binds K fd_below ["a", "b"] [] := F_below.bindsN fun _ _ _ _ _ _ us hl => match us, hl with | [_, _], _ => rfl
  obtain ⟨fd_before, F_before⟩ := c.def_ 7 (d := D_before) rfl
  have g_before := He.glo_ok X G (c.fact 7 (f := .glo "before") rfl)
  have bi_before : Binds K fd_before ["a", "b"] [] := F_before.bindsN fun _ _ _ _ _ _ us hl => match us, hl with | [_, _], _ => rfl
  obtain ⟨fd_in_order, F_in_order⟩ := c.def_ 8 (d := D_in_order) rfl
  have g_in_order := He.glo_ok X G (c.fact 8 (f := .glo "in_order") rfl)
  have bi_in_order : Binds K fd_in_order ["points"] [] := F_in_order.bindsN fun _ _ _ _ _ _ us hl => match us, hl with | [_], _ => rfl
  obtain ⟨fd_cross_of, F_cross_of⟩ := c.def_ 9 (d := D_cross_of) rfl
  have g_cross_of := He.glo_ok X G (c.fact 9 (f := .glo "cross_of") rfl)
  have bi_cross_of : Binds K fd_cross_of ["a", "b", "c"] [] := F_cross_of.bindsN fun _ _ _ _ _ _ us hl => match us, hl with | [_, _, _], _ => rfl
  obtain ⟨fd_sign_of, F_sign_of⟩ := c.def_ 10 (d := D_sign_of) rfl
  have g_sign_of := He.glo_ok X G (c.fact 10 (f := .glo "sign_of") rfl)
  have bi_sign_of : Binds K fd_sign_of ["number"] [] := F_sign_of.bindsN fun _ _ _ _ _ _ us hl => match us, hl with | [_], _ => rfl
  obtain ⟨fd_side_of, F_side_of⟩ := c.def_ 11 (d := D_side_of) rfl
  have g_side_of := He.glo_ok X G (c.fact 11 (f := .glo "side_of") rfl)
  have bi_side_of : Binds K fd_side_of ["side", "point"] [] := F_side_of.bindsN fun _ _ _ _ _ _ us hl => match us, hl with | [_, _], _ => rfl
  obtain ⟨fd_is_on, F_is_on⟩ := c.def_ 12 (d := D_is_on) rfl
  have g_is_on := He.glo_ok X G (c.fact 12 (f := .glo "is_on") rfl)
  have bi_is_on : Binds K fd_is_on ["side", "point"] [] := F_is_on.bindsN fun _ _ _ _ _ _ us hl => match us, hl with | [_, _], _ => rfl
  obtain ⟨fd_moved, F_moved⟩ := c.def_ 13 (d := D_moved) rfl
  have g_moved := He.glo_ok X G (c.fact 13 (f := .glo "moved") rfl)
  have bi_moved : Binds K fd_moved ["one", "far"] [] := F_moved.bindsN fun _ _ _ _ _ _ us hl => match us, hl with | [_, _], _ => rfl
  obtain ⟨fd_meet_along, F_meet_along⟩ := c.def_ 14 (d := D_meet_along) rfl
  have g_meet_along := He.glo_ok X G (c.fact 14 (f := .glo "meet_along") rfl)
  have bi_meet_along : Binds K fd_meet_along ["one", "other"] [] := F_meet_along.bindsN fun _ _ _ _ _ _ us hl => match us, hl with | [_, _], _ => rfl
  obtain ⟨fd_crossing, F_crossing⟩ := c.def_ 15 (d := D_crossing) rfl
  have g_crossing := He.glo_ok X G (c.fact 15 (f := .glo "crossing") rfl)
  have bi_crossing : Binds K fd_crossing ["one", "other"] [] := F_crossing.bindsN fun _ _ _ _ _ _ us hl => match us, hl with | [_, _], _ => rfl
  obtain ⟨fd_meet, F_meet⟩ := c.def_ 16 (d := D_meet) rfl
  have g_meet := He.glo_ok X G (c.fact 16 (f := .glo "meet") rfl)
  have bi_meet : Binds K fd_meet ["one", "other"] [] := F_meet.bindsN fun _ _ _ _ _ _ us hl => match us, hl with | [_, _], _ => rfl
  obtain ⟨fd__law_cell, F__law_cell⟩ := c.def_ 17 (d := D__law_cell) rfl
  have g__law_cell := He.glo_ok X G (c.fact 17 (f := .glo "_law_cell") rfl)
  have bi__law_cell : Binds K fd__law_cell ["_law_script", "_law_k"] [] := F__law_cell.bindsN fun _ _ _ _ _ _ us hl => match us, hl with | [_, _], _ => rfl
  obtain ⟨fd__law_numbers, F__law_numbers⟩ := c.def_ 18 (d := D__law_numbers) rfl
  have g__law_numbers := He.glo_ok X G (c.fact 18 (f := .glo "_law_numbers") rfl)
  have bi__law_numbers : Binds K fd__law_numbers ["_law_cell_here", "_law_many"] [] := F__law_numbers.bindsN fun _ _ _ _ _ _ us hl => match us, hl with | [_, _], _ => rfl
  obtain ⟨fd__law_low, F__law_low⟩ := c.def_ 19 (d := D__law_low) rfl
  have g__law_low := He.glo_ok X G (c.fact 19 (f := .glo "_law_low") rfl)
  have bi__law_low : Binds K fd__law_low ["_law_top", "_law_bottom"] [] := F__law_low.bindsN fun _ _ _ _ _ _ us hl => match us, hl with | [_, _], _ => rfl
  obtain ⟨fd__law_fraction, F__law_fraction⟩ := c.def_ 20 (d := D__law_fraction) rfl
  have g__law_fraction := He.glo_ok X G (c.fact 20 (f := .glo "_law_fraction") rfl)
  have bi__law_fraction : Binds K fd__law_fraction ["_law_x", "_law_y", "_law_mode"] [] := F__law_fraction.bindsN fun _ _ _ _ _ _ us hl => match us, hl with | [_, _, _], _ => rfl
  obtain ⟨fd__law_less, F__law_less⟩ := c.def_ 21 (d := D__law_less) rfl
  have g__law_less := He.glo_ok X G (c.fact 21 (f := .glo "_law_less") rfl)
  have bi__law_less : Binds K fd__law_less ["_law_a", "_law_b"] [] := F__law_less.bindsN fun _ _ _ _ _ _ us hl => match us, hl with | [_, _], _ => rfl
  obtain ⟨fd__law_before, F__law_before⟩ := c.def_ 22 (d := D__law_before) rfl
  have g__law_before := He.glo_ok X G (c.fact 22 (f := .glo "_law_before") rfl)
  have bi__law_before : Binds K fd__law_before ["_law_one", "_law_other_here"] [] := F__law_before.bindsN fun _ _ _ _ _ _ us hl => match us, hl with | [_, _], _ => rfl
  obtain ⟨fd__law_at, F__law_at⟩ := c.def_ 23 (d := D__law_at) rfl
  have g__law_at := He.glo_ok X G (c.fact 23 (f := .glo "_law_at") rfl)
  have bi__law_at : Binds K fd__law_at ["_law_side_here", "_law_k"] [] := F__law_at.bindsN fun _ _ _ _ _ _ us hl => match us, hl with | [_, _], _ => rfl
  obtain ⟨fd__law_spot, F__law_spot⟩ := c.def_ 24 (d := D__law_spot) rfl
  have g__law_spot := He.glo_ok X G (c.fact 24 (f := .glo "_law_spot") rfl)
  have bi__law_spot : Binds K fd__law_spot ["_law_xs", "_law_mode"] [] := F__law_spot.bindsN fun _ _ _ _ _ _ us hl => match us, hl with | [_, _], _ => rfl
  obtain ⟨fd__law_side, F__law_side⟩ := c.def_ 25 (d := D__law_side) rfl
  have g__law_side := He.glo_ok X G (c.fact 25 (f := .glo "_law_side") rfl)
  have bi__law_side : Binds K fd__law_side ["_law_xs", "_law_mode"] [] := F__law_side.bindsN fun _ _ _ _ _ _ us hl => match us, hl with | [_, _], _ => rfl
  obtain ⟨fd__law_other, F__law_other⟩ := c.def_ 26 (d := D__law_other) rfl
  have g__law_other := He.glo_ok X G (c.fact 26 (f := .glo "_law_other") rfl)
  have bi__law_other : Binds K fd__law_other ["_law_side_here", "_law_xs", "_law_mode"] [] := F__law_other.bindsN fun _ _ _ _ _ _ us hl => match us, hl with | [_, _, _], _ => rfl
  obtain ⟨fd__law_made_of, F__law_made_of⟩ := c.def_ 27 (d := D__law_made_of) rfl
  have g__law_made_of := He.glo_ok X G (c.fact 27 (f := .glo "_law_made_of") rfl)
  have bi__law_made_of : Binds K fd__law_made_of ["_law_point", "_law_parts"] [] := F__law_made_of.bindsN fun _ _ _ _ _ _ us hl => match us, hl with | [_, _], _ => rfl
  obtain ⟨fd__law_carrying, F__law_carrying⟩ := c.def_ 28 (d := D__law_carrying) rfl
  have g__law_carrying := He.glo_ok X G (c.fact 28 (f := .glo "_law_carrying") rfl)
  have bi__law_carrying : Binds K fd__law_carrying ["_law_xs"] [] := F__law_carrying.bindsN fun _ _ _ _ _ _ us hl => match us, hl with | [_], _ => rfl
  obtain ⟨fd__law_carried, F__law_carried⟩ := c.def_ 29 (d := D__law_carried) rfl
  have g__law_carried := He.glo_ok X G (c.fact 29 (f := .glo "_law_carried") rfl)
  have bi__law_carried : Binds K fd__law_carried ["_law_carrying_here", "_law_point"] [] := F__law_carried.bindsN fun _ _ _ _ _ _ us hl => match us, hl with | [_, _], _ => rfl
  obtain ⟨fd__law_told, F__law_told⟩ := c.def_ 30 (d := D__law_told) rfl
  have g__law_told := He.glo_ok X G (c.fact 30 (f := .glo "_law_told") rfl)
  have bi__law_told : Binds K fd__law_told ["_law_carrying_here", "_law_found"] [] := F__law_told.bindsN fun _ _ _ _ _ _ us hl => match us, hl with | [_, _], _ => rfl
  obtain ⟨fd__law_first_and_last, F__law_first_and_last⟩ := c.def_ 31 (d := D__law_first_and_last) rfl
  have g__law_first_and_last := He.glo_ok X G (c.fact 31 (f := .glo "_law_first_and_last") rfl)
  have bi__law_first_and_last : Binds K fd__law_first_and_last ["_law_parts"] [] := F__law_first_and_last.bindsN fun _ _ _ _ _ _ us hl => match us, hl with | [_], _ => rfl
  obtain ⟨fd__law_cut, F__law_cut⟩ := c.def_ 32 (d := D__law_cut) rfl
  have g__law_cut := He.glo_ok X G (c.fact 32 (f := .glo "_law_cut") rfl)
  have bi__law_cut : Binds K fd__law_cut ["_law_one", "_law_other_here", "_law_found", "_law_k"] [] := F__law_cut.bindsN fun _ _ _ _ _ _ us hl => match us, hl with | [_, _, _, _], _ => rfl
  obtain ⟨fd__law_on_both, F__law_on_both⟩ := c.def_ 33 (d := D__law_on_both) rfl
  have g__law_on_both := He.glo_ok X G (c.fact 33 (f := .glo "_law_on_both") rfl)
  have bi__law_on_both : Binds K fd__law_on_both ["_law_one", "_law_other_here", "_law_found"] [] := F__law_on_both.bindsN fun _ _ _ _ _ _ us hl => match us, hl with | [_, _, _], _ => rfl
  obtain ⟨fd__law_in_order, F__law_in_order⟩ := c.def_ 34 (d := D__law_in_order) rfl
  have g__law_in_order := He.glo_ok X G (c.fact 34 (f := .glo "_law_in_order") rfl)
  have bi__law_in_order : Binds K fd__law_in_order ["_law_one", "_law_other_here"] [] := F__law_in_order.bindsN fun _ _ _ _ _ _ us hl => match us, hl with | [_, _], _ => rfl
  obtain ⟨fd_law, F_law⟩ := c.def_ 35 (d := D_law) rfl
  have g_law := He.glo_ok X G (c.fact 35 (f := .glo "law") rfl)
  have e := hfa.symm.trans g_law
  cases e
  have b := FunD.bindsA (ps := ["_law_script"]) F_law fun _ _ _ _ _ _ us hl => match us, hl with | [_], _ => rfl
  refine ⟨fd_law, fun s v => b s [v] rfl, fun base _ _ => ?_⟩
  have n_great_part : FN P w K mg base "great_part" 1 sp_great_part := mkFN F_great_part g_great_part (ok_great_part F_great_part b_abs) bi_great_part
  have n_below : FN P w K mg base "below" 1 sp_below := mkFN F_below g_below (ok_below F_below ) bi_below
  have n_sign_of : FN P w K mg base "sign_of" 1 sp_sign_of := mkFN F_sign_of g_sign_of (ok_sign_of F_sign_of b_int) bi_sign_of
  have n__law_cell : FN P w K mg base "_law_cell" 1 sp__law_cell := mkFN F__law_cell g__law_cell (ok__law_cell F__law_cell b_len) bi__law_cell
  have n__law_numbers : FN P w K mg base "_law_numbers" 1 sp__law_numbers := mkFN F__law_numbers g__law_numbers (ok__law_numbers F__law_numbers b_abs b_range b_int) bi__law_numbers
  have n__law_low : FN P w K mg base "_law_low" 1 sp__law_low := mkFN F__law_low g__law_low (ok__law_low F__law_low b_abs) bi__law_low
  have n__law_less : FN P w K mg base "_law_less" 1 sp__law_less := mkFN F__law_less g__law_less (ok__law_less F__law_less ) bi__law_less
  have n__law_carrying : FN P w K mg base "_law_carrying" 1 sp__law_carrying := mkFN F__law_carrying g__law_carrying (ok__law_carrying F__law_carrying ) bi__law_carrying
  have n_lowest : FN P w K mg base "lowest" 2 sp_lowest := mkFN F_lowest g_lowest (ok_lowest F_lowest n_great_part) bi_lowest
  have n_before : FN P w K mg base "before" 2 sp_before := mkFN F_before g_before (ok_before F_before n_below) bi_before
  have n__law_fraction : FN P w K mg base "_law_fraction" 2 sp__law_fraction := mkFN F__law_fraction g__law_fraction (ok__law_fraction F__law_fraction n__law_low) bi__law_fraction
  have n__law_before : FN P w K mg base "_law_before" 2 sp__law_before := mkFN F__law_before g__law_before (ok__law_before F__law_before n__law_less) bi__law_before
  have n__law_at : FN P w K mg base "_law_at" 2 sp__law_at := mkFN F__law_at g__law_at (ok__law_at F__law_at n__law_low b_zip) bi__law_at
  have n__law_made_of : FN P w K mg base "_law_made_of" 2 sp__law_made_of := mkFN F__law_made_of g__law_made_of (ok__law_made_of F__law_made_of n__law_low) bi__law_made_of
  have n_plus : FN P w K mg base "plus" 3 sp_plus := mkFN F_plus g_plus (ok_plus F_plus n_lowest) bi_plus
  have n_minus : FN P w K mg base "minus" 3 sp_minus := mkFN F_minus g_minus (ok_minus F_minus n_lowest) bi_minus
  have n_times : FN P w K mg base "times" 3 sp_times := mkFN F_times g_times (ok_times F_times n_lowest) bi_times
  have n_over : FN P w K mg base "over" 3 sp_over := mkFN F_over g_over (ok_over F_over n_lowest x_f_NoNumber x_k_NoNumber) bi_over
  have n_in_order : FN P w K mg base "in_order" 3 sp_in_order := mkFN F_in_order g_in_order (ok_in_order F_in_order n_before b_len) bi_in_order
  have n__law_spot : FN P w K mg base "_law_spot" 3 sp__law_spot := mkFN F__law_spot g__law_spot (ok__law_spot F__law_spot n__law_fraction) bi__law_spot
  have n__law_carried : FN P w K mg base "_law_carried" 3 sp__law_carried := mkFN F__law_carried g__law_carried (ok__law_carried F__law_carried n__law_made_of) bi__law_carried
  have n__law_first_and_last : FN P w K mg base "_law_first_and_last" 3 sp__law_first_and_last := mkFN F__law_first_and_last g__law_first_and_last (ok__law_first_and_last F__law_first_and_last n__law_before x_noL) bi__law_first_and_last
  have n__law_in_order : FN P w K mg base "_law_in_order" 3 sp__law_in_order := mkFN F__law_in_order g__law_in_order (ok__law_in_order F__law_in_order n__law_before) bi__law_in_order
  have n_cross_of : FN P w K mg base "cross_of" 4 sp_cross_of := mkFN F_cross_of g_cross_of (ok_cross_of F_cross_of n_times n_minus) bi_cross_of
  have n_moved : FN P w K mg base "moved" 4 sp_moved := mkFN F_moved g_moved (ok_moved F_moved n_plus n_times n_minus) bi_moved
  have n_meet_along : FN P w K mg base "meet_along" 4 sp_meet_along := mkFN F_meet_along g_meet_along (ok_meet_along F_meet_along n_in_order n_before b_list) bi_meet_along
  have n__law_side : FN P w K mg base "_law_side" 4 sp__law_side := mkFN F__law_side g__law_side (ok__law_side F__law_side n__law_spot n__law_low b_int) bi__law_side
  have n__law_told : FN P w K mg base "_law_told" 4 sp__law_told := mkFN F__law_told g__law_told (ok__law_told F__law_told n__law_carried n__law_before b_tuple) bi__law_told
  have n_side_of : FN P w K mg base "side_of" 5 sp_side_of := mkFN F_side_of g_side_of (ok_side_of F_side_of n_sign_of n_cross_of) bi_side_of
  have n_crossing : FN P w K mg base "crossing" 5 sp_crossing := mkFN F_crossing g_crossing (ok_crossing F_crossing n_cross_of n_moved n_over n_minus) bi_crossing
  have n__law_other : FN P w K mg base "_law_other" 5 sp__law_other := mkFN F__law_other g__law_other (ok__law_other F__law_other n__law_side n__law_at) bi__law_other
  have n_is_on : FN P w K mg base "is_on" 6 sp_is_on := mkFN F_is_on g_is_on (ok_is_on F_is_on n_side_of n_in_order n_before b_list) bi_is_on
  have n_meet : FN P w K mg base "meet" 6 sp_meet := mkFN F_meet g_meet (ok_meet F_meet n_side_of n_meet_along n_crossing) bi_meet
  have n__law_cut : FN P w K mg base "_law_cut" 7 sp__law_cut := mkFN F__law_cut g__law_cut (ok__law_cut F__law_cut n__law_at n_meet n__law_first_and_last b_len) bi__law_cut
  have n__law_on_both : FN P w K mg base "_law_on_both" 7 sp__law_on_both := mkFN F__law_on_both g__law_on_both (ok__law_on_both F__law_on_both n_is_on n_meet n__law_in_order) bi__law_on_both
  exact ok_law F_law n__law_cell n__law_numbers n__law_side n__law_other n_meet n__law_carrying n__law_carried n__law_told n__law_cut n__law_on_both n_side_of b_tuple b_range
end L2.D3.K05
open PySem PySem.W PySem.Calls PyProof.Rows
theorem PySem.Challenge.cw_landsheets_k05_whole_meets_cut_and_carri_holds : PySem.Challenge.rw_landsheets_k05_whole_meets_cut_and_carri.Holds := by
  w_on; o_law
  refine HandSHeadRun.head_any (r := OpenLaw.row PySem.Challenge.rw_landsheets_k05_whole_meets_cut_and_carri) (q := view (OpenLaw.row PySem.Challenge.rw_landsheets_k05_whole_meets_cut_and_carri).prog [42]) (H := L2.D3.K05.hk) (ob := L2.D3.K05.ob) (M := 20000) (loose := L2.D3.K05.loose) (d := HandSHeadRun.topDef (OpenLaw.row PySem.Challenge.rw_landsheets_k05_whole_meets_cut_and_carri).prog 42) (kwd := []) L2.D3.K05.ob_eq
    (by kernel_rfl) (fun s => by kernel_rfl) L2.D3.K05.run (by kernel_rfl) (by kernel_rfl) (by kernel_rfl) (by rfl) (by first | assumption | decide +kernel) (by decide +kernel) ⟨rfl, rfl, rfl, rfl, rfl, by decide +kernel⟩ ?hw ?hc
  case hw => w_witness2
  case hc =>
    refine L2.D3.walk_ofW (lw := PySem.Challenge.rw_landsheets_k05_whole_meets_cut_and_carri) (m := 63) (k := 8) (x := "_law_script") (C := fun w => L2.CX (PySem.Challenge.rw_landsheets_k05_whole_meets_cut_and_carri).prog w) rfl (by decide) (by kernel_rfl) ⟨rfl, by decide, by decide⟩ ?F (fun w H s e s2 z => L2.D3.cx_no H s e s2 z)
    intro w mg fa h Y G hmg0
    obtain ⟨K, KX, c, cx⟩ := Y
    have hmg : mg ("law" : PySem.Str) = some (.ref fa) := by
      have e : (HandSHeadRun.topDef (OpenLaw.row PySem.Challenge.rw_landsheets_k05_whole_meets_cut_and_carri).prog 42).name = ("law" : PySem.Str) := by kernel_rfl
      rw [← e]
      exact hmg0
    obtain ⟨fd, hb, hF⟩ := L2.D3.K05.facts (P := (PySem.Challenge.rw_landsheets_k05_whole_meets_cut_and_carri).prog) (w := w) KX G hmg c cx
    exact ⟨K, fd, L2.D3.lift K L2.D3.K05.sp_law, KX, hb, fun H a ns hl _ hS => L2.D3.lift_law hl hS, hF⟩
