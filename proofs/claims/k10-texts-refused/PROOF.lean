import PyProof.Rows.All
import Wide.All
import OpenK.AllK
import Wide.FinOn
import HandS.ForMost
import HandS.ForExc
import HandS.Wide
import HandS.IsInst
import HandS.Flow
import HandS.Defaults
import HandS.Zip
import HandS.More
import HandS.HeadHook1
import HandS.TupAny
import HandS.Head0
import HandS.Head1
import HandS.Head2
import HandS.HeadEnd
import HandS.HeadHook2
import HandS.TupMul
import HandS.Deep
import KE.KRevSl
import HandS.Exc
import HandS.ExcOwn
import HandS.ExcValue
import KE.KExcIs
import HandS.CallSlots
import HandS.List
import HandS.Text
import HandS.Style
import HandS.FStr
import HandS.ExcInit
import HandS.ExcField
import HandS.TryOnly
import HandS.ReplaceLit
import PyProof.ListMulRoad
import HandS.Codes
import PySem.Challenge.RW_landsheets_k10_texts_refused
set_option Elab.async false
set_option linter.all false
set_option maxRecDepth 100000
set_option maxHeartbeats 4000000
/-! D3: the hand layer's readings without a heap. Values are data (PyData); lists that a def makes and changes are owned slots. -/
namespace L2
open PySem PySem.Spec PyProof.Rows
abbrev D3.Dt := PyData
open D3 (Dt)
/-! ### data stay when the heap grows -/
theorem sqT_mono {K : PySem.W.Frag} {H H' : Hp} {a : Addr} {xs : List V} (s : Same H H') (h : SqT K H a xs) : SqT K H' a xs := by
  rcases h with h | h
  · rcases h with h | ⟨o, h⟩
    · exact .inl (.inl (s _ _ h))
    · exact .inl (.inr ⟨o, s _ _ h⟩)
  · exact .inr h
end L2
namespace L2.D3
open PySem PySem.Spec PyProof.Rows
/-! ### values as data; a dict is data as long as it is empty; a pool is a list of one whole number from 0 on, which may change -/
def PoolO (a : Addr) : HO := .ext fun h => ∃ (n c : Nat) (t : Tok), h.get? a = some { cls := .type "list", data := .seq #[.int (n : Int) t] c }
def poolD : PyData := .dict [(.str "pool", .none)]
mutual
inductive Dp (K : PySem.W.Frag) (H : Hp) : V → PyData → Prop
  | non : Dp K H .non .none
  | bl (b : Bool) : Dp K H (.bl b) (.bool b)
  | int (i : Int) : Dp K H (.int i) (.int i)
  | str (z : Str) : Dp K H (.str z) (.str z)
  | lst {a : Addr} {us : List V} {es : List PyData} : SqL K H a us → DpAll K H us es → Dp K H (.ref a) (.list es)
  | tup {a : Addr} {us : List V} {es : List PyData} : SqT K H a us → DpAll K H us es → Dp K H (.ref a) (.tuple es)
  | emp {a : Addr} : H a = some (.dK []) → Dp K H (.ref a) (.dict [])
  | pool {a : Addr} : H a = some (PoolO a) → Dp K H (.ref a) (.dict [(.str "pool", .none)])
inductive DpAll (K : PySem.W.Frag) (H : Hp) : List V → List PyData → Prop
  | nil : DpAll K H [] []
  | cons {u : V} {us : List V} {e : PyData} {es : List PyData} : Dp K H u e → DpAll K H us es → DpAll K H (u :: us) (e :: es)
end
mutual
theorem dp_old {K : PySem.W.Frag} {H : Hp} : ∀ (d : Dt) (v : V), Dp K H v d → d.canLay0 = true → L2.Dp K H v d
  | .none, _, h, _ => by cases h; exact .non
  | .bool b, _, h, _ => by cases h; exact .bl b
  | .int i, _, h, _ => by cases h; exact .int i
  | .str x, _, h, _ => by cases h; exact .str x
  | .list ds, _, h, c => by
    cases h with
    | lst hs ha => exact .lst hs (dpAll_old ds _ ha (by simpa [PyData.canLay0] using c))
  | .tuple ds, _, h, c => by
    cases h with
    | tup hs ha => exact .tup hs (dpAll_old ds _ ha (by simpa [PyData.canLay0] using c))
  | .dict _, _, h, c => by simp [PyData.canLay0] at c
theorem dpAll_old {K : PySem.W.Frag} {H : Hp} : ∀ (ds : List Dt) (vs : List V), DpAll K H vs ds → PyData.canLayAll0 ds = true → L2.DpAll K H vs ds
  | [], _, h, _ => by cases h; exact .nil
  | d :: ds, _, h, c => by
    cases h with
    | cons h1 h2 =>
      have c2 : d.canLay0 = true ∧ PyData.canLayAll0 ds = true := by simpa [PyData.canLayAll0] using c
      exact .cons (dp_old d _ h1 c2.1) (dpAll_old ds _ h2 c2.2)
end
theorem Dp.old {K : PySem.W.Frag} {H : Hp} {v : V} {d : Dt} (h : Dp K H v d) (s : SeqAt.shaped d = true) : L2.Dp K H v d := dp_old d v h (by
  unfold SeqAt.shaped at s
  rw [Bool.and_eq_true] at s
  exact s.1)
mutual
theorem dp_mono {K : PySem.W.Frag} {H H' : Hp} (s : Same H H') : ∀ (d : Dt) (v : V), Dp K H v d → Dp K H' v d
  | .none, _, h => by cases h; exact .non
  | .bool b, _, h => by cases h; exact .bl b
  | .int i, _, h => by cases h; exact .int i
  | .str x, _, h => by cases h; exact .str x
  | .list ds, _, h => by
    cases h with
    | lst hs ha => exact .lst (s.seq hs) (dpAll_mono s ds _ ha)
  | .tuple ds, _, h => by
    cases h with
    | tup hs ha => exact .tup (sqT_mono s hs) (dpAll_mono s ds _ ha)
  | .dict _, _, h => by
    cases h with
    | emp e => exact .emp (s _ _ e)
    | pool e => exact .pool (s _ _ e)
theorem dpAll_mono {K : PySem.W.Frag} {H H' : Hp} (s : Same H H') : ∀ (ds : List Dt) (vs : List V), DpAll K H vs ds → DpAll K H' vs ds
  | [], _, h => by cases h; exact .nil
  | d :: ds, _, h => by
    cases h with
    | cons h1 h2 => exact .cons (dp_mono s d _ h1) (dpAll_mono s ds _ h2)
end
theorem Dp.up {K : PySem.W.Frag} {H H' : Hp} {d : Dt} {v : V} (h : Dp K H v d) (s : Same H H') : Dp K H' v d := dp_mono s d v h
theorem DpAll.up {K : PySem.W.Frag} {H H' : Hp} {ds : List Dt} {vs : List V} (h : DpAll K H vs ds) (s : Same H H') : DpAll K H' vs ds := dpAll_mono s ds vs h
theorem DpAll.len {K : PySem.W.Frag} {H : Hp} : ∀ {ds : List Dt} {vs : List V}, DpAll K H vs ds → vs.length = ds.length
  | [], _, h => by cases h; rfl
  | d :: ds, _, h => by
    cases h with
    | cons h1 h2 => exact congrArg Nat.succ (DpAll.len h2)
theorem DpAll.get {K : PySem.W.Frag} {H : Hp} : ∀ {ds : List Dt} {vs : List V} {i : Nat} {d : Dt}, DpAll K H vs ds → ds[i]? = some d → ∃ v, vs[i]? = some v ∧ Dp K H v d
  | [], _, i, d, h, e => by simp at e
  | d0 :: ds, _, 0, d, h, e => by
    cases h with
    | cons h1 h2 =>
      have e' : d0 = d := Option.some.inj e
      subst e'
      exact ⟨_, rfl, h1⟩
  | d0 :: ds, _, i + 1, d, h, e => by
    cases h with
    | cons h1 h2 =>
      obtain ⟨v, q1, q2⟩ := DpAll.get (i := i) h2 (by simpa using e)
      exact ⟨v, by simpa using q1, q2⟩
theorem DpAll.getV {K : PySem.W.Frag} {H : Hp} {ds : List Dt} {vs : List V} {i : Nat} {v : V} (h : DpAll K H vs ds) (e : vs[i]? = some v) : ∃ d, ds[i]? = some d ∧ Dp K H v d := by
  have hl : i < vs.length := (List.getElem?_eq_some_iff.mp e).1
  rw [h.len] at hl
  obtain ⟨v', q1, q2⟩ := h.get (List.getElem?_eq_getElem hl)
  rw [e] at q1
  cases q1
  exact ⟨_, List.getElem?_eq_getElem hl, q2⟩
theorem DpAll.app {K : PySem.W.Frag} {H : Hp} : ∀ {ds es : List Dt} {vs us : List V}, DpAll K H vs ds → DpAll K H us es → DpAll K H (vs ++ us) (ds ++ es)
  | [], es, _, us, h, g => by cases h; exact g
  | d :: ds, es, _, us, h, g => by
    cases h with
    | cons h1 h2 => exact .cons h1 (DpAll.app h2 g)
theorem DpAll.take {K : PySem.W.Frag} {H : Hp} : ∀ {ds : List Dt} {vs : List V} (n : Nat), DpAll K H vs ds → DpAll K H (vs.take n) (ds.take n)
  | [], _, n, h => by cases h; simp; exact .nil
  | d :: ds, _, 0, h => .nil
  | d :: ds, _, n + 1, h => by
    cases h with
    | cons h1 h2 => exact .cons h1 (DpAll.take n h2)
theorem DpAll.drop {K : PySem.W.Frag} {H : Hp} : ∀ {ds : List Dt} {vs : List V} (n : Nat), DpAll K H vs ds → DpAll K H (vs.drop n) (ds.drop n)
  | [], _, n, h => by cases h; simp; exact .nil
  | d :: ds, _, 0, h => h
  | d :: ds, _, n + 1, h => by
    cases h with
    | cons h1 h2 => exact DpAll.drop n h2
theorem DpAll.set {K : PySem.W.Frag} {H : Hp} {d : Dt} {v : V} (g : Dp K H v d) : ∀ {ds : List Dt} {vs : List V} (n : Nat), DpAll K H vs ds → DpAll K H (vs.set n v) (ds.set n d)
  | [], _, n, h => by cases h; exact .nil
  | d0 :: ds, _, 0, h => by
    cases h with
    | cons h1 h2 => exact .cons g h2
  | d0 :: ds, _, n + 1, h => by
    cases h with
    | cons h1 h2 => exact .cons h1 (DpAll.set g n h2)
theorem DpAll.one {K : PySem.W.Frag} {H : Hp} {d : Dt} {v : V} (g : Dp K H v d) : DpAll K H [v] [d] := .cons g .nil
theorem DpAll.reverse {K : PySem.W.Frag} {H : Hp} : ∀ {ds : List Dt} {vs : List V}, DpAll K H vs ds → DpAll K H vs.reverse ds.reverse
  | [], _, h => by cases h; exact .nil
  | d :: ds, _, h => by
    cases h with
    | cons h1 h2 =>
      rw [List.reverse_cons, List.reverse_cons]
      exact DpAll.app (DpAll.reverse h2) (.one h1)
theorem DpAll.ints {K : PySem.W.Frag} {H : Hp} : ∀ (ns : List Int), DpAll K H (ns.map V.int) (ns.map PyData.int)
  | [] => .nil
  | n :: ns => .cons (.int n) (DpAll.ints ns)
theorem DpAll.ints_eq {K : PySem.W.Frag} {H : Hp} : ∀ {ns : List Int} {vs : List V}, DpAll K H vs (ns.map PyData.int) → vs = ns.map V.int
  | [], _, h => by cases h; rfl
  | n :: ns, _, h => by
    cases h with
    | cons h1 h2 =>
      cases h1
      rw [DpAll.ints_eq h2]
      rfl
theorem DpAll.bls_eq {K : PySem.W.Frag} {H : Hp} : ∀ {ns : List Bool} {vs : List V}, DpAll K H vs (ns.map PyData.bool) → vs = ns.map V.bl
  | [], _, h => by cases h; rfl
  | n :: ns, _, h => by
    cases h with
    | cons h1 h2 =>
      cases h1
      rw [DpAll.bls_eq h2]
      rfl
theorem DpAll.strs_eq {K : PySem.W.Frag} {H : Hp} : ∀ {ns : List Str} {vs : List V}, DpAll K H vs (ns.map PyData.str) → vs = ns.map V.str
  | [], _, h => by cases h; rfl
  | n :: ns, _, h => by
    cases h with
    | cons h1 h2 =>
      cases h1
      rw [DpAll.strs_eq h2]
      rfl
theorem DpAll.strs {K : PySem.W.Frag} {H : Hp} : ∀ (ns : List Str), DpAll K H (ns.map V.str) (ns.map PyData.str)
  | [] => .nil
  | n :: ns => .cons (.str n) (DpAll.strs ns)
theorem same_new {H : Hp} {p : Addr} {o : HO} (h : H p = none) : Same H (upd H p o) := fun b x e => by
  rw [upd_ne (ne_of_none e h)]
  exact e
/-! ### the frame rule: what is changed here stands aside while an expression runs -/
def isMut : HO → Bool
  | .lst _ => true
  | .dK _ => true
  | .dT _ => true
  | _ => false
structure Fz (F H : Hp) : Prop where
  same : Same F H
  drop : ∀ a o, H a = some o → F a = some o ∨ (F a = none ∧ isMut o = true)
theorem Fz.refl (H : Hp) : Fz H H := ⟨Same.refl H, fun _ _ e => .inl e⟩
theorem Fz.keep {F H : Hp} (z : Fz F H) {a : Addr} {o : HO} (e : H a = some o) (n : isMut o = false) : F a = some o := by
  rcases z.drop a o e with q | ⟨_, q⟩
  · exact q
  · rw [n] at q; cases q
def glue (F H : Hp) : Hp := fun a => match F a with
  | some o => some o
  | none => H a
theorem glue_some {F H : Hp} {a : Addr} {o : HO} (e : F a = some o) : glue F H a = some o := by unfold glue; rw [e]
theorem glue_none {F H : Hp} {a : Addr} (e : F a = none) : glue F H a = H a := by unfold glue; rw [e]
def tFr (te : TE) : TE := fun σ H Q => ∃ F, Fz F H ∧ te σ F fun v F' => Same F F' ∧ ((∀ a o, H a = some o → F a = none → F' a = none) → Q v (glue F' H))
section
variable {X : Cx} {pins : List (Addr × Obj)} {σ : St} {H F : Hp} {s : Shared}
theorem stk_free (I : Inv X pins σ H s) {b : Addr} (hb : b ∈ X.fs) : H b = none := by
  have h := I.stkFree
  rcases I.ok.stk with e | ⟨e, _⟩
  · exact h b (by rw [e]; exact hb)
  · exact h b (by
      rw [e]
      unfold frs
      rw [List.filterMap_cons]
      split
      · exact hb
      · exact List.mem_cons_of_mem _ hb)
theorem obj_of_mut {P : Program} {w : World} {h : Heap} {a : Addr} {o : HO} (x : ObjOk P w H h a o) (m : isMut o = true) : ∃ ob, h.get? a = some ob ∧ ∀ v, ob.data ≠ .cell v := by
  cases o with
  | lst xs =>
    obtain ⟨_, its, n, _, e⟩ := x
    exact ⟨_, e, fun v z => by cases z⟩
  | dK kvs =>
    obtain ⟨_, _, vs, _, ob, es, ep, e, _, d, _⟩ := x
    exact ⟨_, e, fun v z => by rw [d] at z; cases z⟩
  | dT kvs =>
    obtain ⟨_, _, xs, _, ob, es, ep, e, _, d, _⟩ := x
    exact ⟨_, e, fun v z => by rw [d] at z; cases z⟩
  | _ => cases m
/-- what stands aside -/
def aside (h : Heap) (H F : Hp) : List (Addr × Obj) := (List.range h.objs.size).filterMap fun a => if (H a).isSome = true ∧ (F a).isSome = false then (h.get? a).map fun o => (a, o) else none
theorem mem_aside {h : Heap} {a : Addr} {o : HO} {ob : Obj} (e : H a = some o) (f : F a = none) (g : h.get? a = some ob) : (a, ob) ∈ aside h H F :=
  List.mem_filterMap.mpr ⟨a, List.mem_range.mpr (Heap.lt_size g), by rw [if_pos ⟨by rw [e]; rfl, by rw [f]; rfl⟩, g]; rfl⟩
theorem of_aside {h : Heap} {p : Addr × Obj} (hp : p ∈ aside h H F) : (∃ o, H p.1 = some o) ∧ F p.1 = none ∧ h.get? p.1 = some p.2 := by
  obtain ⟨b, _, e⟩ := List.mem_filterMap.mp hp
  split at e
  · rename_i c
    cases q : h.get? b with
    | none => rw [q] at e; cases e
    | some u =>
      rw [q] at e
      have e' : (b, u) = p := Option.some.inj e
      subst e'
      refine ⟨Option.isSome_iff_exists.mp c.1, ?_, q⟩
      cases z : F b with
      | none => rfl
      | some y => have z2 := c.2; rw [z] at z2; cases z2
  · cases e
theorem Inv.without (I : Inv X pins σ H s) (z : Fz F H) : Inv X (pins ++ aside s.heap H F) σ F s := by
  have low : ∀ b, H b = none → F b = none := fun b e => by
    cases q : F b with
    | none => rfl
    | some o => rw [z.same b o q] at e; cases e
  refine ⟨I.ok, I.os, I.bare, ⟨I.base.keep, I.base.slot, fun b o q n hx => low b (I.base.free b o q n hx), I.base.there, fun b xs q => z.keep (I.base.tups b xs q) rfl, fun b o u q => z.keep (I.base.frzs b o u q) rfl, fun b ps q => ?_⟩, I.loc, I.cell, low _ I.free, fun x c e => low _ (I.freeC x c e), fun p hp => ?_, fun a o e => ?_, I.len⟩
  · obtain ⟨more, q⟩ := I.base.tbls b ps q
    exact ⟨more, z.keep q rfl⟩
  · rcases List.mem_append.mp hp with h1 | h1
    · obtain ⟨a1, a2, a3⟩ := I.pin p (List.mem_append_left _ h1)
      exact ⟨a1, low _ a2, a3⟩
    · rcases List.mem_append.mp h1 with h1 | h1
      · obtain ⟨a1, a2, a3⟩ := I.pin p (List.mem_append_right _ h1)
        exact ⟨a1, low _ a2, a3⟩
      · obtain ⟨⟨o, e⟩, f, g⟩ := of_aside h1
        have m : isMut o = true := by
          rcases z.drop _ _ e with q | ⟨_, q⟩
          · rw [f] at q; cases q
          · exact q
        obtain ⟨ob, g2, nc⟩ := obj_of_mut (I.hok _ _ e) m
        rw [g] at g2
        cases g2
        refine ⟨g, f, fun q => ?_, fun q => ?_, nc⟩
        · rw [q, I.free] at e; cases e
        · rw [stk_free I q] at e; cases e
  · exact (I.hok a o (z.same a o e)).stay (fun _ _ _ q => q) (fun b q => z.keep q rfl) fun b xs q => z.keep q rfl
theorem Inv.back {F' : Hp} {s' : Shared} {σ' : St} (I : Inv X pins σ H s) (z : Fz F H) (sm : Same F F') (J : Inv X (pins ++ aside s.heap H F) σ' F' s') : Inv X pins σ' (glue F' H) s' ∧ ∀ a o, H a = some o → F a = none → F' a = none := by
  have pinned : ∀ a o, H a = some o → F a = none → F' a = none ∧ ∀ ob, s.heap.get? a = some ob → s'.heap.get? a = some ob := fun a o e f => by
    have m : isMut o = true := by
      rcases z.drop _ _ e with q | ⟨_, q⟩
      · rw [f] at q; cases q
      · exact q
    obtain ⟨ob, g, _⟩ := obj_of_mut (I.hok _ _ e) m
    obtain ⟨a1, a2, _⟩ := J.pin (a, ob) (List.mem_append_right _ (List.mem_append_right _ (mem_aside e f g)))
    refine ⟨a2, fun ob' g' => ?_⟩
    rw [g] at g'
    cases g'
    exact a1
  have up : ∀ b o, F' b = some o → glue F' H b = some o := fun b o e => glue_some e
  have tupsUp : ∀ b xs, H b = some (.tup xs) → glue F' H b = some (.tup xs) := fun b xs e => up b _ (sm b _ (z.keep e rfl))
  refine ⟨⟨I.ok, J.os, J.bare, ⟨J.base.keep, J.base.slot, fun b o q n hx => ?_, J.base.there, fun b xs q => up b _ (J.base.tups b xs q), fun b o u q => up b _ (J.base.frzs b o u q), fun b ps q => ?_⟩, J.loc, J.cell, ?_, fun x c e => ?_, fun p hp => ?_, fun a o e => ?_, J.len⟩, fun a o e f => (pinned a o e f).1⟩
  · rw [glue_none (J.base.free b o q n hx)]
    exact I.base.free b o q n hx
  · obtain ⟨more, q⟩ := J.base.tbls b ps q
    exact ⟨more, up b _ q⟩
  · rw [glue_none J.free]; exact I.free
  · rw [glue_none (J.freeC x c e)]; exact I.freeC x c e
  · have h1 : p ∈ X.pn ++ (pins ++ aside s.heap H F) := by
      rcases List.mem_append.mp hp with h | h
      · exact List.mem_append_left _ h
      · exact List.mem_append_right _ (List.mem_append_left _ h)
    obtain ⟨a1, a2, a3⟩ := J.pin p h1
    refine ⟨a1, ?_, a3⟩
    rw [glue_none a2]
    exact (I.pin p hp).2.1
  · cases q : F' a with
    | some o' =>
      rw [glue_some q] at e
      cases e
      exact (J.hok a _ q).stay (fun _ _ _ q => q) (fun b q => up b _ q) fun b xs q => up b _ q
    | none =>
      rw [glue_none q] at e
      have f : F a = none := by
        cases f : F a with
        | none => rfl
        | some o' => rw [sm a o' f] at q; cases q
      have m : isMut o = true := by
        rcases z.drop _ _ e with q | ⟨_, q⟩
        · rw [f] at q; cases q
        · exact q
      have k := (pinned a o e f).2
      have ok := I.hok a o e
      cases o with
      | lst xs =>
        obtain ⟨l, its, n, r, g⟩ := ok
        exact ⟨l, its, n, r, k _ g⟩
      | dK kvs =>
        obtain ⟨l, y, vs, r, ob, es, ep, g, c⟩ := ok
        exact ⟨l, y, vs, r, ob, es, ep, k _ g, c⟩
      | dT kvs =>
        obtain ⟨l, y, xs, r, ob, es, ep, g, c⟩ := ok
        exact ⟨l, y, xs, Paired.mapP r fun p q z => ⟨z.1, tupsUp _ _ z.2.1, z.2.2⟩, ob, es, ep, k _ g, c⟩
      | _ => cases m
theorem pe_frame {e : Expr} {te : TE} (h : PE X e te) : PE X e (tFr te) := by
  refine ⟨fun pins s σ H Q I hw => ?_⟩
  obtain ⟨F, z, ht⟩ := hw
  refine thn (h.run _ s σ F _ (Inv.without I z) ht) fun u s1 hh => ?_
  obtain ⟨v, F', J, r, sm, q⟩ := hh
  obtain ⟨K1, dj⟩ := Inv.back I z sm J
  exact ⟨v, glue F' H, K1, r, q dj⟩
end
end L2.D3

set_option maxHeartbeats 4000000
namespace L2.D3
open PySem PySem.Spec PyProof.Rows
/-! ### expressions over data -/
/-- what is known of a value and stays known while the heap grows -/
structure Ass where
  p : PySem.W.Frag → Hp → V → Prop
  up : ∀ K H H' v, Same H H' → p K H v → p K H' v
/-- a name: nothing known, a datum, something else -/
inductive Cl where
  | no
  | da (d : Dt)
  | an (A : Ass)
def Cl.d : Cl → Option Dt
  | .da d => some d
  | _ => none
def Cl.a : Cl → Option Ass
  | .an A => some A
  | _ => none
abbrev Fro := List Cl
def getF : Fro → Nat → Option Dt
  | [], _ => none
  | a :: _, 0 => a.d
  | _ :: r, n + 1 => getF r n
def getA : Fro → Nat → Option Ass
  | [], _ => none
  | a :: _, 0 => a.a
  | _ :: r, n + 1 => getA r n
def setF : Fro → Nat → Dt → Fro
  | [], _, _ => []
  | _ :: r, 0, d => .da d :: r
  | a :: r, n + 1, d => a :: setF r n d
theorem getF_setF : ∀ {φ : Fro} {i j : Nat} {d e : Dt}, getF (setF φ i d) j = some e → (j = i ∧ e = d) ∨ (j ≠ i ∧ getF φ j = some e)
  | [], i, j, d, e, h => by cases h
  | a :: r, 0, 0, d, e, h => .inl ⟨rfl, (Option.some.inj h).symm⟩
  | a :: r, 0, j + 1, d, e, h => .inr ⟨Nat.succ_ne_zero j, h⟩
  | a :: r, i + 1, 0, d, e, h => .inr ⟨(Nat.succ_ne_zero i).symm, h⟩
  | a :: r, i + 1, j + 1, d, e, h => by
    rcases getF_setF (φ := r) (i := i) (j := j) h with ⟨a1, a2⟩ | ⟨a1, a2⟩
    · exact .inl ⟨by rw [a1], a2⟩
    · exact .inr ⟨fun z => a1 (Nat.succ.inj z), a2⟩
theorem getA_setF : ∀ {φ : Fro} {i j : Nat} {d : Dt} {e : Ass}, getA (setF φ i d) j = some e → j ≠ i ∧ getA φ j = some e
  | [], i, j, d, e, h => by cases h
  | a :: r, 0, 0, d, e, h => by cases h
  | a :: r, 0, j + 1, d, e, h => ⟨Nat.succ_ne_zero j, h⟩
  | a :: r, i + 1, 0, d, e, h => ⟨(Nat.succ_ne_zero i).symm, h⟩
  | a :: r, i + 1, j + 1, d, e, h => by
    obtain ⟨a1, a2⟩ := getA_setF (φ := r) (i := i) (j := j) h
    exact ⟨fun z => a1 (Nat.succ.inj z), a2⟩
theorem setF_len : ∀ {φ : Fro} {i : Nat} {d : Dt}, (setF φ i d).length = φ.length
  | [], i, d => rfl
  | a :: r, 0, d => rfl
  | a :: r, i + 1, d => congrArg Nat.succ (setF_len (φ := r))
theorem getF_lt : ∀ {φ : Fro} {i : Nat} {d : Dt}, getF φ i = some d → i < φ.length
  | [], i, d, h => by cases h
  | a :: r, 0, d, h => Nat.zero_lt_succ _
  | a :: r, i + 1, d, h => Nat.succ_lt_succ (getF_lt (φ := r) h)
structure EnvF (K : PySem.W.Frag) (σ : St) (H : Hp) (φ : Fro) : Prop where
  len : φ.length ≤ σ.length
  at_ : ∀ i d, getF φ i = some d → ∃ v, σ[i]? = some (some v) ∧ Dp K H v d
  an : ∀ i A, getA φ i = some A → ∃ v, σ[i]? = some (some v) ∧ A.p K H v
theorem EnvF.up {K : PySem.W.Frag} {σ : St} {H H' : Hp} {φ : Fro} (h : EnvF K σ H φ) (s : Same H H') : EnvF K σ H' φ := ⟨h.len, fun i d e => by
  obtain ⟨v, a, b⟩ := h.at_ i d e
  exact ⟨v, a, b.up s⟩, fun i A e => by
  obtain ⟨v, a, b⟩ := h.an i A e
  exact ⟨v, a, A.up _ _ _ _ s b⟩⟩
theorem EnvF.set {K : PySem.W.Frag} {σ : St} {H : Hp} {φ : Fro} {i : Nat} {d : Dt} {v : V} (h : EnvF K σ H φ) (hv : Dp K H v d) : EnvF K (σ.set i (some v)) H (setF φ i d) := by
  refine ⟨by rw [setF_len, List.length_set]; exact h.len, fun j e q => ?_, fun j A q => ?_⟩
  · have hj := getF_lt q
    rw [setF_len] at hj
    have hl := Nat.lt_of_lt_of_le hj h.len
    rcases getF_setF q with ⟨rfl, rfl⟩ | ⟨a1, a2⟩
    · exact ⟨v, by rw [List.getElem?_set_self hl], hv⟩
    · obtain ⟨u, b1, b2⟩ := h.at_ j e a2
      exact ⟨u, by rw [List.getElem?_set_ne (Ne.symm a1)]; exact b1, b2⟩
  · obtain ⟨a1, a2⟩ := getA_setF q
    obtain ⟨u, b1, b2⟩ := h.an j A a2
    exact ⟨u, by rw [List.getElem?_set_ne (Ne.symm a1)]; exact b1, b2⟩
abbrev DE := Fro → (Dt → Prop) → Prop
abbrev DT := Fro → (Bool → Prop) → Prop
abbrev DA := Fro → (List Dt → Prop) → Prop
def SE (K : PySem.W.Frag) (te : TE) (de : DE) : Prop := ∀ (σ : St) (H : Hp) (φ : Fro) (Φ : Dt → Prop) (Q : VK), EnvF K σ H φ → de φ Φ → (∀ v H' d, Same H H' → Dp K H' v d → Φ d → Q v H') → te σ H Q
def ST (K : PySem.W.Frag) (tt : TT) (dt : DT) : Prop := ∀ (σ : St) (H : Hp) (φ : Fro) (Φ : Bool → Prop) (Q : Bool → Hp → Prop), EnvF K σ H φ → dt φ Φ → (∀ b H', Same H H' → Φ b → Q b H') → tt σ H Q
def SA (K : PySem.W.Frag) (n : Nat) (ta : TA) (da : DA) : Prop := ∀ (σ : St) (H : Hp) (φ : Fro) (Φ : List Dt → Prop) (Q : List V → Hp → Prop), EnvF K σ H φ → da φ Φ → (∀ vs H' ds, Same H H' → DpAll K H' vs ds → ds.length = n → Φ ds → Q vs H') → ta σ H Q
structure GE (X : Cx) (e : Expr) (de : DE) : Prop where
  ex : ∃ te, PE X e te ∧ SE X.K te de
structure GT (X : Cx) (e : Expr) (dt : DT) : Prop where
  ex : ∃ tt, PT X e tt ∧ ST X.K tt dt
structure GW (X : Cx) (e : Expr) (dt : DT) : Prop where
  ex : ∃ tt, PW X e tt ∧ ST X.K tt dt
structure GA (X : Cx) (es : List Expr) (da : DA) : Prop where
  ex : ∃ ta, PA X es ta ∧ SA X.K es.length ta da
/-! names, constants -/
def dV (i : Nat) : DE := fun φ Φ => match getF φ i with
  | some d => Φ d
  | none => False
def dC (d : Dt) : DE := fun _ Φ => Φ d
section
variable {X : Cx} {K : PySem.W.Frag}
theorem se_var (i : Nat) : SE K (tVar i) (dV i) := fun σ H φ Φ Q env h q => by
  unfold dV at h
  cases e : getF φ i with
  | none => rw [e] at h; exact h.elim
  | some d =>
    rw [e] at h
    obtain ⟨v, a, b⟩ := env.at_ i d e
    exact ⟨v, a, q v H d (Same.refl H) b h⟩
theorem gv (i : Nat) {x : Str} {pos : Pos} (hN : X.N[i]? = some x := by rfl) (hv : Vis X.env.scope x := by first | exact Or.inl rfl | exact Or.inr (Or.inl rfl) | exact Or.inr (Or.inr rfl)) (hd : (x == ("__debug__" : Str)) = false := by decide)
    (hcd : (x == ("__classdict__" : Str)) = false := by decide) : GE X (.Name x pos) (dV i) := ⟨_, pe_var hN hv hd hcd, se_var i⟩
theorem se_c {v : V} {d : Dt} (h : ∀ H, Dp K H v d) : SE K (tC v) (dC d) := fun σ H φ Φ Q env hd q => q v H d (Same.refl H) (h H) hd
theorem g_int {i : Int} {j pos} : GE X (.Constant (.int i) j pos) (dC (.int i)) := ⟨_, pe_int, se_c fun _ => .int i⟩
theorem g_bl {b : Bool} {j pos} : GE X (.Constant (.bool b) j pos) (dC (.bool b)) := ⟨_, pe_bl, se_c fun _ => .bl b⟩
theorem g_non {j pos} : GE X (.Constant .none j pos) (dC .none) := ⟨_, pe_non, se_c fun _ => .non⟩
theorem g_str {x j pos} : GE X (.Constant (.str x) j pos) (dC (.str x)) := ⟨_, pe_str, se_c fun _ => .str x⟩
/-- a module's name that stands for data -/
def Glo (K : PySem.W.Frag) (mg : Str → Option Value) (x : Str) (d : Dt) : Prop := ∃ u v, mg x = some u ∧ RelV v u ∧ ∀ H, Dp K H v d
theorem g_glob {x : Str} {d : Dt} {pos : Pos} (h : Glo X.K X.mg x d) (hg : Gl X x := by rfl) (hd : (x == ("__debug__" : Str)) = false := by decide) : GE X (.Name x pos) (dC d) := by
  obtain ⟨u, v, hm, r, hv⟩ := h
  exact ⟨_, pe_glob hg hm r hd, se_c hv⟩
/-! operators -/
abbrev DO := Dt → Dt → (Dt → Prop) → Prop
def RD (K : PySem.W.Frag) (r : R2) (o : DO) : Prop := ∀ (x y : V) (H : Hp) (Q : VK) (dx dy : Dt) (Φ : Dt → Prop), Dp K H x dx → Dp K H y dy → o dx dy Φ → (∀ v H' d, Same H H' → Dp K H' v d → Φ d → Q v H') → r x y H Q
structure OpG (X : Cx) (f : Value → Value → Sem Value) (o : DO) : Prop where
  ex : ∃ r, OpR X f r ∧ RD X.K r o
def dBin (o : DO) (da db : DE) : DE := fun φ Φ => da φ fun x => db φ fun y => o x y Φ
theorem se_op {r : R2} {o : DO} {ta tb : TE} {da db : DE} (hr : RD K r o) (ha : SE K ta da) (hb : SE K tb db) : SE K (tOp r ta tb) (dBin o da db) := fun σ H φ Φ Q env h q =>
  ha σ H φ _ _ env h fun x H1 dx s1 px h1 => hb σ H1 φ _ _ (env.up s1) h1 fun y H2 dy s2 py h2 => hr x y H2 Q dx dy Φ (px.up s2) py h2 fun v H' d s3 pv hd => q v H' d (s1.trans (s2.trans s3)) pv hd
theorem g_op {a b : Expr} {da db : DE} {op : Operator} {o : DO} {pos : Pos} (ho : OpG X (binaryOp op) o) (ha : GE X a da) (hb : GE X b db) : GE X (.BinOp a op b pos) (dBin o da db) := by
  obtain ⟨r, h1, h2⟩ := ho
  obtain ⟨ta, a1, a2⟩ := ha
  obtain ⟨tb, b1, b2⟩ := hb
  exact ⟨_, pe_op h1 a1 b1, se_op h2 a2 b2⟩
theorem g_cmp {a b : Expr} {da db : DE} {op : CmpOp} {o : DO} {pos : Pos} (ho : OpG X (compareOp op) o) (ha : GE X a da) (hb : GE X b db) (hm : behindInMarks op b = false := by first | rfl | exact nomark _) : GE X (.Compare a [op] [b] pos) (dBin o da db) := by
  obtain ⟨r, h1, h2⟩ := ho
  obtain ⟨ta, a1, a2⟩ := ha
  obtain ⟨tb, b1, b2⟩ := hb
  exact ⟨_, pe_cmpR h1 a1 b1 hm, se_op h2 a2 b2⟩
/-- a truth -/
def onB (Φ : Bool → Prop) : Dt → Prop
  | .bool b => Φ b
  | _ => False
def dTV (da : DE) : DT := fun φ Φ => da φ (onB Φ)
theorem st_test {te : TE} {de : DE} (h : SE K te de) : ST K (tTest te) (dTV de) := fun σ H φ Φ Q env hd q => h σ H φ _ _ env hd fun v H' d s pv hd => by
  cases d with
  | bool b => cases pv; exact ⟨b, rfl, q b H' s hd⟩
  | _ => exact False.elim hd
theorem t_cmp {a b : Expr} {da db : DE} {op : CmpOp} {o : DO} {pos : Pos} (ho : OpG X (compareOp op) o) (ha : GE X a da) (hb : GE X b db) (hm : behindInMarks op b = false := by first | rfl | exact nomark _) : GT X (.Compare a [op] [b] pos) (dTV (dBin o da db)) := by
  obtain ⟨r, h1, h2⟩ := ho
  obtain ⟨ta, a1, a2⟩ := ha
  obtain ⟨tb, b1, b2⟩ := hb
  exact ⟨_, pt_cmpR h1 a1 b1 hm, st_test (se_op h2 a2 b2)⟩
theorem t_val {e : Expr} {de : DE} (h : GE X e de) (he : ∀ whole, isTrue e X.env whole = (do let v ← whole; standAt e.pos; holding [v] (truthy v)) := by intro _; rfl) : GT X e (dTV de) := by
  obtain ⟨te, h1, h2⟩ := h
  exact ⟨_, pt_val h1 he, st_test h2⟩
def dChn (o o' : DO) (da db dc : DE) : DE := fun φ Φ => da φ fun x => db φ fun y => o x y (onB fun b => if b = true then dc φ fun z => o' y z Φ else Φ (.bool false))
theorem se_chain {r r' : R2} {o o' : DO} {ta tb tc : TE} {da db dc : DE} (hr : RD K r o) (hr' : RD K r' o') (ha : SE K ta da) (hb : SE K tb db) (hc : SE K tc dc) : SE K (tChain r r' ta tb tc) (dChn o o' da db dc) := fun σ H φ Φ Q env h q =>
  ha σ H φ _ _ env h fun x H1 dx s1 px h1 => hb σ H1 φ _ _ (env.up s1) h1 fun y H2 dy s2 py h2 => hr x y H2 _ dx dy _ (px.up s2) py h2 fun v H3 d s3 pv hd => by
    cases d with
    | bool b =>
      cases pv
      refine ⟨b, rfl, ?_⟩
      have hd' : if b = true then dc φ fun z => o' dy z Φ else Φ (.bool false) := hd
      cases b with
      | true =>
        rw [if_pos rfl] at hd' ⊢
        exact hc σ H3 φ _ _ (env.up (s1.trans (s2.trans s3))) hd' fun z H4 dz s4 pz h4 => hr' y z H4 Q dy dz Φ (py.up (s3.trans s4)) pz h4 fun w H' d s5 pw hw => q w H' d (s1.trans (s2.trans (s3.trans (s4.trans s5)))) pw hw
      | false =>
        rw [if_neg Bool.false_ne_true] at hd' ⊢
        exact q _ _ _ (s1.trans (s2.trans s3)) (.bl false) hd'
    | _ => exact False.elim hd
theorem g_chain {a b c : Expr} {da db dc : DE} {op op' : CmpOp} {o o' : DO} {pos : Pos} (ho : OpG X (compareOp op) o) (ho' : OpG X (compareOp op') o') (ha : GE X a da) (hb : GE X b db) (hc : GE X c dc) (hm : lastMarks [op, op'] [b, c] = false := by with_unfolding_all rfl) :
    GE X (.Compare a [op, op'] [b, c] pos) (dChn o o' da db dc) := by
  obtain ⟨r, h1, h2⟩ := ho
  obtain ⟨r', h1', h2'⟩ := ho'
  obtain ⟨ta, a1, a2⟩ := ha
  obtain ⟨tb, b1, b2⟩ := hb
  obtain ⟨tc, c1, c2⟩ := hc
  exact ⟨_, pe_chain h1 h1' a1 b1 c1 hm, se_chain h2 h2' a2 b2 c2⟩
theorem t_chain {a b c : Expr} {da db dc : DE} {op op' : CmpOp} {o o' : DO} {pos : Pos} (ho : OpG X (compareOp op) o) (ho' : OpG X (compareOp op') o') (ha : GE X a da) (hb : GE X b db) (hc : GE X c dc) (hm : lastMarks [op, op'] [b, c] = false := by with_unfolding_all rfl) :
    GT X (.Compare a [op, op'] [b, c] pos) (dTV (dChn o o' da db dc)) := by
  obtain ⟨r, h1, h2⟩ := ho
  obtain ⟨r', h1', h2'⟩ := ho'
  obtain ⟨ta, a1, a2⟩ := ha
  obtain ⟨tb, b1, b2⟩ := hb
  obtain ⟨tc, c1, c2⟩ := hc
  exact ⟨_, pt_chain h1 h1' a1 b1 c1 hm, st_test (se_chain h2 h2' a2 b2 c2)⟩
/-! and, or, not -/
def dTAnd (t u : DT) : DT := fun φ Φ => t φ fun b => if b = true then u φ Φ else Φ false
def dTOr (t u : DT) : DT := fun φ Φ => t φ fun b => if b = true then Φ true else u φ Φ
def dTNot (t : DT) : DT := fun φ Φ => t φ fun b => Φ (!b)
theorem st_and {t u : TT} {d e : DT} (h1 : ST K t d) (h2 : ST K u e) : ST K (tAnd t u) (dTAnd d e) := fun σ H φ Φ Q env h q => h1 σ H φ _ _ env h fun b H1 s1 hb => by
  cases b with
  | true =>
    rw [if_pos rfl] at hb ⊢
    exact h2 σ H1 φ _ _ (env.up s1) hb fun b H2 s2 hb => q b H2 (s1.trans s2) hb
  | false =>
    rw [if_neg Bool.false_ne_true] at hb ⊢
    exact q false H1 s1 hb
theorem st_or {t u : TT} {d e : DT} (h1 : ST K t d) (h2 : ST K u e) : ST K (tOr t u) (dTOr d e) := fun σ H φ Φ Q env h q => h1 σ H φ _ _ env h fun b H1 s1 hb => by
  cases b with
  | true =>
    rw [if_pos rfl] at hb ⊢
    exact q true H1 s1 hb
  | false =>
    rw [if_neg Bool.false_ne_true] at hb ⊢
    exact h2 σ H1 φ _ _ (env.up s1) hb fun b H2 s2 hb => q b H2 (s1.trans s2) hb
theorem st_not {t : TT} {d : DT} (h1 : ST K t d) : ST K (tNot t) (dTNot d) := fun σ H φ Φ Q env h q => h1 σ H φ _ _ env h fun b H1 s1 hb => q (!b) H1 s1 hb
theorem w_and {a b : Expr} {rest : List Expr} {d e : DT} {pos : Pos} (ha : GT X a d) (hb : GW X (.BoolOp .And (b :: rest) pos) e) : GW X (.BoolOp .And (a :: b :: rest) pos) (dTAnd d e) := by
  obtain ⟨t, a1, a2⟩ := ha
  obtain ⟨u, b1, b2⟩ := hb
  exact ⟨_, pw_and a1 b1, st_and a2 b2⟩
theorem w_or {a b : Expr} {rest : List Expr} {d e : DT} {pos : Pos} (ha : GT X a d) (hb : GW X (.BoolOp .Or (b :: rest) pos) e) : GW X (.BoolOp .Or (a :: b :: rest) pos) (dTOr d e) := by
  obtain ⟨t, a1, a2⟩ := ha
  obtain ⟨u, b1, b2⟩ := hb
  exact ⟨_, pw_or a1 b1, st_or a2 b2⟩
theorem w_and1 {a : Expr} {d : DT} {pos : Pos} (ha : GT X a d) : GW X (.BoolOp .And [a] pos) d := by
  obtain ⟨t, a1, a2⟩ := ha
  exact ⟨_, pw_and1 a1, a2⟩
theorem w_or1 {a : Expr} {d : DT} {pos : Pos} (ha : GT X a d) : GW X (.BoolOp .Or [a] pos) d := by
  obtain ⟨t, a1, a2⟩ := ha
  exact ⟨_, pw_or1 a1, a2⟩
theorem GW.t {e : Expr} {d : DT} (h : GW X e d) : GT X e d := by
  obtain ⟨t, a1, a2⟩ := h
  exact ⟨_, a1.pt, a2⟩
theorem t_not {a : Expr} {d : DT} {pos : Pos} (ha : GT X a d) : GT X (.UnaryOp .Not a pos) (dTNot d) := by
  obtain ⟨t, a1, a2⟩ := ha
  exact ⟨_, pt_not a1, st_not a2⟩
/-! .. as values, of truths -/
def dAnd (da db : DE) : DE := fun φ Φ => da φ (onB fun b => if b = true then db φ Φ else Φ (.bool false))
def dOr (da db : DE) : DE := fun φ Φ => da φ (onB fun b => if b = true then Φ (.bool true) else db φ Φ)
def dNot (da : DE) : DE := fun φ Φ => da φ (onB fun b => Φ (.bool !b))
theorem onB_of {v : V} {H : Hp} {d : Dt} {Φ : Bool → Prop} (h : onB Φ d) (p : Dp K H v d) : ∃ b, v = .bl b ∧ Φ b := by
  cases d with
  | bool b => cases p; exact ⟨b, rfl, h⟩
  | _ => exact False.elim h
theorem se_and {ta tb : TE} {da db : DE} (ha : SE K ta da) (hb : SE K tb db) : SE K (tAndV ta tb) (dAnd da db) := fun σ H φ Φ Q env h q => ha σ H φ _ _ env h fun v H1 d s1 p1 h1 => by
  obtain ⟨b, rfl, h2⟩ := onB_of h1 p1
  refine ⟨b, rfl, ?_⟩
  cases b with
  | true =>
    rw [if_pos rfl] at h2 ⊢
    exact hb σ H1 φ _ _ (env.up s1) h2 fun v H2 d s2 pv hd => q v H2 d (s1.trans s2) pv hd
  | false =>
    rw [if_neg Bool.false_ne_true] at h2 ⊢
    exact q _ H1 _ s1 (.bl false) h2
theorem se_or {ta tb : TE} {da db : DE} (ha : SE K ta da) (hb : SE K tb db) : SE K (tOrV ta tb) (dOr da db) := fun σ H φ Φ Q env h q => ha σ H φ _ _ env h fun v H1 d s1 p1 h1 => by
  obtain ⟨b, rfl, h2⟩ := onB_of h1 p1
  refine ⟨b, rfl, ?_⟩
  cases b with
  | true =>
    rw [if_pos rfl] at h2 ⊢
    exact q _ H1 _ s1 (.bl true) h2
  | false =>
    rw [if_neg Bool.false_ne_true] at h2 ⊢
    exact hb σ H1 φ _ _ (env.up s1) h2 fun v H2 d s2 pv hd => q v H2 d (s1.trans s2) pv hd
theorem se_not {ta : TE} {da : DE} (ha : SE K ta da) : SE K (tNotV ta) (dNot da) := fun σ H φ Φ Q env h q => ha σ H φ _ _ env h fun v H1 d s1 p1 h1 => by
  obtain ⟨b, rfl, h2⟩ := onB_of h1 p1
  exact ⟨b, rfl, q _ H1 _ s1 (.bl _) h2⟩
theorem g_and {a b : Expr} {rest : List Expr} {da db : DE} {pos : Pos} (ha : GE X a da) (hb : GE X (.BoolOp .And (b :: rest) pos) db) : GE X (.BoolOp .And (a :: b :: rest) pos) (dAnd da db) := by
  obtain ⟨t, a1, a2⟩ := ha
  obtain ⟨u, b1, b2⟩ := hb
  exact ⟨_, pe_and a1 b1, se_and a2 b2⟩
theorem g_or {a b : Expr} {rest : List Expr} {da db : DE} {pos : Pos} (ha : GE X a da) (hb : GE X (.BoolOp .Or (b :: rest) pos) db) : GE X (.BoolOp .Or (a :: b :: rest) pos) (dOr da db) := by
  obtain ⟨t, a1, a2⟩ := ha
  obtain ⟨u, b1, b2⟩ := hb
  exact ⟨_, pe_or a1 b1, se_or a2 b2⟩
theorem g_one {a : Expr} {op} {da : DE} {pos : Pos} (ha : GE X a da) : GE X (.BoolOp op [a] pos) da := by
  obtain ⟨t, a1, a2⟩ := ha
  exact ⟨_, pe_one a1, a2⟩
theorem g_not {a : Expr} {da : DE} {pos : Pos} (ha : GE X a da) : GE X (.UnaryOp .Not a pos) (dNot da) := by
  obtain ⟨t, a1, a2⟩ := ha
  exact ⟨_, pe_not a1, se_not a2⟩
def dIfE (t : DT) (da db : DE) : DE := fun φ Φ => t φ fun b => if b = true then da φ Φ else db φ Φ
theorem g_ifE {c a b : Expr} {t : DT} {da db : DE} {pos : Pos} (hc : GT X c t) (ha : GE X a da) (hb : GE X b db) : GE X (.IfExp c a b pos) (dIfE t da db) := by
  obtain ⟨tt, c1, c2⟩ := hc
  obtain ⟨ta, a1, a2⟩ := ha
  obtain ⟨tb, b1, b2⟩ := hb
  refine ⟨_, pe_ifExp c1 a1 b1, fun σ H φ Φ Q env h q => c2 σ H φ _ _ env h fun b H1 s1 hb => ?_⟩
  cases b with
  | true =>
    rw [if_pos rfl] at hb ⊢
    exact a2 σ H1 φ _ _ (env.up s1) hb fun v H2 d s2 pv hd => q v H2 d (s1.trans s2) pv hd
  | false =>
    rw [if_neg Bool.false_ne_true] at hb ⊢
    exact b2 σ H1 φ _ _ (env.up s1) hb fun v H2 d s2 pv hd => q v H2 d (s1.trans s2) pv hd
/-! lists of arguments, displays -/
def dNil : DA := fun _ Φ => Φ []
def dCons (da : DE) (dr : DA) : DA := fun φ Φ => da φ fun x => dr φ fun xs => Φ (x :: xs)
theorem a_nil : GA X [] dNil := ⟨_, pa_nil, fun σ H φ Φ Q env h q => q [] H [] (Same.refl H) .nil rfl h⟩
theorem a_cons {e : Expr} {es : List Expr} {de : DE} {dr : DA} (he : GE X e de) (hr : GA X es dr) (hs : starEach (e :: es) X.env = (false, eval e X.env) :: starEach es X.env := by rfl) : GA X (e :: es) (dCons de dr) := by
  obtain ⟨te, a1, a2⟩ := he
  obtain ⟨tr, b1, b2⟩ := hr
  exact ⟨_, pa_cons a1 b1 hs, fun σ H φ Φ Q env h q => a2 σ H φ _ _ env h fun v H1 d s1 pv h1 => b2 σ H1 φ _ _ (env.up s1) h1 fun vs H2 ds s2 ps l h2 => q _ H2 _ (s1.trans s2) (.cons (pv.up s2) ps) (congrArg Nat.succ l) h2⟩
def dTup (da : DA) : DE := fun φ Φ => da φ fun ds => Φ (.tuple ds)
def dLst (da : DA) : DE := fun φ Φ => da φ fun ds => Φ (.list ds)
theorem g_tup {es : List Expr} {da : DA} {x1} {pos : Pos} (h : GA X es da) (hz : es.length ≤ sizeLine := by decide) : GE X (.Tuple es x1 pos) (dTup da) := by
  obtain ⟨t, a1, a2⟩ := h
  refine ⟨_, pe_tup a1, fun σ H φ Φ Q env h q => a2 σ H φ _ _ env h fun vs H1 ds s1 ps l h1 => ⟨by rw [ps.len, l]; exact hz, fun p hp => ?_⟩⟩
  have s2 := same_new (o := .tup vs) hp
  exact q _ _ _ (s1.trans s2) (.tup (SqT.of upd_same) (ps.up s2)) h1
theorem g_lst {es : List Expr} {da : DA} {pos : Pos} (h : GA X es da) (hz : es.length ≤ sizeLine := by decide) : GE X (.List es pos) (dLst da) := by
  obtain ⟨t, a1, a2⟩ := h
  refine ⟨_, pe_lst a1, fun σ H φ Φ Q env h q => a2 σ H φ _ _ env h fun vs H1 ds s1 ps l h1 => ⟨by rw [ps.len, l]; exact hz, fun p hp => ?_⟩⟩
  have s2 := same_new (o := .lst vs) hp
  exact q _ _ _ (s1.trans s2) (.lst (SqL.of upd_same) (ps.up s2)) h1
end
/-! ### the operators -/
section
variable {X : Cx} {K : PySem.W.Frag}
theorem OpR.or {f : Value → Value → Sem Value} {r r' : R2} (h : OpR X f r) (h' : OpR X f r') : OpR X f (fun x y H Q => r x y H Q ∨ r' x y H Q) := by
  intro pins s σ H x y v u Q I rx ry q
  rcases q with q | q
  · exact h pins s σ H x y v u Q I rx ry q
  · exact h' pins s σ H x y v u Q I rx ry q
theorem IxR.or {r r' : R2} (h : IxR X r) (h' : IxR X r') : IxR X (fun x y H Q => r x y H Q ∨ r' x y H Q) := by
  intro a b pins s σ H x y v u Q I rx ry q e
  rcases q with q | q
  · exact h a b pins s σ H x y v u Q I rx ry q e
  · exact h' a b pins s σ H x y v u Q I rx ry q e
/-- ints alone -/
def oI (f : Int → Int → Dt) : DO := fun x y Φ => match x, y with
  | .int i, .int j => Φ (f i j)
  | _, _ => False
def oIC (C : Int → Int → Prop) (f : Int → Int → Dt) : DO := fun x y Φ => match x, y with
  | .int i, .int j => C i j ∧ Φ (f i j)
  | _, _ => False
theorem oI_of {f : Int → Int → Dt} {x y : Dt} {Φ : Dt → Prop} (h : oI f x y Φ) : ∃ i j, x = .int i ∧ y = .int j ∧ Φ (f i j) := by
  cases x <;> cases y <;> first | exact ⟨_, _, rfl, rfl, h⟩ | exact False.elim h
theorem oIC_of {C : Int → Int → Prop} {f : Int → Int → Dt} {x y : Dt} {Φ : Dt → Prop} (h : oIC C f x y Φ) : ∃ i j, x = .int i ∧ y = .int j ∧ C i j ∧ Φ (f i j) := by
  cases x <;> cases y <;> first | exact ⟨_, _, rfl, rfl, h⟩ | exact False.elim h
theorem rd_I0 {g : Int → Int → V} {f : Int → Int → Dt} (h : ∀ i j H, Dp K H (g i j) (f i j)) : RD K (rI0 g) (oI f) := fun x y H Q dx dy Φ px py ho q => by
  obtain ⟨i, j, rfl, rfl, h1⟩ := oI_of ho
  cases px; cases py
  exact ⟨i, j, rfl, rfl, q _ H _ (Same.refl H) (h i j H) h1⟩
theorem rd_I {C : Int → Int → Prop} {g : Int → Int → V} {f : Int → Int → Dt} (h : ∀ i j H, Dp K H (g i j) (f i j)) : RD K (rI C g) (oIC C f) := fun x y H Q dx dy Φ px py ho q => by
  obtain ⟨i, j, rfl, rfl, h0, h1⟩ := oIC_of ho
  cases px; cases py
  exact ⟨i, j, rfl, rfl, h0, q _ H _ (Same.refl H) (h i j H) h1⟩
def oAddI : DO := oI fun i j => .int (i + j)
def oSubI : DO := oI fun i j => .int (i - j)
def oMulI : DO := oIC CMulW fun i j => .int (i * j)
def CFd (_ j : Int) : Prop := j ≠ 0 ∧ j.natAbs.log2 < 9000
def oFd : DO := oIC CFd fun i j => .int (i.fdiv j)
def oMd : DO := oIC (fun _ j => j ≠ 0) fun i j => .int (i.fmod j)
def oPw : DO := oIC CPow fun i j => .int (i ^ j.toNat)
def oLt : DO := oI fun i j => .bool (decide (i < j))
def oLe : DO := oI fun i j => .bool (decide (i ≤ j))
def oGt : DO := oI fun i j => .bool (decide (j < i))
def oGe : DO := oI fun i j => .bool (decide (j ≤ i))
theorem o_add : OpG X (binaryOp .Add) oAddI := ⟨_, op_add, rd_I0 fun _ _ _ => .int _⟩
theorem o_sub : OpG X (binaryOp .Sub) oSubI := ⟨_, op_sub, rd_I0 fun _ _ _ => .int _⟩
theorem o_mul : OpG X (binaryOp .Mult) oMulI := ⟨_, op_mulW, rd_I fun _ _ _ => .int _⟩
theorem op_fdZ : OpR X (binaryOp .FloorDiv) (rI CFd fun i j => .int (i.fdiv j)) := opI fun i j _ _ _ _ _ hc q => floordiv_int hc.1 q (.inl (PyProof.noPylong_of_log2 hc.2))
theorem o_fd : OpG X (binaryOp .FloorDiv) oFd := ⟨_, op_fdZ, rd_I fun _ _ _ => .int _⟩
theorem o_md : OpG X (binaryOp .Mod) oMd := ⟨_, op_modN, rd_I fun _ _ _ => .int _⟩
theorem o_pw : OpG X (binaryOp .Pow) oPw := ⟨_, op_pow, rd_I fun _ _ _ => .int _⟩
theorem o_lt : OpG X (compareOp .Lt) oLt := ⟨_, op_lt, rd_I0 fun _ _ _ => .bl _⟩
theorem o_le : OpG X (compareOp .LtE) oLe := ⟨_, op_le, rd_I0 fun _ _ _ => .bl _⟩
theorem o_gt : OpG X (compareOp .Gt) oGt := ⟨_, op_gt, rd_I0 fun _ _ _ => .bl _⟩
theorem o_ge : OpG X (compareOp .GtE) oGe := ⟨_, op_ge, rd_I0 fun _ _ _ => .bl _⟩
def oEq : DO := fun x y Φ => SeqAt.shaped x = true ∧ SeqAt.shaped y = true ∧ Φ (.bool (PyData.eqv x y))
def oNe : DO := fun x y Φ => SeqAt.shaped x = true ∧ SeqAt.shaped y = true ∧ Φ (.bool (!PyData.eqv x y))
theorem o_eq {k : Nat} (hr : Room k X.A) : OpG X (compareOp .Eq) oEq := ⟨_, op_eqD hr.units, fun x y H Q dx dy Φ px py ho q => ⟨dx, dy, px.old ho.1, py.old ho.2.1, ho.1, ho.2.1, q _ H _ (Same.refl H) (.bl _) ho.2.2⟩⟩
theorem o_ne {k : Nat} (hr : Room k X.A) : OpG X (compareOp .NotEq) oNe := ⟨_, op_neD hr.units, fun x y H Q dx dy Φ px py ho q => ⟨dx, dy, px.old ho.1, py.old ho.2.1, ho.1, ho.2.1, q _ H _ (Same.refl H) (.bl _) ho.2.2⟩⟩
def isN : Dt → Bool
  | .none => true
  | _ => false
theorem isN_of {v : V} {H : Hp} {d : Dt} (p : Dp K H v d) : decide (v = .non) = isN d := by
  cases p <;> simp [isN]
def dIsN (da : DE) : DE := fun φ Φ => da φ fun x => Φ (.bool (isN x))
def dNotN (da : DE) : DE := fun φ Φ => da φ fun x => Φ (.bool !isN x)
theorem se_isN {ta : TE} {da : DE} (ha : SE K ta da) : SE K (tIsN ta) (dIsN da) := fun σ H φ Φ Q env h q => ha σ H φ _ _ env h fun v H1 d s1 p1 h1 => by
  have e := isN_of p1
  rw [e]
  exact q _ H1 _ s1 (.bl _) h1
theorem se_notN {ta : TE} {da : DE} (ha : SE K ta da) : SE K (tNotN ta) (dNotN da) := fun σ H φ Φ Q env h q => ha σ H φ _ _ env h fun v H1 d s1 p1 h1 => by
  have e := isN_of p1
  rw [e]
  exact q _ H1 _ s1 (.bl _) h1
theorem g_isN {a : Expr} {da : DE} {j p2} {pos : Pos} (ha : GE X a da) : GE X (.Compare a [.Is] [.Constant .none j p2] pos) (dIsN da) := by
  obtain ⟨t, a1, a2⟩ := ha
  exact ⟨_, pe_cmp (pc_isN a1) rfl, se_isN a2⟩
theorem g_notN {a : Expr} {da : DE} {j p2} {pos : Pos} (ha : GE X a da) : GE X (.Compare a [.IsNot] [.Constant .none j p2] pos) (dNotN da) := by
  obtain ⟨t, a1, a2⟩ := ha
  exact ⟨_, pe_cmp (pc_notN a1) rfl, se_notN a2⟩
/-! subscripts -/
def itemD (x : Dt) (i : Int) : Option Dt := match x with
  | .list ds => atI ds i
  | .tuple ds => atI ds i
  | .str z => (atI z.cps.toList i).map fun c => .str ⟨#[c]⟩
  | _ => none
def fitsD : Dt → Prop
  | .str z => z.length ≤ sizeLine
  | _ => True
/-- x[i] -/
def oIx : DO := fun x y Φ => match y with
  | .int i => fitsD x ∧ ∃ d, itemD x i = some d ∧ Φ d
  | _ => False
theorem atI_get {α : Type} {xs : List α} {i : Int} {d : α} (h : atI xs i = some d) : ∃ j, ixN xs.length i = some j ∧ xs[j]? = some d := by
  unfold atI at h
  cases e : ixN xs.length i with
  | none => rw [e] at h; cases h
  | some j => rw [e] at h; exact ⟨j, rfl, h⟩
theorem dp_atI {H : Hp} {vs : List V} {ds : List Dt} {i : Int} {d : Dt} (p : DpAll K H vs ds) (h : atI ds i = some d) : ∃ v, atI vs i = some v ∧ Dp K H v d := by
  obtain ⟨j, h1, h2⟩ := atI_get h
  obtain ⟨v, h3, h4⟩ := p.get h2
  refine ⟨v, ?_, h4⟩
  unfold atI
  rw [p.len, h1]
  exact h3
theorem rd_ix : RD K (rIx K) oIx := fun x y H Q dx dy Φ px py ho q => by
  cases dy with
  | int i =>
    cases py
    obtain ⟨hf, d, hd, hΦ⟩ := ho
    cases px with
    | lst hs ha =>
      obtain ⟨v, h1, h2⟩ := dp_atI ha hd
      exact .inl ⟨_, _, i, v, rfl, rfl, hs, h1, q v H d (Same.refl H) h2 hΦ⟩
    | tup hs ha =>
      obtain ⟨v, h1, h2⟩ := dp_atI ha hd
      exact .inr (.inl ⟨_, _, i, v, rfl, rfl, hs, h1, q v H d (Same.refl H) h2 hΦ⟩)
    | str z =>
      have hd' : (atI z.cps.toList i).map (fun c => PyData.str ⟨#[c]⟩) = some d := hd
      cases e : atI z.cps.toList i with
      | none => rw [e] at hd'; cases hd'
      | some c =>
        rw [e] at hd'
        have e2 : PyData.str ⟨#[c]⟩ = d := Option.some.inj hd'
        subst e2
        exact .inr (.inr ⟨z, i, c, rfl, rfl, hf, e, q _ H _ (Same.refl H) (.str _) hΦ⟩)
    | _ => cases hd
  | _ => exact False.elim ho
theorem g_ix {a b : Expr} {da db : DE} {pos : Pos} (ha : GE X a da) (hb : GE X b db) (hs : PlainIx b := by exact fun _ _ => rfl) : GE X (.Subscript a b pos) (dBin oIx da db) := by
  obtain ⟨ta, a1, a2⟩ := ha
  obtain ⟨tb, b1, b2⟩ := hb
  exact ⟨_, pe_ix ix_seq a1 b1 hs, se_op rd_ix a2 b2⟩
end
end L2.D3

set_option maxHeartbeats 4000000
namespace L2.D3
open PySem PySem.Spec PyProof.Rows
/-! ### slots -/
inductive Slot where
  | un
  | pu (d : Dt)
  | ow (ds : List Dt)
  | an (A : Ass)
def Slot.dat : Slot → Dt
  | .pu d => d
  | .ow ds => .list ds
  | _ => .none
abbrev Rho := List Slot
def getS : Rho → Nat → Slot
  | [], _ => .un
  | a :: _, 0 => a
  | _ :: r, n + 1 => getS r n
def setS : Rho → Nat → Slot → Rho
  | [], _, _ => []
  | _ :: r, 0, d => d :: r
  | a :: r, n + 1, d => a :: setS r n d
theorem getS_setS_ne : ∀ {ρ : Rho} {i j : Nat} {d : Slot}, j ≠ i → getS (setS ρ i d) j = getS ρ j
  | [], i, j, d, h => rfl
  | a :: r, 0, 0, d, h => absurd rfl h
  | a :: r, 0, j + 1, d, h => rfl
  | a :: r, i + 1, 0, d, h => rfl
  | a :: r, i + 1, j + 1, d, h => getS_setS_ne (ρ := r) (fun z => h (by rw [z]))
theorem getS_setS_eq : ∀ {ρ : Rho} {i : Nat} {d : Slot}, i < ρ.length → getS (setS ρ i d) i = d
  | [], i, d, h => absurd h (Nat.not_lt_zero _)
  | a :: r, 0, d, h => rfl
  | a :: r, i + 1, d, h => getS_setS_eq (ρ := r) (Nat.lt_of_succ_lt_succ h)
theorem setS_len : ∀ {ρ : Rho} {i : Nat} {d : Slot}, (setS ρ i d).length = ρ.length
  | [], i, d => rfl
  | a :: r, 0, d => rfl
  | a :: r, i + 1, d => congrArg Nat.succ (setS_len (ρ := r))
theorem setS_out : ∀ {ρ : Rho} {i : Nat} {d : Slot}, ρ.length ≤ i → setS ρ i d = ρ
  | [], i, d, h => rfl
  | a :: r, 0, d, h => absurd h (by simp)
  | a :: r, i + 1, d, h => by
    show a :: setS r i d = a :: r
    rw [setS_out (ρ := r) (by simpa using h)]
theorem getS_out : ∀ {ρ : Rho} {i : Nat}, ρ.length ≤ i → getS ρ i = .un
  | [], i, h => rfl
  | a :: r, 0, h => absurd h (by simp)
  | a :: r, i + 1, h => getS_out (ρ := r) (by simpa using h)
def purF : Rho → Fro
  | [] => []
  | .pu d :: r => .da d :: purF r
  | .an A :: r => .an A :: purF r
  | _ :: r => .no :: purF r
def allF : Rho → Fro
  | [] => []
  | .pu d :: r => .da d :: allF r
  | .ow ds :: r => .da (.list ds) :: allF r
  | .an A :: r => .an A :: allF r
  | _ :: r => .no :: allF r
/-- what is left when the lists that are changed here are lost -/
def purR : Rho → Rho
  | [] => []
  | .ow _ :: r => .un :: purR r
  | a :: r => a :: purR r
theorem getF_pur : ∀ {ρ : Rho} {i : Nat} {d : Dt}, getF (purF ρ) i = some d → getS ρ i = .pu d
  | [], i, d, h => by cases h
  | a :: r, 0, d, h => by
    cases a with
    | pu e => have h' : some e = some d := h; cases h'; rfl
    | _ => cases h
  | a :: r, i + 1, d, h => by
    cases a <;> exact getF_pur (ρ := r) (i := i) h
theorem getF_all : ∀ {ρ : Rho} {i : Nat} {d : Dt}, getF (allF ρ) i = some d → getS ρ i = .pu d ∨ ∃ ds, getS ρ i = .ow ds ∧ d = .list ds
  | [], i, d, h => by cases h
  | a :: r, 0, d, h => by
    cases a with
    | pu e => have h' : some e = some d := h; cases h'; exact .inl rfl
    | ow ds => have h' : some (PyData.list ds) = some d := h; cases h'; exact .inr ⟨ds, rfl, rfl⟩
    | _ => cases h
  | a :: r, i + 1, d, h => by
    cases a <;> exact getF_all (ρ := r) (i := i) h
theorem getA_pur : ∀ {ρ : Rho} {i : Nat} {A : Ass}, getA (purF ρ) i = some A → getS ρ i = .an A
  | [], i, A, h => by cases h
  | a :: r, 0, A, h => by
    cases a with
    | an B => have h' : some B = some A := h; cases h'; rfl
    | _ => cases h
  | a :: r, i + 1, A, h => by
    cases a <;> exact getA_pur (ρ := r) (i := i) h
theorem getA_all : ∀ {ρ : Rho} {i : Nat} {A : Ass}, getA (allF ρ) i = some A → getS ρ i = .an A
  | [], i, A, h => by cases h
  | a :: r, 0, A, h => by
    cases a with
    | an B => have h' : some B = some A := h; cases h'; rfl
    | _ => cases h
  | a :: r, i + 1, A, h => by
    cases a <;> exact getA_all (ρ := r) (i := i) h
theorem getS_purR : ∀ {ρ : Rho} {i : Nat}, getS (purR ρ) i = getS ρ i ∨ getS (purR ρ) i = .un
  | [], i => .inl rfl
  | a :: r, 0 => by cases a <;> first | exact .inl rfl | exact .inr rfl
  | a :: r, i + 1 => by cases a <;> exact getS_purR (ρ := r) (i := i)
theorem purR_ow : ∀ {ρ : Rho} {i : Nat} {ds : List Dt}, getS (purR ρ) i ≠ .ow ds
  | [], i, ds => fun h => nomatch h
  | a :: r, 0, ds => by cases a <;> intro h <;> cases h
  | a :: r, i + 1, ds => by cases a <;> exact purR_ow (ρ := r) (i := i)
theorem purR_len : ∀ {ρ : Rho}, (purR ρ).length = ρ.length
  | [] => rfl
  | a :: r => by cases a <;> exact congrArg Nat.succ (purR_len (ρ := r))
structure EnvO (K : PySem.W.Frag) (F : Hp) (σ : St) (H : Hp) (ρ : Rho) : Prop where
  fz : Fz F H
  len : ρ.length = σ.length
  pu : ∀ i d, getS ρ i = .pu d → ∃ v, σ[i]? = some (some v) ∧ Dp K F v d
  an : ∀ i A, getS ρ i = .an A → ∃ v, σ[i]? = some (some v) ∧ A.p K F v
  ow : ∀ i ds, getS ρ i = .ow ds → ∃ a vs, σ[i]? = some (some (.ref a)) ∧ H a = some (.lst vs) ∧ F a = none ∧ DpAll K F vs ds
  ne : ∀ i j ds es a, i ≠ j → getS ρ i = .ow ds → getS ρ j = .ow es → σ[i]? = some (some (.ref a)) → σ[j]? ≠ some (some (.ref a))
section
variable {K : PySem.W.Frag} {F F' H H' : Hp} {σ : St} {ρ : Rho}
theorem purF_len : ∀ {ρ : Rho}, (purF ρ).length = ρ.length
  | [] => rfl
  | a :: r => by cases a <;> exact congrArg Nat.succ (purF_len (ρ := r))
theorem allF_len : ∀ {ρ : Rho}, (allF ρ).length = ρ.length
  | [] => rfl
  | a :: r => by cases a <;> exact congrArg Nat.succ (allF_len (ρ := r))
theorem EnvO.pur (e : EnvO K F σ H ρ) : EnvF K σ F (purF ρ) := ⟨by rw [purF_len, e.len]; exact Nat.le_refl _, fun i d h => e.pu i d (getF_pur h), fun i A h => e.an i A (getA_pur h)⟩
theorem EnvO.all (e : EnvO K F σ H ρ) : EnvF K σ H (allF ρ) := ⟨by rw [allF_len, e.len]; exact Nat.le_refl _, fun i d h => by
  rcases getF_all h with g | ⟨ds, g, rfl⟩
  · obtain ⟨v, a, b⟩ := e.pu i d g
    exact ⟨v, a, b.up e.fz.same⟩
  · obtain ⟨a, vs, h1, h2, h3, h4⟩ := e.ow i ds g
    exact ⟨_, h1, .lst (SqL.of h2) (h4.up e.fz.same)⟩, fun i A h => by
  obtain ⟨v, a, b⟩ := e.an i A (getA_all h)
  exact ⟨v, a, A.up _ _ _ _ e.fz.same b⟩⟩
/-- a framed expression has run -/
theorem EnvO.grow (e : EnvO K F σ H ρ) (s : Same F F') (dj : ∀ a o, H a = some o → F a = none → F' a = none) : EnvO K F' σ (glue F' H) ρ := by
  refine ⟨⟨fun b o q => glue_some q, fun a o q => ?_⟩, e.len, fun i d h => ?_, fun i A h => ?_, fun i ds h => ?_, e.ne⟩
  · cases f : F' a with
    | some u => rw [glue_some f] at q; exact .inl q
    | none =>
      rw [glue_none f] at q
      rcases e.fz.drop a o q with z | ⟨_, z⟩
      · rw [s a o z] at f; cases f
      · exact .inr ⟨rfl, z⟩
  · obtain ⟨v, a, b⟩ := e.pu i d h
    exact ⟨v, a, b.up s⟩
  · obtain ⟨v, a, b⟩ := e.an i A h
    exact ⟨v, a, A.up _ _ _ _ s b⟩
  · obtain ⟨a, vs, h1, h2, h3, h4⟩ := e.ow i ds h
    have f := dj a _ h2 h3
    exact ⟨a, vs, h1, by rw [glue_none f]; exact h2, f, h4.up s⟩
/-- an expression over all has run -/
theorem EnvO.after (e : EnvO K F σ H ρ) (s : Same H H') : ∃ F', Same F F' ∧ EnvO K F' σ H' ρ := by
  classical
  refine ⟨fun a => if (∃ o, H a = some o) ∧ F a = none then none else H' a, fun b o q => ?_, ⟨⟨fun b o q => ?_, fun a o q => ?_⟩, e.len, fun i d h => ?_, fun i A h => ?_, fun i ds h => ?_, e.ne⟩⟩
  · show (if (∃ o, H b = some o) ∧ F b = none then none else H' b) = some o
    rw [if_neg (fun z => by rw [z.2] at q; cases q)]
    exact s b o (e.fz.same b o q)
  · by_cases c : (∃ o, H b = some o) ∧ F b = none
    · rw [if_pos c] at q; cases q
    · rw [if_neg c] at q; exact q
  · by_cases c : (∃ o, H a = some o) ∧ F a = none
    · refine .inr ⟨if_pos c, ?_⟩
      obtain ⟨⟨u, hu⟩, hf⟩ := c
      have z := s a u hu
      rw [q] at z
      cases z
      rcases e.fz.drop a _ hu with y | ⟨_, y⟩
      · rw [hf] at y; cases y
      · exact y
    · exact .inl (by rw [if_neg c]; exact q)
  all_goals
    have sm : Same F (fun a => if (∃ o, H a = some o) ∧ F a = none then none else H' a) := fun b o q => by
      show (if (∃ o, H b = some o) ∧ F b = none then none else H' b) = some o
      rw [if_neg (fun z => by rw [z.2] at q; cases q)]
      exact s b o (e.fz.same b o q)
  · obtain ⟨v, a, b⟩ := e.pu i d h
    exact ⟨v, a, b.up sm⟩
  · obtain ⟨v, a, b⟩ := e.an i A h
    exact ⟨v, a, A.up _ _ _ _ sm b⟩
  · obtain ⟨a, vs, h1, h2, h3, h4⟩ := e.ow i ds h
    exact ⟨a, vs, h1, s a _ h2, if_pos ⟨⟨_, h2⟩, h3⟩, h4.up sm⟩
theorem σset_ne {i j : Nat} {x : Option V} (h : j ≠ i) : (σ.set i x)[j]? = σ[j]? := List.getElem?_set_ne (Ne.symm h)
/-- a slot gets another thing: what is to be shown of it -/
theorem EnvO.put (e : EnvO K F σ H ρ) (i : Nat) {x : Option V} {s : Slot} (hp : ∀ d, s = .pu d → ∃ v, x = some v ∧ Dp K F v d) (ha : ∀ A, s = .an A → ∃ v, x = some v ∧ A.p K F v)
    (ho : ∀ ds, s = .ow ds → ∃ a vs, x = some (.ref a) ∧ H a = some (.lst vs) ∧ F a = none ∧ DpAll K F vs ds ∧ ∀ j es, j ≠ i → getS ρ j = .ow es → σ[j]? ≠ some (some (.ref a))) : EnvO K F (σ.set i x) H (setS ρ i s) := by
  by_cases hi : i < ρ.length
  · have hi2 : i < σ.length := by rw [← e.len]; exact hi
    have gi : getS (setS ρ i s) i = s := getS_setS_eq hi
    have si : (σ.set i x)[i]? = some x := List.getElem?_set_self hi2
    refine ⟨e.fz, by rw [setS_len, List.length_set]; exact e.len, fun j d h => ?_, fun j A h => ?_, fun j ds h => ?_, fun j k ds es a hjk h1 h2 h3 => ?_⟩
    · by_cases c : j = i
      · subst c
        rw [gi] at h
        obtain ⟨v, rfl, q⟩ := hp d h
        exact ⟨v, si, q⟩
      · rw [getS_setS_ne c] at h
        rw [σset_ne c]
        exact e.pu j d h
    · by_cases c : j = i
      · subst c
        rw [gi] at h
        obtain ⟨v, rfl, q⟩ := ha A h
        exact ⟨v, si, q⟩
      · rw [getS_setS_ne c] at h
        rw [σset_ne c]
        exact e.an j A h
    · by_cases c : j = i
      · subst c
        rw [gi] at h
        obtain ⟨a, vs, rfl, q1, q2, q3, _⟩ := ho ds h
        exact ⟨a, vs, si, q1, q2, q3⟩
      · rw [getS_setS_ne c] at h
        rw [σset_ne c]
        exact e.ow j ds h
    · by_cases c : j = i
      · subst c
        rw [gi] at h1
        have ck : k ≠ j := fun z => hjk z.symm
        rw [getS_setS_ne ck] at h2
        rw [si] at h3
        obtain ⟨a', vs, rfl, q1, q2, q3, q4⟩ := ho ds h1
        have h3' : V.ref a' = V.ref a := Option.some.inj (Option.some.inj h3)
        cases h3'
        rw [σset_ne ck]
        exact q4 k es ck h2
      · rw [getS_setS_ne c] at h1
        rw [σset_ne c] at h3
        by_cases ck : k = i
        · subst ck
          rw [gi] at h2
          rw [si]
          obtain ⟨a', vs, rfl, q1, q2, q3, q4⟩ := ho es h2
          intro z
          have z' : V.ref a' = V.ref a := Option.some.inj (Option.some.inj z)
          cases z'
          exact q4 j ds c h1 h3
        · rw [getS_setS_ne ck] at h2
          rw [σset_ne ck]
          exact e.ne j k ds es a hjk h1 h2 h3
  · have h1 : ρ.length ≤ i := Nat.le_of_not_lt hi
    rw [setS_out h1, List.set_eq_of_length_le (by rw [← e.len]; exact h1)]
    exact e
theorem EnvO.putP (e : EnvO K F σ H ρ) (i : Nat) {v : V} {d : Dt} (h : Dp K F v d) : EnvO K F (σ.set i (some v)) H (setS ρ i (.pu d)) :=
  e.put i (fun d' q => by cases q; exact ⟨v, rfl, h⟩) (fun A q => nomatch q) (fun ds q => nomatch q)
theorem EnvO.putA (e : EnvO K F σ H ρ) (i : Nat) {v : V} {A : Ass} (h : A.p K F v) : EnvO K F (σ.set i (some v)) H (setS ρ i (.an A)) :=
  e.put i (fun d' q => nomatch q) (fun A' q => by cases q; exact ⟨v, rfl, h⟩) (fun ds q => nomatch q)
theorem EnvO.putU (e : EnvO K F σ H ρ) (i : Nat) {x : Option V} : EnvO K F (σ.set i x) H (setS ρ i .un) :=
  e.put i (fun d' q => nomatch q) (fun A q => nomatch q) (fun ds q => nomatch q)
/-- a new list -/
theorem EnvO.putO (e : EnvO K F σ H ρ) (i : Nat) {a : Addr} {vs : List V} {ds : List Dt} (hn : H a = none) (hd : DpAll K F vs ds) : EnvO K F (σ.set i (some (.ref a))) (upd H a (.lst vs)) (setS ρ i (.ow ds)) := by
  have fn : F a = none := by
    cases q : F a with
    | none => rfl
    | some o => rw [e.fz.same a o q] at hn; cases hn
  have e1 : EnvO K F σ (upd H a (.lst vs)) ρ := by
    refine ⟨⟨fun b o q => ?_, fun b o q => ?_⟩, e.len, e.pu, e.an, fun j es h => ?_, e.ne⟩
    · rw [upd_ne (fun z => by rw [z, fn] at q; cases q)]
      exact e.fz.same b o q
    · by_cases c : b = a
      · rw [c, upd_same] at q
        cases q
        exact .inr ⟨by rw [c]; exact fn, rfl⟩
      · rw [upd_ne c] at q
        exact e.fz.drop b o q
    · obtain ⟨b, us, h1, h2, h3, h4⟩ := e.ow j es h
      exact ⟨b, us, h1, by rw [upd_ne (ne_of_none h2 hn)]; exact h2, h3, h4⟩
  refine e1.put i (fun d' q => nomatch q) (fun A q => nomatch q) (fun ds' q => ?_)
  cases q
  refine ⟨a, vs, rfl, upd_same, fn, hd, fun j es hj h z => ?_⟩
  obtain ⟨b, us, h1, h2, h3, h4⟩ := e.ow j es h
  rw [z] at h1
  have h1' : V.ref a = V.ref b := Option.some.inj (Option.some.inj h1)
  cases h1'
  rw [hn] at h2
  cases h2
/-- an owned list changes -/
theorem EnvO.mut (e : EnvO K F σ H ρ) (i : Nat) {a : Addr} {vs : List V} {ds ds' : List Dt} (h : getS ρ i = .ow ds) (hs : σ[i]? = some (some (.ref a))) (hd : DpAll K F vs ds') : EnvO K F σ (upd H a (.lst vs)) (setS ρ i (.ow ds')) := by
  obtain ⟨b, us, h1, h2, h3, h4⟩ := e.ow i ds h
  rw [hs] at h1
  cases h1
  have hi : i < ρ.length := by
    by_cases c : i < ρ.length
    · exact c
    · rw [getS_out (Nat.le_of_not_lt c)] at h; cases h
  refine ⟨⟨fun b o q => ?_, fun b o q => ?_⟩, by rw [setS_len]; exact e.len, fun j d q => ?_, fun j A q => ?_, fun j es q => ?_, fun j k ds1 es1 a1 hjk q1 q2 q3 => ?_⟩
  · rw [upd_ne (fun z => by rw [z, h3] at q; cases q)]
    exact e.fz.same b o q
  · by_cases c : b = a
    · rw [c, upd_same] at q
      cases q
      exact .inr ⟨by rw [c]; exact h3, rfl⟩
    · rw [upd_ne c] at q
      exact e.fz.drop b o q
  · have c : j ≠ i := fun z => by rw [z, getS_setS_eq hi] at q; cases q
    rw [getS_setS_ne c] at q
    exact e.pu j d q
  · have c : j ≠ i := fun z => by rw [z, getS_setS_eq hi] at q; cases q
    rw [getS_setS_ne c] at q
    exact e.an j A q
  · by_cases c : j = i
    · subst c
      rw [getS_setS_eq hi] at q
      cases q
      exact ⟨a, vs, hs, upd_same, h3, hd⟩
    · rw [getS_setS_ne c] at q
      obtain ⟨b, us', g1, g2, g3, g4⟩ := e.ow j es q
      have nb : b ≠ a := fun z => by
        rw [z] at g1
        exact e.ne i j ds es a (fun y => c y.symm) h q hs g1
      exact ⟨b, us', g1, by rw [upd_ne nb]; exact g2, g3, g4⟩
  · have old : ∀ {n : Nat} {xs : List Dt}, getS (setS ρ i (.ow ds')) n = .ow xs → ∃ ys, getS ρ n = .ow ys := fun {n xs} z => by
      by_cases c : n = i
      · subst c; exact ⟨ds, h⟩
      · rw [getS_setS_ne c] at z; exact ⟨xs, z⟩
    obtain ⟨y1, z1⟩ := old q1
    obtain ⟨y2, z2⟩ := old q2
    exact e.ne j k y1 y2 a1 hjk z1 z2 q3
/-- an owned list is changed no more -/
theorem EnvO.freeze (e : EnvO K F σ H ρ) (i : Nat) {ds : List Dt} (h : getS ρ i = .ow ds) : ∃ F', Same F F' ∧ EnvO K F' σ H (setS ρ i (.pu (.list ds))) := by
  obtain ⟨a, vs, h1, h2, h3, h4⟩ := e.ow i ds h
  have s : Same F (upd F a (.lst vs)) := same_new h3
  have hi : i < ρ.length := by
    by_cases c : i < ρ.length
    · exact c
    · rw [getS_out (Nat.le_of_not_lt c)] at h; cases h
  have e1 : EnvO K (upd F a (.lst vs)) σ H (setS ρ i .un) := by
    refine ⟨⟨fun b o q => ?_, fun b o q => ?_⟩, by rw [setS_len]; exact e.len, fun j d q => ?_, fun j A q => ?_, fun j es q => ?_, fun j k ds1 es1 a1 hjk q1 q2 q3 => ?_⟩
    · by_cases c : b = a
      · rw [c, upd_same] at q; cases q; rw [c]; exact h2
      · rw [upd_ne c] at q; exact e.fz.same b o q
    · by_cases c : b = a
      · rw [c] at q ⊢
        rw [h2] at q
        cases q
        exact .inl upd_same
      · rw [upd_ne c]
        exact e.fz.drop b o q
    · have c : j ≠ i := fun z => by rw [z, getS_setS_eq hi] at q; cases q
      rw [getS_setS_ne c] at q
      obtain ⟨v, g1, g2⟩ := e.pu j d q
      exact ⟨v, g1, g2.up s⟩
    · have c : j ≠ i := fun z => by rw [z, getS_setS_eq hi] at q; cases q
      rw [getS_setS_ne c] at q
      obtain ⟨v, g1, g2⟩ := e.an j A q
      exact ⟨v, g1, A.up _ _ _ _ s g2⟩
    · have c : j ≠ i := fun z => by rw [z, getS_setS_eq hi] at q; cases q
      rw [getS_setS_ne c] at q
      obtain ⟨b, us', g1, g2, g3, g4⟩ := e.ow j es q
      have nb : b ≠ a := fun z => by
        rw [z] at g1
        exact e.ne i j ds es a (fun y => c y.symm) h q h1 g1
      exact ⟨b, us', g1, g2, by rw [upd_ne nb]; exact g3, g4.up s⟩
    · have cj : j ≠ i := fun z => by rw [z, getS_setS_eq hi] at q1; cases q1
      have ck : k ≠ i := fun z => by rw [z, getS_setS_eq hi] at q2; cases q2
      rw [getS_setS_ne cj] at q1
      rw [getS_setS_ne ck] at q2
      exact e.ne j k ds1 es1 a1 hjk q1 q2 q3
  have e2 := e1.putP i (v := .ref a) (d := .list ds) (.lst (SqL.of upd_same) (h4.up s))
  have q1 : setS (setS ρ i .un) i (.pu (.list ds)) = setS ρ i (.pu (.list ds)) := by
    clear e2 e1 h1 e h hi
    induction ρ generalizing i with
    | nil => rfl
    | cons x r ih => cases i with
      | zero => rfl
      | succ i => exact congrArg (x :: ·) (ih i)
  have q2 : σ.set i (some (.ref a)) = σ := by
    have hl : i < σ.length := by rw [← e.len]; exact hi
    rw [← List.getElem?_eq_some_iff.mp h1 |>.2]
    exact List.set_getElem_self hl
  rw [q1, q2] at e2
  exact ⟨_, s, e2⟩
/-- the lists that are changed here are lost -/
theorem EnvO.lost (e : EnvO K F σ H ρ) (s : Same F F') : EnvO K F' σ F' (purR ρ) := by
  refine ⟨Fz.refl _, by rw [purR_len]; exact e.len, fun i d h => ?_, fun i A h => ?_, fun i ds h => absurd h purR_ow, fun i j ds es a hij h => absurd h purR_ow⟩
  · rcases getS_purR (ρ := ρ) (i := i) with q | q
    · rw [q] at h
      obtain ⟨v, a, b⟩ := e.pu i d h
      exact ⟨v, a, b.up s⟩
    · rw [q] at h; cases h
  · rcases getS_purR (ρ := ρ) (i := i) with q | q
    · rw [q] at h
      obtain ⟨v, a, b⟩ := e.an i A h
      exact ⟨v, a, A.up _ _ _ _ s b⟩
    · rw [q] at h; cases h
end
end L2.D3

set_option maxHeartbeats 4000000
namespace L2.D3
open PySem PySem.Spec PyProof.Rows
/-! ### what a def promises, over data -/
/-- an exception: its class, the fields of its own -/
structure XD where
  cls : Str
  fs : List (Str × Dt)
def XAt (K : PySem.W.Frag) (H : Hp) (x : XD) (d : Option Addr) : Prop := match x.fs with
  | [] => d = none
  | fs => ∃ a vs, d = some a ∧ H a = some (.xd ((fs.map (·.1)).zip vs)) ∧ DpAll K H vs (fs.map (·.2))
abbrev DSp := List Dt → (Slot → Prop) → (XD → Prop) → Prop
structure RetOk (K : PySem.W.Frag) (H : Hp) (Φ : Slot → Prop) (Q : VK) : Prop where
  pu : ∀ v d H', Same H H' → Dp K H' v d → Φ (.pu d) → Q v H'
  ow : ∀ a vs ds H', Same H H' → H' a = none → DpAll K H' vs ds → Φ (.ow ds) → Q (.ref a) (upd H' a (.lst vs))
def RaiOk (K : PySem.W.Frag) (H : Hp) (Ξ : XD → Prop) (E : XK) : Prop := ∀ x d H', Same H H' → XAt K H' x d → Ξ x → E (.ref (He.ga K x.cls)) d H'
def lift (K : PySem.W.Frag) (dsp : DSp) : Sp := fun vs H Q E => ∃ ds Φ Ξ, DpAll K H vs ds ∧ dsp ds Φ Ξ ∧ RetOk K H Φ Q ∧ RaiOk K H Ξ E
/-- the module's name x is a def that keeps dsp -/
structure FN (P : Program) (w : World) (K : PySem.W.Frag) (mg : Str → Option Value) (base : Heap) (x : Str) (k : Nat) (dsp : DSp) : Prop where
  ex : ∃ f fd ps us dvs sp, FnOk P w K mg base (L2.CX P w) k f fd ps sp ∧ mg x = some (.ref f) ∧ PySem.W.keepIn K (.ref f) = true ∧ Binds K fd ps us ∧ Vals dvs us ∧ ∀ vs H Q E, lift K dsp vs H Q E → sp (vs ++ dvs) H Q E
def dCall (dsp : DSp) (da : DA) : DE := fun φ Φ => da φ fun ds => dsp ds (fun s => Φ s.dat) (fun _ => False)
section
variable {X : Cx} {K : PySem.W.Frag}
theorem retOk_data {H H1 : Hp} {Φ : Dt → Prop} {Q : VK} (s1 : Same H H1) (q : ∀ v H' d, Same H H' → Dp K H' v d → Φ d → Q v H') : RetOk K H1 (fun s => Φ s.dat) Q where
  pu := fun v d H' s p h => q v H' d (s1.trans s) p h
  ow := fun a vs ds H' s n p h => by
    have s2 := same_new (o := .lst vs) n
    exact q _ _ (.list ds) (s1.trans (s.trans s2)) (.lst (SqL.of upd_same) (p.up s2)) h
theorem g_call {x : Str} {k : Nat} {dsp : DSp} {e : Expr} {es : List Expr} {da : DA} {p pos : Pos} (N : FN X.prog X.w X.K X.mg X.base x k dsp) (hr : Room k X.A) (ha : GA X (e :: es) da) (hg : Gl X x := by rfl)
    (hdb : (x == ("__debug__" : Str)) = false := by decide) (he : starEach (e :: es) X.env = (false, eval e X.env) :: starEach es X.env := by rfl) (hpl : (backTo pos (starEach es X.env)).any (·.1) = false := by rfl) :
    GE X (.Call (.Name x p) (e :: es) [] pos) (dCall dsp da) := by
  obtain ⟨f, fd, ps, us, dvs, sp, F, hm, hk, hb, hd, hs⟩ := N
  obtain ⟨ta, a1, a2⟩ := ha
  refine ⟨_, pe_call F hr hg hm hk hb hd passL a1 hdb he hpl, fun σ H φ Φ Q env h q => a2 σ H φ _ _ env h fun vs H1 ds s1 ps l h1 => hs _ _ _ _ ?_⟩
  exact ⟨ds, _, _, ps, h1, retOk_data s1 q, fun x d H' s p z => z.elim⟩
/-! new lists -/
abbrev DF := Fro → (List Dt → Prop) → Prop
def SF (K : PySem.W.Frag) (te : TE) (df : DF) : Prop := ∀ (σ : St) (H : Hp) (φ : Fro) (Φ : List Dt → Prop) (Q : VK), EnvF K σ H φ → df φ Φ → (∀ a vs ds H', Same H H' → H' a = none → DpAll K H' vs ds → Φ ds → Q (.ref a) (upd H' a (.lst vs))) → te σ H Q
structure GF (X : Cx) (e : Expr) (df : DF) : Prop where
  ex : ∃ te, PE X e te ∧ SF X.K te df
def dFE (df : DF) : DE := fun φ Φ => df φ fun ds => Φ (.list ds)
theorem GF.g {e : Expr} {df : DF} (h : GF X e df) : GE X e (dFE df) := by
  obtain ⟨te, a1, a2⟩ := h
  refine ⟨te, a1, fun σ H φ Φ Q env h q => a2 σ H φ _ _ env h fun a vs ds H' s n p hd => ?_⟩
  have s2 := same_new (o := .lst vs) n
  exact q _ _ _ (s.trans s2) (.lst (SqL.of upd_same) (p.up s2)) hd
theorem f_lst {es : List Expr} {da : DA} {pos : Pos} (h : GA X es da) (hz : es.length ≤ sizeLine := by decide) : GF X (.List es pos) da := by
  obtain ⟨t, a1, a2⟩ := h
  exact ⟨_, pe_lst a1, fun σ H φ Φ Q env h q => a2 σ H φ _ _ env h fun vs H1 ds s1 ps l h1 => ⟨by rw [ps.len, l]; exact hz, fun p hp => q p vs ds H1 s1 hp ps h1⟩⟩
/-- a call whose end is a list of its own -/
def dCallF (dsp : DSp) (da : DA) : DF := fun φ Φ => da φ fun ds => dsp ds (fun s => match s with | .ow es => Φ es | _ => False) (fun _ => False)
theorem f_call {x : Str} {k : Nat} {dsp : DSp} {e : Expr} {es : List Expr} {da : DA} {p pos : Pos} (N : FN X.prog X.w X.K X.mg X.base x k dsp) (hr : Room k X.A) (ha : GA X (e :: es) da) (hg : Gl X x := by rfl)
    (hdb : (x == ("__debug__" : Str)) = false := by decide) (he : starEach (e :: es) X.env = (false, eval e X.env) :: starEach es X.env := by rfl) (hpl : (backTo pos (starEach es X.env)).any (·.1) = false := by rfl) :
    GF X (.Call (.Name x p) (e :: es) [] pos) (dCallF dsp da) := by
  obtain ⟨f, fd, ps, us, dvs, sp, F, hm, hk, hb, hd, hs⟩ := N
  obtain ⟨ta, a1, a2⟩ := ha
  refine ⟨_, pe_call F hr hg hm hk hb hd passL a1 hdb he hpl, fun σ H φ Φ Q env h q => a2 σ H φ _ _ env h fun vs H1 ds s1 ps l h1 => hs _ _ _ _ ?_⟩
  exact ⟨ds, _, _, ps, h1, ⟨fun v d H' s p z => z.elim, fun a vs ds H' s n p z => q a vs ds H' (s1.trans s) n p z⟩, fun x d H' s p z => z.elim⟩
end
/-! ### statements -/
structure DEnds where
  nx : Rho → Prop
  rt : Slot → Prop
  xr : XD → Rho → Prop
  bk : Rho → Prop := fun _ => False
  ct : Rho → Prop := fun _ => False
abbrev DS := DEnds → Rho → Prop
structure Meets (K : PySem.W.Frag) (W : WX) (F : Hp) (D : Ends) (E : DEnds) : Prop where
  nx : ∀ F' σ H ρ, Same F F' → EnvO K F' σ H ρ → E.nx ρ → D.nx σ H
  bk : ∀ F' σ H ρ, Same F F' → EnvO K F' σ H ρ → E.bk ρ → D.bk σ H
  ct : ∀ F' σ H ρ, Same F F' → EnvO K F' σ H ρ → E.ct ρ → D.ct σ H
  rt : ∀ F' H v d, Same F F' → Fz F' H → Dp K F' v d → E.rt (.pu d) → D.rt v H
  rtO : ∀ F' H a vs ds, Same F F' → Fz F' H → F' a = none → H a = some (.lst vs) → DpAll K F' vs ds → E.rt (.ow ds) → D.rt (.ref a) H
  xr : ∀ F' σ H ρ x d, Same F F' → EnvO K F' σ H ρ → XAt K F' x d → E.xr x ρ → W (.ref (He.ga K x.cls)) d σ H
theorem Meets.up {K : PySem.W.Frag} {W : WX} {F F' : Hp} {D : Ends} {E : DEnds} (m : Meets K W F D E) (s : Same F F') : Meets K W F' D E :=
  ⟨fun F2 σ H ρ s2 => m.nx F2 σ H ρ (s.trans s2), fun F2 σ H ρ s2 => m.bk F2 σ H ρ (s.trans s2), fun F2 σ H ρ s2 => m.ct F2 σ H ρ (s.trans s2), fun F2 H v d s2 => m.rt F2 H v d (s.trans s2), fun F2 H a vs ds s2 => m.rtO F2 H a vs ds (s.trans s2), fun F2 σ H ρ x d s2 => m.xr F2 σ H ρ x d (s.trans s2)⟩
def SS (K : PySem.W.Frag) (W : WX) (ts : TS) (ds : DS) : Prop := ∀ (D : Ends) (E : DEnds) (F : Hp) (σ : St) (H : Hp) (ρ : Rho), EnvO K F σ H ρ → ds E ρ → Meets K W F D E → ts D σ H
structure GS (X : Cx) (W : WX) (st : Stmt) (ds : DS) : Prop where
  ex : ∃ ts, PS X st ts ∧ SS X.K W ts ds
structure GSs (X : Cx) (W : WX) (st : List Stmt) (ds : DS) : Prop where
  ex : ∃ ts, PSs X st ts ∧ SS X.K W ts ds
def dNext : DS := fun E ρ => E.nx ρ
def dSeq (t u : DS) : DS := fun E ρ => t { E with nx := u E } ρ
section
variable {X : Cx} {K : PySem.W.Frag} {W : WX}
theorem s_nil : GSs X W [] dNext := ⟨_, pss_nil, fun D E F σ H ρ env h m => m.nx F σ H ρ (Same.refl F) env h⟩
theorem s_one {st : Stmt} {d : DS} (h : GS X W st d) : GSs X W [st] d := by
  obtain ⟨t, a1, a2⟩ := h
  exact ⟨_, pss_one a1, a2⟩
theorem s_cons {st : Stmt} {rest : List Stmt} {d e : DS} (h : GS X W st d) (hr : GSs X W rest e) : GSs X W (st :: rest) (dSeq d e) := by
  obtain ⟨t, a1, a2⟩ := h
  obtain ⟨u, b1, b2⟩ := hr
  exact ⟨_, pss_cons a1 b1, fun D E F σ H ρ env h m => a2 _ _ F σ H ρ env h ⟨fun F' σ' H' ρ' s env' h' => b2 D E F' σ' H' ρ' env' h' (m.up s), m.bk, m.ct, m.rt, m.rtO, m.xr⟩⟩
theorem s_pass {pos : Pos} : GS X W (.Pass pos) dNext := ⟨_, ps_pass, fun D E F σ H ρ env h m => m.nx F σ H ρ (Same.refl F) env h⟩
def dBreak : DS := fun E ρ => E.bk ρ
def dCont : DS := fun E ρ => E.ct ρ
theorem s_break {pos : Pos} : GS X W (.Break pos) dBreak := ⟨_, ps_break, fun D E F σ H ρ env h m => m.bk F σ H ρ (Same.refl F) env h⟩
theorem s_continue {pos : Pos} : GS X W (.Continue pos) dCont := ⟨_, ps_continue, fun D E F σ H ρ env h m => m.ct F σ H ρ (Same.refl F) env h⟩
/-! x = e -/
/-- by an expression that looks at no owned list -/
def dSetP (i : Nat) (de : DE) : DS := fun E ρ => de (purF ρ) fun d => E.nx (setS ρ i (.pu d))
def scalD : Dt → Prop
  | .list _ => False
  | .tuple _ => False
  | .dict _ => False
  | _ => True
/-- by an expression over all, its end a number, a text, a truth, None -/
def dSetS (i : Nat) (de : DE) : DS := fun E ρ => de (allF ρ) fun d => scalD d ∧ E.nx (setS ρ i (.pu d))
/-- by a new list -/
def dSetF (i : Nat) (df : DF) : DS := fun E ρ => df (purF ρ) fun ds => E.nx (setS ρ i (.ow ds))
theorem ss_frame {te : TE} {de : DE} (h : SE K te de) {k : V → St → Hp → Prop} {F : Hp} {σ : St} {H : Hp} {ρ : Rho} {Φ : Dt → Prop} (env : EnvO K F σ H ρ) (hd : de (purF ρ) Φ) (hk : ∀ F' H' v d, Same F F' → EnvO K F' σ H' ρ → Dp K F' v d → Φ d → k v σ H') :
    tFr te σ H fun v H' => k v σ H' := ⟨F, env.fz, h σ F (purF ρ) _ _ env.pur hd fun v F' d s p hΦ => ⟨s, fun dj => hk F' _ v d s (env.grow s dj) p hΦ⟩⟩
theorem ss_frameF {te : TE} {df : DF} (h : SF K te df) {k : V → St → Hp → Prop} {F : Hp} {σ : St} {H : Hp} {ρ : Rho} {Φ : List Dt → Prop} (env : EnvO K F σ H ρ) (hd : df (purF ρ) Φ)
    (hk : ∀ F' H' a vs ds, Same F F' → EnvO K F' σ H' ρ → H' a = none → DpAll K F' vs ds → Φ ds → k (.ref a) σ (upd H' a (.lst vs))) : tFr te σ H fun v H' => k v σ H' := by
  refine ⟨F, env.fz, h σ F (purF ρ) _ _ env.pur hd fun a vs ds F' s n p hΦ => ⟨s.trans (same_new n), fun dj => ?_⟩⟩
  have ha : H a = none := by
    cases q : H a with
    | none => rfl
    | some o =>
      rcases env.fz.drop a o q with z | ⟨z, _⟩
      · rw [s a o z] at n; cases n
      · have y := dj a o q z
        rw [upd_same] at y
        cases y
  have dj' : ∀ b o, H b = some o → F b = none → F' b = none := fun b o q z => by
    have y := dj b o q z
    rw [upd_ne (fun w => by rw [w, ha] at q; cases q)] at y
    exact y
  have e : glue (upd F' a (.lst vs)) H = upd (glue F' H) a (.lst vs) := by
    funext b
    by_cases c : b = a
    · rw [c, upd_same, glue_some upd_same]
    · rw [upd_ne c]
      unfold glue
      rw [upd_ne c]
  rw [e]
  exact hk F' _ a vs ds s (env.grow s dj') (by rw [glue_none n]; exact ha) p hΦ
theorem dp_scal {H H' : Hp} {v : V} {d : Dt} (p : Dp K H v d) (h : scalD d) : Dp K H' v d := by
  cases d with
  | none => cases p; exact .non
  | bool b => cases p; exact .bl b
  | int i => cases p; exact .int i
  | str x => cases p; exact .str x
  | list _ => exact h.elim
  | tuple _ => exact h.elim
  | dict _ => exact h.elim
section
variable {i : Nat} {x : Str} {e : Expr} {pos' pos : Pos}
theorem s_setP {de : DE} (hN : X.N.Nodup) (hi : X.N[i]? = some x) (he : GE X e de) (hx : Loc X.env.scope x := by first | exact Or.inl rfl | exact Or.inr rfl) (hs : swapsWith e (some (.Name x pos')) pos.line X.env = pure false := by rfl) (hf : X.fn x = true ∨ X.env.scope.names.lookup x = some .local := by first | exact .inl rfl | exact .inr rfl | assumption) :
    GS X W (.Assign [.Name x pos'] e pos) (dSetP i de) := by
  obtain ⟨te, a1, a2⟩ := he
  exact ⟨_, ps_set hN hi hx (pe_frame a1) hs hf, fun D E F σ H ρ env h m => ss_frame (k := fun v σ H' => D.nx (σ.set i (some v)) H') a2 env h fun F' H' v d s env' p hd => m.nx F' _ _ _ s (env'.putP i p) hd⟩
theorem s_setS {de : DE} (hN : X.N.Nodup) (hi : X.N[i]? = some x) (he : GE X e de) (hx : Loc X.env.scope x := by first | exact Or.inl rfl | exact Or.inr rfl) (hs : swapsWith e (some (.Name x pos')) pos.line X.env = pure false := by rfl) (hf : X.fn x = true ∨ X.env.scope.names.lookup x = some .local := by first | exact .inl rfl | exact .inr rfl | assumption) :
    GS X W (.Assign [.Name x pos'] e pos) (dSetS i de) := by
  obtain ⟨te, a1, a2⟩ := he
  refine ⟨_, ps_set hN hi hx a1 hs hf, fun D E F σ H ρ env h m => a2 σ H _ _ _ env.all h fun v H' d s p hd => ?_⟩
  obtain ⟨F', s', env'⟩ := env.after s
  exact m.nx F' _ _ _ s' (env'.putP i (dp_scal p hd.1)) hd.2
theorem s_setF {df : DF} (hN : X.N.Nodup) (hi : X.N[i]? = some x) (he : GF X e df) (hx : Loc X.env.scope x := by first | exact Or.inl rfl | exact Or.inr rfl) (hs : swapsWith e (some (.Name x pos')) pos.line X.env = pure false := by rfl) (hf : X.fn x = true ∨ X.env.scope.names.lookup x = some .local := by first | exact .inl rfl | exact .inr rfl | assumption) :
    GS X W (.Assign [.Name x pos'] e pos) (dSetF i df) := by
  obtain ⟨te, a1, a2⟩ := he
  exact ⟨_, ps_set hN hi hx (pe_frame a1) hs hf, fun D E F σ H ρ env h m => ss_frameF (k := fun v σ H' => D.nx (σ.set i (some v)) H') a2 env h fun F' H' a vs ds s env' n p hd => m.nx F' _ _ _ s (env'.putO i n p) hd⟩
end
/-! return -/
def dRet (de : DE) : DS := fun E ρ => de (allF ρ) fun d => E.rt (.pu d)
def dRetF (df : DF) : DS := fun E ρ => df (allF ρ) fun ds => E.rt (.ow ds)
def dRetO (i : Nat) : DS := fun E ρ => match getS ρ i with
  | .ow ds => E.rt (.ow ds)
  | _ => False
theorem s_ret {e : Expr} {de : DE} {pos : Pos} (he : GE X e de) : GS X W (.Return (some e) pos) (dRet de) := by
  obtain ⟨te, a1, a2⟩ := he
  exact ⟨_, ps_ret a1, fun D E F σ H ρ env h m => a2 σ H _ _ _ env.all h fun v H' d s p hd => m.rt H' H' v d (env.fz.same.trans s) (Fz.refl _) p hd⟩
theorem s_retF {e : Expr} {df : DF} {pos : Pos} (he : GF X e df) : GS X W (.Return (some e) pos) (dRetF df) := by
  obtain ⟨te, a1, a2⟩ := he
  refine ⟨_, ps_ret a1, fun D E F σ H ρ env h m => a2 σ H _ _ _ env.all h fun a vs ds H' s n p hd => ?_⟩
  refine m.rtO H' _ a vs ds (env.fz.same.trans s) ⟨same_new n, fun b o q => ?_⟩ n upd_same p hd
  by_cases c : b = a
  · rw [c, upd_same] at q
    cases q
    exact .inr ⟨by rw [c]; exact n, rfl⟩
  · rw [upd_ne c] at q
    exact .inl q
theorem s_retO {x : Str} {p pos : Pos} (i : Nat) (hN : X.N[i]? = some x := by rfl) (hv : Vis X.env.scope x := by first | exact Or.inl rfl | exact Or.inr (Or.inl rfl) | exact Or.inr (Or.inr rfl)) (hd : (x == ("__debug__" : Str)) = false := by decide)
    (hcd : (x == ("__classdict__" : Str)) = false := by decide) : GS X W (.Return (some (.Name x p)) pos) (dRetO i) := by
  refine ⟨_, ps_ret (pe_var hN hv hd hcd), fun D E F σ H ρ env h m => ?_⟩
  unfold dRetO at h
  cases q : getS ρ i with
  | ow ds =>
    rw [q] at h
    obtain ⟨a, vs, h1, h2, h3, h4⟩ := env.ow i ds q
    exact ⟨_, h1, m.rtO F H a vs ds (Same.refl F) env.fz h3 h2 h4 h⟩
  | _ => rw [q] at h; exact h.elim
/-! if -/
def dIf (t : DT) (a b : DS) : DS := fun E ρ => t (allF ρ) fun c => if c = true then a E ρ else b E ρ
theorem s_if {c : Expr} {a b : List Stmt} {t : DT} {da db : DS} {pos : Pos} (hc : GT X c t) (ha : GSs X W a da) (hb : GSs X W b db) : GS X W (.If c a b pos) (dIf t da db) := by
  obtain ⟨tc, c1, c2⟩ := hc
  obtain ⟨ta, a1, a2⟩ := ha
  obtain ⟨tb, b1, b2⟩ := hb
  refine ⟨_, ps_if c1 a1 b1, fun D E F σ H ρ env h m => c2 σ H _ _ _ env.all h fun c H' s hc => ?_⟩
  obtain ⟨F', s', env'⟩ := env.after s
  cases c with
  | true =>
    rw [if_pos rfl] at hc ⊢
    exact a2 D E F' σ H' ρ env' hc (m.up s')
  | false =>
    rw [if_neg Bool.false_ne_true] at hc ⊢
    exact b2 D E F' σ H' ρ env' hc (m.up s')
/-! a list is changed no more -/
def dFrz (i : Nat) (t : DS) : DS := fun E ρ => match getS ρ i with
  | .ow ds => t E (setS ρ i (.pu (.list ds)))
  | _ => False
theorem s_frz {st : List Stmt} {d : DS} (i : Nat) (h : GSs X W st d) : GSs X W st (dFrz i d) := by
  obtain ⟨ts, a1, a2⟩ := h
  refine ⟨ts, a1, fun D E F σ H ρ env h m => ?_⟩
  unfold dFrz at h
  cases q : getS ρ i with
  | ow ds =>
    rw [q] at h
    obtain ⟨F', s, env'⟩ := env.freeze i q
    exact a2 D E F' σ H _ env' h (m.up s)
  | _ => rw [q] at h; exact h.elim
/-! while -/
def dWhile (t : DT) (b : DS) : DS := fun E ρ => ∃ Iv : Nat → Rho → Prop, (∃ m, Iv m ρ) ∧ ∀ m ρ', Iv m ρ' → t (allF ρ') fun c => if c = true then b { E with nx := fun ρ2 => ∃ m', m' < m ∧ Iv m' ρ2, ct := fun ρ2 => ∃ m', m' < m ∧ Iv m' ρ2, bk := E.nx } ρ' else E.nx ρ'
theorem s_while {c : Expr} {body : List Stmt} {t : DT} {db : DS} {pos : Pos} (hp : PassesOwn (model X.prog X.w) X.A X.env X.xe) (hc : GT X c t) (hb : GSs X W body db) : GS X W (.While c body [] pos) (dWhile t db) := by
  obtain ⟨tc, c1, c2⟩ := hc
  obtain ⟨tb, b1, b2⟩ := hb
  refine ⟨_, ps_while hp c1 b1, fun D E F σ H ρ env h m => ?_⟩
  obtain ⟨Iv, ⟨m0, i0⟩, turn⟩ := h
  refine ⟨fun n σ' H' => ∃ F' ρ', Same F F' ∧ EnvO X.K F' σ' H' ρ' ∧ Iv n ρ', ⟨m0, F, ρ, Same.refl F, env, i0⟩, fun n σ' H' hw => ?_⟩
  obtain ⟨F', ρ', s, env', iv⟩ := hw
  refine c2 σ' H' _ _ _ env'.all (turn n ρ' iv) fun c H2 s2 hc => ?_
  obtain ⟨F2, s3, env2⟩ := env'.after s2
  cases c with
  | true =>
    rw [if_pos rfl] at hc ⊢
    refine ⟨fun σ3 H3 => ∃ m', m' < n ∧ ∃ F' ρ', Same F F' ∧ EnvO X.K F' σ3 H3 ρ' ∧ Iv m' ρ', fun σ3 H3 z => z, ?_⟩
    have sF : Same F F2 := s.trans s3
    have go : ∀ F' σ H ρ, Same F2 F' → EnvO X.K F' σ H ρ → (∃ m', m' < n ∧ Iv m' ρ) → ∃ m', m' < n ∧ ∃ F' ρ', Same F F' ∧ EnvO X.K F' σ H ρ' ∧ Iv m' ρ' := fun F3 σ3 H3 ρ3 s4 env3 ⟨m', hm, iv'⟩ => ⟨m', hm, F3, ρ3, sF.trans s4, env3, iv'⟩
    exact b2 _ _ F2 σ' H2 ρ' env2 hc ⟨go, fun F' σ H ρ s4 env3 q => m.nx F' σ H ρ (sF.trans s4) env3 q, go, (m.up sF).rt, (m.up sF).rtO, (m.up sF).xr⟩
  | false =>
    rw [if_neg Bool.false_ne_true] at hc ⊢
    exact m.nx F2 σ' H2 ρ' (s.trans s3) env2 hc
end
/-! ### targets -/
abbrev DG := Dt → Rho → (Rho → Prop) → Prop
abbrev DGs := List Dt → Rho → (Rho → Prop) → Prop
def SG (K : PySem.W.Frag) (g : TG) (dg : DG) : Prop := ∀ (v : V) (d : Dt) (F : Hp) (σ : St) (H : Hp) (ρ : Rho) (Ψ : Rho → Prop) (Q : St → Hp → Prop), EnvO K F σ H ρ → Dp K F v d → dg d ρ Ψ → (∀ σ' ρ', EnvO K F σ' H ρ' → Ψ ρ' → Q σ' H) → g v σ H Q
def SGs (K : PySem.W.Frag) (n : Nat) (g : TGs) (dg : DGs) : Prop := (∀ ds ρ Ψ, dg ds ρ Ψ → ds.length = n) ∧ ∀ (vs : List V) (ds : List Dt) (F : Hp) (σ : St) (H : Hp) (ρ : Rho) (Ψ : Rho → Prop) (Q : St → Hp → Prop), EnvO K F σ H ρ → DpAll K F vs ds → dg ds ρ Ψ → (∀ σ' ρ', EnvO K F σ' H ρ' → Ψ ρ' → Q σ' H) → g vs σ H Q
structure GG (X : Cx) (tg : Expr) (dg : DG) : Prop where
  ex : ∃ g, PG X tg g ∧ SG X.K g dg
structure GGs (X : Cx) (ts : List Expr) (dg : DGs) : Prop where
  ex : ∃ g, PGs X ts g ∧ SGs X.K ts.length g dg
def dgN (i : Nat) : DG := fun d ρ Ψ => Ψ (setS ρ i (.pu d))
def dgNil : DGs := fun ds ρ Ψ => match ds with
  | [] => Ψ ρ
  | _ :: _ => False
def dgCons (g : DG) (gs : DGs) : DGs := fun ds ρ Ψ => match ds with
  | [] => False
  | d :: r => g d ρ fun ρ' => (gs r ρ' Ψ)
def seqD : Dt → Option (List Dt)
  | .list ds => some ds
  | .tuple ds => some ds
  | _ => none
def dgT (n : Nat) (gs : DGs) : DG := fun d ρ Ψ => match seqD d with
  | some ds => ds.length = n ∧ gs ds ρ Ψ
  | none => False
section
variable {X : Cx} {K : PySem.W.Frag}
theorem gg_name (i : Nat) {x : Str} {pos : Pos} (hN : X.N.Nodup) (hi : X.N[i]? = some x := by rfl) (hx : Loc X.env.scope x := by first | exact Or.inl rfl | exact Or.inr rfl) (hf : X.fn x = true ∨ X.env.scope.names.lookup x = some .local := by first | exact .inl rfl | exact .inr rfl | assumption) : GG X (.Name x pos) (dgN i) :=
  ⟨_, pg_name hN hi hx hf, fun v d F σ H ρ Ψ Q env p h q => q _ _ (env.putP i p) h⟩
theorem PG.or {tg : Expr} {g g' : TG} (h : PG X tg g) (h' : PG X tg g') : PG X tg (fun v σ H Q => g v σ H Q ∨ g' v σ H Q) := by
  refine ⟨fun pins s σ H v u Q I r hw => ?_⟩
  rcases hw with hw | hw
  · exact h.run pins s σ H v u Q I r hw
  · exact h'.run pins s σ H v u Q I r hw
def SGs' (K : PySem.W.Frag) (g : TGs) (dg : DGs) : Prop := ∀ (vs : List V) (ds : List Dt) (F : Hp) (σ : St) (H : Hp) (ρ : Rho) (Ψ : Rho → Prop) (Q : St → Hp → Prop), EnvO K F σ H ρ → DpAll K F vs ds → dg ds ρ Ψ → (∀ σ' ρ', EnvO K F σ' H ρ' → Ψ ρ' → Q σ' H) → g vs σ H Q
structure GG2 (X : Cx) (ts : List Expr) (dg : DGs) : Prop where
  ex : ∃ g, PGs X ts g ∧ SGs' X.K g dg
theorem ggs_nil : GG2 X [] dgNil := by
  refine ⟨_, pgs_nil, fun vs ds F σ H ρ Ψ Q env p h q => ?_⟩
  cases ds with
  | nil => cases p; exact ⟨rfl, q σ ρ env h⟩
  | cons _ _ => exact h.elim
theorem ggs_cons {e : Expr} {es : List Expr} {g : DG} {gs : DGs} (h : GG X e g) (hr : GG2 X es gs) (hs : (assignEach (e :: es) X.env).map (·.2) = assign e X.env :: (assignEach es X.env).map (·.2) := by rfl) : GG2 X (e :: es) (dgCons g gs) := by
  obtain ⟨t, a1, a2⟩ := h
  obtain ⟨u, b1, b2⟩ := hr
  refine ⟨_, pgs_cons a1 b1 hs, fun vs ds F σ H ρ Ψ Q env p h q => ?_⟩
  cases ds with
  | nil => exact h.elim
  | cons d r =>
    cases p with
    | cons p1 p2 => exact ⟨_, _, rfl, a2 _ d F σ H ρ _ _ env p1 h fun σ' ρ' env' h' => b2 _ r F σ' H ρ' Ψ Q env' p2 h' q⟩
theorem gg_tup {es : List Expr} {k : Nat} {gs : DGs} {n : Nat} {pos : Pos} (hc : X.calm = true) (h : GG2 X es gs) (hn : (assignEach es X.env).length = n := by rfl) (hst : (assignEach es X.env).findIdx? (·.1) = none := by rfl) : GG X (.Tuple es k pos) (dgT n gs) := by
  obtain ⟨g, a1, a2⟩ := h
  refine ⟨_, PG.or (pg_tup hc a1 hn hst) (pg_lst hc a1 hn hst), fun v d F σ H ρ Ψ Q env p h q => ?_⟩
  cases d with
  | list ds =>
    obtain ⟨hl, h⟩ : ds.length = n ∧ gs ds ρ Ψ := h
    cases p with
    | lst hs ha => exact .inr ⟨_, _, rfl, env.fz.same.seq hs, by rw [ha.len, hl], a2 _ ds F σ H ρ Ψ Q env ha h q⟩
  | tuple ds =>
    obtain ⟨hl, h⟩ : ds.length = n ∧ gs ds ρ Ψ := h
    cases p with
    | tup hs ha => exact .inl ⟨_, _, rfl, sqT_mono env.fz.same hs, by rw [ha.len, hl], a2 _ ds F σ H ρ Ψ Q env ha h q⟩
  | _ => exact h.elim
/-- target = e -/
def dAsg (de : DE) (g : DG) : DS := fun E ρ => de (purF ρ) fun d => g d ρ E.nx
variable {W : WX}
theorem s_asg {tg e : Expr} {de : DE} {g : DG} {pos : Pos} (he : GE X e de) (hg : GG X tg g) (hs : swapsWithSole [tg] e pos.line X.env = pure false := by rfl) (hw : swappedStores [tg] e X.env = pure none := by rfl)
    (h1 : (assignEach [tg] X.env).map (·.2) = [assign tg X.env] := by rfl) : GS X W (.Assign [tg] e pos) (dAsg de g) := by
  obtain ⟨te, a1, a2⟩ := he
  obtain ⟨tg', b1, b2⟩ := hg
  exact ⟨_, ps_asg (pe_frame a1) b1 hs hw h1, fun D E F σ H ρ env h m => ss_frame (k := fun v σ H' => tg' v σ H' D.nx) a2 env h fun F' H' v d s env' p hd => b2 v d F' σ H' ρ _ _ env' p hd fun σ' ρ' env2 hn => m.nx F' σ' H' ρ' s env2 hn⟩
/-- a, b = e1, e2 -/
def dPar (i j : Nat) (da : DA) : DS := fun E ρ => da (purF ρ) fun ds => match ds with
  | [d, e] => E.nx (setS (setS ρ i (.pu d)) j (.pu e))
  | _ => False
/-- .. over all, of numbers, texts, truths -/
def dParS (i j : Nat) (da : DA) : DS := fun E ρ => da (allF ρ) fun ds => match ds with
  | [d, e] => scalD d ∧ scalD e ∧ E.nx (setS (setS ρ i (.pu d)) j (.pu e))
  | _ => False
theorem s_parS {i j : Nat} {x y : Str} {a b : Expr} {da : DA} {px py pt : Pos} {kt k2 pt2} {pos : Pos} (hc : X.calm = true) (hN : X.N.Nodup) (hi : X.N[i]? = some x) (hj : X.N[j]? = some y) (hij : i ≠ j)
    (hx : X.env.scope.names.lookup x = some .local) (hy : X.env.scope.names.lookup y = some .local) (ha : GA X [a, b] da)
    (hw : swappedStores [.Tuple [.Name x px, .Name y py] kt pt] (.Tuple [a, b] k2 pt2) X.env = pure (some [x, y]))
    (hs : swapsWithSole [.Tuple [.Name x px, .Name y py] kt pt] (.Tuple [a, b] k2 pt2) pos.line X.env = pure false := by rfl) :
    GS X W (.Assign [.Tuple [.Name x px, .Name y py] kt pt] (.Tuple [a, b] k2 pt2) pos) (dParS i j da) := by
  obtain ⟨ta, a1, a2⟩ := ha
  refine ⟨_, ps_par hc hN hi hj hij hx hy a1 hw hs, fun D E F σ H ρ env h m => a2 σ H _ _ _ env.all h fun vs H' ds s p hl hd => ?_⟩
  obtain ⟨F', s', env'⟩ := env.after s
  match ds, hl, hd, p with
  | [d, e], _, hd, p =>
    cases p with
    | cons p1 p2 => cases p2 with
      | cons p2 p3 =>
        cases p3
        exact ⟨_, _, rfl, m.nx F' _ _ _ s' ((env'.putP i (dp_scal p1 hd.1)).putP j (dp_scal p2 hd.2.1)) hd.2.2⟩
end
end L2.D3

set_option maxHeartbeats 4000000
namespace L2.D3
open PySem PySem.Spec PyProof.Rows
/-! ### the frame rule for what is walked, for statements -/
def iFr (wi : TI) : TI := fun σ H R => ∃ F, Fz F H ∧ wi σ F fun J F' => Same F F' ∧ ((∀ a o, H a = some o → F a = none → F' a = none) → R J (glue F' H))
def sFr (ts : TS) : TS := fun D σ H => ∃ F, Fz F H ∧ ts
  { nx := fun σ' F' => Same F F' ∧ ((∀ a o, H a = some o → F a = none → F' a = none) → D.nx σ' (glue F' H))
    rt := fun v F' => Same F F' ∧ ((∀ a o, H a = some o → F a = none → F' a = none) → D.rt v (glue F' H))
    bk := fun σ' F' => Same F F' ∧ ((∀ a o, H a = some o → F a = none → F' a = none) → D.bk σ' (glue F' H))
    ct := fun σ' F' => Same F F' ∧ ((∀ a o, H a = some o → F a = none → F' a = none) → D.ct σ' (glue F' H)) } σ F
section
variable {X : Cx} {tg : Expr}
theorem pi_frame {e : Expr} {wi : TI} (h : PI X tg e wi) : PI X tg e (iFr wi) := by
  refine ⟨fun pins s σ H R I hw => ?_⟩
  obtain ⟨F, z, ht⟩ := hw
  refine thn (h.run _ s σ F _ (Inv.without I z) ht) fun v s1 h1 => thn h1 fun itv s2 h2 => ?_
  obtain ⟨it, fp, tn, J, F', e1, I2, T, st, fpo, sm, q⟩ := h2
  obtain ⟨I3, dj⟩ := Inv.back I z sm I2
  refine ⟨it, fp, tn, J, glue F' H, e1, I3, T, st, fun b hb => ?_, q dj⟩
  obtain ⟨b0, b1, b2, b3, b4, b5⟩ := fpo b hb
  refine ⟨?_, b1, b2, b3, b4, fun p hp => b5 p ?_⟩
  · rw [glue_none b0]
    cases c : H b with
    | none => rfl
    | some o =>
      rcases z.drop b o c with y | ⟨y, m⟩
      · rw [sm b o y] at b0; cases b0
      · obtain ⟨ob, g, _⟩ := obj_of_mut (I.hok _ _ c) m
        exact absurd rfl (b5 (b, ob) (List.mem_append_right _ (List.mem_append_right _ (mem_aside c y g))))
  · rcases List.mem_append.mp hp with y | y
    · exact List.mem_append_left _ y
    · exact List.mem_append_right _ (List.mem_append_left _ y)
theorem ps_frame {st : Stmt} {ts : TS} (h : PS X st ts) : PS X st (sFr ts) := by
  refine ⟨fun pins s σ H D I hw => ?_⟩
  obtain ⟨F, z, ht⟩ := hw
  refine thn (h.run _ s σ F _ (Inv.without I z) ht) fun f s1 q => ?_
  cases f with
  | next =>
    obtain ⟨σ', F', J, sm, q⟩ := q
    obtain ⟨I3, dj⟩ := Inv.back I z sm J
    exact ⟨_, _, I3, q dj⟩
  | brk =>
    obtain ⟨σ', F', J, sm, q⟩ := q
    obtain ⟨I3, dj⟩ := Inv.back I z sm J
    exact ⟨_, _, I3, q dj⟩
  | cont =>
    obtain ⟨σ', F', J, sm, q⟩ := q
    obtain ⟨I3, dj⟩ := Inv.back I z sm J
    exact ⟨_, _, I3, q dj⟩
  | ret u =>
    obtain ⟨v, σ', F', J, r, sm, q⟩ := q
    obtain ⟨I3, dj⟩ := Inv.back I z sm J
    exact ⟨_, _, _, I3, r, q dj⟩
end
/-! ### what is walked -/
def YOk (K : PySem.W.Frag) (F H : Hp) (d : Dt) (x : V) (H' : Hp) : Prop :=
  (H' = H ∧ Dp K F x d) ∨ ∃ T vs ds, x = .ref T ∧ H T = none ∧ H' = upd H T (.tup vs) ∧ d = .tuple ds ∧ DpAll K F vs ds
def Yields (K : PySem.W.Frag) (J : It) (F₀ : Hp) (ds : List Dt) : Prop := ∀ F H, Same F₀ F → Same F H → (∀ i d, ds[i]? = some d → J.go i H ∧ ∀ x H', J.yld i H x H' → YOk K F H d x H') ∧ J.stop ds.length H
abbrev DI := Fro → (List Dt → Prop) → Prop
def SI (K : PySem.W.Frag) (wi : TI) (di : DI) : Prop := ∀ (σ : St) (H : Hp) (φ : Fro) (Φ : List Dt → Prop) (R : It → Hp → Prop), EnvF K σ H φ → di φ Φ → (∀ J H' ds, Same H H' → Yields K J H' ds → Φ ds → R J H') → wi σ H R
structure GI (X : Cx) (tg iter : Expr) (di : DI) : Prop where
  ex : ∃ wi, PI X tg iter wi ∧ SI X.K wi di
theorem EnvO.newTup {K : PySem.W.Frag} {F H : Hp} {σ : St} {ρ : Rho} (e : EnvO K F σ H ρ) {T : Addr} {vs : List V} (n : H T = none) : EnvO K (upd F T (.tup vs)) σ (upd H T (.tup vs)) ρ ∧ Same F (upd F T (.tup vs)) := by
  have fn : F T = none := by
    cases q : F T with
    | none => rfl
    | some o => rw [e.fz.same T o q] at n; cases n
  have s := same_new (o := .tup vs) fn
  refine ⟨⟨⟨fun b o q => ?_, fun b o q => ?_⟩, e.len, fun i d h => ?_, fun i A h => ?_, fun i ds h => ?_, e.ne⟩, s⟩
  · by_cases c : b = T
    · rw [c, upd_same] at q ⊢; exact q
    · rw [upd_ne c] at q ⊢; exact e.fz.same b o q
  · by_cases c : b = T
    · rw [c, upd_same] at q ⊢; exact .inl q
    · rw [upd_ne c] at q ⊢; exact e.fz.drop b o q
  · obtain ⟨v, a, b⟩ := e.pu i d h
    exact ⟨v, a, b.up s⟩
  · obtain ⟨v, a, b⟩ := e.an i A h
    exact ⟨v, a, A.up _ _ _ _ s b⟩
  · obtain ⟨a, us, h1, h2, h3, h4⟩ := e.ow i ds h
    have na : a ≠ T := ne_of_none h2 n
    exact ⟨a, us, h1, by rw [upd_ne na]; exact h2, by rw [upd_ne na]; exact h3, h4.up s⟩
section
variable {X : Cx} {K : PySem.W.Frag} {tg : Expr}
def iSeq (K : PySem.W.Frag) (tl : TE) : TI := fun σ H R => tl σ H fun x H1 => (∃ a, x = .ref a ∧ (∃ xs, SqL K H1 a xs) ∧ R (Itl K a) H1) ∨ (∃ a, x = .ref a ∧ (∃ xs, SqT K H1 a xs) ∧ R (Itt K a) H1) ∨ ∃ z, x = .str z ∧ R (Its z) H1
theorem pi_seq {l : Expr} {tl : TE} (hl : PE X l tl) : PI X tg l (iSeq X.K tl) := by
  refine ⟨fun pins s σ H R I h => thn (hl.run pins s σ H _ I h) fun v s1 hq => ?_⟩
  obtain ⟨x, H1, I1, r1, q | q | q⟩ := hq
  · obtain ⟨a, rfl, ⟨xs, hs⟩, q⟩ := q
    cases r1
    obtain ⟨its, rv, p, _⟩ := I1.list hs
    exact wpAny_pyIter_list p.isList (pi_one (tk := s1.toks) I1 _ (turn_list a _) ⟨_, Heap.get?_push_size _ rfl, rfl, rfl⟩ q)
  · obtain ⟨a, rfl, ⟨xs, hs⟩, q⟩ := q
    cases r1
    obtain ⟨its, rv, p, _⟩ := I1.tuple hs
    exact wpAny_pyIter_tuple (show s1.heap.IsTuple a its.toArray from p) (pi_one (tk := s1.toks) I1 _ (turn_tuple a _) ⟨_, Heap.get?_push_size _ rfl, rfl, rfl⟩ q)
  · obtain ⟨z, rfl, q⟩ := q
    obtain ⟨t, rfl⟩ := r1
    cases ha : z.cps.all (· < 128) with
    | false => exact wpAny_pyIter_wide ha (pi_one (tk := s1.toks) I1 _ (turn_str _ z t "str_iterator" (.inr rfl)) ⟨_, Heap.get?_push_size _ rfl, rfl, rfl⟩ q)
    | true => exact wpAny_pyIter_ascii ha (pi_one (tk := s1.toks) I1 _ (turn_str _ z t "str_ascii_iterator" (.inl rfl)) ⟨_, Heap.get?_push_size _ rfl, rfl, rfl⟩ q)
/-- the things that are walked -/
def walkD : Dt → Option (List Dt)
  | .list ds => some ds
  | .tuple ds => some ds
  | .str z => some (z.cps.toList.map fun c => .str ⟨#[c]⟩)
  | _ => none
def diSeq (de : DE) : DI := fun φ Φ => de φ fun d => match walkD d with
  | some ds => Φ ds
  | none => False
theorem gi_seq {e : Expr} {de : DE} (he : GE X e de) : GI X tg e (diSeq de) := by
  obtain ⟨te, a1, a2⟩ := he
  refine ⟨_, pi_seq a1, fun σ H φ Φ R env h q => a2 σ H φ _ _ env h fun v H1 d s1 p hd => ?_⟩
  cases d with
  | list ds =>
    cases p with
    | lst hs ha =>
      refine .inl ⟨_, rfl, ⟨_, hs⟩, q _ H1 ds s1 (fun F H s0 s => ⟨fun i d hi => ?_, ⟨_, s.seq (s0.seq hs), by rw [ha.len]; exact Nat.le_refl _⟩⟩) hd⟩
      obtain ⟨v, h1, h2⟩ := ha.get hi
      refine ⟨⟨_, v, s.seq (s0.seq hs), h1⟩, fun x H' y => .inl ⟨y.1, ?_⟩⟩
      have e := y.2 _ (s.seq (s0.seq hs))
      rw [h1] at e
      cases e
      exact h2.up s0
  | tuple ds =>
    cases p with
    | tup hs ha =>
      refine .inr (.inl ⟨_, rfl, ⟨_, hs⟩, q _ H1 ds s1 (fun F H s0 s => ⟨fun i d hi => ?_, ⟨_, sqT_mono s (sqT_mono s0 hs), by rw [ha.len]; exact Nat.le_refl _⟩⟩) hd⟩)
      obtain ⟨v, h1, h2⟩ := ha.get hi
      refine ⟨⟨_, v, sqT_mono s (sqT_mono s0 hs), h1⟩, fun x H' y => .inl ⟨y.1, ?_⟩⟩
      have e := y.2 _ (sqT_mono s (sqT_mono s0 hs))
      rw [h1] at e
      cases e
      exact h2.up s0
  | str z =>
    cases p
    refine .inr (.inr ⟨z, rfl, q _ H1 _ s1 (fun F H s0 s => ⟨fun i d hi => ?_, ?_⟩) hd⟩)
    · rw [List.getElem?_map] at hi
      cases c : z.cps.toList[i]? with
      | none => rw [c] at hi; cases hi
      | some cc =>
        rw [c] at hi
        have e2 : PyData.str ⟨#[cc]⟩ = d := Option.some.inj hi
        subst e2
        have c2 : z.cps[i]? = some cc := by rw [← Array.getElem?_toList]; exact c
        refine ⟨(Array.getElem?_eq_some_iff.mp c2).1, fun x H' y => .inl ?_⟩
        obtain ⟨e1, c', h1, h2⟩ := y
        rw [c2] at h1
        cases h1
        subst h2
        exact ⟨e1, .str _⟩
    · show z.cps.size ≤ _
      rw [List.length_map, Array.length_toList]
      exact Nat.le_refl _
  | _ => exact hd.elim
def diRng1 (da : DA) : DI := fun φ Φ => da φ fun ds => match ds with
  | [.int j] => -(2 ^ 62) ≤ j ∧ j < 2 ^ 62 ∧ Φ ((List.range j.toNat).map fun (k : Nat) => .int k)
  | _ => False
def diRng2 (da : DA) : DI := fun φ Φ => da φ fun ds => match ds with
  | [.int i, .int j] => (-(2 ^ 62) ≤ i ∧ i < 2 ^ 62 ∧ -(2 ^ 62) ≤ j ∧ j < 2 ^ 62) ∧ Φ ((List.range (j - i).toNat).map fun (k : Nat) => .int (i + k))
  | _ => False
theorem yields_rng {lo : Int} {n : Nat} {H : Hp} : Yields K (Itr lo n) H ((List.range n).map fun (k : Nat) => .int (lo + k)) := fun F H s0 s => by
  refine ⟨fun i d hi => ?_, ?_⟩
  · rw [List.getElem?_map] at hi
    cases c : (List.range n)[i]? with
    | none => rw [c] at hi; cases hi
    | some k =>
      rw [c] at hi
      obtain ⟨h1, h2⟩ := List.getElem?_eq_some_iff.mp c
      rw [List.getElem_range] at h2
      subst h2
      rw [List.length_range] at h1
      have e2 : PyData.int (lo + (i : Nat)) = d := Option.some.inj hi
      subst e2
      exact ⟨h1, fun x H' y => .inl ⟨y.1, by rw [y.2]; exact .int _⟩⟩
  · show n ≤ _
    rw [List.length_map, List.length_range]
    exact Nat.le_refl _
theorem gi_rng1 {a : Expr} {da : DA} {p pos : Pos} (hm : X.mg "range" = none) (ha : GA X [a] da) (hg : Gl X "range" := by rfl) (hs : starEach [a] X.env = [(false, eval a X.env)] := by rfl) : GI X tg (.Call (.Name "range" p) [a] [] pos) (diRng1 da) := by
  obtain ⟨ta, a1, a2⟩ := ha
  refine ⟨_, pi_range1 hg hm a1 hs, fun σ H φ Φ R env h q => a2 σ H φ _ _ env h fun vs H1 ds s1 p l hd => ?_⟩
  match ds, hd, p with
  | [.int j], hd, p =>
    cases p with
    | cons p1 p2 =>
      cases p1
      cases p2
      refine ⟨j, rfl, hd.1, hd.2.1, q _ H1 _ s1 ?_ hd.2.2⟩
      have y := yields_rng (K := X.K) (lo := 0) (n := j.toNat) (H := H1)
      have e : ((List.range j.toNat).map fun (k : Nat) => PyData.int ((0 : Int) + k)) = (List.range j.toNat).map fun (k : Nat) => PyData.int k := List.map_congr_left fun k _ => by rw [Int.zero_add]
      rw [e] at y
      exact y
theorem gi_rng2 {a b : Expr} {da : DA} {p pos : Pos} (hm : X.mg "range" = none) (ha : GA X [a, b] da) (hg : Gl X "range" := by rfl) (hs : starEach [a, b] X.env = [(false, eval a X.env), (false, eval b X.env)] := by rfl) (hs2 : starEach [b] X.env = [(false, eval b X.env)] := by rfl) : GI X tg (.Call (.Name "range" p) [a, b] [] pos) (diRng2 da) := by
  obtain ⟨ta, a1, a2⟩ := ha
  refine ⟨_, pi_range2 hg hm a1 hs hs2, fun σ H φ Φ R env h q => a2 σ H φ _ _ env h fun vs H1 ds s1 p l hd => ?_⟩
  match ds, hd, p with
  | [.int i, .int j], hd, p =>
    cases p with
    | cons p1 p2 =>
      cases p2 with
      | cons p2 p3 =>
        cases p1; cases p2; cases p3
        exact ⟨i, j, rfl, hd.1, q _ H1 _ s1 yields_rng hd.2⟩
/-- the pairs of zip -/
def zipD (xs ys : List Dt) : List Dt := List.zipWith (fun x y => .tuple [x, y]) xs ys
def diZip (da : DA) : DI := fun φ Φ => da φ fun ds => match ds with
  | [.list xs, .list ys] => Φ (zipD xs ys)
  | [.tuple xs, .tuple ys] => Φ (zipD xs ys)
  | _ => False
theorem zipD_get {xs ys : List Dt} {i : Nat} {d : Dt} (h : (zipD xs ys)[i]? = some d) : ∃ x y, xs[i]? = some x ∧ ys[i]? = some y ∧ d = .tuple [x, y] := by
  unfold zipD at h
  rw [List.getElem?_zipWith] at h
  cases c1 : xs[i]? with
  | none => rw [c1] at h; cases h
  | some x =>
    rw [c1] at h
    cases c2 : ys[i]? with
    | none => rw [c2] at h; cases h
    | some y => rw [c2] at h; exact ⟨x, y, rfl, rfl, (Option.some.inj h).symm⟩
theorem zipD_len {xs ys : List Dt} : (zipD xs ys).length = min xs.length ys.length := List.length_zipWith
theorem gi_zip {e e2 : Expr} {da : DA} {p pos tpos : Pos} {elts : List Expr} {kk : Nat} (hm : X.mg "zip" = none) (ha : GA X [e, e2] da) (hg : Gl X "zip" := by rfl)
    (hs : starEach [e, e2] X.env = (false, eval e X.env) :: starEach [e2] X.env := by rfl) (hpl : (backTo pos (starEach [e2] X.env)).any (·.1) = false := by rfl) : GI X (.Tuple elts kk tpos) (.Call (.Name "zip" p) [e, e2] [] pos) (diZip da) := by
  obtain ⟨ta, a1, a2⟩ := ha
  refine ⟨_, RZ.pi_zipA hg hm a1 hs hpl, fun σ H φ Φ R env h q => a2 σ H φ _ _ env h fun vs H1 ds s1 p l hd => ?_⟩
  match ds, hd, p with
  | [.list xs, .list ys], hd, p =>
    cases p with
    | cons p1 p2 =>
      cases p2 with
      | cons p2 p3 =>
        cases p3
        cases p1 with
        | lst hs1 ha1 =>
          cases p2 with
          | lst hs2 ha2 =>
            refine ⟨_, _, _, _, rfl, .inl ⟨hs1, hs2, q _ H1 _ s1 (fun F H s0 s => ⟨fun i d hi => ?_, ⟨_, _, s.seq (s0.seq hs1), s.seq (s0.seq hs2), ?_⟩⟩) hd⟩⟩
            · obtain ⟨x, y, h1, h2, rfl⟩ := zipD_get hi
              obtain ⟨u1, g1, g2⟩ := ha1.get h1
              obtain ⟨u2, k1, k2⟩ := ha2.get h2
              refine ⟨⟨_, _, u1, u2, s.seq (s0.seq hs1), s.seq (s0.seq hs2), g1, k1⟩, fun v H' y => ?_⟩
              obtain ⟨T, x1, x2, rfl, n, rfl, f1, f2⟩ := y
              have e1 := f1 _ (s.seq (s0.seq hs1))
              have e2 := f2 _ (s.seq (s0.seq hs2))
              rw [g1] at e1
              rw [k1] at e2
              cases e1; cases e2
              exact .inr ⟨T, _, _, rfl, n, rfl, rfl, .cons (g2.up s0) (.cons (k2.up s0) .nil)⟩
            · rw [zipD_len, ha1.len, ha2.len]; omega
  | [.tuple xs, .tuple ys], hd, p =>
    cases p with
    | cons p1 p2 =>
      cases p2 with
      | cons p2 p3 =>
        cases p3
        cases p1 with
        | tup hs1 ha1 =>
          cases p2 with
          | tup hs2 ha2 =>
            refine ⟨_, _, _, _, rfl, .inr ⟨hs1, hs2, q _ H1 _ s1 (fun F H s0 s => ⟨fun i d hi => ?_, ⟨_, _, sqT_mono s (sqT_mono s0 hs1), sqT_mono s (sqT_mono s0 hs2), ?_⟩⟩) hd⟩⟩
            · obtain ⟨x, y, h1, h2, rfl⟩ := zipD_get hi
              obtain ⟨u1, g1, g2⟩ := ha1.get h1
              obtain ⟨u2, k1, k2⟩ := ha2.get h2
              refine ⟨⟨_, _, u1, u2, sqT_mono s (sqT_mono s0 hs1), sqT_mono s (sqT_mono s0 hs2), g1, k1⟩, fun v H' y => ?_⟩
              obtain ⟨T, x1, x2, rfl, n, rfl, f1, f2⟩ := y
              have e1 := f1 _ (sqT_mono s (sqT_mono s0 hs1))
              have e2 := f2 _ (sqT_mono s (sqT_mono s0 hs2))
              rw [g1] at e1
              rw [k1] at e2
              cases e1; cases e2
              exact .inr ⟨T, _, _, rfl, n, rfl, rfl, .cons (g2.up s0) (.cons (k2.up s0) .nil)⟩
            · rw [zipD_len, ha1.len, ha2.len]; omega
/-! ### for -/
variable {W : WX}
def dFor (di : DI) (g : DG) (b : DS) : DS := fun E ρ => di (purF ρ) fun ds => ∃ Iv : Nat → Rho → Prop, Iv 0 ρ ∧
  (∀ k d ρ', ds[k]? = some d → Iv k ρ' → g d ρ' fun ρ2 => b { E with nx := Iv (k + 1), ct := Iv (k + 1), bk := E.nx } ρ2) ∧ ∀ ρ', Iv ds.length ρ' → E.nx ρ'
/-- .. over a range that may hang on owned lists -/
def dForS (di : DI) (g : DG) (b : DS) : DS := fun E ρ => di (allF ρ) fun ds => (∀ d ∈ ds, scalD d) ∧ ∃ Iv : Nat → Rho → Prop, Iv 0 ρ ∧
  (∀ k d ρ', ds[k]? = some d → Iv k ρ' → g d ρ' fun ρ2 => b { E with nx := Iv (k + 1), ct := Iv (k + 1), bk := E.nx } ρ2) ∧ ∀ ρ', Iv ds.length ρ' → E.nx ρ'
theorem for_core {J : It} {F₀ : Hp} {ds : List Dt} {g : TG} {dg : DG} {tb : TS} {db : DS} {D : Ends} {E : DEnds} {F : Hp} {σ : St} {H : Hp} {ρ : Rho} (hy : Yields K J F₀ ds) (hg : SG K g dg) (hb : SS K W tb db) (s0 : Same F₀ F) (env : EnvO K F σ H ρ) (m : Meets K W F D E)
    (h : ∃ Iv : Nat → Rho → Prop, Iv 0 ρ ∧ (∀ k d ρ', ds[k]? = some d → Iv k ρ' → dg d ρ' fun ρ2 => db { E with nx := Iv (k + 1), ct := Iv (k + 1), bk := E.nx } ρ2) ∧ ∀ ρ', Iv ds.length ρ' → E.nx ρ') :
    ∃ Wv : Nat → Nat → St → Hp → Prop, (∃ m, Wv 0 m σ H) ∧ ∀ i m σ H, Wv i m σ H → (J.stop i H ∧ D.nx σ H) ∨ (J.go i H ∧ ∃ N : St → Hp → Prop, (∀ σ' H', N σ' H' → ∃ m', m' < m ∧ Wv (i + 1) m' σ' H') ∧ ∀ x H', J.yld i H x H' → g x σ H' fun σ2 H2 => tb { D with nx := N, ct := N, bk := D.nx } σ2 H2) := by
  obtain ⟨Iv, i0, turn, fin⟩ := h
  refine ⟨fun i n σ' H' => ∃ F' ρ', Same F F' ∧ EnvO K F' σ' H' ρ' ∧ Iv i ρ' ∧ n = ds.length - i ∧ i ≤ ds.length, ⟨ds.length, F, ρ, Same.refl F, env, i0, rfl, Nat.zero_le _⟩, fun i n σ' H' hw => ?_⟩
  obtain ⟨F', ρ', s, env', iv, rfl, hi⟩ := hw
  obtain ⟨y1, y2⟩ := hy F' H' (s0.trans s) env'.fz.same
  by_cases c : i < ds.length
  · have e := List.getElem?_eq_getElem c
    obtain ⟨go, yl⟩ := y1 i _ e
    refine .inr ⟨go, fun σ2 H2 => ∃ F2 ρ2, Same F F2 ∧ EnvO K F2 σ2 H2 ρ2 ∧ Iv (i + 1) ρ2, fun σ2 H2 hN => ?_, fun x H2 y => ?_⟩
    · obtain ⟨F2, ρ2, s2, env2, iv2⟩ := hN
      exact ⟨ds.length - (i + 1), by omega, F2, ρ2, s2, env2, iv2, rfl, c⟩
    · have key : ∀ F2, Same F' F2 → EnvO K F2 σ' H2 ρ' → Dp K F2 x ds[i] → g x σ' H2 fun σ3 H3 => tb { D with nx := fun σ2 H2 => ∃ F2 ρ2, Same F F2 ∧ EnvO K F2 σ2 H2 ρ2 ∧ Iv (i + 1) ρ2, ct := fun σ2 H2 => ∃ F2 ρ2, Same F F2 ∧ EnvO K F2 σ2 H2 ρ2 ∧ Iv (i + 1) ρ2, bk := D.nx } σ3 H3 := fun F2 s2 env2 p => by
        refine hg x _ F2 σ' H2 ρ' _ _ env2 p (turn i _ ρ' e iv) fun σ3 ρ3 env3 hb3 => ?_
        have sF := s.trans s2
        exact hb _ _ F2 σ3 H2 ρ3 env3 hb3 ⟨fun F4 σ4 H4 ρ4 s4 env4 iv4 => ⟨F4, ρ4, sF.trans s4, env4, iv4⟩, fun F4 σ4 H4 ρ4 s4 env4 q => m.nx F4 σ4 H4 ρ4 (sF.trans s4) env4 q, fun F4 σ4 H4 ρ4 s4 env4 iv4 => ⟨F4, ρ4, sF.trans s4, env4, iv4⟩, (m.up sF).rt, (m.up sF).rtO, (m.up sF).xr⟩
      rcases yl x H2 y with ⟨rfl, p⟩ | ⟨T, vs, es, rfl, n, rfl, ed, pa⟩
      · exact key F' (Same.refl _) env' p
      · obtain ⟨env2, s2⟩ := env'.newTup (vs := vs) n
        exact key _ s2 env2 (by rw [ed]; exact .tup (SqT.of upd_same) (pa.up s2))
  · have e : i = ds.length := by omega
    subst e
    exact .inl ⟨y2, m.nx F' σ' H' ρ' s env' (fin ρ' iv)⟩
theorem s_for {iter : Expr} {body : List Stmt} {di : DI} {g : DG} {db : DS} {pos : Pos} (hp : PassesOwn (model X.prog X.w) X.A X.env X.xe) (hc : X.calm = true) (hi : GI X tg iter di) (hg : GG X tg g) (hb : GSs X W body db)
    (hs : ∀ x, foldedSetIterable iter X.env x = pure x := by intro _; rfl) : GS X W (.For tg iter body [] pos) (dFor di g db) := by
  obtain ⟨wi, i1, i2⟩ := hi
  obtain ⟨tg', g1, g2⟩ := hg
  obtain ⟨tb, b1, b2⟩ := hb
  refine ⟨_, ps_for hp hc (pi_frame i1) g1 b1 hs, fun D E F σ H ρ env h m => ?_⟩
  refine ⟨F, env.fz, i2 σ F (purF ρ) _ _ env.pur h fun J F' ds s hy hd => ⟨s, fun dj => ?_⟩⟩
  exact for_core hy g2 b2 (Same.refl _) (env.grow s dj) (m.up s) hd
theorem s_forS {iter : Expr} {body : List Stmt} {di : DI} {g : DG} {db : DS} {pos : Pos} (hp : PassesOwn (model X.prog X.w) X.A X.env X.xe) (hc : X.calm = true) {a : Expr} {da : DA} {p pos2 : Pos} (hm : X.mg "range" = none) (ha : GA X [a] da) (hg : GG X tg g) (hb : GSs X W body db) (hgl : Gl X "range" := by rfl) (hst : starEach [a] X.env = [(false, eval a X.env)] := by rfl)
    (hs : ∀ x, foldedSetIterable (.Call (.Name "range" p) [a] [] pos2) X.env x = pure x := by intro _; rfl) : GS X W (.For tg (.Call (.Name "range" p) [a] [] pos2) body [] pos) (dForS (diRng1 da) g db) := by
  obtain ⟨ta, a1, a2⟩ := ha
  obtain ⟨tg', g1, g2⟩ := hg
  obtain ⟨tb, b1, b2⟩ := hb
  refine ⟨_, ps_for hp hc (pi_range1 hgl hm a1 hst) g1 b1 hs, fun D E F σ H ρ env h m => a2 σ H _ _ _ env.all h fun vs H1 ds s1 p l hd => ?_⟩
  obtain ⟨F', s', env'⟩ := env.after s1
  match ds, hd, p with
  | [.int j], hd, p =>
    cases p with
    | cons p1 p2 =>
      cases p1
      cases p2
      refine ⟨j, rfl, hd.1, hd.2.1, for_core (K := X.K) (F₀ := F') ?_ g2 b2 (Same.refl _) env' (m.up s') hd.2.2.2⟩
      have y := yields_rng (K := X.K) (lo := 0) (n := j.toNat) (H := F')
      have e : ((List.range j.toNat).map fun (k : Nat) => PyData.int ((0 : Int) + k)) = (List.range j.toNat).map fun (k : Nat) => PyData.int k := List.map_congr_left fun k _ => by rw [Int.zero_add]
      rw [e] at y
      exact y
end
/-! ### methods of owned lists -/
section
variable {X : Cx} {K : PySem.W.Frag} {W : WX}
/-- found.append(e) -/
def dApp (i : Nat) (de : DE) : DS := fun E ρ => match getS ρ i with
  | .ow ds => de (purF ρ) fun d => ds.length < sizeLine ∧ E.nx (setS ρ i (.ow (ds ++ [d])))
  | _ => False
def dAppS (i : Nat) (de : DE) : DS := fun E ρ => match getS ρ i with
  | .ow ds => de (allF ρ) fun d => scalD d ∧ ds.length < sizeLine ∧ E.nx (setS ρ i (.ow (ds ++ [d])))
  | _ => False
theorem s_app {i : Nat} {x : Str} {e : Expr} {de : DE} {p apos cpos pos : Pos} (he : GE X e de) (hN : X.N[i]? = some x := by rfl) (hv : Vis X.env.scope x := by first | exact Or.inl rfl | exact Or.inr (Or.inl rfl) | exact Or.inr (Or.inr rfl)) (hdb : (x == ("__debug__" : Str)) = false := by decide) (hcd : (x == ("__classdict__" : Str)) = false := by decide)
    (hbase : attributeBase (.Name x p) "append" X.env (eval (.Name x p) X.env) = eval (.Name x p) X.env := by rfl) (hst : starEach [e] X.env = (false, eval e X.env) :: starEach [] X.env := by rfl) (hline : (apos.endLine == cpos.line) = true := by rfl)
    (hfew : ((backTo cpos (starEach [e] X.env)).all (fun x => !x.1) && (backToKw cpos (keywordEach [] X.env)).all (fun x => x.1.isSome) && decide (([e] : List Expr).length + ([] : List Keyword).length + (if ([] : List Keyword).isEmpty then 0 else 1) < 30)) = true := by rfl)
    (hplain : (backTo cpos (starEach [] X.env)).any (·.1) = false := by rfl)
    (hs : swapsWith (.Call (.Attribute (.Name x p) "append" apos) [e] [] cpos) none pos.line X.env = pure false := by rfl) :
    GS X W (.Expr (.Call (.Attribute (.Name x p) "append" apos) [e] [] cpos) pos) (dApp i de) := by
  obtain ⟨te, a1, a2⟩ := he
  refine ⟨_, ps_expr (pe_bm PySem.F.plainAttrs_list PySem.F.slot_list_append PySem.F.type_list_append mt_append (pe_var hN hv hdb hcd) (pa_cons (pe_frame a1) pa_nil hst) hbase hfew hline hst hplain) hs, fun D E F σ H ρ env h m => ?_⟩
  unfold dApp at h
  cases q : getS ρ i with
  | ow ds =>
    rw [q] at h
    obtain ⟨a, us, h1, h2, h3, h4⟩ := env.ow i ds q
    refine ⟨_, h1, .inl ⟨rfl, _, SqL.of h2⟩, ss_frame (k := fun v σ H' => (tNil σ H' fun xs H2 => rAppend (.ref a) (v :: xs) H2 fun _ H1 => D.nx σ H1)) a2 env h fun F' H' v d s env' pv hd => ?_⟩
    obtain ⟨a', vs, g1, g2, g3, g4⟩ := env'.ow i ds q
    rw [h1] at g1
    cases g1
    exact ⟨a, vs, v, rfl, rfl, g2, by rw [g4.len]; exact hd.1, m.nx F' _ _ _ s (env'.mut i q h1 (g4.app (.one pv))) hd.2⟩
  | _ => rw [q] at h; exact h.elim
theorem s_appS {i : Nat} {x : Str} {e : Expr} {de : DE} {p apos cpos pos : Pos} (he : GE X e de) (hN : X.N[i]? = some x := by rfl) (hv : Vis X.env.scope x := by first | exact Or.inl rfl | exact Or.inr (Or.inl rfl) | exact Or.inr (Or.inr rfl)) (hdb : (x == ("__debug__" : Str)) = false := by decide) (hcd : (x == ("__classdict__" : Str)) = false := by decide)
    (hbase : attributeBase (.Name x p) "append" X.env (eval (.Name x p) X.env) = eval (.Name x p) X.env := by rfl) (hst : starEach [e] X.env = (false, eval e X.env) :: starEach [] X.env := by rfl) (hline : (apos.endLine == cpos.line) = true := by rfl)
    (hfew : ((backTo cpos (starEach [e] X.env)).all (fun x => !x.1) && (backToKw cpos (keywordEach [] X.env)).all (fun x => x.1.isSome) && decide (([e] : List Expr).length + ([] : List Keyword).length + (if ([] : List Keyword).isEmpty then 0 else 1) < 30)) = true := by rfl)
    (hplain : (backTo cpos (starEach [] X.env)).any (·.1) = false := by rfl)
    (hs : swapsWith (.Call (.Attribute (.Name x p) "append" apos) [e] [] cpos) none pos.line X.env = pure false := by rfl) :
    GS X W (.Expr (.Call (.Attribute (.Name x p) "append" apos) [e] [] cpos) pos) (dAppS i de) := by
  obtain ⟨te, a1, a2⟩ := he
  refine ⟨_, ps_expr (pe_bm PySem.F.plainAttrs_list PySem.F.slot_list_append PySem.F.type_list_append mt_append (pe_var hN hv hdb hcd) (pa_cons a1 pa_nil hst) hbase hfew hline hst hplain) hs, fun D E F σ H ρ env h m => ?_⟩
  unfold dAppS at h
  cases q : getS ρ i with
  | ow ds =>
    rw [q] at h
    obtain ⟨a, us, h1, h2, h3, h4⟩ := env.ow i ds q
    refine ⟨_, h1, .inl ⟨rfl, _, SqL.of h2⟩, a2 σ H _ _ _ env.all h fun v H' d s pv hd => ?_⟩
    obtain ⟨F', s', env'⟩ := env.after s
    obtain ⟨a', vs, g1, g2, g3, g4⟩ := env'.ow i ds q
    rw [h1] at g1
    cases g1
    exact ⟨a, vs, v, rfl, rfl, g2, by rw [g4.len]; exact hd.2.1, m.nx F' _ _ _ s' (env'.mut i q h1 (g4.app (.one (dp_scal pv hd.1)))) hd.2.2⟩
  | _ => rw [q] at h; exact h.elim
abbrev rIns : V → List V → Hp → VK → Prop := fun x vs H Q => ∃ (l : Addr) (xs : List V) (i : Int) (y : V), x = .ref l ∧ vs = [.int i, y] ∧ H l = some (.lst xs) ∧ xs.length < sizeLine ∧ 0 ≤ i ∧ i < 2 ^ 63 ∧ Q .non (upd H l (.lst (xs.take i.toNat ++ [y] ++ xs.drop i.toNat)))
/-- found.insert(k, e) -/
def dIns (i : Nat) (da : DA) : DS := fun E ρ => match getS ρ i with
  | .ow ds => da (purF ρ) fun es => match es with
    | [.int k, d] => ds.length < sizeLine ∧ 0 ≤ k ∧ k < 2 ^ 63 ∧ E.nx (setS ρ i (.ow (ds.take k.toNat ++ [d] ++ ds.drop k.toNat)))
    | _ => False
  | _ => False
theorem s_ins {i : Nat} {x : Str} {e e2 : Expr} {de de2 : DE} {p apos cpos pos : Pos} (he : GE X e de) (he2 : GE X e2 de2) (hN : X.N[i]? = some x := by rfl) (hv : Vis X.env.scope x := by first | exact Or.inl rfl | exact Or.inr (Or.inl rfl) | exact Or.inr (Or.inr rfl)) (hdb : (x == ("__debug__" : Str)) = false := by decide) (hcd : (x == ("__classdict__" : Str)) = false := by decide)
    (hbase : attributeBase (.Name x p) "insert" X.env (eval (.Name x p) X.env) = eval (.Name x p) X.env := by rfl) (hst : starEach [e, e2] X.env = (false, eval e X.env) :: starEach [e2] X.env := by rfl) (hst2 : starEach [e2] X.env = (false, eval e2 X.env) :: starEach [] X.env := by rfl) (hline : (apos.endLine == cpos.line) = true := by rfl)
    (hfew : ((backTo cpos (starEach [e, e2] X.env)).all (fun x => !x.1) && (backToKw cpos (keywordEach [] X.env)).all (fun x => x.1.isSome) && decide (([e, e2] : List Expr).length + ([] : List Keyword).length + (if ([] : List Keyword).isEmpty then 0 else 1) < 30)) = true := by rfl)
    (hplain : (backTo cpos (starEach [e2] X.env)).any (·.1) = false := by rfl)
    (hs : swapsWith (.Call (.Attribute (.Name x p) "insert" apos) [e, e2] [] cpos) none pos.line X.env = pure false := by rfl) :
    GS X W (.Expr (.Call (.Attribute (.Name x p) "insert" apos) [e, e2] [] cpos) pos) (dIns i (dCons de (dCons de2 dNil))) := by
  obtain ⟨te, a1, a2⟩ := he
  obtain ⟨te2, b1, b2⟩ := he2
  refine ⟨_, ps_expr (pe_bm PySem.F.plainAttrs_list PySem.F.slot_list_insert PySem.F.type_list_insert mt_insert (pe_var hN hv hdb hcd) (pa_cons (pe_frame a1) (pa_cons (pe_frame b1) pa_nil hst2) hst) hbase hfew hline hst hplain) hs, fun D E F σ H ρ env h m => ?_⟩
  unfold dIns at h
  cases q : getS ρ i with
  | ow ds =>
    rw [q] at h
    obtain ⟨a, us, h1, h2, h3, h4⟩ := env.ow i ds q
    refine ⟨_, h1, .inl ⟨rfl, _, SqL.of h2⟩, ?_⟩
    refine ss_frame (k := fun v σ H1 => tFr te2 σ H1 fun v2 H2 => rIns (.ref a) [v, v2] H2 fun _ H3 => D.nx σ H3) a2 env h fun F1 H1 v d s1 env1 pv hd => ?_
    refine ss_frame (k := fun v2 σ H2 => rIns (.ref a) [v, v2] H2 fun _ H3 => D.nx σ H3) b2 env1 hd fun F2 H2 v2 d2 s2 env2 pv2 hd2 => ?_
    obtain ⟨a', vs, g1, g2, g3, g4⟩ := env2.ow i ds q
    rw [h1] at g1
    cases g1
    cases d with
    | int k =>
      cases pv
      refine ⟨a, vs, k, v2, rfl, rfl, g2, by rw [g4.len]; exact hd2.1, hd2.2.1, hd2.2.2.1, m.nx F2 _ _ _ (s1.trans s2) (env2.mut i q h1 (((g4.take _).app (.one pv2)).app (g4.drop _))) hd2.2.2.2⟩
    | _ => exact hd2.elim
  | _ => rw [q] at h; exact h.elim
end
end L2.D3

set_option maxHeartbeats 4000000
namespace L2.D3
open PySem PySem.Spec PyProof.Rows
/-! ### the readings by themselves -/
def tD (K : PySem.W.Frag) (de : DE) : TE := fun σ H Q => ∃ φ Φ, EnvF K σ H φ ∧ de φ Φ ∧ ∀ v H' d, Same H H' → Dp K H' v d → Φ d → Q v H'
def tTD (K : PySem.W.Frag) (dt : DT) : TT := fun σ H Q => ∃ φ Φ, EnvF K σ H φ ∧ dt φ Φ ∧ ∀ b H', Same H H' → Φ b → Q b H'
theorem GE.pe {X : Cx} {e : Expr} {de : DE} (h : GE X e de) : PE X e (tD X.K de) := by
  obtain ⟨te, a1, a2⟩ := h
  refine ⟨fun pins s σ H Q I hw => ?_⟩
  obtain ⟨φ, Φ, env, hd, q⟩ := hw
  exact a1.run pins s σ H Q I (a2 σ H φ Φ Q env hd q)
theorem GT.pt {X : Cx} {e : Expr} {dt : DT} (h : GT X e dt) : PT X e (tTD X.K dt) := by
  obtain ⟨te, a1, a2⟩ := h
  refine ⟨fun pins s σ H Q I hw => ?_⟩
  obtain ⟨φ, Φ, env, hd, q⟩ := hw
  exact a1.run pins s σ H Q I (a2 σ H φ Φ Q env hd q)
/-! ### comprehensions -/
def noneF : Fro → Nat → Fro
  | [], _ => []
  | _ :: r, 0 => .no :: r
  | a :: r, n + 1 => a :: noneF r n
def wipeF (φ : Fro) : List Nat → Fro
  | [] => φ
  | v :: vs => noneF (wipeF φ vs) v
theorem getF_none : ∀ {φ : Fro} {i j : Nat} {d : Dt}, getF (noneF φ i) j = some d → j ≠ i ∧ getF φ j = some d
  | [], i, j, d, h => by cases h
  | a :: r, 0, 0, d, h => by cases h
  | a :: r, 0, j + 1, d, h => ⟨Nat.succ_ne_zero j, h⟩
  | a :: r, i + 1, 0, d, h => ⟨(Nat.succ_ne_zero i).symm, h⟩
  | a :: r, i + 1, j + 1, d, h => by
    obtain ⟨h1, h2⟩ := getF_none (φ := r) (i := i) (j := j) h
    exact ⟨fun z => h1 (Nat.succ.inj z), h2⟩
theorem getA_none : ∀ {φ : Fro} {i j : Nat} {d : Ass}, getA (noneF φ i) j = some d → j ≠ i ∧ getA φ j = some d
  | [], i, j, d, h => by cases h
  | a :: r, 0, 0, d, h => by cases h
  | a :: r, 0, j + 1, d, h => ⟨Nat.succ_ne_zero j, h⟩
  | a :: r, i + 1, 0, d, h => ⟨(Nat.succ_ne_zero i).symm, h⟩
  | a :: r, i + 1, j + 1, d, h => by
    obtain ⟨h1, h2⟩ := getA_none (φ := r) (i := i) (j := j) h
    exact ⟨fun z => h1 (Nat.succ.inj z), h2⟩
theorem noneF_len : ∀ {φ : Fro} {i : Nat}, (noneF φ i).length = φ.length
  | [], i => rfl
  | a :: r, 0 => rfl
  | a :: r, i + 1 => congrArg Nat.succ (noneF_len (φ := r))
theorem EnvF.wipe {K : PySem.W.Frag} {σ : St} {H : Hp} {φ : Fro} (h : EnvF K σ H φ) : ∀ vs : List Nat, EnvF K (L2.wipe σ vs) H (wipeF φ vs)
  | [] => h
  | v :: vs => by
    have ih := EnvF.wipe h vs
    refine ⟨by show (noneF (wipeF φ vs) v).length ≤ ((L2.wipe σ vs).set v none).length; rw [noneF_len, List.length_set]; exact ih.len, fun i d q => ?_, fun i A q => ?_⟩
    · obtain ⟨h1, h2⟩ := getF_none (φ := wipeF φ vs) q
      obtain ⟨u, a, b⟩ := ih.at_ i d h2
      exact ⟨u, by show ((L2.wipe σ vs).set v none)[i]? = _; rw [List.getElem?_set_ne (Ne.symm h1)]; exact a, b⟩
    · obtain ⟨h1, h2⟩ := getA_none (φ := wipeF φ vs) q
      obtain ⟨u, a, b⟩ := ih.an i A h2
      exact ⟨u, by show ((L2.wipe σ vs).set v none)[i]? = _; rw [List.getElem?_set_ne (Ne.symm h1)]; exact a, b⟩
theorem wipe_get {σ : St} {i : Nat} : ∀ {vs : List Nat}, i ∈ vs → i < σ.length → (L2.wipe σ vs)[i]? = some none
  | [], h, _ => by cases h
  | v :: vs, h, hl => by
    show ((L2.wipe σ vs).set v none)[i]? = some none
    by_cases c : v = i
    · subst c
      exact List.getElem?_set_self (by rw [wipe_length]; exact hl)
    · rw [List.getElem?_set_ne c]
      exact wipe_get (by rcases List.mem_cons.mp h with z | z; exact absurd z.symm c; exact z) hl
theorem wipe_same {σ σ' : St} {vs : List Nat} (hl : σ.length = σ'.length) (h : ∀ i, i ∉ vs → σ[i]? = σ'[i]?) : L2.wipe σ vs = L2.wipe σ' vs := by
  apply List.ext_getElem?
  intro i
  by_cases c : i ∈ vs
  · by_cases ci : i < σ.length
    · rw [wipe_get c ci, wipe_get c (by rw [← hl]; exact ci)]
    · rw [List.getElem?_eq_none (by rw [wipe_length]; omega), List.getElem?_eq_none (by rw [wipe_length]; omega)]
  · rw [wipe_out c, wipe_out c]
    exact h i c
theorem wipe_wipe {σ : St} {vs : List Nat} : L2.wipe (L2.wipe σ vs) vs = L2.wipe σ vs := wipe_same (wipe_length σ vs) fun _ hi => wipe_out hi
theorem wipe_set {σ : St} {vs : List Nat} {i : Nat} {x : Option V} (h : i ∈ vs) : L2.wipe (σ.set i x) vs = L2.wipe σ vs := wipe_same (List.length_set ..) fun j hj => List.getElem?_set_ne (fun z => hj (by rw [← z]; exact h))
/-- a target within a comprehension -/
abbrev DGc := Dt → Fro → (Fro → Prop) → Prop
abbrev DGcs := List Dt → Fro → (Fro → Prop) → Prop
def SGc (K : PySem.W.Frag) (vs : List Nat) (g : TG) (dg : DGc) : Prop := ∀ (v : V) (d : Dt) (σ : St) (F H : Hp) (φ : Fro) (Ψ : Fro → Prop) (Q : St → Hp → Prop), EnvF K σ F φ → Same F H → Dp K F v d → dg d φ Ψ → (∀ σ' φ', EnvF K σ' F φ' → L2.wipe σ' vs = L2.wipe σ vs → Ψ φ' → Q σ' H) → g v σ H Q
def SGcs (K : PySem.W.Frag) (vs : List Nat) (g : TGs) (dg : DGcs) : Prop := ∀ (us : List V) (ds : List Dt) (σ : St) (F H : Hp) (φ : Fro) (Ψ : Fro → Prop) (Q : St → Hp → Prop), EnvF K σ F φ → Same F H → DpAll K F us ds → dg ds φ Ψ → (∀ σ' φ', EnvF K σ' F φ' → L2.wipe σ' vs = L2.wipe σ vs → Ψ φ' → Q σ' H) → g us σ H Q
def dcN (i : Nat) : DGc := fun d φ Ψ => Ψ (setF φ i d)
def dcNil : DGcs := fun ds φ Ψ => match ds with
  | [] => Ψ φ
  | _ :: _ => False
def dcCons (g : DGc) (gs : DGcs) : DGcs := fun ds φ Ψ => match ds with
  | [] => False
  | d :: r => g d φ fun φ' => (gs r φ' Ψ)
def dcT (n : Nat) (gs : DGcs) : DGc := fun d φ Ψ => match seqD d with
  | some ds => ds.length = n ∧ gs ds φ Ψ
  | none => False
def gSeq (K : PySem.W.Frag) (n : Nat) (t : TGs) : TG := fun v σ H Q => gTup K n t v σ H Q ∨ gLst K n t v σ H Q
section
variable {K : PySem.W.Frag} {vs : List Nat}
theorem sgc_name {i : Nat} (h : i ∈ vs) : SGc K vs (gName i) (dcN i) := fun v d σ F H φ Ψ Q env s p hd q => q _ _ (env.set p) (wipe_set h) hd
theorem sgcs_nil : SGcs K vs gNil dcNil := fun us ds σ F H φ Ψ Q env s p hd q => by
  cases ds with
  | nil => cases p; exact ⟨rfl, q σ φ env rfl hd⟩
  | cons _ _ => exact hd.elim
theorem sgcs_cons {g : TG} {gs : TGs} {dg : DGc} {dgs : DGcs} (h : SGc K vs g dg) (hr : SGcs K vs gs dgs) : SGcs K vs (gCons g gs) (dcCons dg dgs) := fun us ds σ F H φ Ψ Q env s p hd q => by
  cases ds with
  | nil => exact hd.elim
  | cons d r =>
    cases p with
    | cons p1 p2 => exact ⟨_, _, rfl, h _ d σ F H φ _ _ env s p1 hd fun σ' φ' env' w h' => hr _ r σ' F H φ' Ψ Q env' s p2 h' fun σ2 φ2 env2 w2 h2 => q σ2 φ2 env2 (w2.trans w) h2⟩
theorem sgc_tup {n : Nat} {gs : TGs} {dgs : DGcs} (h : SGcs K vs gs dgs) : SGc K vs (gSeq K n gs) (dcT n dgs) := fun v d σ F H φ Ψ Q env s p hd q => by
  cases d with
  | list ds =>
    obtain ⟨hl, hd⟩ : ds.length = n ∧ dgs ds φ Ψ := hd
    cases p with
    | lst hs ha => exact .inr ⟨_, _, rfl, s.seq hs, by rw [ha.len, hl], h _ ds σ F H φ Ψ Q env s ha hd q⟩
  | tuple ds =>
    obtain ⟨hl, hd⟩ : ds.length = n ∧ dgs ds φ Ψ := hd
    cases p with
    | tup hs ha => exact .inl ⟨_, _, rfl, sqT_mono s hs, by rw [ha.len, hl], h _ ds σ F H φ Ψ Q env s ha hd q⟩
  | _ => exact hd.elim
end
def dYes : DT := fun _ Φ => Φ true
def dLc (vs : List Nat) (di : DI) (g : DGc) (t : DT) (de : DE) : DF := fun φ Φ => di φ fun ds => ∃ Iv : Nat → List Dt → Prop, Iv 0 [] ∧
  (∀ k d acc, ds[k]? = some d → Iv k acc → g d (wipeF φ vs) fun φ2 => t φ2 fun b => if b = true then de φ2 fun y => acc.length < sizeLine ∧ Iv (k + 1) (acc ++ [y]) else Iv (k + 1) acc) ∧ ∀ acc, Iv ds.length acc → Φ acc
theorem erase_upd {H : Hp} {a : Addr} {o : HO} (h : H a = some o) : ∃ F : Hp, F a = none ∧ H = upd F a o := by
  refine ⟨fun b => if b = a then none else H b, if_pos rfl, ?_⟩
  funext b
  by_cases c : b = a
  · rw [c, upd_same, h]
  · rw [upd_ne c, if_neg c]
theorem same_erase {F F' : Hp} {a : Addr} {o : HO} (n : F a = none) (s : Same (upd F a o) (upd F' a o)) : Same F F' := fun b u e => by
  have c : b ≠ a := fun z => by rw [z, n] at e; cases e
  have q := s b u (by rw [upd_ne c]; exact e)
  rw [upd_ne c] at q
  exact q
theorem fz_upd {F : Hp} {a : Addr} {vs : List V} (n : F a = none) : Fz F (upd F a (.lst vs)) := ⟨same_new n, fun b o q => by
  by_cases c : b = a
  · rw [c, upd_same] at q
    cases q
    exact .inr ⟨by rw [c]; exact n, rfl⟩
  · rw [upd_ne c] at q
    exact .inl q⟩
theorem sf_lc {K : PySem.W.Frag} {wi : TI} {g : TG} {tt : TT} {de : DE} {vs : List Nat} {di : DI} {dg : DGc} {dt : DT} (hi : SI K wi di) (hg : SGc K vs g dg) (ht : ST K tt dt) : SF K (tLc wi g tt (tFr (tD K de)) vs) (dLc vs di dg dt de) := fun σ H φ Φ Q env h q =>
  hi σ H φ _ _ env h fun J H1 ds s1 hy hd => by
    intro D hD
    obtain ⟨Iv, i0, turn, fin⟩ := hd
    refine ⟨fun i m H' => ∃ F acc es, H' = upd F D (.lst acc) ∧ Same H1 F ∧ F D = none ∧ DpAll K F acc es ∧ Iv i es ∧ m = ds.length - i ∧ i ≤ ds.length, ⟨_, H1, [], [], rfl, Same.refl _, hD, .nil, i0, rfl, Nat.zero_le _⟩, fun i m H' hw => ?_⟩
    obtain ⟨F, acc, es, rfl, sF, nD, pa, iv, rfl, hle⟩ := hw
    obtain ⟨y1, y2⟩ := hy F (upd F D (.lst acc)) sF (same_new nD)
    by_cases c : i < ds.length
    · have e := List.getElem?_eq_getElem c
      obtain ⟨go, yl⟩ := y1 i _ e
      refine .inr ⟨go, fun H' => ∃ F acc es, H' = upd F D (.lst acc) ∧ Same H1 F ∧ F D = none ∧ DpAll K F acc es ∧ Iv (i + 1) es, fun H' hN => ?_, fun x H2 y => ?_⟩
      · obtain ⟨F2, acc2, es2, h1, h2, h3, h4, h5⟩ := hN
        exact ⟨ds.length - (i + 1), by omega, F2, acc2, es2, h1, h2, h3, h4, h5, rfl, c⟩
      · have key : ∀ F2, Same F F2 → F2 D = none → Dp K F2 x ds[i] → g x (L2.wipe σ vs) (upd F2 D (.lst acc)) fun σ2 H2 => L2.wipe σ2 vs = L2.wipe σ vs ∧ tt σ2 H2 fun b H3 => if b = true then tFr (tD K de) σ2 H3 fun y H4 => ∃ acc, H4 D = some (.lst acc) ∧ acc.length < sizeLine ∧ ∃ F acc' es, upd H4 D (.lst (acc ++ [y])) = upd F D (.lst acc') ∧ Same H1 F ∧ F D = none ∧ DpAll K F acc' es ∧ Iv (i + 1) es else ∃ F acc es, H3 = upd F D (.lst acc) ∧ Same H1 F ∧ F D = none ∧ DpAll K F acc es ∧ Iv (i + 1) es := fun F2 s2 n2 p => by
          refine hg x _ (L2.wipe σ vs) F2 (upd F2 D (.lst acc)) (wipeF φ vs) _ _ ((env.wipe vs).up (s1.trans (sF.trans s2))) (same_new n2) p (turn i _ es e iv) fun σ3 φ3 env3 w3 h3 => ⟨w3.trans wipe_wipe, ?_⟩
          refine ht σ3 _ φ3 _ _ (env3.up (same_new n2)) h3 fun b H3 s3 hb => ?_
          obtain ⟨F3, n3, rfl⟩ := erase_upd (s3 D _ upd_same)
          have s4 : Same F2 F3 := same_erase n2 s3
          cases b with
          | true =>
            rw [if_pos rfl] at hb ⊢
            refine ⟨F3, fz_upd n3, φ3, _, env3.up s4, hb, fun v F4 d s5 pv hv => ⟨s5, fun dj => ?_⟩⟩
            have n4 : F4 D = none := dj D _ upd_same n3
            have eg : glue F4 (upd F3 D (.lst acc)) = upd F4 D (.lst acc) := by
              funext b
              by_cases cb : b = D
              · rw [cb, upd_same, glue_none n4, upd_same]
              · rw [upd_ne cb]
                cases z : F4 b with
                | some o => rw [glue_some z]
                | none =>
                  rw [glue_none z, upd_ne cb]
                  cases z3 : F3 b with
                  | none => rfl
                  | some o => rw [s5 b o z3] at z; cases z
            rw [eg]
            have s6 := s2.trans (s4.trans s5)
            exact ⟨acc, upd_same, by rw [pa.len]; exact hv.1, F4, acc ++ [v], es ++ [d], upd_upd, sF.trans s6, n4, (pa.up s6).app (.one pv), hv.2⟩
          | false =>
            rw [if_neg Bool.false_ne_true] at hb ⊢
            have s6 := s2.trans s4
            exact ⟨F3, acc, es, rfl, sF.trans s6, n3, pa.up s6, hb⟩
        rcases yl x H2 y with ⟨rfl, p⟩ | ⟨T, us, es', rfl, n, rfl, ed, pd⟩
        · exact key F (Same.refl _) nD p
        · have cT : T ≠ D := fun z => by rw [z, upd_same] at n; cases n
          have nT : F T = none := by rw [upd_ne cT] at n; exact n
          have s2 := same_new (o := .tup us) nT
          have ec : upd (upd F D (.lst acc)) T (.tup us) = upd (upd F T (.tup us)) D (.lst acc) := by
            funext b
            by_cases c1 : b = T
            · rw [c1, upd_same, upd_ne cT, upd_same]
            · rw [upd_ne c1]
              by_cases c2 : b = D
              · rw [c2, upd_same, upd_same]
              · rw [upd_ne c2, upd_ne c2, upd_ne c1]
          rw [ec]
          exact key _ s2 (by rw [upd_ne (Ne.symm cT)]; exact nD) (by rw [ed]; exact .tup (SqT.of upd_same) (pd.up s2))
    · have e : i = ds.length := by omega
      subst e
      exact .inl ⟨y2, q D acc es F (s1.trans sF) nD pa (fin es iv)⟩
structure GTs (X : Cx) (ifs : List Expr) (dt : DT) : Prop where
  ex : PTs X ifs (tTD X.K dt)
section
variable {X : Cx}
theorem ts_nil : GTs X [] dYes := ⟨⟨fun pins s σ H Q I h => by
  obtain ⟨φ, Φ, env, h1, h2⟩ := h
  exact pts_nil.run pins s σ H Q I (h2 true H (Same.refl H) h1)⟩⟩
theorem ts_one {c : Expr} {t : DT} (h : GT X c t) : GTs X [c] t := ⟨pts_one h.pt⟩
theorem st_tTD {K : PySem.W.Frag} {dt : DT} : ST K (tTD K dt) dt := fun σ H φ Φ Q env h q => ⟨φ, Φ, env, h, q⟩
theorem f_lc {elt tg iter : Expr} {ifs : List Expr} {scope : Scope} (own : List (Str × Nat)) {pos : Pos} {di : DI} {g : TG} {dg : DGc} {dt : DT} {de : DE} (hc : X.calm = true) (hN : X.N.Nodup) (hi : GI X tg iter di) (ok : BlkOk X.N X.env.scope scope own)
    (hg : ∀ (s : Shared) (H : Hp) (C : Addr) (cl : List (Str × Addr)) (fp : List Addr), PG (X.blk s H scope (compEnvC scope cl C X.env) fp) tg g) (sg : SGc X.K (own.map (·.2)) g dg)
    (ht : ∀ (s : Shared) (H : Hp) (C : Addr) (cl : List (Str × Addr)) (fp : List Addr), GTs (X.blk s H scope (compEnvC scope cl C X.env) fp) ifs dt)
    (he : ∀ (s : Shared) (H : Hp) (C : Addr) (cl : List (Str × Addr)) (fp : List Addr), GE (X.blk s H scope (compEnvC scope cl C X.env) fp) elt de) (hs : ∀ x, foldedSetIterable iter X.env x = pure x := by intro _; rfl) :
    GF X (.ListComp elt [⟨tg, iter, ifs, 0⟩] scope pos) (dLc (own.map (·.2)) di dg dt de) := by
  obtain ⟨wi, i1, i2⟩ := hi
  exact ⟨_, pe_lc (te := tFr (tD X.K de)) (tt := tTD X.K dt) hc hN i1 ok hg (fun s H C cl fp => (ht s H C cl fp).ex) (fun s H C cl fp => pe_frame (he s H C cl fp).pe) hs, sf_lc i2 sg st_tTD⟩
/-- y = [..] -/
theorem s_setLc {W : WX} {i : Nat} {y : Str} {py spos : Pos} {elt tg iter : Expr} {ifs : List Expr} {scope : Scope} (own : List (Str × Nat)) {pos : Pos} {di : DI} {g : TG} {dg : DGc} {dt : DT} {de : DE} (hc : X.calm = true) (hN : X.N.Nodup) (hy : X.N[i]? = some y) (hyl : X.env.scope.names.lookup y = some .local)
    (hsw : swapsWith (.ListComp elt [⟨tg, iter, ifs, 0⟩] scope pos) (some (.Name y py)) spos.line X.env = pure true) (hi : GI X tg iter di) (ok : BlkOk X.N X.env.scope scope own)
    (hg : ∀ (s : Shared) (H : Hp) (C : Addr) (cl : List (Str × Addr)) (fp : List Addr), PG (X.blk s H scope (compEnvC scope cl C X.env) fp) tg g) (sg : SGc X.K (own.map (·.2)) g dg)
    (ht : ∀ (s : Shared) (H : Hp) (C : Addr) (cl : List (Str × Addr)) (fp : List Addr), GTs (X.blk s H scope (compEnvC scope cl C X.env) fp) ifs dt)
    (he : ∀ (s : Shared) (H : Hp) (C : Addr) (cl : List (Str × Addr)) (fp : List Addr), GE (X.blk s H scope (compEnvC scope cl C X.env) fp) elt de) (hs : ∀ x, foldedSetIterable iter X.env x = pure x := by intro _; rfl) :
    GS X W (.Assign [.Name y py] (.ListComp elt [⟨tg, iter, ifs, 0⟩] scope pos) spos) (dSetF i (dLc (own.map (·.2)) di dg dt de)) := by
  obtain ⟨wi, i1, i2⟩ := hi
  refine ⟨_, ps_frame (ps_setLc (te := tFr (tD X.K de)) (tt := tTD X.K dt) hc hN hy hyl hsw i1 ok hg (fun s H C cl fp => (ht s H C cl fp).ex) (fun s H C cl fp => pe_frame (he s H C cl fp).pe) hs), fun D E F σ H ρ env h m => ?_⟩
  have k := ss_frameF (k := fun v σ H' => D.nx (σ.set i (some v)) H') (sf_lc i2 sg st_tTD) env h fun F' H' a vs ds s env' n p hd => m.nx F' _ _ _ s (env'.putO i n p) hd
  obtain ⟨F0, z, ht⟩ := k
  exact ⟨F0, z, ht⟩
end
/-! ### slices -/
def cutD {α : Type} (xs : List α) (lo hi : Option Int) : List α := (xs.drop (HT.sIx xs.length 0 lo)).take (HT.sIx xs.length xs.length hi - HT.sIx xs.length 0 lo)
def slD (x : Dt) (lo hi : Option Int) : Option Dt := match x with
  | .list ds => some (.list (cutD ds lo hi))
  | .tuple ds => some (.tuple (cutD ds lo hi))
  | .str z => some (.str (cutS z lo hi))
  | _ => none
abbrev DOp := Fro → (Option Int → Prop) → Prop
def dNoPart : DOp := fun _ Φ => Φ none
def dPart (de : DE) : DOp := fun φ Φ => de φ fun d => match d with
  | .int i => Φ (some i)
  | _ => False
def SO (K : PySem.W.Frag) (t : TO) (d : DOp) : Prop := ∀ (σ : St) (H : Hp) (φ : Fro) (Φ : Option Int → Prop) (Q : Option Int → Hp → Prop), EnvF K σ H φ → d φ Φ → (∀ i H', Same H H' → Φ i → Q i H') → t σ H Q
structure GO (X : Cx) (e : Option Expr) (d : DOp) : Prop where
  ex : ∃ t, PO X e t ∧ SO X.K t d
def dSl (de : DE) (lo hi : DOp) : DE := fun φ Φ => de φ fun x => lo φ fun l => hi φ fun u => fitsD x ∧ match slD x l u with
  | some d => Φ d
  | none => False
/-- a list's slice, a new list -/
def dSlF (de : DE) (lo hi : DOp) : DF := fun φ Φ => de φ fun x => lo φ fun l => hi φ fun u => match x with
  | .list ds => Φ (cutD ds l u)
  | _ => False
section
variable {X : Cx} {K : PySem.W.Frag}
theorem SlR.or {r r' : V → Option Int → Option Int → Hp → VK → Prop} (h : SlR X r) (h' : SlR X r') : SlR X (fun x l u H Q => r x l u H Q ∨ r' x l u H Q) := by
  intro pins s σ H x v vl vu lo hi sl Q I rx hs pl pu q
  rcases q with q | q
  · exact h pins s σ H x v vl vu lo hi sl Q I rx hs pl pu q
  · exact h' pins s σ H x v vl vu lo hi sl Q I rx hs pl pu q
theorem go_none : GO X none dNoPart := ⟨_, po_none, fun σ H φ Φ Q env h q => q none H (Same.refl H) h⟩
theorem go_some {e : Expr} {de : DE} (h : GE X e de) : GO X (some e) (dPart de) := by
  obtain ⟨te, a1, a2⟩ := h
  refine ⟨_, po_some a1, fun σ H φ Φ Q env h q => a2 σ H φ _ _ env h fun v H' d s p hd => ?_⟩
  cases d with
  | int i => cases p; exact ⟨i, rfl, q _ H' s hd⟩
  | _ => exact hd.elim
theorem dp_cut {H : Hp} {vs : List V} {ds : List Dt} {lo hi : Option Int} (p : DpAll K H vs ds) : DpAll K H (cutV vs lo hi) (cutD ds lo hi) := by
  unfold cutV cutD
  rw [p.len]
  exact (p.drop _).take _
theorem g_slice {e : Expr} {lo hi : Option Expr} {de : DE} {dl dh : DOp} {p2 pos : Pos} (he : GE X e de) (hl : GO X lo dl) (hu : GO X hi dh) : GE X (.Subscript e (.Slice lo hi none p2) pos) (dSl de dl dh) := by
  obtain ⟨te, a1, a2⟩ := he
  obtain ⟨tl, b1, b2⟩ := hl
  obtain ⟨th, c1, c2⟩ := hu
  refine ⟨_, pe_slice (SlR.or sl_list (SlR.or sl_tupA sl_str)) a1 b1 c1, fun σ H φ Φ Q env h q => a2 σ H φ _ _ env h fun v H1 d s1 p h1 => b2 σ H1 φ _ _ (env.up s1) h1 fun l H2 s2 h2 => c2 σ H2 φ _ _ (env.up (s1.trans s2)) h2 fun u H3 s3 h3 => ?_⟩
  have sA := s1.trans (s2.trans s3)
  have p3 := p.up (s2.trans s3)
  obtain ⟨hf, h3⟩ := h3
  cases d with
  | list ds =>
    cases p3 with
    | @lst a0 xs0 _ hs ha =>
      refine .inl ⟨_, _, rfl, hs, fun a n => ?_⟩
      have s4 := same_new (o := .lst (cutV xs0 l u)) n
      exact q _ _ _ (sA.trans s4) (.lst (SqL.of upd_same) ((dp_cut ha).up s4)) h3
  | tuple ds =>
    cases p3 with
    | @tup a0 xs0 _ hs ha =>
      refine .inr (.inl ⟨_, _, rfl, hs, fun z => ?_, fun z a n => ?_⟩)
      · have e : cutD ds l u = ds := by
          unfold cutD
          rw [← ha.len, z.1, z.2]
          rw [List.drop_zero, Nat.sub_zero, List.take_of_length_le (by rw [ha.len]; exact Nat.le_refl _)]
        have h3' : Φ (.tuple (cutD ds l u)) := h3
        rw [e] at h3'
        exact q _ _ _ sA (.tup hs ha) h3'
      · have s4 := same_new (o := .tup (cutV xs0 l u)) n
        exact q _ _ _ (sA.trans s4) (.tup (SqT.of upd_same) ((dp_cut ha).up s4)) h3
  | str z =>
    cases p3
    exact .inr (.inr ⟨z, rfl, hf, q _ _ _ sA (.str _) h3⟩)
  | _ => exact h3.elim
theorem f_slice {e : Expr} {lo hi : Option Expr} {de : DE} {dl dh : DOp} {p2 pos : Pos} (he : GE X e de) (hl : GO X lo dl) (hu : GO X hi dh) : GF X (.Subscript e (.Slice lo hi none p2) pos) (dSlF de dl dh) := by
  obtain ⟨te, a1, a2⟩ := he
  obtain ⟨tl, b1, b2⟩ := hl
  obtain ⟨th, c1, c2⟩ := hu
  refine ⟨_, pe_slice sl_list a1 b1 c1, fun σ H φ Φ Q env h q => a2 σ H φ _ _ env h fun v H1 d s1 p h1 => b2 σ H1 φ _ _ (env.up s1) h1 fun l H2 s2 h2 => c2 σ H2 φ _ _ (env.up (s1.trans s2)) h2 fun u H3 s3 h3 => ?_⟩
  have p3 := p.up (s2.trans s3)
  cases d with
  | list ds =>
    cases p3 with
    | lst hs ha => exact ⟨_, _, rfl, hs, fun a n => q a _ _ H3 (s1.trans (s2.trans s3)) n (dp_cut ha) h3⟩
  | _ => exact h3.elim
end
/-! ### built-ins -/
section
variable {X : Cx} {K : PySem.W.Frag}
def CD (K : PySem.W.Frag) (r : List V → Hp → VK → Prop) (o : List Dt → (Dt → Prop) → Prop) : Prop := ∀ (vs : List V) (H : Hp) (Q : VK) (ds : List Dt) (Φ : Dt → Prop), DpAll K H vs ds → o ds Φ → (∀ v H' d, Same H H' → Dp K H' v d → Φ d → Q v H') → r vs H Q
def dB (o : List Dt → (Dt → Prop) → Prop) (da : DA) : DE := fun φ Φ => da φ fun ds => o ds Φ
structure CallG (X : Cx) (f : Value) (o : List Dt → (Dt → Prop) → Prop) : Prop where
  ex : ∃ r, CallR X f r ∧ CD X.K r o
theorem g_callB {x : Str} {id : String} {o : List Dt → (Dt → Prop) → Prop} {e : Expr} {es : List Expr} {da : DA} {p pos : Pos} (hc : CallG X (.builtin id) o) (hm : X.mg x = none) (hv : bootBuiltins x = some (.builtin id)) (ha : GA X (e :: es) da) (hg : Gl X x := by rfl) (hn : x ≠ "__name__" := by decide) (hdb : (x == ("__debug__" : Str)) = false := by decide)
    (he : starEach (e :: es) X.env = (false, eval e X.env) :: starEach es X.env := by rfl) (hpl : (backTo pos (starEach es X.env)).any (·.1) = false := by rfl) : GE X (.Call (.Name x p) (e :: es) [] pos) (dB o da) := by
  obtain ⟨r, h1, h2⟩ := hc
  obtain ⟨ta, a1, a2⟩ := ha
  exact ⟨_, pe_callB h1 hg hm hv a1 hn hdb he hpl, fun σ H φ Φ Q env h q => a2 σ H φ _ _ env h fun vs H1 ds s1 p l h1 => h2 vs H1 Q ds Φ p h1 fun v H' d s pv hd => q v H' d (s1.trans s) pv hd⟩
theorem g_callT {x : Str} {T : String} {o : List Dt → (Dt → Prop) → Prop} {e : Expr} {es : List Expr} {da : DA} {p pos : Pos} (hc : CallG X (.type T) o) (hm : X.mg x = none) (hv : bootBuiltins x = some (.type T)) (ha : GA X (e :: es) da) (hg : Gl X x := by rfl) (hn : x ≠ "__name__" := by decide) (hdb : (x == ("__debug__" : Str)) = false := by decide)
    (he : starEach (e :: es) X.env = (false, eval e X.env) :: starEach es X.env := by rfl) (hpl : (backTo pos (starEach es X.env)).any (·.1) = false := by rfl) : GE X (.Call (.Name x p) (e :: es) [] pos) (dB o da) := by
  obtain ⟨r, h1, h2⟩ := hc
  obtain ⟨ta, a1, a2⟩ := ha
  exact ⟨_, pe_callTy h1 hg hm hv a1 hn hdb he hpl, fun σ H φ Φ Q env h q => a2 σ H φ _ _ env h fun vs H1 ds s1 p l h1 => h2 vs H1 Q ds Φ p h1 fun v H' d s pv hd => q v H' d (s1.trans s) pv hd⟩
def bLen : List Dt → (Dt → Prop) → Prop := fun ds Φ => match ds with
  | [.list es] => Φ (.int es.length)
  | [.tuple es] => Φ (.int es.length)
  | [.str z] => z.length ≤ sizeLine ∧ Φ (.int z.length)
  | _ => False
theorem c_len : CallG X (.builtin "len") bLen := by
  refine ⟨_, call_len, fun vs H Q ds Φ p h q => ?_⟩
  match ds, p, h with
  | [.list es], p, h =>
    cases p with
    | cons p1 p2 =>
      cases p2
      cases p1 with
      | lst hs ha => exact ⟨_, _, rfl, .inl ⟨_, hs, rfl⟩, q _ H _ (Same.refl H) (by rw [ha.len]; exact .int _) h⟩
  | [.tuple es], p, h =>
    cases p with
    | cons p1 p2 =>
      cases p2
      cases p1 with
      | tup hs ha => exact ⟨_, _, rfl, .inr ⟨_, hs, rfl⟩, q _ H _ (Same.refl H) (by rw [ha.len]; exact .int _) h⟩
  | [.str z], p, h =>
    cases p with
    | cons p1 p2 =>
      cases p2
      cases p1
      exact ⟨_, _, rfl, ⟨h.1, rfl⟩, q _ H _ (Same.refl H) (.int _) h.2⟩
def bAbs : List Dt → (Dt → Prop) → Prop := fun ds Φ => match ds with
  | [.int i] => Φ (.int (i.natAbs : Nat))
  | _ => False
theorem c_abs : CallG X (.builtin "abs") bAbs := by
  refine ⟨_, call_abs, fun vs H Q ds Φ p h q => ?_⟩
  match ds, p, h with
  | [.int i], p, h =>
    cases p with
    | cons p1 p2 =>
      cases p2
      cases p1
      refine ⟨i, rfl, ?_⟩
      have e : (if i < 0 then -i else i) = ((i.natAbs : Nat) : Int) := by split <;> omega
      rw [e]
      exact q _ H _ (Same.refl H) (.int _) h
def bInt : List Dt → (Dt → Prop) → Prop := fun ds Φ => match ds with
  | [.int i] => Φ (.int i)
  | [.bool b] => Φ (.int (if b then 1 else 0))
  | _ => False
theorem c_int : CallG X (.type "int") bInt := by
  refine ⟨_, call_int1, fun vs H Q ds Φ p h q => ?_⟩
  match ds, p, h with
  | [.int i], p, h =>
    cases p with
    | cons p1 p2 =>
      cases p2
      cases p1
      exact .inl ⟨i, rfl, q _ H _ (Same.refl H) (.int _) h⟩
  | [.bool b], p, h =>
    cases p with
    | cons p1 p2 =>
      cases p2
      cases p1
      exact .inr ⟨b, rfl, q _ H _ (Same.refl H) (.int _) h⟩
def bMax2 : List Dt → (Dt → Prop) → Prop := fun ds Φ => match ds with
  | [.int i, .int j] => Φ (.int (max i j))
  | _ => False
def bMin2 : List Dt → (Dt → Prop) → Prop := fun ds Φ => match ds with
  | [.int i, .int j] => Φ (.int (min i j))
  | _ => False
theorem c_max2 (hc : X.calm = true) : CallG X (.builtin "max") bMax2 := by
  refine ⟨_, call_max2 hc, fun vs H Q ds Φ p h q => ?_⟩
  match ds, p, h with
  | [.int i, .int j], p, h =>
    cases p with
    | cons p1 p2 =>
      cases p2 with
      | cons p2 p3 =>
        cases p3; cases p1; cases p2
        refine ⟨i, j, rfl, ?_⟩
        have e : (if j > i then j else i) = max i j := by rw [Int.max_def]; split <;> split <;> omega
        rw [e]
        exact q _ H _ (Same.refl H) (.int _) h
theorem c_min2 (hc : X.calm = true) : CallG X (.builtin "min") bMin2 := by
  refine ⟨_, call_min2 hc, fun vs H Q ds Φ p h q => ?_⟩
  match ds, p, h with
  | [.int i, .int j], p, h =>
    cases p with
    | cons p1 p2 =>
      cases p2 with
      | cons p2 p3 =>
        cases p3; cases p1; cases p2
        refine ⟨i, j, rfl, ?_⟩
        have e : (if j < i then j else i) = min i j := by rw [Int.min_def]; split <;> split <;> omega
        rw [e]
        exact q _ H _ (Same.refl H) (.int _) h
def bTup : List Dt → (Dt → Prop) → Prop := fun ds Φ => match ds with
  | [.list es] => Φ (.tuple es)
  | [.tuple es] => Φ (.tuple es)
  | _ => False
theorem c_tuple : CallG X (.type "tuple") bTup := by
  refine ⟨_, call_tuple_of, fun vs H Q ds Φ p h q => ?_⟩
  match ds, p, h with
  | [.list es], p, h =>
    cases p with
    | cons p1 p2 =>
      cases p2
      cases p1 with
      | @lst a0 xs0 _ hs ha =>
        refine ⟨_, _, rfl, .inl ⟨hs, fun l n => ?_⟩⟩
        have s := same_new (o := .tup xs0) n
        exact q _ _ _ s (.tup (SqT.of upd_same) (ha.up s)) h
  | [.tuple es], p, h =>
    cases p with
    | cons p1 p2 =>
      cases p2
      cases p1 with
      | tup hs ha => exact ⟨_, _, rfl, .inr ⟨hs, q _ _ _ (Same.refl H) (.tup hs ha) h⟩⟩
/-- list(x) -/
def dListF (da : DA) : DF := fun φ Φ => da φ fun ds => match ds with
  | [.list es] => Φ es
  | [.tuple es] => Φ es
  | _ => False
theorem f_list {x : Str} {e : Expr} {da : DA} {p pos : Pos} (hm : X.mg x = none) (hv : bootBuiltins x = some (.type "list")) (ha : GA X [e] da) (hg : Gl X x := by rfl) (hn : x ≠ "__name__" := by decide) (hdb : (x == ("__debug__" : Str)) = false := by decide)
    (he : starEach [e] X.env = (false, eval e X.env) :: starEach [] X.env := by rfl) (hpl : (backTo pos (starEach [] X.env)).any (·.1) = false := by rfl) : GF X (.Call (.Name x p) [e] [] pos) (dListF da) := by
  obtain ⟨ta, a1, a2⟩ := ha
  refine ⟨_, pe_callTy call_list_of hg hm hv a1 hn hdb he hpl, fun σ H φ Φ Q env h q => a2 σ H φ _ _ env h fun vs H1 ds s1 p l h1 => ?_⟩
  match ds, p, h1 with
  | [.list es], p, h =>
    cases p with
    | cons p1 p2 =>
      cases p2
      cases p1 with
      | lst hs ha => exact ⟨_, _, rfl, .inl hs, fun l n => q l _ _ H1 s1 n ha h⟩
  | [.tuple es], p, h =>
    cases p with
    | cons p1 p2 =>
      cases p2
      cases p1 with
      | tup hs ha => exact ⟨_, _, rfl, .inr hs, fun l n => q l _ _ H1 s1 n ha h⟩
/-- all, any, sum of a list -/
def bAll : List Dt → (Dt → Prop) → Prop := fun ds Φ => ∃ bs : List Bool, ds = [.list (bs.map .bool)] ∧ Φ (.bool (bs.all id))
def bAny : List Dt → (Dt → Prop) → Prop := fun ds Φ => ∃ bs : List Bool, ds = [.list (bs.map .bool)] ∧ Φ (.bool (bs.any id))
def bSum : List Dt → (Dt → Prop) → Prop := fun ds Φ => ∃ ns : List Int, ds = [.list (ns.map .int)] ∧ Φ (.int ns.sum)
theorem c_all (hc : X.calm = true) : CallG X (.builtin "all") bAll := by
  refine ⟨_, cr_all hc, fun vs H Q ds Φ p h q => ?_⟩
  obtain ⟨bs, rfl, h⟩ := h
  cases p with
  | cons p1 p2 =>
    cases p2
    cases p1 with
    | lst hs ha => rw [ha.bls_eq] at hs; exact ⟨_, bs, rfl, hs, q _ H _ (Same.refl H) (.bl _) h⟩
theorem c_any (hc : X.calm = true) : CallG X (.builtin "any") bAny := by
  refine ⟨_, cr_any hc, fun vs H Q ds Φ p h q => ?_⟩
  obtain ⟨bs, rfl, h⟩ := h
  cases p with
  | cons p1 p2 =>
    cases p2
    cases p1 with
    | lst hs ha => rw [ha.bls_eq] at hs; exact ⟨_, bs, rfl, hs, q _ H _ (Same.refl H) (.bl _) h⟩
theorem c_sum (hc : X.calm = true) : CallG X (.builtin "sum") bSum := by
  refine ⟨_, cr_sum hc, fun vs H Q ds Φ p h q => ?_⟩
  obtain ⟨ns, rfl, h⟩ := h
  cases p with
  | cons p1 p2 =>
    cases p2
    cases p1 with
    | lst hs ha => rw [ha.ints_eq] at hs; exact ⟨_, ns, rfl, hs, q _ H _ (Same.refl H) (.int _) h⟩
/-- isinstance(x, T) -/
def tyD : Dt → String
  | .none => "NoneType"
  | .bool _ => "bool"
  | .int _ => "int"
  | .str _ => "str"
  | .list _ => "list"
  | .tuple _ => "tuple"
  | .dict _ => "dict"
/-- no datum of the plain kind -/
def spec : Dt → Bool
  | .dict (_ :: _) => true
  | _ => false
theorem nsp_none : spec .none = false := rfl
theorem nsp_bool (b : Bool) : spec (.bool b) = false := rfl
theorem nsp_int (i : Int) : spec (.int i) = false := rfl
theorem nsp_str (x : Str) : spec (.str x) = false := rfl
theorem nsp_list (xs : List Dt) : spec (.list xs) = false := rfl
theorem nsp_tuple (xs : List Dt) : spec (.tuple xs) = false := rfl
theorem dp_ty {H : Hp} {v : V} {d : Dt} (p : Dp K H v d) (ns : spec d = false) : TyX K H v (.type (tyD d)) := by
  cases p with
  | pool h => cases ns
  | non => exact .base .non
  | bl b => exact .base (.bl b)
  | int i => exact .base (.int i)
  | str x => exact .base (.str x)
  | emp h => exact .base (.dK h)
  | lst hs ha =>
    rcases hs with (h | ⟨o, h⟩) | ⟨o, its, n, h1, h2, _⟩
    · exact .base (.lst h)
    · exact .base (.frz h)
    · exact .kList h1 h2
  | tup hs ha =>
    rcases hs with (h | ⟨o, h⟩) | ⟨o, its, n, h1, h2, _⟩
    · exact .base (.tup h)
    · exact .fTuple h
    · exact .kTuple h1 h2
def dIsi (f : Dt → Bool) (de : DE) : DE := fun φ Φ => de φ fun d => spec d = false ∧ Φ (.bool (f d))
theorem g_isi {T : String} {x : Str} {f : Dt → Bool} {e : Expr} {de : DE} {p p2 pos : Pos} (hm : X.mg "isinstance" = none) (hmT : X.mg x = none) (hvT : bootBuiltins x = some (.type T)) (hf : ∀ d, kitB (tyD d) T = some (f d)) (he : GE X e de) (hg : Gl X "isinstance" := by rfl) (hgT : Gl X x := by rfl) (hnT : x ≠ "__name__" := by decide) (hdT : (x == ("__debug__" : Str)) = false := by decide)
    (hv : bootBuiltins "isinstance" = some (.builtin "isinstance") := by decide +kernel) (hs : starEach [e, .Name x p2] X.env = (false, eval e X.env) :: starEach [.Name x p2] X.env := by rfl) (hs2 : starEach [.Name x p2] X.env = (false, eval (.Name x p2) X.env) :: starEach [] X.env := by rfl) (hpl : (backTo pos (starEach [.Name x p2] X.env)).any (·.1) = false := by rfl) :
    GE X (.Call (.Name "isinstance" p) [e, .Name x p2] [] pos) (dIsi f de) := by
  obtain ⟨te, a1, a2⟩ := he
  refine ⟨_, pe_callB call_isi hg hm hv (pa_cons a1 (pa_cons (pe_bltn (v := .ty T) hgT hmT hvT rfl hnT hdT) pa_nil hs2) hs) (by decide) (by decide) hs hpl, fun σ H φ Φ Q env h q => a2 σ H φ _ _ env h fun v H1 d s1 p h1 => ?_⟩
  exact ⟨v, .ty T, _, _, f d, rfl, .ty T, dp_ty p h1.1, kit_ty (hf d), q _ H1 _ s1 (.bl _) h1.2⟩
def isIntD : Dt → Bool
  | .int _ => true
  | .bool _ => true
  | _ => false
def isBoolD : Dt → Bool
  | .bool _ => true
  | _ => false
def isStrD : Dt → Bool
  | .str _ => true
  | _ => false
def isListD : Dt → Bool
  | .list _ => true
  | _ => false
def isTupD : Dt → Bool
  | .tuple _ => true
  | _ => false
theorem ty_int : ∀ d, kitB (tyD d) "int" = some (isIntD d) := fun d => match d with
  | .none => (by decide +kernel : kitB "NoneType" "int" = some false)
  | .bool _ => (by decide +kernel : kitB "bool" "int" = some true)
  | .int _ => (by decide +kernel : kitB "int" "int" = some true)
  | .str _ => (by decide +kernel : kitB "str" "int" = some false)
  | .list _ => (by decide +kernel : kitB "list" "int" = some false)
  | .tuple _ => (by decide +kernel : kitB "tuple" "int" = some false)
  | .dict _ => (by decide +kernel : kitB "dict" "int" = some false)
theorem ty_bool : ∀ d, kitB (tyD d) "bool" = some (isBoolD d) := fun d => match d with
  | .none => (by decide +kernel : kitB "NoneType" "bool" = some false)
  | .bool _ => (by decide +kernel : kitB "bool" "bool" = some true)
  | .int _ => (by decide +kernel : kitB "int" "bool" = some false)
  | .str _ => (by decide +kernel : kitB "str" "bool" = some false)
  | .list _ => (by decide +kernel : kitB "list" "bool" = some false)
  | .tuple _ => (by decide +kernel : kitB "tuple" "bool" = some false)
  | .dict _ => (by decide +kernel : kitB "dict" "bool" = some false)
theorem ty_str : ∀ d, kitB (tyD d) "str" = some (isStrD d) := fun d => match d with
  | .none => (by decide +kernel : kitB "NoneType" "str" = some false)
  | .bool _ => (by decide +kernel : kitB "bool" "str" = some false)
  | .int _ => (by decide +kernel : kitB "int" "str" = some false)
  | .str _ => (by decide +kernel : kitB "str" "str" = some true)
  | .list _ => (by decide +kernel : kitB "list" "str" = some false)
  | .tuple _ => (by decide +kernel : kitB "tuple" "str" = some false)
  | .dict _ => (by decide +kernel : kitB "dict" "str" = some false)
theorem ty_list : ∀ d, kitB (tyD d) "list" = some (isListD d) := fun d => match d with
  | .none => (by decide +kernel : kitB "NoneType" "list" = some false)
  | .bool _ => (by decide +kernel : kitB "bool" "list" = some false)
  | .int _ => (by decide +kernel : kitB "int" "list" = some false)
  | .str _ => (by decide +kernel : kitB "str" "list" = some false)
  | .list _ => (by decide +kernel : kitB "list" "list" = some true)
  | .tuple _ => (by decide +kernel : kitB "tuple" "list" = some false)
  | .dict _ => (by decide +kernel : kitB "dict" "list" = some false)
theorem ty_tuple : ∀ d, kitB (tyD d) "tuple" = some (isTupD d) := fun d => match d with
  | .none => (by decide +kernel : kitB "NoneType" "tuple" = some false)
  | .bool _ => (by decide +kernel : kitB "bool" "tuple" = some false)
  | .int _ => (by decide +kernel : kitB "int" "tuple" = some false)
  | .str _ => (by decide +kernel : kitB "str" "tuple" = some false)
  | .list _ => (by decide +kernel : kitB "list" "tuple" = some false)
  | .tuple _ => (by decide +kernel : kitB "tuple" "tuple" = some true)
  | .dict _ => (by decide +kernel : kitB "dict" "tuple" = some false)
end
end L2.D3

set_option maxHeartbeats 4000000
namespace L2.D3
open PySem PySem.Spec PyProof.Rows
/-! ### defs -/
def rho0 : List Str → List Dt → Rho
  | [], _ => []
  | _ :: r, [] => .un :: rho0 r []
  | _ :: r, d :: ds => .pu d :: rho0 r ds
theorem getS_rho0_nil : ∀ {N : List Str} {i : Nat}, getS (rho0 N []) i = .un
  | [], i => rfl
  | _ :: r, 0 => rfl
  | _ :: r, i + 1 => getS_rho0_nil (N := r)
theorem rho0_len : ∀ {N : List Str} {ds : List Dt}, (rho0 N ds).length = N.length
  | [], _ => rfl
  | _ :: r, [] => congrArg Nat.succ (rho0_len (N := r))
  | _ :: r, d :: ds => congrArg Nat.succ (rho0_len (N := r))
theorem getS_rho0 : ∀ {N : List Str} {ds : List Dt} {i : Nat}, getS (rho0 N ds) i = .un ∨ ∃ d, getS (rho0 N ds) i = .pu d ∧ ds[i]? = some d
  | [], _, i => .inl rfl
  | _ :: r, [], i => .inl getS_rho0_nil
  | _ :: r, d :: ds, 0 => .inr ⟨d, rfl, rfl⟩
  | _ :: r, d :: ds, i + 1 => by
    rcases getS_rho0 (N := r) (ds := ds) (i := i) with h | ⟨e, h1, h2⟩
    · exact .inl h
    · exact .inr ⟨e, h1, by simpa using h2⟩
theorem start_env {K : PySem.W.Frag} {H : Hp} {N : List Str} {vs : List V} {ds : List Dt} (p : DpAll K H vs ds) (hl : ds.length ≤ N.length) : EnvO K H (start N vs) H (rho0 N ds) := by
  have len : (rho0 N ds).length = (start N vs).length := by
    rw [rho0_len]
    unfold start
    rw [List.length_append, List.length_map, List.length_replicate, p.len]
    omega
  refine ⟨Fz.refl H, len, fun i d h => ?_, fun i A h => ?_, fun i es h => ?_, fun i j es es' a hij h => ?_⟩
  · rcases getS_rho0 (N := N) (ds := ds) (i := i) with q | ⟨e, q1, q2⟩
    · rw [q] at h; cases h
    · rw [q1] at h
      cases h
      obtain ⟨v, g1, g2⟩ := p.get q2
      refine ⟨v, ?_, g2⟩
      unfold start
      rw [List.getElem?_append_left (by rw [List.length_map]; exact (List.getElem?_eq_some_iff.mp g1).1), List.getElem?_map, g1]
      rfl
  · rcases getS_rho0 (N := N) (ds := ds) (i := i) with q | ⟨e, q1, q2⟩
    · rw [q] at h; cases h
    · rw [q1] at h; cases h
  · rcases getS_rho0 (N := N) (ds := ds) (i := i) with q | ⟨e, q1, q2⟩
    · rw [q] at h; cases h
    · rw [q1] at h; cases h
  · rcases getS_rho0 (N := N) (ds := ds) (i := i) with q | ⟨e, q1, q2⟩
    · rw [q] at h; cases h
    · rw [q1] at h; cases h
theorem XAt.up {K : PySem.W.Frag} {H H' : Hp} {x : XD} {d : Option Addr} (h : XAt K H x d) (s : Same H H') : XAt K H' x d := by
  unfold XAt at h ⊢
  cases e : x.fs with
  | nil => rw [e] at h; exact h
  | cons f fs =>
    rw [e] at h
    obtain ⟨a, vs, h1, h2, h3⟩ := h
    exact ⟨a, vs, h1, s _ _ h2, h3.up s⟩
/-- the ends that a def's body has -/
def endsOf (Φ : Slot → Prop) (Ξ : XD → Prop) : DEnds := { nx := fun _ => Φ (.pu .none), rt := Φ, xr := fun x _ => Ξ x }
section
variable {P : Program} {w : World} {K : PySem.W.Frag} {mg : Str → Option Value} {base : Heap} {x qual : Str} {params : Arguments} {body : List Stmt} {scope : Scope} {f : Addr} {fd : FuncData}
theorem meets_def {H : Hp} {Q : VK} {E : XK} {Φ : Slot → Prop} {Ξ : XD → Prop} (r : RetOk K H Φ Q) (e : RaiOk K H Ξ E) : Meets K (fun cls d _ H => E cls d H) H { nx := fun _ H' => Q .non H', rt := Q } (endsOf Φ Ξ) where
  nx := fun F' σ H' ρ s env h => r.pu _ _ _ (s.trans env.fz.same) .non h
  bk := fun F' σ H' ρ s env h => h.elim
  ct := fun F' σ H' ρ s env h => h.elim
  rt := fun F' H' v d s z p h => r.pu v d H' (s.trans z.same) (p.up z.same) h
  rtO := fun F' H' a vs ds s z n q p h => by
    obtain ⟨G, g1, rfl⟩ := erase_upd q
    have s2 : Same F' G := fun b o e => by
      have c : b ≠ a := fun y => by rw [y, n] at e; cases e
      have q2 := z.same b o e
      rw [upd_ne c] at q2
      exact q2
    exact r.ow a vs ds G (s.trans s2) g1 (p.up s2) h
  xr := fun F' σ H' ρ x d s env hx h => e x d H' (s.trans env.fz.same) (hx.up env.fz.same) h
theorem fn_ok {N ps : List Str} {k : Nat} {dsp : DSp} {dvs : List V} {kws : List (Str × V)} (F : FunD K x qual params body scope dvs kws f fd) (S : FnScope N ps scope) (hps : ps.length ≤ N.length) (len : ∀ ds Φ Ξ, dsp ds Φ Ξ → ds.length = ps.length)
    (hb : ∀ (cdv : Value) (A : Around) (outer : List Env) (s : Shared) (H : Hp) (E : XK), Room k (A.deeper (envOfC qual scope s.heap.objs.size f cdv)) →
      ∃ d, GSs (cxOf (L2.CX P w) P w K mg base N qual scope f cdv A outer s H E) (fun cls d _ H => E cls d H) body d ∧ ∀ ds Φ Ξ, dsp ds Φ Ξ → d (endsOf Φ Ξ) (rho0 N ds)) : FnOk P w K mg base (L2.CX P w) (k + 1) f fd ps (lift K dsp) := by
  refine F.ok S (fun vs H Q E h => ?_) (fun cdv A outer s H vs Q E hr h => ?_)
  · obtain ⟨ds, Φ, Ξ, p, h1, _⟩ := h
    rw [p.len]
    exact len ds Φ Ξ h1
  · obtain ⟨ds, Φ, Ξ, p, h1, r, e⟩ := h
    obtain ⟨d, ⟨ts, a1, a2⟩, hd⟩ := hb cdv A outer s H E hr
    exact ⟨ts, a1, a2 _ (endsOf Φ Ξ) H _ H _ (start_env p (by rw [len ds Φ Ξ h1]; exact hps)) (hd ds Φ Ξ h1) (meets_def r e)⟩
theorem mkFN {ps : List Str} {k : Nat} {dsp : DSp} {dvs : List V} {kws : List (Str × V)} (F : FunD K x qual params body scope dvs kws f fd) (hm : mg x = some (.ref f)) (ok : FnOk P w K mg base (L2.CX P w) k f fd ps (lift K dsp)) (b : Binds K fd ps []) : FN P w K mg base x k dsp := ⟨f, fd, ps, [], [], _, ok, hm, F.kp, b, .nil, fun vs H Q E h => by rw [List.append_nil]; exact h⟩
/-- .. where defaults fill up -/
theorem mkFN1 {ps : List Str} {k : Nat} {dsp : DSp} {dvs es : List V} {kws : List (Str × V)} {xs : List Dt} (F : FunD K x qual params body scope dvs kws f fd) (hm : mg x = some (.ref f)) (ok : FnOk P w K mg base (L2.CX P w) k f fd ps (lift K dsp)) (b : ∃ us, Vals es us ∧ Binds K fd ps us) (hx : ∀ H, DpAll K H es xs) : FN P w K mg base x k (fun ds Φ Ξ => dsp (ds ++ xs) Φ Ξ) := by
  obtain ⟨us, v, b⟩ := b
  refine ⟨f, fd, ps, us, es, _, ok, hm, F.kp, b, v, fun vs H Q E h => ?_⟩
  obtain ⟨ds, Φ, Ξ, p, h1, r⟩ := h
  exact ⟨_, Φ, Ξ, p.app (hx H), h1, r⟩
end
/-- what leaves a def that wishes nothing -/
theorem cx_no {P : Program} {w : World} (H : Hp) (s : Shared) (e : Value) (s' : Shared) (h : L2.CX P w [] H s (fun _ _ _ => False) e s') : False := by
  obtain ⟨_, _, _, _, _, _, _, _, _, _, _, _, z⟩ := h
  exact z
/-- the law's promise: True of every script -/
def dspLaw (n : Nat) : DSp := fun ds Φ _ => ∃ ns : List Int, ns.length ≤ n ∧ ds = [.list (ns.map .int)] ∧ Φ (.pu (.bool true))
theorem lift_law {K : PySem.W.Frag} {n : Nat} {H : Hp} {a : Addr} {ns : List Int} (hl : ns.length ≤ n) (hS : SqL K H a (ns.map V.int)) : lift K (dspLaw n) [.ref a] H (fun v _ => v = .bl true) fun _ _ _ => False :=
  ⟨_, fun s => s = .pu (.bool true), fun _ => False, .one (.lst hS (DpAll.ints ns)), ⟨ns, hl, rfl, rfl⟩, ⟨fun v d H' s p e => by cases e; cases p; rfl, fun a vs ds H' s n p e => nomatch e⟩, fun x d H' s p z => z⟩
abbrev FnP (K : PySem.W.Frag) (x : Str) (st : Stmt) (f : Addr) (fd : FuncData) (dvs : List V := []) : Prop := FunD K x x (defArgs st) (defBody st) (defScope st) dvs [] f fd
theorem glo_tup {K : PySem.W.Frag} {mg : Str → Option Value} {x : Str} {a : Addr} {vs : List V} {ds : List Dt} (hm : mg x = some (.ref a)) (h : ∀ H, SqT K H a vs) (p : ∀ H, DpAll K H vs ds) : Glo K mg x (.tuple ds) := ⟨.ref a, .ref a, hm, rfl, fun H => .tup (h H) (p H)⟩
theorem glo_int {K : PySem.W.Frag} {mg : Str → Option Value} {x : Str} {i : Int} (h : ∃ t, mg x = some (.int i t)) : Glo K mg x (.int i) := by
  obtain ⟨t, e⟩ := h
  exact ⟨_, .int i, e, ⟨t, rfl⟩, fun H => .int i⟩
theorem glo_str {K : PySem.W.Frag} {mg : Str → Option Value} {x z : Str} (h : ∃ t, mg x = some (.str z t)) : Glo K mg x (.str z) := by
  obtain ⟨t, e⟩ := h
  exact ⟨_, .str z, e, ⟨t, rfl⟩, fun H => .str z⟩
end L2.D3

set_option maxHeartbeats 4000000
namespace L2.D3
open PySem PySem.Spec PyProof.Rows
section
variable {X : Cx} {K : PySem.W.Frag} {W : WX}
/-! ### + and * of any kind, -x, in -/
def rCatL (K : PySem.W.Frag) : R2 := fun x y H Q => ∃ a b xs ys, x = .ref a ∧ y = .ref b ∧ SqL K H a xs ∧ SqL K H b ys ∧ xs.length + ys.length ≤ sizeLine ∧ ∀ p, H p = none → Q (.ref p) (upd H p (.lst (xs ++ ys)))
theorem op_catL : OpR X (binaryOp .Add) (rCatL X.K) := by
  intro pins s σ H x y v u Q I rx ry h
  obtain ⟨a, b, xs, ys, rfl, rfl, ha, hb, hz, q⟩ := h
  cases rx
  cases ry
  obtain ⟨its, r, p1, z1⟩ := I.list ha
  obtain ⟨its2, r2, p2, z2⟩ := I.list hb
  have l1 := r.length
  have l2 := r2.length
  obtain ⟨⟨k1, dd1, dt1, sl1⟩, n1, g1, c1, d1, e1⟩ := p1
  obtain ⟨⟨k2, dd2, dt2, sl2⟩, n2, g2, c2, d2, e2⟩ := p2
  simp only at c1 e1 c2 e2
  subst c1 e1 c2 e2
  refine concat_meets ⟨_, g1, rfl⟩ ⟨_, g2, rfl⟩ noFill_list_add seq_list_add PySem.F.slot_list_add PySem.F.entry_list_add (PySem.F.args_list_add_2 _ _) (list_addW a b its.toArray its2.toArray n1 n2 dd1 dd2 sl1 sl2 (by rw [List.size_toArray, List.size_toArray]; omega)) ⟨g1, g2, ?_⟩
  have ea : its.toArray ++ its2.toArray = (its ++ its2).toArray := by simp
  rw [ea]
  exact ⟨.ref _, _, I.lnew (t' := s.toks) (r.append r2) (by rw [List.length_append]; omega), rfl, q _ I.fresh⟩
def oAddU : DO := fun x y Φ => match x, y with
  | .int i, .int j => Φ (.int (i + j))
  | .str a, .str b => a.length + b.length ≤ sizeLine ∧ Φ (.str (a ++ b))
  | .list xs, .list ys => xs.length + ys.length ≤ sizeLine ∧ Φ (.list (xs ++ ys))
  | .tuple xs, .tuple ys => xs.length + ys.length ≤ sizeLine ∧ Φ (.tuple (xs ++ ys))
  | _, _ => False
theorem o_addU : OpG X (binaryOp .Add) oAddU := by
  refine ⟨_, OpR.or op_add (OpR.or op_add_str (OpR.or op_catL op_catA)), fun x y H Q dx dy Φ px py ho q => ?_⟩
  cases dx with
  | int i =>
    cases dy with
    | int j => cases px; cases py; exact .inl ⟨i, j, rfl, rfl, q _ H _ (Same.refl H) (.int _) ho⟩
    | _ => exact ho.elim
  | str a =>
    cases dy with
    | str b => cases px; cases py; exact .inr (.inl ⟨a, b, rfl, rfl, ho.1, q _ H _ (Same.refl H) (.str _) ho.2⟩)
    | _ => exact ho.elim
  | list xs =>
    cases dy with
    | list ys =>
      cases px with
      | @lst a us _ hs ha =>
        cases py with
        | @lst b ws _ hs2 ha2 =>
          refine .inr (.inr (.inl ⟨a, b, us, ws, rfl, rfl, hs, hs2, by rw [ha.len, ha2.len]; exact ho.1, fun p n => ?_⟩))
          have s := same_new (o := .lst (us ++ ws)) n
          exact q _ _ _ s (.lst (SqL.of upd_same) ((ha.app ha2).up s)) ho.2
    | _ => exact ho.elim
  | tuple xs =>
    cases dy with
    | tuple ys =>
      cases px with
      | @tup a us _ hs ha =>
        cases py with
        | @tup b ws _ hs2 ha2 =>
          refine .inr (.inr (.inr ⟨a, b, us, ws, rfl, rfl, hs, hs2, by rw [ha.len, ha2.len]; exact ho.1, fun e => ?_, fun e1 e2 => ?_, fun e1 e2 p n => ?_⟩))
          · subst e
            cases xs with
            | nil => exact q _ _ _ (Same.refl H) (.tup hs2 ha2) ho.2
            | cons _ _ => cases ha
          · subst e2
            cases ys with
            | nil =>
              have h2 := ho.2
              rw [List.append_nil] at h2
              exact q _ _ _ (Same.refl H) (.tup hs ha) h2
            | cons _ _ => cases ha2
          · have s := same_new (o := .tup (us ++ ws)) n
            exact q _ _ _ s (.tup (SqT.of upd_same) ((ha.app ha2).up s)) ho.2
    | _ => exact ho.elim
  | _ => exact ho.elim
/-- a text n times -/
def strRep (a : Str) (n : Nat) : Str := ⟨(List.replicate n a.cps).foldl (· ++ ·) #[]⟩
theorem rep_size (a : Array Nat) : ∀ (n : Nat) (acc : Array Nat), ((List.replicate n a).foldl (· ++ ·) acc).size = acc.size + n * a.size
  | 0, acc => by simp
  | n + 1, acc => by
    rw [List.replicate_succ, List.foldl_cons, rep_size a n, Array.size_append, Nat.succ_mul]
    omega
def rRepS : R2 := fun x y H Q => ∃ (a : Str) (k : Int), x = .str a ∧ y = .int k ∧ 2 ≤ k ∧ k ≤ 1000 ∧ a.length = 1 ∧ Q (.str (strRep a k.toNat)) H
theorem op_repS : OpR X (binaryOp .Mult) rRepS := by
  intro pins s σ H x y v u Q I rx ry h
  obtain ⟨a, k, rfl, rfl, h1, h2, h3, q⟩ := h
  obtain ⟨t, rfl⟩ := rx
  obtain ⟨t2, rfl⟩ := ry
  have n1 : ¬ k < 1 := by omega
  have n2 : (k == 1 || a.length == 0) = false := by rw [h3]; simp; omega
  have hz : (1000 : Nat) ≤ sizeLine := by decide
  refine PySem.P.mul_str (by rw [decide_eq_false (by omega), decide_eq_false (by omega)]; rfl) (fun _ _ => ?_) (fun _ _ => ?_) ?_
  · rw [h3]
    have : 1 ≤ ((2 : Int) ^ 63 - 1) / k := by
      rw [Int.le_ediv_iff_mul_le (by omega)]
      omega
    omega
  · rw [h3, Nat.one_mul]
    unfold Builtin.Str.tooLong
    exact decide_eq_false (by omega)
  · rw [if_neg n1, n2]
    refine ⟨?_, .str (strRep a k.toNat), H, I.tok _, ⟨_, rfl⟩, q⟩
    show (strRep a k.toNat).cps.size ≤ sizeLine
    have e : a.cps.size = 1 := h3
    unfold strRep
    rw [rep_size, e]
    simp
    omega
def oMulU : DO := fun x y Φ => match x, y with
  | .int i, .int j => CMulW i j ∧ Φ (.int (i * j))
  | .tuple xs, .int k => xs ≠ [] ∧ 2 ≤ k ∧ k ≤ 1000 ∧ xs.length ≤ 1000 ∧ Φ (.tuple (List.replicate k.toNat xs).flatten)
  | .str a, .int k => 2 ≤ k ∧ k ≤ 1000 ∧ a.length = 1 ∧ Φ (.str (strRep a k.toNat))
  | _, _ => False
theorem DpAll.rep {H : Hp} {ds : List Dt} {vs : List V} (h : DpAll K H vs ds) : ∀ n : Nat, DpAll K H (List.replicate n vs).flatten (List.replicate n ds).flatten
  | 0 => .nil
  | n + 1 => by
    rw [List.replicate_succ, List.replicate_succ, List.flatten_cons, List.flatten_cons]
    exact h.app (DpAll.rep h n)
theorem o_mulU : OpG X (binaryOp .Mult) oMulU := by
  refine ⟨_, OpR.or op_mulW (OpR.or op_repT op_repS), fun x y H Q dx dy Φ px py ho q => ?_⟩
  cases dx with
  | int i =>
    cases dy with
    | int j => cases px; cases py; exact .inl ⟨i, j, rfl, rfl, ho.1, q _ H _ (Same.refl H) (.int _) ho.2⟩
    | _ => exact ho.elim
  | tuple xs =>
    cases dy with
    | int k =>
      cases py
      cases px with
      | @tup a us _ hs ha =>
        obtain ⟨h0, h1, h2, h3, hΦ⟩ := ho
        refine .inr (.inl ⟨a, k, us, rfl, rfl, hs, ?_, h1, h2, by rw [ha.len]; exact h3, fun p n => ?_⟩)
        · intro z
          rw [z] at ha
          cases ha
          exact h0 rfl
        · have s := same_new (o := .tup (List.replicate k.toNat us).flatten) n
          exact q _ _ _ s (.tup (SqT.of upd_same) ((ha.rep _).up s)) hΦ
    | _ => exact ho.elim
  | str a =>
    cases dy with
    | int k =>
      cases px; cases py
      obtain ⟨h1, h2, h3, hΦ⟩ := ho
      exact .inr (.inr ⟨a, k, rfl, rfl, h1, h2, h3, q _ H _ (Same.refl H) (.str _) hΦ⟩)
    | _ => exact ho.elim
  | _ => exact ho.elim
def dNeg (da : DE) : DE := fun φ Φ => da φ fun x => match x with
  | .int i => Φ (.int (-i))
  | _ => False
theorem g_neg {a : Expr} {da : DE} {pos : Pos} (ha : GE X a da) : GE X (.UnaryOp .USub a pos) (dNeg da) := by
  obtain ⟨ta, a1, a2⟩ := ha
  refine ⟨_, pe_un un_neg a1, fun σ H φ Φ Q env h q => a2 σ H φ _ _ env h fun v H1 d s1 p h1 => ?_⟩
  cases d with
  | int i => cases p; exact ⟨i, rfl, q _ H1 _ s1 (.int _) h1⟩
  | _ => exact h1.elim
/-- x in y, y a list or tuple of data -/
def oIn : DO := fun x y Φ => SeqAt.shaped x = true ∧ SeqAt.shaped y = true ∧ match y with
  | .list ds => Φ (.bool (ds.any fun z => PyData.eqv z x))
  | .tuple ds => Φ (.bool (ds.any fun z => PyData.eqv z x))
  | .str z => match x with
    | .str c => c.length = 1 ∧ Φ (.bool (decide (c.cps.getD 0 0 ∈ z.cps.toList)))
    | _ => False
  | _ => False
def oNin : DO := fun x y Φ => SeqAt.shaped x = true ∧ SeqAt.shaped y = true ∧ match y with
  | .list ds => Φ (.bool (!ds.any fun z => PyData.eqv z x))
  | .tuple ds => Φ (.bool (!ds.any fun z => PyData.eqv z x))
  | .str z => match x with
    | .str c => c.length = 1 ∧ Φ (.bool (!decide (c.cps.getD 0 0 ∈ z.cps.toList)))
    | _ => False
  | _ => False
def rInTD (K : PySem.W.Frag) : R2 := fun x y H Q => ∃ d ds, Dp K H x d ∧ Dp K H y (.tuple ds) ∧ SeqAt.shaped d = true ∧ SeqAt.shaped (.tuple ds) = true ∧ Q (.bl (ds.any fun z => PyData.eqv z d)) H
def rNinTD (K : PySem.W.Frag) : R2 := fun x y H Q => ∃ d ds, Dp K H x d ∧ Dp K H y (.tuple ds) ∧ SeqAt.shaped d = true ∧ SeqAt.shaped (.tuple ds) = true ∧ Q (.bl (!ds.any fun z => PyData.eqv z d)) H
theorem op_inTD (hu : X.A.units + 65 < cLine) : OpR X (compareOp .In) (rInTD X.K) := by
  intro pins s σ H x y v u Q I rx ry h
  obtain ⟨d, ds, hd, he, sd, se, q⟩ := h
  obtain ⟨as, r1⟩ := L2.Dp.reads I d x v (hd.old sd) rx
  obtain ⟨bs, r2⟩ := L2.Dp.reads I (.tuple ds) y u (he.old se) ry
  exact SeqAt.in_tuple_reads r2 r1 (SeqAt.canLay_of_shaped se) (SeqAt.canLay_of_shaped sd) (room_in_shaped sd hu) ⟨.bl _, H, I, rfl, q⟩
theorem op_ninTD (hu : X.A.units + 65 < cLine) : OpR X (compareOp .NotIn) (rNinTD X.K) := by
  intro pins s σ H x y v u Q I rx ry h
  obtain ⟨d, ds, hd, he, sd, se, q⟩ := h
  obtain ⟨as, r1⟩ := L2.Dp.reads I d x v (hd.old sd) rx
  obtain ⟨bs, r2⟩ := L2.Dp.reads I (.tuple ds) y u (he.old se) ry
  exact SeqAt.notIn_tuple_reads r2 r1 (SeqAt.canLay_of_shaped se) (SeqAt.canLay_of_shaped sd) (room_in_shaped sd hu) ⟨.bl _, H, I, rfl, q⟩
theorem str_one {c : Str} (h : c.length = 1) : c = ⟨#[c.cps.getD 0 0]⟩ := by
  obtain ⟨l⟩ := c
  obtain ⟨l⟩ := l
  match l, h with
  | [a], _ => rfl
theorem room65 {k : Nat} {A : Around} (hr : Room k A) : A.units + 65 < cLine := by have := hr.un; omega
theorem o_in {k : Nat} (hr : Room k X.A) : OpG X (compareOp .In) oIn := by
  refine ⟨_, OpR.or (op_inD (room65 hr)) (OpR.or (op_inTD (room65 hr)) op_in_sign), fun x y H Q dx dy Φ px py ho q => ?_⟩
  obtain ⟨h1, h2, h3⟩ := ho
  cases dy with
  | list ds => exact .inl ⟨dx, ds, px.old h1, py.old h2, h1, h2, q _ H _ (Same.refl H) (.bl _) h3⟩
  | tuple ds => exact .inr (.inl ⟨dx, ds, px, py, h1, h2, q _ H _ (Same.refl H) (.bl _) h3⟩)
  | str z =>
    cases dx with
    | str c =>
      cases px; cases py
      exact .inr (.inr ⟨c.cps.getD 0 0, z, congrArg V.str (str_one h3.1), rfl, q _ H _ (Same.refl H) (.bl _) h3.2⟩)
    | _ => exact h3.elim
  | _ => exact h3.elim
theorem o_nin {k : Nat} (hr : Room k X.A) : OpG X (compareOp .NotIn) oNin := by
  refine ⟨_, OpR.or (op_notInD (room65 hr)) (OpR.or (op_ninTD (room65 hr)) op_notIn_sign), fun x y H Q dx dy Φ px py ho q => ?_⟩
  obtain ⟨h1, h2, h3⟩ := ho
  cases dy with
  | list ds => exact .inl ⟨dx, ds, px.old h1, py.old h2, h1, h2, q _ H _ (Same.refl H) (.bl _) h3⟩
  | tuple ds => exact .inr (.inl ⟨dx, ds, px, py, h1, h2, q _ H _ (Same.refl H) (.bl _) h3⟩)
  | str z =>
    cases dx with
    | str c =>
      cases px; cases py
      exact .inr (.inr ⟨c.cps.getD 0 0, z, congrArg V.str (str_one h3.1), rfl, q _ H _ (Same.refl H) (.bl _) h3.2⟩)
    | _ => exact h3.elim
  | _ => exact h3.elim
/-! ### a, b = e1, e2 of anything -/
theorem s_par {i j : Nat} {x y : Str} {a b : Expr} {da : DA} {px py pt : Pos} {kt k2 pt2} {pos : Pos} (hc : X.calm = true) (hN : X.N.Nodup) (hi : X.N[i]? = some x) (hj : X.N[j]? = some y) (hij : i ≠ j)
    (hx : X.env.scope.names.lookup x = some .local) (hy : X.env.scope.names.lookup y = some .local) (ha : GA X [a, b] da)
    (hw : swappedStores [.Tuple [.Name x px, .Name y py] kt pt] (.Tuple [a, b] k2 pt2) X.env = pure (some [x, y]))
    (hs : swapsWithSole [.Tuple [.Name x px, .Name y py] kt pt] (.Tuple [a, b] k2 pt2) pos.line X.env = pure false := by rfl) :
    GS X W (.Assign [.Tuple [.Name x px, .Name y py] kt pt] (.Tuple [a, b] k2 pt2) pos) (dPar i j da) := by
  obtain ⟨ta, a1, a2⟩ := ha
  refine ⟨_, ps_frame (ps_par hc hN hi hj hij hx hy a1 hw hs), fun D E F σ H ρ env h m => ⟨F, env.fz, a2 σ F _ _ _ env.pur h fun vs F' ds s p hl hd => ?_⟩⟩
  match ds, hl, hd, p with
  | [d, e], _, hd, p =>
    cases p with
    | cons p1 p2 => cases p2 with
      | cons p2 p3 =>
        cases p3
        exact ⟨_, _, rfl, s, fun dj => m.nx F' _ _ _ s (((env.grow s dj).putP i p1).putP j p2) hd⟩
/-! ### x += e -/
def dAugAdd (i : Nat) (de : DE) : DS := fun E ρ => match getS ρ i with
  | .pu (.int a) => de (allF ρ) fun d => match d with
    | .int b => E.nx (setS ρ i (.pu (.int (a + b))))
    | _ => False
  | _ => False
theorem s_augAdd {i : Nat} {x : Str} {e : Expr} {de : DE} {p pos : Pos} (hN : X.N.Nodup) (hi : X.N[i]? = some x) (he : GE X e de) (hx : Loc X.env.scope x := by first | exact Or.inl rfl | exact Or.inr rfl)
    (h : ∀ te, PE X e te → PS X (.AugAssign (.Name x p) .Add e pos) (tAug i te (ipI fun i j => i + j))) : GS X W (.AugAssign (.Name x p) .Add e pos) (dAugAdd i de) := by
  obtain ⟨te, a1, a2⟩ := he
  refine ⟨_, h te a1, fun D E F σ H ρ env hd m => ?_⟩
  unfold dAugAdd at hd
  cases q : getS ρ i with
  | pu d =>
    rw [q] at hd
    cases d with
    | int a =>
      obtain ⟨v, h1, h2⟩ := env.pu i _ q
      cases h2
      refine ⟨_, h1, a2 σ H _ _ _ env.all hd fun v H' d s pv hd => ?_⟩
      cases d with
      | int b =>
        cases pv
        obtain ⟨F', s', env'⟩ := env.after s
        exact ⟨a, b, rfl, rfl, m.nx F' _ _ _ s' (env'.putP i (.int _)) hd⟩
      | _ => exact hd.elim
    | _ => exact hd.elim
  | _ => rw [q] at hd; exact hd.elim
/-! ### more methods of owned lists -/
def dClear (i : Nat) : DS := fun E ρ => match getS ρ i with
  | .ow _ => E.nx (setS ρ i (.ow []))
  | _ => False
def dReverse (i : Nat) : DS := fun E ρ => match getS ρ i with
  | .ow ds => E.nx (setS ρ i (.ow ds.reverse))
  | _ => False
def dPop (i : Nat) : DS := fun E ρ => match getS ρ i with
  | .ow ds => ds ≠ [] ∧ E.nx (setS ρ i (.ow ds.dropLast))
  | _ => False
theorem DpAll.dropLast {H : Hp} : ∀ {ds : List Dt} {vs : List V}, DpAll K H vs ds → DpAll K H vs.dropLast ds.dropLast := fun {ds vs} h => by
  rw [List.dropLast_eq_take, List.dropLast_eq_take, h.len]
  exact h.take _
theorem s_clear {i : Nat} {x : Str} {p apos cpos pos : Pos} (hN : X.N[i]? = some x := by rfl) (hv : Vis X.env.scope x := by first | exact Or.inl rfl | exact Or.inr (Or.inl rfl) | exact Or.inr (Or.inr rfl)) (hdb : (x == ("__debug__" : Str)) = false := by decide) (hcd : (x == ("__classdict__" : Str)) = false := by decide)
    (hbase : attributeBase (.Name x p) "clear" X.env (eval (.Name x p) X.env) = eval (.Name x p) X.env := by rfl) (hline : (apos.endLine == cpos.line) = true := by rfl)
    (hs : swapsWith (.Call (.Attribute (.Name x p) "clear" apos) [] [] cpos) none pos.line X.env = pure false := by rfl) : GS X W (.Expr (.Call (.Attribute (.Name x p) "clear" apos) [] [] cpos) pos) (dClear i) := by
  refine ⟨_, ps_expr (pe_bm0 PySem.F.plainAttrs_list PySem.F.slot_list_clear PySem.F.type_list_clear mt_clear (pe_var hN hv hdb hcd) hbase hline) hs, fun D E F σ H ρ env h m => ?_⟩
  unfold dClear at h
  cases q : getS ρ i with
  | ow ds =>
    rw [q] at h
    obtain ⟨a, us, h1, h2, h3, h4⟩ := env.ow i ds q
    exact ⟨_, h1, .inl ⟨rfl, _, SqL.of h2⟩, a, us, rfl, rfl, h2, m.nx F _ _ _ (Same.refl F) (env.mut i q h1 .nil) h⟩
  | _ => rw [q] at h; exact h.elim
theorem s_reverse {i : Nat} {x : Str} {p apos cpos pos : Pos} (hN : X.N[i]? = some x := by rfl) (hv : Vis X.env.scope x := by first | exact Or.inl rfl | exact Or.inr (Or.inl rfl) | exact Or.inr (Or.inr rfl)) (hdb : (x == ("__debug__" : Str)) = false := by decide) (hcd : (x == ("__classdict__" : Str)) = false := by decide)
    (hbase : attributeBase (.Name x p) "reverse" X.env (eval (.Name x p) X.env) = eval (.Name x p) X.env := by rfl) (hline : (apos.endLine == cpos.line) = true := by rfl)
    (hs : swapsWith (.Call (.Attribute (.Name x p) "reverse" apos) [] [] cpos) none pos.line X.env = pure false := by rfl) : GS X W (.Expr (.Call (.Attribute (.Name x p) "reverse" apos) [] [] cpos) pos) (dReverse i) := by
  refine ⟨_, ps_expr (pe_bm0 PySem.F.plainAttrs_list PySem.F.slot_list_reverse PySem.F.type_list_reverse mt_reverse (pe_var hN hv hdb hcd) hbase hline) hs, fun D E F σ H ρ env h m => ?_⟩
  unfold dReverse at h
  cases q : getS ρ i with
  | ow ds =>
    rw [q] at h
    obtain ⟨a, us, h1, h2, h3, h4⟩ := env.ow i ds q
    exact ⟨_, h1, .inl ⟨rfl, _, SqL.of h2⟩, a, us, rfl, rfl, h2, m.nx F _ _ _ (Same.refl F) (env.mut i q h1 h4.reverse) h⟩
  | _ => rw [q] at h; exact h.elim
theorem s_pop {i : Nat} {x : Str} {p apos cpos pos : Pos} (hN : X.N[i]? = some x := by rfl) (hv : Vis X.env.scope x := by first | exact Or.inl rfl | exact Or.inr (Or.inl rfl) | exact Or.inr (Or.inr rfl)) (hdb : (x == ("__debug__" : Str)) = false := by decide) (hcd : (x == ("__classdict__" : Str)) = false := by decide)
    (hbase : attributeBase (.Name x p) "pop" X.env (eval (.Name x p) X.env) = eval (.Name x p) X.env := by rfl) (hline : (apos.endLine == cpos.line) = true := by rfl)
    (hs : swapsWith (.Call (.Attribute (.Name x p) "pop" apos) [] [] cpos) none pos.line X.env = pure false := by rfl) : GS X W (.Expr (.Call (.Attribute (.Name x p) "pop" apos) [] [] cpos) pos) (dPop i) := by
  refine ⟨_, ps_expr (pe_bm0 PySem.F.plainAttrs_list PySem.F.slot_list_pop PySem.F.type_list_pop mt_pop (pe_var hN hv hdb hcd) hbase hline) hs, fun D E F σ H ρ env h m => ?_⟩
  unfold dPop at h
  cases q : getS ρ i with
  | ow ds =>
    rw [q] at h
    obtain ⟨a, us, h1, h2, h3, h4⟩ := env.ow i ds q
    have hl := h4.len
    have h0 : 0 < ds.length := List.length_pos_iff.mpr h.1
    have hu : us.length - 1 < us.length := by omega
    exact ⟨_, h1, .inl ⟨rfl, _, SqL.of h2⟩, a, us, _, rfl, rfl, h2, List.getElem?_eq_getElem hu, m.nx F _ _ _ (Same.refl F) (env.mut i q h1 (DpAll.dropLast h4)) h.2⟩
  | _ => rw [q] at h; exact h.elim
end
end L2.D3

set_option maxHeartbeats 4000000
namespace L2.D3
open PySem PySem.Spec PyProof.Rows
/-! ### no list stands in the written part -/
def NoL (K : PySem.W.Frag) : Prop := ∀ a o, K.lookup a = some o → o.cls ≠ .type "list"
def noLB (K : PySem.W.Frag) : Bool := K.all fun p => !decide (p.2.cls = .type "list")
theorem lookup_memF {a : Addr} {o : Obj} : ∀ {l : List (Addr × Obj)}, l.lookup a = some o → (a, o) ∈ l
  | [], h => by cases h
  | (b, u) :: r, h => by
    by_cases c : (a == b) = true
    · have h' : some u = some o := by simpa [List.lookup, c] using h
      cases h'
      rw [beq_iff_eq.mp c]
      exact List.mem_cons_self
    · have c2 : (a == b) = false := by simpa using c
      have h' : List.lookup a r = some o := by simpa [List.lookup, c2] using h
      exact List.mem_cons_of_mem _ (lookup_memF h')
theorem noL_of {K : PySem.W.Frag} (h : noLB K = true) : NoL K := fun a o e z => by
  have q := List.all_eq_true.mp h (a, o) (lookup_memF e)
  rw [decide_eq_true z] at q
  cases q
/-! ### the head's facts, with a truth more -/
def hookX (n : Nat) (fa : List He.Fa) (fn : List He.DefD) (xt : PySem.W.Frag → Bool) : PySem.W.Hook where
  α := Bool × He.AlD
  obs := fun s => (xt (He.frG s.heap.get? (He.asD s.heap.get? n)), He.obsDG n fa fn s.heap.get?)
  val := fun _ => (true, He.valD fn)
  says := fun _ h => ∃ K : PySem.W.Frag, K.In h ∧ He.SaysD fa fn K ∧ xt K = true
  of := fun _ _ e => ⟨_, He.frG_in, congrArg Prod.snd e, congrArg Prod.fst e⟩
  keeps := fun _ _ _ ⟨K, hK, c⟩ k => ⟨K, PySem.W.Frag.In.keeps hK k, c⟩
def obsX (n : Nat) (fa : List He.Fa) (fn : List He.DefD) (xt : PySem.W.Frag → Bool) (g : Addr → Option Obj) : Bool × He.AlD := (xt (He.frG g (He.asD g n)), He.obsDG n fa fn g)
theorem obsX_eq {n : Nat} {fa : List He.Fa} {fn : List He.DefD} {xt : PySem.W.Frag → Bool} {g : Addr → Option Obj} {s : Shared} (h : ∀ a, g a = s.heap.get? a) : obsX n fa fn xt g = (hookX n fa fn xt).obs s := by
  have e : g = s.heap.get? := funext h
  rw [e]
  rfl
/-! ### found.extend(e) -/
section
variable {X : Cx} {K : PySem.W.Frag} {W : WX}
def rExtR : V → List V → Hp → VK → Prop := fun x vs H Q => ∃ l b xs zs, x = .ref l ∧ vs = [.ref b] ∧ H l = some (.lst xs) ∧ Rd H b (.lst zs) ∧ xs.length + zs.length ≤ sizeLine ∧ Q .non (upd H l (.lst (xs ++ zs)))
theorem mt_extR : MtM X "list.extend" rExtR := by
  intro pins s σ H x vs v us Q I rx rv h
  obtain ⟨l, b, xs, zs, rfl, rfl, hH, hB, hz, q⟩ := h
  cases rx
  obtain ⟨u, rfl, ru⟩ := rv.one
  cases ru
  obtain ⟨z, its, n, r, hl, e⟩ := I.lstM hH
  obtain ⟨z2, its2, n2, r2, e2⟩ := hB.ok I.hok
  have hl2 := r2.length
  have sz : its.toArray.size + its2.toArray.size ≤ sizeLine := by rw [List.size_toArray, List.size_toArray]; omega
  have nolong : ¬ (!its.toArray.isEmpty && Builtin.List.listTooLong (its.toArray.size + its2.toArray.size)) = true := fun y => by
    rw [notLongL sz, Bool.and_false] at y
    cases y
  refine call_meets F.slot_list_extend ⟨_, e, rfl⟩ F.entry_list_extend (F.args_list_extend_2 _ _) (AutoSeq1.list_extend_list_list_0 l its.toArray n b its2.toArray n2 nolong (by rw [List.size_toArray]; omega) (by omega)) ⟨e, e2, ?_⟩
  exact ⟨.non, _, I.lset (its' := its ++ its2) hH e (by simp) (r.append r2) (by rw [List.length_append]; omega), rfl, q⟩
def dExtend (i : Nat) (de : DE) : DS := fun E ρ => match getS ρ i with
  | .ow ds => de (purF ρ) fun d => match d with
    | .list es => ds.length + es.length ≤ sizeLine ∧ E.nx (setS ρ i (.ow (ds ++ es)))
    | _ => False
  | _ => False
theorem s_extend {i : Nat} {x : Str} {e : Expr} {de : DE} {p apos cpos pos : Pos} (nl : NoL X.K) (he : GE X e de) (hN : X.N[i]? = some x := by rfl) (hv : Vis X.env.scope x := by first | exact Or.inl rfl | exact Or.inr (Or.inl rfl) | exact Or.inr (Or.inr rfl)) (hdb : (x == ("__debug__" : Str)) = false := by decide) (hcd : (x == ("__classdict__" : Str)) = false := by decide)
    (hbase : attributeBase (.Name x p) "extend" X.env (eval (.Name x p) X.env) = eval (.Name x p) X.env := by rfl) (hst : starEach [e] X.env = (false, eval e X.env) :: starEach [] X.env := by rfl) (hline : (apos.endLine == cpos.line) = true := by rfl)
    (hfew : ((backTo cpos (starEach [e] X.env)).all (fun x => !x.1) && (backToKw cpos (keywordEach [] X.env)).all (fun x => x.1.isSome) && decide (([e] : List Expr).length + ([] : List Keyword).length + (if ([] : List Keyword).isEmpty then 0 else 1) < 30)) = true := by rfl)
    (hplain : (backTo cpos (starEach [] X.env)).any (·.1) = false := by rfl)
    (hs : swapsWith (.Call (.Attribute (.Name x p) "extend" apos) [e] [] cpos) none pos.line X.env = pure false := by rfl) :
    GS X W (.Expr (.Call (.Attribute (.Name x p) "extend" apos) [e] [] cpos) pos) (dExtend i de) := by
  obtain ⟨te, a1, a2⟩ := he
  refine ⟨_, ps_expr (pe_bm PySem.F.plainAttrs_list PySem.F.slot_list_extend PySem.F.type_list_extend mt_extR (pe_var hN hv hdb hcd) (pa_cons (pe_frame a1) pa_nil hst) hbase hfew hline hst hplain) hs, fun D E F σ H ρ env h m => ?_⟩
  unfold dExtend at h
  cases q : getS ρ i with
  | ow ds =>
    rw [q] at h
    obtain ⟨a, us, h1, h2, h3, h4⟩ := env.ow i ds q
    refine ⟨_, h1, .inl ⟨rfl, _, SqL.of h2⟩, ss_frame (k := fun v σ H' => (tNil σ H' fun xs H2 => rExtR (.ref a) (v :: xs) H2 fun _ H1 => D.nx σ H1)) a2 env h fun F' H' v d s env' pv hd => ?_⟩
    obtain ⟨a', vs, g1, g2, g3, g4⟩ := env'.ow i ds q
    rw [h1] at g1
    cases g1
    cases d with
    | list es =>
      cases pv with
      | @lst b0 zs0 _ hs ha =>
        rcases hs with hs | ⟨o, its, n, k1, k2, _⟩
        · have hs' : Rd H' b0 (.lst zs0) := by
            rcases hs with hs | ⟨o, hs⟩
            · exact .inl (env'.fz.same _ _ hs)
            · exact .inr ⟨o, env'.fz.same _ _ hs⟩
          exact ⟨a, _, vs, _, rfl, rfl, g2, hs', by rw [g4.len, ha.len]; exact hd.1, m.nx F' _ _ _ s (env'.mut i q h1 (g4.app ha)) hd.2⟩
        · exact absurd k2 (nl _ _ k1)
    | _ => exact hd.elim
  | _ => rw [q] at h; exact h.elim
/-! ### int(x) -/
abbrev bIntU := bInt
theorem c_intU {X : Cx} : CallG X (.type "int") bIntU := c_int
end
end L2.D3

set_option maxHeartbeats 4000000
namespace L2.D3
open PySem PySem.Spec PyProof.Rows
section
variable {prog : Program} {w : World} {A : Around} {E : Value → Shared → Prop} {s : Shared}
theorem back_places (n : Nat) : Builtin.Slice.slicePlaces ((n : Int) - 1) (-1) (-1) = n := by
  unfold Builtin.Slice.slicePlaces
  have h1 : ¬ ((-1 : Int) > 0) := by omega
  have h2 : (- -1 : Int) = 1 := by decide
  simp only [h1, if_false, h2, Int.ediv_one]
  split <;> omega
theorem back_adjust (n : Nat) : Builtin.Slice.sliceAdjust none none (-1) (n : Int) = ((n : Int) - 1, -1) := by
  unfold Builtin.Slice.sliceAdjust
  simp
theorem back_applied {sl : Addr} {vk : Value} {n : Nat} {Q : Int × Int × Nat → Shared → Prop} (hs : s.heap.IsSliceOf sl .none .none vk) (pk : IsPart vk (some (-1))) (h : Q ((n : Int) - 1, -1, n) s) : wpAny (model prog w) A (Builtin.Slice.sliceApplied (.ref sl) (pure (n : Int))) Q E s := by
  obtain ⟨os, hos, hcs, hds⟩ := id hs
  unfold Builtin.Slice.sliceApplied Builtin.Slice.sliceFields
  refine wpAny_bind (wpAny_bind (wpAny_field hos hds (x := .none) rfl (wpAny_bind (wpAny_field hos hds (x := .none) rfl (wpAny_bind (wpAny_field hos hds (x := vk) rfl (wpAny_pure ?_)))))))
  refine wpAny_bind (HT.slicePart_ pk ?_)
  show wpAny _ _ (if ((-1 : Int) == 0) = true then _ else _) _ _ s
  rw [if_neg (by decide)]
  refine wpAny_bind (slicePart_none (wpAny_bind (slicePart_none (wpAny_bind (wpAny_pure ?_)))))
  show wpAny _ _ (match Builtin.Slice.sliceAdjust none none (-1) (n : Int) with | (lo, hi) => pure (lo, (-1 : Int), Builtin.Slice.slicePlaces lo hi (-1))) _ _ s
  rw [back_adjust n]
  show wpAny _ _ (pure ((n : Int) - 1, (-1 : Int), Builtin.Slice.slicePlaces ((n : Int) - 1) (-1) (-1))) _ _ s
  rw [back_places]
  exact wpAny_pure h
theorem back_pick (xs : Array Value) : ((List.range xs.size).filterMap fun (k : Nat) => xs[((xs.size : Int) - 1 + (k : Int) * (-1)).toNat]?).toArray = xs.toList.reverse.toArray := by
  have e : ((List.range xs.size).filterMap fun (k : Nat) => xs[((xs.size : Int) - 1 + (k : Int) * (-1)).toNat]?) = (((List.range xs.size).map fun k => xs.size - 1 - k).filterMap (xs[·]?)) := by
    rw [List.filterMap_map]
    have key : ∀ l : List Nat, (∀ k ∈ l, k < xs.size) → l.filterMap (fun (k : Nat) => xs[((xs.size : Int) - 1 + (k : Int) * (-1)).toNat]?) = l.filterMap ((fun x => xs[x]?) ∘ fun k => xs.size - 1 - k) := by
      intro l
      induction l with
      | nil => intro _; rfl
      | cons k r ih =>
        intro h
        have hk := h k List.mem_cons_self
        have e2 : ((xs.size : Int) - 1 + (k : Int) * (-1)).toNat = xs.size - 1 - k := by omega
        rw [List.filterMap_cons, List.filterMap_cons, ih fun j hj => h j (List.mem_cons_of_mem _ hj), e2]
        rfl
    exact key _ fun k hk => List.mem_range.mp hk
  rw [e, PySem.W.krv_range, List.filterMap_reverse, PySem.W.krv_all]
theorem back_tuple {t sl : Addr} {items : Array Value} {vk : Value} {Q : Value → Shared → Prop} (ht : IsTup s.heap t items) (hs : s.heap.IsSliceOf sl .none .none vk) (pk : IsPart vk (some (-1)))
    (h : Q (.ref s.heap.objs.size) { s with heap := s.heap.push { cls := .type "tuple", data := .seq items.toList.reverse.toArray } }) (hsz : items.size ≤ sizeLine) : wpAny (model prog w) A (getItem (.ref t) (.ref sl)) Q E s := by
  have fits : sizeOk (.seq items.toList.reverse.toArray) := by
    show items.toList.reverse.toArray.size ≤ sizeLine
    rw [List.size_toArray, List.length_reverse, Array.length_toList]
    exact hsz
  obtain ⟨os, hos, hcs, hds⟩ := id hs
  have hTs : s.TypeIs (.ref sl) "slice" := ⟨os, hos, hcs⟩
  unfold getItem
  try with_reducible refine wpAny_holding ?_
  first | refine wpAny_bind (wpAny_pure ?_) | skip
  refine wpAny_bind (wpAny_sequenceKey ht.typeIs (by decide) ?_)
  refine wpAny_bind (wpAny_callSpecial?_slot (name := Str.ofString "__getitem__") ht.typeIs PyProof.Rows.slot_tuple_getitem (wpAny_call_entry PyProof.Rows.slot_tuple_getitem ht.typeIs entry_tuple_getitem ?_ (args_tuple_getitem _ _)))
  show wpAny _ _ (Builtin.Tuple.tupleItemsOf (.ref t) >>= _) _ _ s
  refine wpAny_bind (tupleItemsOf_ ht ?_)
  refine wpAny_bind (wpAny_typeOf hTs ?_)
  rw [if_pos (by decide)]
  refine wpAny_bind (back_applied hs pk ?_)
  have no : ¬ ((((items.size : Int) - 1) == 0 && (-1 : Int) == 1 && items.size == items.size) = true) := by
    intro q
    rw [Bool.and_eq_true, Bool.and_eq_true] at q
    exact absurd q.1.2 (by decide)
  show wpAny _ _ (if (((items.size : Int) - 1) == 0 && (-1 : Int) == 1 && items.size == items.size) = true then _ else _) _ _ s
  rw [if_neg no, back_pick]
  first
    | exact wpAny_bind (m := Builtin.Tuple.tupleExact _) (wpAny_newObj_type (wpAny_pure ⟨_, rfl, wpAny_pure h⟩) fits)
    | exact wpAny_bind (m := Builtin.Tuple.tupleExact _) (wpAny_newObj_type (wpAny_bind (wpAny_pure (wpAny_pure ⟨_, rfl, wpAny_pure h⟩))) fits)
    | exact wpAny_bind (wpAny_bind (m := Builtin.Tuple.tupleExact _) (wpAny_newObj_type (wpAny_pure (wpAny_pure ⟨_, rfl, wpAny_pure h⟩)) fits))
    | exact wpAny_bind (wpAny_bind (m := Builtin.Tuple.tupleExact _) (wpAny_newObj_type (wpAny_pure ⟨_, rfl, wpAny_pure h⟩) fits))
end
section
variable {X : Cx} {K : PySem.W.Frag}
/-! ### xs[::-1] -/
def tRev (K : PySem.W.Frag) (te : TE) : TE := fun σ H Q => te σ H fun x H1 => (∃ a xs, x = .ref a ∧ SqL K H1 a xs ∧ ∀ p, H1 p = none → Q (.ref p) (upd H1 p (.lst xs.reverse))) ∨ ∃ a xs, x = .ref a ∧ SqT K H1 a xs ∧ ∀ p, H1 p = none → Q (.ref p) (upd H1 p (.tup xs.reverse))
theorem pe_rev {e : Expr} {te : TE} {j p1 p3 p2 pos} (he : PE X e te) : PE X (.Subscript e (.Slice none none (some (.UnaryOp .USub (.Constant (.int 1) j p1) p3)) p2) pos) (tRev X.K te) := by
  refine ⟨fun pins s σ H Q I h => Subscript_ (thn (he.run pins s σ H _ I h) fun v s1 hq => ?_)⟩
  obtain ⟨x, H1, I1, r1, hq⟩ := hq
  have hst : PO X (some (.UnaryOp .USub (.Constant (.int 1) j p1) p3)) _ := po_some (pe_un un_neg pe_int)
  refine wpAny_Slice ?_
  rw [evalPart_none]
  refine wpAny_pure (wpAny_pure (thn (hst.run pins s1 σ H1 (fun o H' => o = some (-1) ∧ H' = H1) I1 ⟨1, rfl, _, rfl, rfl, rfl⟩) fun vk s2 hk => ?_))
  obtain ⟨o, H2, I2, pk, rfl, rfl⟩ := hk
  have I3 : Inv X pins σ H2 { s2 with heap := s2.heap.push { cls := .type "slice", data := .fields #[.none, .none, vk] } } := I2.kept (t' := s2.toks) fun b ob q => Heap.get?_push_of_some _ q
  rcases hq with ⟨a, xs, rfl, hs, q⟩ | ⟨a, xs, rfl, hs, q⟩
  · cases r1
    obtain ⟨its, rv, pl, hz⟩ := I3.list hs
    have hl := rv.length
    refine tail_any (ops := [.ref a, .ref s2.heap.objs.size]) pl.isList.typeIs slot_list_getitem.lookup ?_ (by rfl)
    refine wpAny_getItem_list_slice pl.isList (Heap.IsSliceOf.new ..) .none .none pk (by decide) ?_ (by rw [List.size_toArray]; omega)
    rw [PySem.W.krv_pick]
    have ev : its.toArray.toList.reverse = its.reverse := by simp
    rw [ev]
    exact ⟨.ref _, _, I3.lnew (t' := s2.toks) (Vals.reverse rv) (by rw [List.length_reverse]; exact hz), rfl, q _ I3.fresh⟩
  · cases r1
    obtain ⟨its, rv, pl, hz⟩ := I3.tuple hs
    have hl := rv.length
    refine tail_any (ops := [.ref a, .ref s2.heap.objs.size]) pl.typeIs PyProof.Rows.slot_tuple_getitem.lookup ?_ (by rfl)
    refine back_tuple pl (Heap.IsSliceOf.new ..) pk ?_ (by rw [List.size_toArray]; omega)
    have ev : its.toArray.toList.reverse = its.reverse := by simp
    rw [ev]
    refine ⟨.ref _, _, I3.laid (t' := s2.toks) (o := .tup xs.reverse) (fun b ob q => Heap.get?_push_of_some _ q) (Nat.le_refl _) ?_, rfl, q _ I3.fresh⟩
    exact ⟨by rw [List.length_reverse]; exact hz, _, Vals.reverse rv, IsTup.new _ _⟩
def dRev (da : DE) : DE := fun φ Φ => da φ fun d => match d with
  | .list ds => Φ (.list ds.reverse)
  | .tuple ds => Φ (.tuple ds.reverse)
  | _ => False
theorem g_rev {e : Expr} {de : DE} {j p1 p3 p2 pos} (he : GE X e de) : GE X (.Subscript e (.Slice none none (some (.UnaryOp .USub (.Constant (.int 1) j p1) p3)) p2) pos) (dRev de) := by
  obtain ⟨te, a1, a2⟩ := he
  refine ⟨_, pe_rev a1, fun σ H φ Φ Q env h q => a2 σ H φ _ _ env h fun v H1 d s1 p h1 => ?_⟩
  cases d with
  | list ds =>
    cases p with
    | @lst a xs _ hs ha =>
      refine .inl ⟨a, xs, rfl, hs, fun l n => ?_⟩
      have s := same_new (o := .lst xs.reverse) n
      exact q _ _ _ (s1.trans s) (.lst (SqL.of upd_same) (ha.reverse.up s)) h1
  | tuple ds =>
    cases p with
    | @tup a xs _ hs ha =>
      refine .inr ⟨a, xs, rfl, hs, fun l n => ?_⟩
      have s := same_new (o := .tup xs.reverse) n
      exact q _ _ _ (s1.trans s) (.tup (SqT.of upd_same) (ha.reverse.up s)) h1
  | _ => exact h1.elim
end
end L2.D3

set_option maxHeartbeats 4000000
/-! The end of a law, where what is caught may hang on the world. -/
namespace L2.D3
open PySem PySem.Spec PyProof.Rows
/-- a statement that is never reached -/
def dNo : DS := fun _ _ => False
theorem s_no {X : Cx} {W : WX} {st : Stmt} : GS X W st dNo := ⟨fun _ _ _ => False, ⟨fun _ _ _ _ _ _ h => h.elim⟩, fun _ _ _ _ _ _ _ h _ => h⟩
theorem walk_ofW {lw : PySem.W.OpenLaw} {m k : Nat} {qv : Program} {ls : List Str} {X1 : (Str → Option Value) → Heap → Prop} {Y1 : World → Heap → Prop} {dr : DefRec} {C : World → CXT} {x : Str} (hm : lw.most = some m) (hm2 : m ≤ sizeLine) (hdf : dr.params.defaults = []) (hroom : Room k callerA)
    (hall : ∀ (w : World) (mg : Str → Option Value) (fa : Addr) (h : Heap), Y1 w h → h.Ns mainGlobals mg → mg dr.name = some (.ref fa) → ∃ (K : PySem.W.Frag) (fd : FuncData) (sp : Sp), K.In h ∧ (∀ (s : Shared) (u : Value), BindsTo s fd ⟨[u], []⟩ [(x, u)]) ∧
        (∀ (H : Hp) (a : Addr) (ns : List Int), ns.length ≤ m → Only H → SqL K H a (ns.map V.int) → sp [.ref a] H (fun v _ => v = .bl true) fun _ _ _ => False) ∧ ∀ base : Heap, K.In base → base.Ns mainGlobals mg → FnOk lw.prog w K mg base (C w) k fa fd [x] sp)
    (hno : ∀ (w : World) (H : Hp) (s : Shared) (e : Value) (s2 : Shared), C w [] H s (fun _ _ _ => False) e s2 → False) : PySem.W.WalkO qv ls X1 Y1 lw.row.toRowW dr [] (fun f vs => PySem.call f vs) := by
  refine Att.attach_call hm hdf fun w s0 s1 mg mb fa ob pm cd doc a us ns G hY _ _ _ hmg hobj hints hlen hg => ?_
  obtain ⟨K, fd, sp, hK, hb, hsp, hfn⟩ := hall w mg fa _ hY G.T.g hmg
  exact law_call hK G.T.g G.T.b G.T.builtins G.T.nolimit hg hobj hints (Nat.le_trans hlen hm2) hroom hfn hb (fun H hO hS => hsp H a ns hlen hO hS) fun H e s2 => hno w H s1 e s2
end L2.D3

set_option maxHeartbeats 4000000
/-! Exceptions: raised, let through, caught, asked. -/
namespace L2.D3
open PySem PySem.Spec PyProof.Rows
/-- an exception that was caught, at a -/
def ExC (cls : Value) (d : Option Addr) (a : Addr) : HO := .ext fun h => ∃ (ob : Obj) (fv : Array Value), h.get? a = some ob ∧ Zc cls d ob ∧ ob.data = .fields fv
theorem exC_ok {P : Program} {w : World} {H : Hp} {h : Heap} {a : Addr} {cls : Value} {d : Option Addr} {ob : Obj} {fv : Array Value} (e : h.get? a = some ob) (z : Zc cls d ob) (q : ob.data = .fields fv) : ObjOk P w H h a (ExC cls d a) :=
  ⟨⟨ob, fv, e, z, q⟩, ⟨ob, e⟩, fun _ _ ⟨o2, v2, q2, r2⟩ k => ⟨o2, v2, k o2 q2, r2⟩⟩
def ExAt (K : PySem.W.Frag) (H : Hp) (a : Addr) (x : XD) : Prop := ∃ d, H a = some (ExC (.ref (He.ga K x.cls)) d a) ∧ XAt K H x d
def exA (x : XD) : Ass := ⟨fun K H v => ∃ a, v = .ref a ∧ ExAt K H a x, fun K H H' v s ⟨a, e, d, h1, h2⟩ => ⟨a, e, d, s _ _ h1, h2.up s⟩⟩
section
variable {X : Cx} {pins : List (Addr × Obj)} {σ : St} {H : Hp} {s : Shared}
theorem inv_track {a : Addr} {ob : Obj} {fv : Array Value} {cls : Value} {d : Option Addr} (I : Inv X pins σ H s) (ha : s.heap.get? a = some ob) (hz : Zc cls d ob) (hd : ob.data = .fields fv) (na : H a = none) (n0 : X.s_0.heap.get? a = none) (nL : a ≠ X.env.locals) (np : ∀ p ∈ X.pn ++ pins, p.1 ≠ a) :
    Inv X pins σ (upd H a (ExC cls d a)) s := by
  refine ⟨I.ok, I.os, I.bare, ⟨I.base.keep, I.base.slot, fun b o e n hx => ?_, I.base.there, fun b xs q => ?_, fun b o u q => ?_, fun b ps q => ?_⟩, I.loc, I.cell, ?_, fun x c e => ?_, fun p hp => ?_, I.hok.laidN (fun _ _ e => e) na (exC_ok ha hz hd), I.len⟩
  · rw [upd_ne (fun z => by rw [z, n0] at e; cases e)]
    exact I.base.free b o e n hx
  · have q1 := I.base.tups b xs q
    rw [upd_ne (ne_of_none q1 na)]
    exact q1
  · have q1 := I.base.frzs b o u q
    rw [upd_ne (ne_of_none q1 na)]
    exact q1
  · obtain ⟨m, q1⟩ := I.base.tbls b ps q
    exact ⟨m, by rw [upd_ne (ne_of_none q1 na)]; exact q1⟩
  · rw [upd_ne (Ne.symm nL)]
    exact I.free
  · obtain ⟨v, o, ho, hc⟩ := I.cell x c e
    rw [upd_ne (fun z => by rw [z, ha] at ho; cases ho; rw [hd] at hc; cases hc)]
    exact I.freeC x c e
  · obtain ⟨p1, p2, p3⟩ := I.pin p hp
    exact ⟨p1, by rw [upd_ne (np p hp)]; exact p2, p3⟩
theorem inv_in {a : Addr} (I : Inv X pins σ H s) : Inv (X.suite a (X.pn ++ pins)) [] σ H s :=
  ⟨I.ok.suite _ _, I.os, I.bare, I.base, I.loc, I.cell, I.free, I.freeC, fun p hp => I.pin p (by rw [List.append_nil] at hp; exact hp), I.hok, I.len⟩
theorem inv_out {a : Addr} {more : List (Addr × Obj)} (I : Inv (X.suite a (X.pn ++ pins)) more σ H s) (ok : X.Ok) : Inv X pins σ H s :=
  ⟨ok, I.os, I.bare, I.base, I.loc, I.cell, I.free, I.freeC, fun p hp => I.pin p (List.mem_append_left _ hp), I.hok, I.len⟩
end
/-- what the clause wishes of an exception of the body; the suite sees it as a tracked object -/
def wAn (K : PySem.W.Frag) (c : Value) (i : Nat) (ts : TS) (Wo : WX) (D : Ends) : WX := fun cls d σ H =>
  ∃ b, PySem.W.exmOne K cls c = some b ∧ (b = true → ∀ a, H a = none → ts { nx := fun σ2 H2 => D.nx (σ2.set i none) H2, rt := D.rt, bk := fun σ2 H2 => D.bk (σ2.set i none) H2, ct := fun σ2 H2 => D.ct (σ2.set i none) H2 } (σ.set i (some (.ref a))) (upd H a (ExC cls d a))) ∧ (b = false → Wo cls d σ H)
section
variable {X : Cx} {x n : Str} {c : Value} {i : Nat} {body suite : List Stmt} {b1 : Stmt} {np pos pos2 : Pos} {tb : WX → TS} {ts : TS} {Wo : WX}
theorem ps_try_an (hst : X.stack = X.env :: X.outer) (hfr : X.env.frame = some X.env.locals) (hex : X.ex = []) (hN : X.N.Nodup) (hi : X.N[i]? = some n) (hln : X.env.kindOf n = some .local) (hc : Names X x c) (tk : Takes X Wo)
    (hb : ∀ (W : WX) (pn : List (Addr × Obj)) (xe : Value → Shared → Prop), Takes (X.tr pn xe) W → PassesOwn (model X.prog X.w) X.A X.env xe → PSs (X.tr pn xe) body (tb W))
    (hsu : ∀ (a : Addr) (pn : List (Addr × Obj)), PSs (X.suite a pn) (b1 :: suite) ts) : PS X (.Try body [.ExceptHandler (some (.Name x np)) (some n) (b1 :: suite) pos2] [] [] pos) (fun D σ H => tb (wAn X.K c i ts Wo D) D σ H) := by
  refine ⟨fun pins s σ H D I h => ?_⟩
  have okX := I.ok
  have frames : X.A.frames = some (X.env :: X.outer) := by rw [okX.frames, hst]
  have locn : Loc X.env.scope n := .inl hln
  refine wpAny_Try_except ?_
  refine wpAny_mono ((hb (wAn X.K c i ts Wo D) (X.pn ++ pins) (fun e s₁ => wpAny (model X.prog X.w) X.A (noteFrame e X.env) (fun _ s₂ => wpAny (model X.prog X.w) X.A (setFlight e none) (fun _ s₃ => wpAny (model X.prog X.w) X.A (handleBy e X.env [.ExceptHandler (some (.Name x np)) (some n) (b1 :: suite) pos2]) (SP X pins D) X.xe s₃) X.xe s₂) X.xe s₁) (fun u s' xx => ?_) PassesOwn.looking).run [] s σ H D (I.toTry _) h) (fun f s1 hsp => ?_) (fun e s1 he => he)
  · obtain ⟨a, B, sI, pins2, σ2, H2, cls, d, rfl, J2, nb, up, sky, na, os, ag, b, hm, yes, no⟩ := xx
    have J : Inv X pins σ2 H2 sI := J2.ofTry okX
    have sky2 : Sky B (X.env :: X.outer) a (Zc cls d) X.env.locals s'.heap := by rw [← hst]; exact sky
    show wpAny (model X.prog X.w) X.A (noteFrame (.ref a) X.env) _ _ _
    refine Sky.land Zc.steady frames hfr sky2 fun h3 fl3 up3 => ?_
    have J3 : Inv X pins σ2 H2 { s' with heap := h3 } := J.landed nb fl3.1 (up.trans up3) os ag
    obtain ⟨ob3, fv3, get3, z3, dat3⟩ := fl3.there
    have nfr : a ∉ frs (X.env :: X.outer) := fun m => by
      obtain ⟨_, o2, e2, nf⟩ := fl3.2.2.1.mem m
      rw [get3] at e2
      cases e2
      exact nf _ dat3
    have nL : a ≠ X.env.locals := fun z => nfr (List.mem_filterMap.mpr ⟨X.env, List.mem_cons_self, by rw [hfr, z]⟩)
    have gone : sI.heap.get? a = none := by
      cases e : sI.heap.get? a with
      | none => rfl
      | some o =>
        have z := nb a o e (by rw [hst]; exact nfr)
        rw [fl3.2.1] at z
        cases z
    have n0 : X.s_0.heap.get? a = none := by
      cases e : X.s_0.heap.get? a with
      | none => rfl
      | some o =>
        obtain ⟨o2, z⟩ := J.base.there a o e (by rw [hex]; exact fun y => nomatch y)
        rw [gone] at z
        cases z
    have npin : ∀ p ∈ X.pn ++ pins, p.1 ≠ a := fun p hp z => by
      have y := (J.pin p hp).1
      rw [z, gone] at y
      cases y
    have S3 := inv_in (a := a) J3
    refine wpAny_handleBy_cons (codeAny_handlers_test ?_) (by intro q; cases q)
    have LT : PySem.W.Looks (model X.prog X.w) h3 (typeOf (.ref a)) cls := fun A Q E s k q => wpAny_typeOf_ref (k _ _ get3) (by rw [z3.1]; exact q)
    have LM := PySem.W.exm_one (M := model X.prog X.w) J3.kIn LT hm
    have test : ∀ {Q : Value → Shared → Prop} {E : Value → Shared → Prop}, Q c { s' with heap := h3 } → wpAny (model X.prog X.w) (X.A.mark (some (.ref a))) (eval (.Name x np) X.env) Q E { s' with heap := h3 } := fun {Q E} q => by
      obtain ⟨hg, hdbg, hmg | ⟨hmg, hv, hnn⟩⟩ := hc
      · exact ld_glob (X := X.suite a (X.pn ++ pins)) S3 hg hmg q hdbg
      · exact ld_blt (X := X.suite a (X.pn ++ pins)) S3 hg hmg hv q hnn hdbg
    refine test (LM.here ?_)
    cases b with
    | true =>
      refine codeAny_handlers_suite_as (HandSPX.lands_againZ fl3 fun h4 fl4 up4 => ?_)
      have J4 : Inv X pins σ2 H2 { s' with heap := h4 } := J.landed nb fl4.1 ((up.trans up3).trans up4) os ag
      obtain ⟨ob4, fv4, get4, z4, dat4⟩ := fl4.there
      have S4 := inv_in (a := a) (inv_track (cls := cls) (d := d) J4 get4 z4 dat4 na n0 nL npin)
      refine store_ok (X := X.suite a (X.pn ++ pins)) (v := .ref a) S4 hN hi locn rfl (fun s5 S5 => ?_) (.inr hln)
      refine wpAny_mono ((hsu a (X.pn ++ pins)).run [] s5 _ _ _ S5 (yes rfl a na)) (fun f s6 hsp => ?_) (fun _ _ z => False.elim z)
      have fin : ∀ {σ6 : St} {H6 : Hp} {Q : Shared → Prop}, Inv (X.suite a (X.pn ++ pins)) [] σ6 H6 s6 → (∀ s7, Inv X pins (σ6.set i none) H6 s7 → Q s7) → wpAny (model X.prog X.w) X.A (do bindName X.env n .none; unbindBehindTheSuite X.env n pos2) (fun _ s7 => Q s7) X.xe s6 := fun {σ6 H6 Q} S6 hq => gone_ok (inv_out S6 okX) hN hi hln hq
      cases f with
      | ret u =>
        obtain ⟨v6, σ6, H6, S6, r6, q6⟩ := hsp
        exact fin S6 fun s7 J7 => ⟨_, _, _, J7, r6, q6⟩
      | _ =>
        obtain ⟨σ6, H6, S6, q6⟩ := hsp
        exact fin S6 fun s7 J7 => ⟨_, _, J7, q6⟩
    | false =>
      show wpAny _ X.A (handleBy (.ref a) X.env []) _ _ _
      refine wpAny_handleBy_nil ?_
      obtain ⟨k1, k2, k3, ob, fv, T, oT, ts2, he, hz, hd, h1, hr⟩ := id fl3
      unfold PySem.passOn
      refine wpAny_bind (wpAny_field he hd h1 ?_)
      rw [if_neg (show ¬ ((Value.ref T == Value.none) = true) from by simp)]
      have on : wpAny (model X.prog X.w) X.A (setFlight (.ref a) X.env.frame) (fun _ s4 => wpAny (model X.prog X.w) X.A (throw (.ref a) : Sem Flow) (SP X pins D) X.xe s4) X.xe { s' with heap := h3 } := by
        rw [hfr]
        refine HandSPX.setFlight_upZ fl3 fun h4 hh4 up4 => wpAny_throw (tk _ _ ?_)
        exact ⟨a, B, sI, pins, σ2, H2, cls, d, rfl, J, nb, (up.trans up3).trans up4, .inr (.inr (by rw [hst]; exact hh4)), na, os, ag, no rfl⟩
      first
        | exact wpAny_bind (wpAny_pure (wpAny_bind on))
        | exact wpAny_bind on
  · cases f with
    | next =>
      obtain ⟨σ2, H2, J2, q⟩ := hsp
      exact wpAny_execs_nil ⟨σ2, H2, J2.ofTry okX, q⟩
    | ret u =>
      obtain ⟨v, σ2, H2, J2, r, q⟩ := hsp
      exact ⟨v, σ2, H2, J2.ofTry okX, r, q⟩
    | _ =>
      obtain ⟨σ2, H2, J2, q⟩ := hsp
      exact ⟨σ2, H2, J2.ofTry okX, q⟩
end
end L2.D3

set_option maxHeartbeats 4000000
/-! Exceptions at the level of data. -/
namespace L2.D3
open PySem PySem.Spec PyProof.Rows
/-- what a reading wishes, as a wish of the layer below -/
def tSD (K : PySem.W.Frag) (W : WX) (d : DS) : TS := fun D σ H => ∃ E F ρ, EnvO K F σ H ρ ∧ d E ρ ∧ Meets K W F D E
theorem GSs.pss {X : Cx} {W : WX} {st : List Stmt} {d : DS} (h : GSs X W st d) : PSs X st (tSD X.K W d) := by
  obtain ⟨ts, a1, a2⟩ := h
  refine ⟨fun pins s σ H D I hw => ?_⟩
  obtain ⟨E, F, ρ, env, hd, m⟩ := hw
  exact a1.run pins s σ H D I (a2 D E F σ H ρ env hd m)
/-! raise -/
def dRaise (x : XD) : DS := fun E ρ => E.xr x ρ
/-- an own exception class without an __init__ of its own -/
structure ExF (K : PySem.W.Frag) (x : Str) : Prop where
  ex : PySem.W.excIn K (He.ga K x) He.veBase "ValueError.__new__" = true
  kp : PySem.W.keepIn K (.ref (He.ga K x)) = true
  sb : PySem.W.subIn K (.ref (He.ga K x)) (.type "BaseException") = some true
  ty : PySem.W.typeIn K (.ref (He.ga K x)) = some (.type "type")
section
variable {X : Cx} {W : WX}
theorem s_raise {x m : Str} {j : Nat} {p p2 pos pos2 : Pos} (hc : X.calm = true) (tk : Takes X W) (c : ExF X.K x) (gC : X.mg x = some (.ref (He.ga X.K x))) (hg : Gl X x := by rfl) (hdb : (x == ("__debug__" : Str)) = false := by decide) :
    GS X W (.Raise (some (.Call (.Name x p) [.Constant (.str m) j p2] [] pos)) none pos2) (dRaise ⟨x, []⟩) :=
  ⟨_, ps_raise hc tk (pmk_own PySem.F.excBase_ValueError c.ex gC c.kp (raises_own c.sb c.ty) hg hdb), fun D E F σ H ρ env h m => m.xr F σ H ρ ⟨x, []⟩ none (Same.refl F) env rfl h⟩
/-! calls that may raise -/
def noOw : Rho → Prop
  | [] => True
  | .ow _ :: _ => False
  | _ :: r => noOw r
theorem noOw_get : ∀ {ρ : Rho} {i : Nat} {ds : List Dt}, noOw ρ → getS ρ i ≠ .ow ds
  | [], i, ds, _ => fun h => nomatch h
  | a :: r, 0, ds, h => by cases a <;> first | exact h.elim | exact fun z => nomatch z
  | a :: r, i + 1, ds, h => by cases a <;> first | exact h.elim | exact noOw_get (ρ := r) (i := i) h
theorem EnvO.flat {K : PySem.W.Frag} {F H H' : Hp} {σ : St} {ρ : Rho} (e : EnvO K F σ H ρ) (n : noOw ρ) (s : Same H H') : EnvO K H' σ H' ρ :=
  ⟨Fz.refl H', e.len, fun i d h => by obtain ⟨v, a, b⟩ := e.pu i d h; exact ⟨v, a, b.up (e.fz.same.trans s)⟩, fun i A h => by obtain ⟨v, a, b⟩ := e.an i A h; exact ⟨v, a, A.up _ _ _ _ (e.fz.same.trans s) b⟩, fun i ds h => absurd h (noOw_get n), fun i j ds es a hij h => absurd h (noOw_get n)⟩
section
variable {f : Str} {k : Nat} {dsp : DSp} {e : Expr} {es : List Expr} {da : DA} {p pos : Pos}
def dSetX (i : Nat) (dsp : DSp) (da : DA) : DS := fun E ρ => noOw ρ ∧ da (allF ρ) fun ds => dsp ds (fun s => E.nx (setS ρ i (.pu s.dat))) (fun x => E.xr x ρ)
def dCallX (dsp : DSp) (da : DA) : DS := fun E ρ => noOw ρ ∧ da (allF ρ) fun ds => dsp ds (fun _ => E.nx ρ) (fun x => E.xr x ρ)
def dRetX (dsp : DSp) (da : DA) : DS := fun E ρ => noOw ρ ∧ da (allF ρ) fun ds => dsp ds (fun s => E.rt (.pu s.dat)) (fun x => E.xr x ρ)
/-- the call itself -/
theorem call_x (N : FN X.prog X.w X.K X.mg X.base f k dsp) (hr : Room k X.A) (tk : Takes X W) (ha : GA X (e :: es) da) (hg : Gl X f) (hdb : (f == ("__debug__" : Str)) = false) (he : starEach (e :: es) X.env = (false, eval e X.env) :: starEach es X.env) (hpl : (backTo pos (starEach es X.env)).any (·.1) = false) :
    ∃ te, PE X (.Call (.Name f p) (e :: es) [] pos) te ∧ ∀ (D : Ends) (E : DEnds) (F : Hp) (σ : St) (H : Hp) (ρ : Rho) (Ψ : Slot → Prop) (Q : VK), EnvO X.K F σ H ρ → Meets X.K W F D E → (noOw ρ ∧ da (allF ρ) fun ds => dsp ds Ψ (fun x => E.xr x ρ)) →
      (∀ v H' d, Same H H' → Dp X.K H' v d → (Ψ (.pu d) ∨ ∃ ds, d = .list ds ∧ Ψ (.ow ds)) → Q v H') → te σ H Q := by
  obtain ⟨fa, fd, ps, us0, dvs, sp, F1, hm, hk, hb, hd, hs⟩ := N
  obtain ⟨ta, a1, a2⟩ := ha
  refine ⟨_, pe_callSD (E := fun σ => WE W σ) F1 hr hg hm hk hb hd (fun σ => passAt tk σ) a1 hdb he hpl, fun D E F σ H ρ Ψ Q env m h q => ?_⟩
  obtain ⟨no, h⟩ := h
  refine a2 σ H (allF ρ) _ _ env.all h fun vs H1 ds s1 pd l h1 => hs _ _ _ _ ⟨ds, _, _, pd, h1, ⟨fun v d H2 s2 pv z => q v H2 d (s1.trans s2) pv (.inl z), fun a us ds2 H2 s2 n pv z => ?_⟩, fun x d H2 s2 hx z => ?_⟩
  · have s3 := same_new (o := .lst us) n
    exact q _ _ (.list ds2) (s1.trans (s2.trans s3)) (.lst (SqL.of upd_same) (pv.up s3)) (.inr ⟨ds2, rfl, z⟩)
  · exact m.xr H2 σ H2 ρ x d (env.fz.same.trans (s1.trans s2)) (env.flat no (s1.trans s2)) hx z
theorem s_callX (N : FN X.prog X.w X.K X.mg X.base f k dsp) (hr : Room k X.A) (tk : Takes X W) (ha : GA X (e :: es) da) {pos2 : Pos} (hg : Gl X f := by rfl) (hdb : (f == ("__debug__" : Str)) = false := by decide) (he : starEach (e :: es) X.env = (false, eval e X.env) :: starEach es X.env := by rfl) (hpl : (backTo pos (starEach es X.env)).any (·.1) = false := by rfl)
    (hs : swapsWith (.Call (.Name f p) (e :: es) [] pos) none pos2.line X.env = pure false := by rfl) : GS X W (.Expr (.Call (.Name f p) (e :: es) [] pos) pos2) (dCallX dsp da) := by
  obtain ⟨te, a1, a2⟩ := call_x (p := p) (pos := pos) N hr tk ha hg hdb he hpl
  refine ⟨_, ps_expr a1 hs, fun D E F σ H ρ env h m => a2 D E F σ H ρ _ _ env m h fun v H2 d s pv z => ?_⟩
  exact m.nx H2 σ H2 ρ (env.fz.same.trans s) (env.flat h.1 s) (by rcases z with z | ⟨_, _, z⟩ <;> exact z)
theorem s_setX {i : Nat} {x : Str} {pos2 pos3 : Pos} (hN : X.N.Nodup) (hi : X.N[i]? = some x) (N : FN X.prog X.w X.K X.mg X.base f k dsp) (hr : Room k X.A) (tk : Takes X W) (ha : GA X (e :: es) da) (hg : Gl X f := by rfl) (hdb : (f == ("__debug__" : Str)) = false := by decide) (he : starEach (e :: es) X.env = (false, eval e X.env) :: starEach es X.env := by rfl) (hpl : (backTo pos (starEach es X.env)).any (·.1) = false := by rfl)
    (hx : Loc X.env.scope x := by first | exact Or.inl rfl | exact Or.inr rfl) (hs : swapsWith (.Call (.Name f p) (e :: es) [] pos) (some (.Name x pos2)) pos3.line X.env = pure false := by rfl) (hf : X.fn x = true ∨ X.env.scope.names.lookup x = some .local := by first | exact .inl rfl | exact .inr rfl | assumption) :
    GS X W (.Assign [.Name x pos2] (.Call (.Name f p) (e :: es) [] pos) pos3) (dSetX i dsp da) := by
  obtain ⟨te, a1, a2⟩ := call_x (p := p) (pos := pos) N hr tk ha hg hdb he hpl
  refine ⟨_, ps_set hN hi hx a1 hs hf, fun D E F σ H ρ env h m => a2 D E F σ H ρ _ _ env m h fun v H2 d s pv z => ?_⟩
  refine m.nx H2 _ H2 _ (env.fz.same.trans s) ((env.flat h.1 s).putP i pv) ?_
  rcases z with z | ⟨_, rfl, z⟩ <;> exact z
theorem s_retX {pos2 : Pos} (N : FN X.prog X.w X.K X.mg X.base f k dsp) (hr : Room k X.A) (tk : Takes X W) (ha : GA X (e :: es) da) (hg : Gl X f := by rfl) (hdb : (f == ("__debug__" : Str)) = false := by decide) (he : starEach (e :: es) X.env = (false, eval e X.env) :: starEach es X.env := by rfl) (hpl : (backTo pos (starEach es X.env)).any (·.1) = false := by rfl) :
    GS X W (.Return (some (.Call (.Name f p) (e :: es) [] pos)) pos2) (dRetX dsp da) := by
  obtain ⟨te, a1, a2⟩ := call_x (p := p) (pos := pos) N hr tk ha hg hdb he hpl
  refine ⟨_, ps_ret a1, fun D E F σ H ρ env h m => a2 D E F σ H ρ _ _ env m h fun v H2 d s pv z => ?_⟩
  refine m.rt H2 H2 v d (env.fz.same.trans s) (Fz.refl H2) pv ?_
  rcases z with z | ⟨_, rfl, z⟩ <;> exact z
end
/-! try .. except C as n: .. -/
def noX : WX := fun _ _ _ _ => False
def dTry (tb : List (Str × Bool)) (i : Nat) (body suite : DS) : DS := fun E ρ => body { E with xr := fun x ρ2 => match tb.lookup x.cls with
  | some true => suite { nx := fun ρ3 => E.nx (setS ρ3 i .un), rt := E.rt, bk := fun ρ3 => E.bk (setS ρ3 i .un), ct := fun ρ3 => E.ct (setS ρ3 i .un), xr := fun _ _ => False } (setS ρ2 i (.an (exA x)))
  | some false => E.xr x ρ2
  | none => False } ρ
theorem EnvO.track {K : PySem.W.Frag} {F H : Hp} {σ : St} {ρ : Rho} {a : Addr} {o : HO} (e : EnvO K F σ H ρ) (na : H a = none) : F a = none ∧ EnvO K (upd F a o) σ (upd H a o) ρ := by
  have fn : F a = none := by
    cases q : F a with
    | none => rfl
    | some u => rw [e.fz.same a u q] at na; cases na
  have s := same_new (o := o) fn
  refine ⟨fn, ⟨fun b u q => ?_, fun b u q => ?_⟩, e.len, fun i d h => ?_, fun i A h => ?_, fun i ds h => ?_, e.ne⟩
  · by_cases c : b = a
    · rw [c, upd_same] at q ⊢; exact q
    · rw [upd_ne c] at q ⊢; exact e.fz.same b u q
  · by_cases c : b = a
    · rw [c, upd_same] at q ⊢; exact .inl q
    · rw [upd_ne c] at q ⊢; exact e.fz.drop b u q
  · obtain ⟨v, h1, h2⟩ := e.pu i d h; exact ⟨v, h1, h2.up s⟩
  · obtain ⟨v, h1, h2⟩ := e.an i A h; exact ⟨v, h1, A.up _ _ _ _ s h2⟩
  · obtain ⟨b, vs, h1, h2, h3, h4⟩ := e.ow i ds h
    have nb : b ≠ a := ne_of_none h2 na
    exact ⟨b, vs, h1, by rw [upd_ne nb]; exact h2, by rw [upd_ne nb]; exact h3, h4.up s⟩
theorem s_try {c n : Str} {i : Nat} {body suite : List Stmt} {b1 : Stmt} {np pos pos2 : Pos} {tb : List (Str × Bool)} {db dsu : DS} (hst : X.stack = X.env :: X.outer) (hfr : X.env.frame = some X.env.locals) (hex : X.ex = []) (hN : X.N.Nodup) (hi : X.N[i]? = some n) (hln : X.env.kindOf n = some .local) (tk : Takes X W) (gC : X.mg c = some (.ref (He.ga X.K c)))
    (htb : ∀ x b, tb.lookup x = some b → PySem.W.exmOne X.K (.ref (He.ga X.K x)) (.ref (He.ga X.K c)) = some b)
    (hb : ∀ (W2 : WX) (pn : List (Addr × Obj)) (xe : Value → Shared → Prop), Takes (X.tr pn xe) W2 → GSs (X.tr pn xe) W2 body db) (hsu : ∀ (a : Addr) (pn : List (Addr × Obj)), GSs (X.suite a pn) noX (b1 :: suite) dsu) (hg : Gl X c := by rfl) (hdb : (c == ("__debug__" : Str)) = false := by decide) :
    GS X W (.Try body [.ExceptHandler (some (.Name c np)) (some n) (b1 :: suite) pos2] [] [] pos) (dTry tb i db dsu) := by
  refine ⟨_, ps_try_an (tb := fun W2 => tSD X.K W2 db) (ts := tSD X.K noX dsu) hst hfr hex hN hi hln ⟨hg, hdb, .inl gC⟩ tk (fun W2 pn xe t _ => (hb W2 pn xe t).pss) (fun a pn => (hsu a pn).pss), fun D E F σ H ρ env h m => ?_⟩
  refine ⟨_, F, ρ, env, h, m.nx, m.bk, m.ct, m.rt, m.rtO, fun F2 σ2 H2 ρ2 x d s env2 hx hh => ?_⟩
  have hh2 : (match tb.lookup x.cls with
    | some true => dsu { nx := fun ρ3 => E.nx (setS ρ3 i .un), rt := E.rt, bk := fun ρ3 => E.bk (setS ρ3 i .un), ct := fun ρ3 => E.ct (setS ρ3 i .un), xr := fun _ _ => False } (setS ρ2 i (.an (exA x)))
    | some false => E.xr x ρ2
    | none => False) := hh
  cases q : tb.lookup x.cls with
  | none => rw [q] at hh2; exact hh2.elim
  | some b =>
    rw [q] at hh2
    refine ⟨b, htb _ _ q, fun e a na => ?_, fun e => ?_⟩
    · subst e
      obtain ⟨fn, env3⟩ := env2.track (o := ExC (.ref (He.ga X.K x.cls)) d a) na
      have s3 := same_new (o := ExC (.ref (He.ga X.K x.cls)) d a) fn
      have env4 := env3.putA i (v := .ref a) (A := exA x) ⟨a, rfl, d, upd_same, hx.up s3⟩
      have up : ∀ {F3 : Hp}, Same (upd F2 a (ExC (.ref (He.ga X.K x.cls)) d a)) F3 → Same F F3 := fun {F3} s4 => s.trans (s3.trans s4)
      refine ⟨_, _, _, env4, hh2, ⟨fun F3 σ3 H3 ρ3 s4 e3 k => m.nx F3 _ H3 _ (up s4) (e3.putU i) k, fun F3 σ3 H3 ρ3 s4 e3 k => m.bk F3 _ H3 _ (up s4) (e3.putU i) k, fun F3 σ3 H3 ρ3 s4 e3 k => m.ct F3 _ H3 _ (up s4) (e3.putU i) k, fun F3 H3 v d3 s4 => m.rt F3 H3 v d3 (up s4), fun F3 H3 b vs ds s4 => m.rtO F3 H3 b vs ds (up s4), fun F3 σ3 H3 ρ3 x3 d3 s4 e3 hx3 k => k⟩⟩
    · subst e
      exact m.xr F2 σ2 H2 ρ2 x d s env2 hx hh2
end
theorem takes_noX {X : Cx} : Takes X noX := fun u s' ⟨_, _, _, _, _, _, _, _, _, _, _, _, _, _, _, _, z⟩ => z.elim
end L2.D3

set_option maxHeartbeats 4000000
/-! isinstance of a caught exception. -/
namespace L2.D3
open PySem PySem.Spec PyProof.Rows
/-- what an exception's class must say, so that isinstance asks it rightly -/
structure XiF (K : PySem.W.Frag) (C : Addr) : Prop where
  cl : (PySem.W.clsIn K C).isSome = true
  ga : PySem.W.findIn K (.ref C) "__getattribute__" = some (some (.builtin "BaseException.__getattribute__"))
  gt : PySem.W.findIn K (.ref C) "__getattr__" = some none
  sb : PySem.W.subIn K (.ref C) (.type "BaseException") = some true
  hc : PySem.W.findIn K (.ref C) "__class__" = some (some (.builtin "object.__class__"))
  hs : PySem.W.specialIn K (.builtin "object.__class__") "__get__" = some (some (.builtin "getset_descriptor.__get__"))
  ht : PySem.W.takesIn K (.builtin "object.__class__") = some true
  hm : PySem.W.mroIn K C (.type "object") = some true
def xiB (K : PySem.W.Frag) (C : Addr) : Bool := (PySem.W.clsIn K C).isSome && (He.eqO (PySem.W.findIn K (.ref C) "__getattribute__") (some (some (.builtin "BaseException.__getattribute__"))) && (He.eqO (PySem.W.findIn K (.ref C) "__getattr__") (some none) && (decide (PySem.W.subIn K (.ref C) (.type "BaseException") = some true) &&
  (He.eqO (PySem.W.findIn K (.ref C) "__class__") (some (some (.builtin "object.__class__"))) && (He.eqO (PySem.W.specialIn K (.builtin "object.__class__") "__get__") (some (some (.builtin "getset_descriptor.__get__"))) && (decide (PySem.W.takesIn K (.builtin "object.__class__") = some true) && decide (PySem.W.mroIn K C (.type "object") = some true)))))))
theorem xiB_ok {K : PySem.W.Frag} {C : Addr} (h : xiB K C = true) : XiF K C := by
  obtain ⟨h1, h⟩ := He.ba h
  obtain ⟨h2, h⟩ := He.ba h
  obtain ⟨h3, h⟩ := He.ba h
  obtain ⟨h4, h⟩ := He.ba h
  obtain ⟨h5, h⟩ := He.ba h
  obtain ⟨h6, h⟩ := He.ba h
  obtain ⟨h7, h8⟩ := He.ba h
  exact ⟨h1, He.eqO_ok h2, He.eqO_ok h3, of_decide_eq_true h4, He.eqO_ok h5, He.eqO_ok h6, of_decide_eq_true h7, of_decide_eq_true h8⟩
/-- an exception as isinstance meets it -/
def DictOk (H : Hp) (d : Option Addr) : Prop := d = none ∨ ∃ dd fs, d = some dd ∧ H dd = some (.xd fs)
theorem XAt.dict {K : PySem.W.Frag} {H : Hp} {x : XD} {d : Option Addr} (h : XAt K H x d) : DictOk H d := by
  unfold XAt at h
  cases e : x.fs with
  | nil => rw [e] at h; exact .inl h
  | cons f fs =>
    rw [e] at h
    obtain ⟨a, vs, h1, h2, _⟩ := h
    exact .inr ⟨a, _, h1, h2⟩
theorem inst_of {X : Cx} {pins : List (Addr × Obj)} {σ : St} {H : Hp} {s : Shared} {a C : Addr} {d : Option Addr} (I : Inv X pins σ H s) (ha : H a = some (ExC (.ref C) d a)) (hd : DictOk H d) : ∃ ob od, PySem.W.InstAt s.heap a ob C od := by
  obtain ⟨⟨ob, fv, e, z, q⟩, _, _⟩ := I.hok a _ ha
  have no : PySem.W.notCls ob = true := by unfold PySem.W.notCls; rw [q] <;> rfl
  rcases hd with hd | ⟨dd, fs, hd, hx⟩
  · exact ⟨ob, none, e, z.1, no, by rw [z.2, hd]; exact trivial⟩
  · obtain ⟨od, e2⟩ := objOk_get (I.hok dd _ hx)
    exact ⟨ob, some od, e, z.1, no, by rw [z.2, hd]; exact e2⟩
def rIsX (K : PySem.W.Frag) : List V → Hp → VK → Prop := fun xs H Q => ∃ (a C : Addr) (d : Option Addr) (c : V) (cv : Value) (b : Bool), xs = [.ref a, c] ∧ H a = some (ExC (.ref C) d a) ∧ DictOk H d ∧ XiF K C ∧ ClsV c cv ∧ PySem.W.kitAny K (.ref C) [cv] = some b ∧ Q (.bl b) H
def rIsXT (K : PySem.W.Frag) : List V → Hp → VK → Prop := fun xs H Q => ∃ (a C tp : Addr) (d : Option Addr) (cs : List V) (us : List Value) (b : Bool), xs = [.ref a, .ref tp] ∧ H a = some (ExC (.ref C) d a) ∧ DictOk H d ∧ XiF K C ∧ H tp = some (.tup cs) ∧ Paired ClsV cs us ∧ PySem.W.kitAny K (.ref C) us = some b ∧ Q (.bl b) H
theorem kit_single {K : PySem.W.Frag} {t c : Value} {b : Bool} (h : PySem.W.kitAny K t [c] = some b) : PySem.W.kitOne K t c = some b := by
  unfold PySem.W.kitAny at h
  cases e : PySem.W.kitOne K t c with
  | none => rw [e] at h; cases h
  | some y =>
    rw [e] at h
    cases y with
    | true => exact h
    | false => exact h
section
variable {X : Cx}
theorem call_isX : CallR X (.builtin "isinstance") (rIsX X.K) := by
  intro pins s σ H xs us Q I r h
  obtain ⟨a, C, d, c, cv, b, rfl, ha, hd, F, k, e, q⟩ := h
  obtain ⟨u1, u2, rfl, r1, r2⟩ := vals2 r
  have e2 := k.eq r2
  subst e2
  cases (show u1 = Value.ref a from r1)
  obtain ⟨ob, od, J⟩ := inst_of I ha hd
  exact PySem.W.kia_one (PySem.W.kitx_exc F.cl F.ga F.gt F.sb F.hc F.hs F.ht F.hm) I.kIn J (kit_single e) (fun z => nomatch z) fun tk => ⟨.bl b, H, I.tok tk, rfl, q⟩
theorem call_isXT : CallR X (.builtin "isinstance") (rIsXT X.K) := by
  intro pins s σ H xs us Q I r h
  obtain ⟨a, C, tp, d, cs, ws, b, rfl, ha, hd, F, hT, k, e, q⟩ := h
  obtain ⟨u1, u2, rfl, r1, r2⟩ := vals2 r
  cases (show u1 = Value.ref a from r1)
  cases (show u2 = Value.ref tp from r2)
  obtain ⟨ob, od, J⟩ := inst_of I ha hd
  obtain ⟨_, its, rv, o, h1, h2, n, h3⟩ := (show ObjOk X.prog X.w H s.heap tp (.tup cs) from I.hok tp _ hT)
  have e3 := ClsV.all k rv
  subst e3
  obtain ⟨oc, odd, dt, sl⟩ := o
  simp only at h2 h3
  subst h2 h3
  exact PySem.W.kia_tup (PySem.W.kitx_exc F.cl F.ga F.gt F.sb F.hc F.hs F.ht F.hm) I.kIn J h1 e (fun z => nomatch z) fun tk => ⟨.bl b, H, I.tok tk, rfl, q⟩
end
/-- what is asked for: an own class, a built-in one -/
inductive Tg where
  | own (x : Str)
  | ty (T : String)
def Tg.v (K : PySem.W.Frag) : Tg → V
  | .own x => .ref (He.ga K x)
  | .ty T => .ty T
def Tg.u (K : PySem.W.Frag) : Tg → Value
  | .own x => .ref (He.ga K x)
  | .ty T => .type T
theorem Tg.cls (K : PySem.W.Frag) : ∀ g : Tg, ClsV (g.v K) (g.u K)
  | .own x => .own _
  | .ty T => .ty T
theorem Tg.clss (K : PySem.W.Frag) : ∀ gs : List Tg, Paired ClsV (gs.map (Tg.v K)) (gs.map (Tg.u K))
  | [] => .nil
  | g :: gs => .cons (Tg.cls K g) (Tg.clss K gs)
/-- the table tb tells of each exception class whether it is one of these -/
def IsT (K : PySem.W.Frag) (tb : List (Str × Bool)) (gs : List Tg) : Prop := ∀ x b, tb.lookup x = some b → XiF K (He.ga K x) ∧ PySem.W.kitAny K (.ref (He.ga K x)) (gs.map (Tg.u K)) = some b
def isB (K : PySem.W.Frag) (tb : List (Str × Bool)) (gs : List Tg) : Bool := tb.all fun p => xiB K (He.ga K p.1) && decide (PySem.W.kitAny K (.ref (He.ga K p.1)) (gs.map (Tg.u K)) = some p.2)
theorem lookup_mem {tb : List (Str × Bool)} {x : Str} {b : Bool} (h : tb.lookup x = some b) : (x, b) ∈ tb := by
  induction tb with
  | nil => cases h
  | cons p r ih =>
    obtain ⟨y, c⟩ := p
    rw [List.lookup_cons] at h
    by_cases e : (x == y) = true
    · rw [e] at h
      have e2 : x = y := beq_iff_eq.mp e
      cases h
      rw [e2]
      exact List.mem_cons_self
    · have e2 : (x == y) = false := by simpa using e
      rw [e2] at h
      exact List.mem_cons_of_mem _ (ih h)
theorem isT_of {K : PySem.W.Frag} {tb : List (Str × Bool)} {gs : List Tg} (h : isB K tb gs = true) : IsT K tb gs := fun x b q => by
  have z := List.all_eq_true.mp h (x, b) (lookup_mem q)
  obtain ⟨z1, z2⟩ := He.ba z
  exact ⟨xiB_ok z1, of_decide_eq_true z2⟩
def TryT (K : PySem.W.Frag) (tb : List (Str × Bool)) (c : Str) : Prop := ∀ x b, tb.lookup x = some b → PySem.W.exmOne K (.ref (He.ga K x)) (.ref (He.ga K c)) = some b
def tryB (K : PySem.W.Frag) (tb : List (Str × Bool)) (c : Str) : Bool := tb.all fun p => decide (PySem.W.exmOne K (.ref (He.ga K p.1)) (.ref (He.ga K c)) = some p.2)
theorem tryT_of {K : PySem.W.Frag} {tb : List (Str × Bool)} {c : Str} (h : tryB K tb c = true) : TryT K tb c := fun x b q => of_decide_eq_true (List.all_eq_true.mp h (x, b) (lookup_mem q))
theorem exF_of {K : PySem.W.Frag} {x : Str} (c : (He.Fa.exc x).ok K = true) : ExF K x := by
  obtain ⟨a, b, c, d⟩ := He.exc_ok c
  exact ⟨a, b, c, d⟩
def dIsX (i : Nat) (tb : List (Str × Bool)) : DE := fun φ Φ => ∃ x b, getA φ i = some (exA x) ∧ tb.lookup x.cls = some b ∧ Φ (.bool b)
def tVs (vs : List V) : TA := fun _ H Q => Q vs H
section
variable {X : Cx}
theorem pc_nil : PA X [] (tVs []) := pa_nil
theorem pc_own {c : Str} {p : Pos} {es : List Expr} {vs : List V} (gC : X.mg c = some (.ref (He.ga X.K c))) (h : PA X es (tVs vs)) (hg : Gl X c := by rfl) (hdb : (c == ("__debug__" : Str)) = false := by decide) (hs : starEach (.Name c p :: es) X.env = (false, eval (.Name c p) X.env) :: starEach es X.env := by rfl) : PA X (.Name c p :: es) (tVs (.ref (He.ga X.K c) :: vs)) :=
  pa_cons (pe_glob (v := .ref (He.ga X.K c)) hg gC rfl hdb) h hs
theorem an_ex {K : PySem.W.Frag} {σ : St} {H : Hp} {φ : Fro} {i : Nat} {x : XD} (env : EnvF K σ H φ) (h : getA φ i = some (exA x)) : ∃ a d, σ[i]? = some (some (.ref a)) ∧ H a = some (ExC (.ref (He.ga K x.cls)) d a) ∧ DictOk H d := by
  obtain ⟨v, h1, a, rfl, d, h2, h3⟩ := env.an i (exA x) h
  exact ⟨a, d, h1, h2, h3.dict⟩
/-- isinstance(y, C), C an own class -/
theorem g_isX {i : Nat} {y c : Str} {tb : List (Str × Bool)} {p py pc pos : Pos} (hm : X.mg "isinstance" = none) (gC : X.mg c = some (.ref (He.ga X.K c))) (t : IsT X.K tb [.own c]) (hN : X.N[i]? = some y := by rfl) (hvs : Vis X.env.scope y := by first | exact Or.inl rfl | exact Or.inr (Or.inl rfl) | exact Or.inr (Or.inr rfl)) (hdy : (y == ("__debug__" : Str)) = false := by decide) (hcy : (y == ("__classdict__" : Str)) = false := by decide)
    (hg : Gl X "isinstance" := by rfl) (hgc : Gl X c := by rfl) (hdc : (c == ("__debug__" : Str)) = false := by decide) (hv : bootBuiltins "isinstance" = some (.builtin "isinstance") := by decide +kernel) (hs : starEach [.Name y py, .Name c pc] X.env = (false, eval (.Name y py) X.env) :: starEach [.Name c pc] X.env := by rfl) (hs2 : starEach [.Name c pc] X.env = (false, eval (.Name c pc) X.env) :: starEach [] X.env := by rfl) (hpl : (backTo pos (starEach [.Name c pc] X.env)).any (·.1) = false := by rfl) :
    GE X (.Call (.Name "isinstance" p) [.Name y py, .Name c pc] [] pos) (dIsX i tb) := by
  refine ⟨_, pe_callB call_isX hg hm hv (pa_cons (pe_var (i := i) hN hvs hdy hcy) (pa_cons (pe_glob (v := .ref (He.ga X.K c)) hgc gC rfl hdc) pa_nil hs2) hs) (by decide) (by decide) hs hpl, fun σ H φ Φ Q env h q => ?_⟩
  obtain ⟨x, b, h1, h2, h3⟩ := h
  obtain ⟨a, d, e1, e2, e3⟩ := an_ex env h1
  obtain ⟨f, k⟩ := t x.cls b h2
  exact ⟨_, e1, a, _, d, _, _, b, rfl, e2, e3, f, .own _, k, q _ H _ (Same.refl H) (.bl b) h3⟩
/-- .. a built-in one -/
theorem g_isXB {i : Nat} {y c : Str} {T : String} {tb : List (Str × Bool)} {p py pc pos : Pos} (hm : X.mg "isinstance" = none) (hmc : X.mg c = none) (hvc : bootBuiltins c = some (.type T)) (t : IsT X.K tb [.ty T]) (hN : X.N[i]? = some y := by rfl) (hvs : Vis X.env.scope y := by first | exact Or.inl rfl | exact Or.inr (Or.inl rfl) | exact Or.inr (Or.inr rfl)) (hdy : (y == ("__debug__" : Str)) = false := by decide) (hcy : (y == ("__classdict__" : Str)) = false := by decide)
    (hg : Gl X "isinstance" := by rfl) (hgc : Gl X c := by rfl) (hnc : c ≠ "__name__" := by decide) (hdc : (c == ("__debug__" : Str)) = false := by decide) (hv : bootBuiltins "isinstance" = some (.builtin "isinstance") := by decide +kernel) (hs : starEach [.Name y py, .Name c pc] X.env = (false, eval (.Name y py) X.env) :: starEach [.Name c pc] X.env := by rfl) (hs2 : starEach [.Name c pc] X.env = (false, eval (.Name c pc) X.env) :: starEach [] X.env := by rfl) (hpl : (backTo pos (starEach [.Name c pc] X.env)).any (·.1) = false := by rfl) :
    GE X (.Call (.Name "isinstance" p) [.Name y py, .Name c pc] [] pos) (dIsX i tb) := by
  refine ⟨_, pe_callB call_isX hg hm hv (pa_cons (pe_var (i := i) hN hvs hdy hcy) (pa_cons (pe_bltn (v := .ty T) hgc hmc hvc rfl hnc hdc) pa_nil hs2) hs) (by decide) (by decide) hs hpl, fun σ H φ Φ Q env h q => ?_⟩
  obtain ⟨x, b, h1, h2, h3⟩ := h
  obtain ⟨a, d, e1, e2, e3⟩ := an_ex env h1
  obtain ⟨f, k⟩ := t x.cls b h2
  exact ⟨_, e1, a, _, d, _, _, b, rfl, e2, e3, f, .ty T, k, q _ H _ (Same.refl H) (.bl b) h3⟩
/-- isinstance(y, (C1, C2, ..)), own classes -/
theorem g_isXT {i : Nat} {y : Str} {cs : List Str} {es : List Expr} {tb : List (Str × Bool)} {x1} {p py pt pos : Pos} (hm : X.mg "isinstance" = none) (t : IsT X.K tb (cs.map .own)) (hes : PA X es (tVs ((cs.map Tg.own).map (Tg.v X.K)))) (hl : cs.length ≤ 1000 := by decide) (hN : X.N[i]? = some y := by rfl) (hvs : Vis X.env.scope y := by first | exact Or.inl rfl | exact Or.inr (Or.inl rfl) | exact Or.inr (Or.inr rfl)) (hdy : (y == ("__debug__" : Str)) = false := by decide) (hcy : (y == ("__classdict__" : Str)) = false := by decide)
    (hg : Gl X "isinstance" := by rfl) (hv : bootBuiltins "isinstance" = some (.builtin "isinstance") := by decide +kernel) (hs : starEach [.Name y py, .Tuple es x1 pt] X.env = (false, eval (.Name y py) X.env) :: starEach [.Tuple es x1 pt] X.env := by rfl) (hs2 : starEach [.Tuple es x1 pt] X.env = (false, eval (.Tuple es x1 pt) X.env) :: starEach [] X.env := by rfl) (hpl : (backTo pos (starEach [.Tuple es x1 pt] X.env)).any (·.1) = false := by rfl) :
    GE X (.Call (.Name "isinstance" p) [.Name y py, .Tuple es x1 pt] [] pos) (dIsX i tb) := by
  refine ⟨_, pe_callB call_isXT hg hm hv (pa_cons (pe_var (i := i) hN hvs hdy hcy) (pa_cons (pe_tup hes) pa_nil hs2) hs) (by decide) (by decide) hs hpl, fun σ H φ Φ Q env h q => ?_⟩
  obtain ⟨x, b, h1, h2, h3⟩ := h
  obtain ⟨a, d, e1, e2, e3⟩ := an_ex env h1
  obtain ⟨f, k⟩ := t x.cls b h2
  have hz : (1000 : Nat) ≤ sizeLine := by decide
  refine ⟨_, e1, by rw [List.length_map, List.length_map]; omega, fun tp ht => ?_⟩
  have s1 := same_new (o := .tup ((cs.map Tg.own).map (Tg.v X.K))) ht
  refine ⟨a, _, tp, d, _, _, b, rfl, s1 _ _ e2, ?_, f, upd_same, Tg.clss X.K _, k, q _ _ _ s1 (.bl b) h3⟩
  rcases e3 with e3 | ⟨dd, fs, e3, e4⟩
  · exact .inl e3
  · exact .inr ⟨dd, fs, e3, s1 _ _ e4⟩
/-! y = x, of what is no datum -/
def dCpy (i j : Nat) : DS := fun E ρ => match getS ρ j with
  | .an A => E.nx (setS ρ i (.an A))
  | _ => False
theorem s_cpy {W : WX} {i j : Nat} {x y : Str} {p1 p2 pos : Pos} (hN : X.N.Nodup) (hi : X.N[i]? = some x) (hj : X.N[j]? = some y := by rfl) (hvs : Vis X.env.scope y := by first | exact Or.inl rfl | exact Or.inr (Or.inl rfl) | exact Or.inr (Or.inr rfl)) (hdy : (y == ("__debug__" : Str)) = false := by decide) (hcy : (y == ("__classdict__" : Str)) = false := by decide)
    (hx : Loc X.env.scope x := by first | exact Or.inl rfl | exact Or.inr rfl) (hs : swapsWith (.Name y p2) (some (.Name x p1)) pos.line X.env = pure false := by rfl) (hf : X.fn x = true ∨ X.env.scope.names.lookup x = some .local := by first | exact .inl rfl | exact .inr rfl | assumption) :
    GS X W (.Assign [.Name x p1] (.Name y p2) pos) (dCpy i j) := by
  refine ⟨_, ps_set hN hi hx (pe_var (i := j) hj hvs hdy hcy) hs hf, fun D E F σ H ρ env h m => ?_⟩
  unfold dCpy at h
  cases e : getS ρ j with
  | an A =>
    rw [e] at h
    obtain ⟨v, h1, h2⟩ := env.an j A e
    exact ⟨v, h1, m.nx F _ H _ (Same.refl F) (env.putA i h2) h⟩
  | _ => rw [e] at h; exact h.elim
end
end L2.D3

set_option maxHeartbeats 4000000
/-! Pools (lists of one number that defs change), the empty dict, .. -/
namespace L2.D3
open PySem PySem.Spec PyProof.Rows
def plainO : HO → Bool
  | .lst _ => true
  | .dK _ => true
  | .dT _ => true
  | .ext _ => true
  | _ => false
section
variable {X : Cx} {pins : List (Addr × Obj)} {σ : St} {H : Hp} {s : Shared}
/-- another description of an object -/
theorem Inv.swap {a : Addr} {o o' : HO} (I : Inv X pins σ H s) (ha : H a = some o) (hp : plainO o = true) (new : ObjOk X.prog X.w (upd H a o') s.heap a o') : Inv X pins σ (upd H a o') s := by
  have ne : ∀ {b : Addr} {u : HO}, H b = some u → plainO u = false → b ≠ a := fun {b u} e n z => by
    rw [z, ha] at e
    cases e
    rw [hp] at n
    cases n
  have no : ∀ {b : Addr}, H b = none → b ≠ a := fun {b} e z => by rw [z, ha] at e; cases e
  refine ⟨I.ok, I.os, I.bare, ⟨I.base.keep, I.base.slot, fun b u e n hx => ?_, I.base.there, fun b xs q => ?_, fun b u v q => ?_, fun b ps q => ?_⟩, I.loc, I.cell, ?_, fun x c e => ?_, fun p hp => ?_, fun b u e => ?_, I.len⟩
  · have z := I.base.free b u e n hx
    rw [upd_ne (no z)]; exact z
  · have z := I.base.tups b xs q
    rw [upd_ne (ne z rfl)]; exact z
  · have z := I.base.frzs b u v q
    rw [upd_ne (ne z rfl)]; exact z
  · obtain ⟨m, z⟩ := I.base.tbls b ps q
    exact ⟨m, by rw [upd_ne (ne z rfl)]; exact z⟩
  · rw [upd_ne (no I.free)]; exact I.free
  · have z := I.freeC x c e
    rw [upd_ne (no z)]; exact z
  · obtain ⟨p1, p2, p3⟩ := I.pin p hp
    exact ⟨p1, by rw [upd_ne (no p2)]; exact p2, p3⟩
  · by_cases c : b = a
    · subst c
      rw [upd_same] at e
      cases e
      exact new
    · rw [upd_ne c] at e
      exact (I.hok b u e).stay (fun _ _ _ q => q) (fun d q => by rw [upd_ne (ne q rfl)]; exact q) fun d xs q => by rw [upd_ne (ne q rfl)]; exact q
theorem upd_back {a : Addr} {o : HO} (h : H a = some o) : upd H a o = H := by
  funext b
  by_cases c : b = a
  · rw [c, upd_same, h]
  · rw [upd_ne c]
theorem pool_ok {P : Program} {w : World} {h : Heap} {a : Addr} {n c : Nat} {t : Tok} (e : h.get? a = some { cls := .type "list", data := .seq #[.int (n : Int) t] c }) : ObjOk P w H h a (PoolO a) :=
  ⟨⟨n, c, t, e⟩, ⟨_, e⟩, fun _ _ ⟨m, c', t', q⟩ k => ⟨m, c', t', k _ q⟩⟩
/-- a pool as a list -/
theorem Inv.unpool {a : Addr} (I : Inv X pins σ H s) (ha : H a = some (PoolO a)) : ∃ n : Nat, Inv X pins σ (upd H a (.lst [.int n])) s := by
  obtain ⟨⟨n, c, t, e⟩, _, _⟩ := I.hok a _ ha
  exact ⟨n, Inv.swap I ha rfl ⟨by show 1 ≤ sizeLine; decide, [.int n t], c, .cons ⟨t, rfl⟩ .nil, e⟩⟩
theorem Inv.pool {a : Addr} {n : Nat} (I : Inv X pins σ H s) (ha : H a = some (.lst [.int n])) : Inv X pins σ (upd H a (PoolO a)) s := by
  obtain ⟨_, its, c, r, e⟩ := I.hok a _ ha
  cases r with
  | cons r1 r2 =>
    cases r2
    obtain ⟨t, rfl⟩ := r1
    exact Inv.swap I ha rfl (pool_ok (n := n) (c := c) (t := t) e)
end
section
variable {X : Cx}
def rIxP : R2 := fun x y H Q => ∃ a, x = .ref a ∧ y = .int 0 ∧ H a = some (PoolO a) ∧ ∀ n : Nat, Q (.int n) H
theorem ix_pool : IxR X rIxP := by
  intro a b pins s σ H x y v u Q I rx ry h e
  obtain ⟨p, rfl, rfl, hp, q⟩ := h
  obtain ⟨n, J⟩ := Inv.unpool I hp
  refine thn (ix_list a b pins s σ (upd H p (.lst [.int n])) (.ref p) (.int 0) v u (fun w H' => w = .int n ∧ H' = upd H p (.lst [.int n])) J rx ry ⟨p, [.int n], 0, .int n, rfl, rfl, SqL.of upd_same, rfl, rfl, rfl⟩ e) fun w s1 hw => ?_
  obtain ⟨y2, H2, J2, r2, rfl, rfl⟩ := hw
  have J3 := Inv.pool (n := n) J2 upd_same
  rw [upd_upd, upd_back hp] at J3
  exact ⟨_, H, J3, r2, q n⟩
def rSetP : TSet := fun o i v H Q => ∃ (a : Addr) (n : Nat), o = .ref a ∧ i = .int 0 ∧ v = .int n ∧ H a = some (PoolO a) ∧ Q H
theorem set_pool : PSet X rSetP := by
  intro pins s σ H o i v ov iv u Q I ro ri rv h
  obtain ⟨p, m, rfl, rfl, rfl, hp, q⟩ := h
  obtain ⟨n, J⟩ := Inv.unpool I hp
  refine thn (set_list pins s σ (upd H p (.lst [.int n])) (.ref p) (.int 0) (.int m) ov iv u (fun H' => H' = upd H p (.lst [.int m])) J ro ri rv ⟨p, [.int n], 0, 0, rfl, rfl, upd_same, rfl, by rw [upd_upd]; rfl⟩) fun _ s1 hw => ?_
  obtain ⟨H2, J2, rfl⟩ := hw
  have J3 := Inv.pool (n := m) J2 upd_same
  rw [upd_upd, upd_back hp] at J3
  exact ⟨H, J3, q⟩
/-- pool[0] -/
def dPool (i : Nat) : DE := fun φ Φ => getF φ i = some poolD ∧ ∀ n : Nat, Φ (.int n)
theorem g_pool {i : Nat} {x : Str} {p p2 pos : Pos} {j : Nat} (hN : X.N[i]? = some x := by rfl) (hv : Vis X.env.scope x := by first | exact Or.inl rfl | exact Or.inr (Or.inl rfl) | exact Or.inr (Or.inr rfl)) (hd : (x == ("__debug__" : Str)) = false := by decide)
    (hcd : (x == ("__classdict__" : Str)) = false := by decide) (hs : PlainIx (.Constant (.int 0) j p2) := by exact fun _ _ => rfl) : GE X (.Subscript (.Name x p) (.Constant (.int 0) j p2) pos) (dPool i) := by
  refine ⟨_, pe_ix ix_pool (pe_var (i := i) hN hv hd hcd) pe_int hs, fun σ H φ Φ Q env h q => ?_⟩
  obtain ⟨v, e1, e2⟩ := env.at_ i poolD h.1
  cases e2 with
  | pool e => exact ⟨_, e1, _, rfl, rfl, e, fun n => q _ H _ (Same.refl H) (.int n) (h.2 n)⟩
/-- pool[0] = .. -/
def dgPool (i : Nat) : DG := fun d ρ Ψ => (∃ n : Nat, d = .int n) ∧ getS ρ i = .pu poolD ∧ Ψ ρ
theorem gg_pool (i : Nat) {x : Str} {p p2 pos : Pos} {j : Nat} (hN : X.N[i]? = some x := by rfl) (hv : Vis X.env.scope x := by first | exact Or.inl rfl | exact Or.inr (Or.inl rfl) | exact Or.inr (Or.inr rfl)) (hd : (x == ("__debug__" : Str)) = false := by decide)
    (hcd : (x == ("__classdict__" : Str)) = false := by decide) : GG X (.Subscript (.Name x p) (.Constant (.int 0) j p2) pos) (dgPool i) := by
  refine ⟨_, pg_sub (pe_var (i := i) hN hv hd hcd) pe_int set_pool, fun v d F σ H ρ Ψ Q env pv h q => ?_⟩
  obtain ⟨⟨n, rfl⟩, h1, h2⟩ := h
  cases pv
  obtain ⟨w, e1, e2⟩ := env.pu i poolD h1
  cases e2 with
  | pool e => exact ⟨_, e1, _, n, rfl, rfl, rfl, env.fz.same _ _ e, q σ ρ env h2⟩
/-- [n], to be a pool -/
def dPoolMk (de : DE) : DE := fun φ Φ => de φ fun d => (∃ n : Nat, d = .int n) ∧ Φ poolD
theorem g_poolMk {e : Expr} {de : DE} {pos : Pos} (he : GE X e de) (hs : starEach [e] X.env = (false, eval e X.env) :: starEach [] X.env := by rfl) : GE X (.List [e] pos) (dPoolMk de) := by
  obtain ⟨te, a1, a2⟩ := he
  obtain ⟨T, hT, hS⟩ : ∃ T, PE X (.List [e] pos) T ∧ ∀ σ H φ (Φ : Prop) (Q : VK), EnvF X.K σ H φ → de φ (fun d => (∃ n : Nat, d = .int n) ∧ Φ) → (∀ p H1 (n : Nat), Same H H1 → H1 p = none → Φ → Q (.ref p) (upd H1 p (.lst [.int n]))) → T σ H Q := by
    refine ⟨_, pe_lst (pa_cons a1 pa_nil hs), fun σ H φ Φ Q env h q => a2 σ H φ _ _ env h fun v H1 d s1 pv hd => ?_⟩
    obtain ⟨⟨n, rfl⟩, h2⟩ := hd
    cases pv
    exact ⟨by show 1 ≤ sizeLine; decide, fun p hp => q p H1 n s1 hp h2⟩
  refine ⟨fun σ H Q => T σ H (fun v H2 => ∃ (p : Addr) (n : Nat), v = .ref p ∧ H2 p = some (.lst [.int n]) ∧ Q (.ref p) (upd H2 p (PoolO p))), ⟨fun pins s σ H Q I h => ?_⟩, fun σ H φ Φ Q env h q => ?_⟩
  · refine thn (hT.run pins s σ H _ I h) fun u s1 hw => ?_
    obtain ⟨v, H2, J, r, p, n, rfl, hp, hq⟩ := hw
    exact ⟨_, _, Inv.pool J hp, r, hq⟩
  · refine hS σ H φ (Φ poolD) _ env h fun p H1 n s1 hp hΦ => ⟨p, n, rfl, upd_same, ?_⟩
    rw [upd_upd]
    exact q _ _ _ (s1.trans (same_new hp)) (.pool upd_same) hΦ
/-! the empty dict, as a thing -/
theorem g_emp {pos : Pos} : GE X (.Dict [] [] pos) (dC (.dict [])) := ⟨_, pe_dnewK, fun σ H φ Φ Q env h q p hp => q _ _ _ (same_new hp) (.emp upd_same) h⟩
end
end L2.D3
namespace L2.D3
open PySem PySem.Spec PyProof.Rows
/-- a def with defaults, called with all of its arguments -/
theorem mkFN0 {P : Program} {w : World} {K : PySem.W.Frag} {mg : Str → Option Value} {base : Heap} {x qual : Str} {params : Arguments} {body : List Stmt} {scope : Scope} {f : Addr} {fd : FuncData} {ps : List Str} {k : Nat} {dsp : DSp} {dvs : List V} {kws : List (Str × V)} (F : FunD K x qual params body scope dvs kws f fd) (hm : mg x = some (.ref f)) (ok : FnOk P w K mg base (L2.CX P w) k f fd ps (lift K dsp)) (b : ∃ us, Vals [] us ∧ Binds K fd ps us) : FN P w K mg base x k dsp := by
  obtain ⟨us, v, b⟩ := b
  cases v
  exact mkFN F hm ok b
end L2.D3

set_option maxHeartbeats 4000000
/-! Texts: their methods; is of truths; rows repeated. -/
namespace L2.D3
open PySem PySem.Spec PyProof.Rows
section
variable {X : Cx}
/-! x is True, x is not True -/
def oIsB : DO := fun x y Φ => match x, y with
  | .bool a, .bool b => Φ (.bool (decide (a = b)))
  | _, _ => False
def oNotB : DO := fun x y Φ => match x, y with
  | .bool a, .bool b => Φ (.bool (!decide (a = b)))
  | _, _ => False
theorem o_isB : OpG X (compareOp .Is) oIsB := ⟨_, op_isBl, fun x y H Q dx dy Φ px py ho q => by
  cases dx <;> cases dy <;> first | exact ho.elim | (cases px; cases py; exact ⟨_, _, rfl, rfl, q _ H _ (Same.refl H) (.bl _) ho⟩)⟩
theorem o_notB : OpG X (compareOp .IsNot) oNotB := ⟨_, op_notBl, fun x y H Q dx dy Φ px py ho q => by
  cases dx <;> cases dy <;> first | exact ho.elim | (cases px; cases py; exact ⟨_, _, rfl, rfl, q _ H _ (Same.refl H) (.bl _) ho⟩)⟩
/-! methods of texts -/
theorem dm_str {K : PySem.W.Frag} {te tf : TE} {de df : DE} {r : V → List V → Hp → VK → Prop} {P : Str → Dt → (Dt → Prop) → Prop} (h1 : SE K te de) (h2 : SE K tf df)
    (hr : ∀ (a : Str) (y : V) (dy : Dt) (H : Hp) (Φ : Dt → Prop) (Q : VK), Dp K H y dy → P a dy Φ → (∀ v H' d, Same H H' → Dp K H' v d → Φ d → Q v H') → r (.str a) [y] H Q) :
    SE K (tM1 r te tf) (fun φ Φ => de φ fun x => match x with | .str a => df φ fun y => P a y Φ | _ => False) := fun σ H φ Φ Q env h q => h1 σ H φ _ _ env h fun x H1 dx s1 px hx => by
  cases dx with
  | str a =>
    cases px
    exact ⟨⟨a, rfl⟩, h2 σ H1 φ _ _ (env.up s1) hx fun y H2 dy s2 py hy => hr a y dy H2 Φ Q py hy fun v H' d s3 pv hd => q v H' d (s1.trans (s2.trans s3)) pv hd⟩
  | _ => exact hx.elim
/-- text.m(x): the text, the argument, what is asked of both -/
def dTx (P : Str → Dt → (Dt → Prop) → Prop) (de df : DE) : DE := fun φ Φ => de φ fun x => match x with
  | .str a => df φ fun y => P a y Φ
  | _ => False
def pJoin : Str → Dt → (Dt → Prop) → Prop := fun a y Φ => ∃ ys : List Str, (y = .list (ys.map .str) ∨ y = .tuple (ys.map .str)) ∧ (ys.map (·.length)).sum + ys.length * a.length ≤ 16777216 ∧ Φ (.str (Txt.join a ys))
def pSplit : Str → Dt → (Dt → Prop) → Prop := fun a y Φ => ∃ b : Str, y = .str b ∧ (b.length == 0) = false ∧ a.length + 2 ≤ sizeLine ∧ Φ (.list ((Txt.split a b).map .str))
def pPart : Str → Dt → (Dt → Prop) → Prop := fun a y Φ => ∃ b : Str, y = .str b ∧ (b.length == 0) = false ∧ a.length ≤ sizeLine ∧ Φ (.tuple [.str (Txt.partition a b).1, .str (Txt.partition a b).2.1, .str (Txt.partition a b).2.2])
def pStarts : Str → Dt → (Dt → Prop) → Prop := fun a y Φ => ∃ b : Str, y = .str b ∧ Φ (.bool (Txt.startswith a b))
section
variable {e f : Expr} {de df : DE} {apos pos : Pos}
theorem g_join (he : GE X e de) (hf : GE X f df) (hs : starEach [f] X.env = [(false, eval f X.env)] := by rfl) (hbase : attributeBase e "join" X.env (eval e X.env) = eval e X.env := by rfl) (hline : (apos.endLine == pos.line) = true := by rfl) : GE X (.Call (.Attribute e "join" apos) [f] [] pos) (dTx pJoin de df) := by
  obtain ⟨te, a1, a2⟩ := he
  obtain ⟨tf, b1, b2⟩ := hf
  refine ⟨_, pe_join a1 b1 hs hbase hline, dm_str a2 b2 fun a y dy H Φ Q py hy q => ?_⟩
  obtain ⟨ys, hyy, hz, hΦ⟩ := hy
  rcases hyy with rfl | rfl
  · cases py with
    | lst h1 h2 => exact ⟨a, _, ys, rfl, rfl, .inl (by rw [h2.strs_eq] at h1; exact h1), hz, q _ H _ (Same.refl H) (.str _) hΦ⟩
  · cases py with
    | tup h1 h2 => exact ⟨a, _, ys, rfl, rfl, .inr (by rw [h2.strs_eq] at h1; exact h1), hz, q _ H _ (Same.refl H) (.str _) hΦ⟩
theorem g_split (he : GE X e de) (hf : GE X f df) (hs : starEach [f] X.env = [(false, eval f X.env)] := by rfl) (hbase : attributeBase e "split" X.env (eval e X.env) = eval e X.env := by rfl) (hline : (apos.endLine == pos.line) = true := by rfl) : GE X (.Call (.Attribute e "split" apos) [f] [] pos) (dTx pSplit de df) := by
  obtain ⟨te, a1, a2⟩ := he
  obtain ⟨tf, b1, b2⟩ := hf
  refine ⟨_, pe_split a1 b1 hs hbase hline, dm_str a2 b2 fun a y dy H Φ Q py hy q => ?_⟩
  obtain ⟨b, rfl, h1, h2, hΦ⟩ := hy
  cases py
  refine ⟨a, b, rfl, rfl, h1, h2, fun p hp => ?_⟩
  have s := same_new (o := .lst ((Txt.split a b).map V.str)) hp
  exact q _ _ _ s (.lst (SqL.of upd_same) (DpAll.strs _)) hΦ
theorem g_partition (he : GE X e de) (hf : GE X f df) (hs : starEach [f] X.env = [(false, eval f X.env)] := by rfl) (hbase : attributeBase e "partition" X.env (eval e X.env) = eval e X.env := by rfl) (hline : (apos.endLine == pos.line) = true := by rfl) : GE X (.Call (.Attribute e "partition" apos) [f] [] pos) (dTx pPart de df) := by
  obtain ⟨te, a1, a2⟩ := he
  obtain ⟨tf, b1, b2⟩ := hf
  refine ⟨_, pe_partition a1 b1 hs hbase hline, dm_str a2 b2 fun a y dy H Φ Q py hy q => ?_⟩
  obtain ⟨b, rfl, h1, h2, hΦ⟩ := hy
  cases py
  refine ⟨a, b, rfl, rfl, h1, h2, fun p hp => ?_⟩
  have s := same_new (o := .tup [.str (Txt.partition a b).1, .str (Txt.partition a b).2.1, .str (Txt.partition a b).2.2]) hp
  exact q _ _ _ s (.tup (SqT.of upd_same) (.cons (.str _) (.cons (.str _) (.cons (.str _) .nil)))) hΦ
theorem g_startswith (he : GE X e de) (hf : GE X f df) (hs : starEach [f] X.env = [(false, eval f X.env)] := by rfl) (hbase : attributeBase e "startswith" X.env (eval e X.env) = eval e X.env := by rfl) (hline : (apos.endLine == pos.line) = true := by rfl) : GE X (.Call (.Attribute e "startswith" apos) [f] [] pos) (dTx pStarts de df) := by
  obtain ⟨te, a1, a2⟩ := he
  obtain ⟨tf, b1, b2⟩ := hf
  refine ⟨_, pe_m1 F.slot_str_startswith F.type_str_startswith mt_startswith a1 b1 hs hbase hline, dm_str a2 b2 fun a y dy H Φ Q py hy q => ?_⟩
  obtain ⟨b, rfl, hΦ⟩ := hy
  cases py
  exact ⟨a, b, rfl, rfl, q _ H _ (Same.refl H) (.bl _) hΦ⟩
end
/-! str(x), int(x) of a text -/
def bStr : List Dt → (Dt → Prop) → Prop := fun ds Φ => match ds with
  | [.int i] => i.natAbs.log2 < 1920 ∧ Φ (.str (toString i))
  | _ => False
theorem c_str : CallG X (.type "str") bStr := ⟨_, call_str_int, fun vs H Q ds Φ p h q => by
  match ds, p, h with
  | [.int i], p, h =>
    cases p with
    | cons p1 p2 =>
      cases p1; cases p2
      exact ⟨i, rfl, h.1, q _ H _ (Same.refl H) (.str _) h.2⟩⟩
def bIntS : List Dt → (Dt → Prop) → Prop := fun ds Φ => match ds with
  | [.str a] => ∃ n, PySem.intText? a = some n ∧ a.length ≤ 640 ∧ Φ (.int n)
  | _ => False
theorem c_intS : CallG X (.type "int") bIntS := ⟨_, call_int_str, fun vs H Q ds Φ p h q => by
  match ds, p, h with
  | [.str a], p, h =>
    cases p with
    | cons p1 p2 =>
      cases p1; cases p2
      obtain ⟨n, h1, h2, h3⟩ := h
      exact ⟨a, n, rfl, h1, h2, q _ H _ (Same.refl H) (.int _) h3⟩⟩
/-! f'..' -/
def dFmt (de : DE) : DE := fun φ Φ => de φ fun x => match x with
  | .str y => y.length ≤ sizeLine ∧ Φ (.str y)
  | .int i => i.natAbs.log2 < 1920 ∧ Φ (.str (toString i))
  | _ => False
theorem g_fmt {e : Expr} {de : DE} {pos : Pos} (he : GE X e de) : GE X (.FormattedValue e (-1) none pos) (dFmt de) := by
  obtain ⟨te, a1, a2⟩ := he
  refine ⟨_, pe_fmt a1, fun σ H φ Φ Q env h q => a2 σ H φ _ _ env h fun x H1 dx s1 px hx => ?_⟩
  cases dx with
  | str y => cases px; exact .inl ⟨y, rfl, hx.1, q _ H1 _ s1 (.str _) hx.2⟩
  | int i => cases px; exact .inr ⟨i, rfl, hx.1, q _ H1 _ s1 (.str _) hx.2⟩
  | _ => exact hx.elim
def dJs : List DE → Str → DE
  | [], acc => fun _ Φ => Φ (.str acc)
  | d :: ds, acc => fun φ Φ => d φ fun x => ∃ y : Str, x = .str y ∧ (acc ++ y).length ≤ sizeLine ∧ dJs ds (acc ++ y) φ Φ
inductive GJ (X : Cx) : List Expr → List DE → Prop where
  | nil : GJ X [] []
  | cons {e : Expr} {d : DE} {es : List Expr} {ds : List DE} (h : GE X e d) (r : GJ X es ds) : GJ X (e :: es) (d :: ds)
theorem GJ.ex {es : List Expr} {ds : List DE} (h : GJ X es ds) : ∃ ts, PJ X es ts ∧ ∀ acc σ H φ Φ (Q : Str → Hp → Prop), EnvF X.K σ H φ → dJs ds acc φ Φ → (∀ y H', Same H H' → Φ (.str y) → Q y H') → tJs ts acc σ H Q := by
  induction h with
  | nil => exact ⟨[], .nil, fun acc σ H φ Φ Q env h q => q acc H (Same.refl H) h⟩
  | @cons e d es ds he r ih =>
    obtain ⟨te, a1, a2⟩ := he
    obtain ⟨ts, b1, b2⟩ := ih
    refine ⟨te :: ts, .cons a1 b1, fun acc σ H φ Φ Q env h q => a2 σ H φ _ _ env h fun x H1 dx s1 px hx => ?_⟩
    obtain ⟨y, rfl, hl, hx⟩ := hx
    cases px
    exact ⟨y, rfl, hl, b2 (acc ++ y) σ H1 φ Φ Q (env.up s1) hx fun z H' s2 hz => q z H' (s1.trans s2) hz⟩
theorem g_joined {v1 v2 : Expr} {rest : List Expr} {ds : List DE} {pos : Pos} (h : GJ X (v1 :: v2 :: rest) ds) : GE X (.JoinedStr (v1 :: v2 :: rest) pos) (dJs ds Str.empty) := by
  obtain ⟨ts, a1, a2⟩ := h.ex
  exact ⟨_, pe_joined a1, fun σ H φ Φ Q env h q => a2 _ σ H φ Φ _ env h fun y H' s hy => q _ H' _ s (.str _) hy⟩
end
end L2.D3
namespace L2.D3
open PySem PySem.Spec PyProof.Rows
/-! ### expressions whose end is data beside the owned lists -/
abbrev DX := Rho → (Dt → Prop) → Prop
def SX (K : PySem.W.Frag) (te : TE) (dx : DX) : Prop := ∀ (F : Hp) (σ : St) (H : Hp) (ρ : Rho) (Φ : Dt → Prop) (Q : VK), EnvO K F σ H ρ → dx ρ Φ → (∀ F' H' v d, Same F F' → EnvO K F' σ H' ρ → Dp K F' v d → Φ d → Q v H') → te σ H Q
structure GX (X : Cx) (e : Expr) (dx : DX) : Prop where
  ex : ∃ te, PE X e te ∧ SX X.K te dx
def dXi (i : Nat) (db : DE) : DX := fun ρ Φ => match getS ρ i with
  | .ow ds => db (allF ρ) fun k => match k with
    | .int j => ∃ d, atI ds j = some d ∧ Φ d
    | _ => False
  | _ => False
section
variable {X : Cx} {W : WX}
theorem gx_ix {i : Nat} {x : Str} {b : Expr} {db : DE} {p pos : Pos} (hb : GE X b db) (hN : X.N[i]? = some x := by rfl) (hv : Vis X.env.scope x := by first | exact Or.inl rfl | exact Or.inr (Or.inl rfl) | exact Or.inr (Or.inr rfl)) (hd : (x == ("__debug__" : Str)) = false := by decide)
    (hcd : (x == ("__classdict__" : Str)) = false := by decide) (hs : PlainIx b := by exact fun _ _ => rfl) : GX X (.Subscript (.Name x p) b pos) (dXi i db) := by
  obtain ⟨tb, b1, b2⟩ := hb
  refine ⟨_, pe_ix ix_seq (pe_var hN hv hd hcd) b1 hs, fun F σ H ρ Φ Q env h q => ?_⟩
  unfold dXi at h
  cases e : getS ρ i with
  | ow ds =>
    rw [e] at h
    obtain ⟨a, us, h1, h2, h3, h4⟩ := env.ow i ds e
    refine ⟨_, h1, b2 σ H _ _ _ env.all h fun y H1 dy s py hy => ?_⟩
    cases dy with
    | int j =>
      cases py
      obtain ⟨d, hd1, hd2⟩ := hy
      obtain ⟨F', s', env'⟩ := env.after s
      obtain ⟨a', vs, g1, g2, g3, g4⟩ := env'.ow i ds e
      rw [h1] at g1
      cases g1
      obtain ⟨v, hv1, hv2⟩ := dp_atI g4 hd1
      exact .inl ⟨a, vs, j, v, rfl, rfl, SqL.of g2, hv1, q F' H1 v d s' env' hv2 hd2⟩
    | _ => exact hy.elim
  | _ => rw [e] at h; exact h.elim
/-- x = e -/
def dSetG (i : Nat) (dx : DX) : DS := fun E ρ => dx ρ fun d => E.nx (setS ρ i (.pu d))
theorem s_setG {i : Nat} {x : Str} {e : Expr} {pos' pos : Pos} {dx : DX} (hN : X.N.Nodup) (hi : X.N[i]? = some x) (he : GX X e dx) (hx : Loc X.env.scope x := by first | exact Or.inl rfl | exact Or.inr rfl) (hs : swapsWith e (some (.Name x pos')) pos.line X.env = pure false := by rfl) (hf : X.fn x = true ∨ X.env.scope.names.lookup x = some .local := by first | exact .inl rfl | exact .inr rfl | assumption) :
    GS X W (.Assign [.Name x pos'] e pos) (dSetG i dx) := by
  obtain ⟨te, a1, a2⟩ := he
  exact ⟨_, ps_set hN hi hx a1 hs hf, fun D E F σ H ρ env h m => a2 F σ H ρ _ _ env h fun F' H' v d s env' p hd => m.nx F' _ _ _ s (env'.putP i p) hd⟩
/-- ys.append(e) -/
def dAppG (i : Nat) (dx : DX) : DS := fun E ρ => match getS ρ i with
  | .ow ds => dx ρ fun d => ds.length < sizeLine ∧ E.nx (setS ρ i (.ow (ds ++ [d])))
  | _ => False
theorem s_appG {i : Nat} {x : Str} {e : Expr} {dx : DX} {p apos cpos pos : Pos} (he : GX X e dx) (hN : X.N[i]? = some x := by rfl) (hv : Vis X.env.scope x := by first | exact Or.inl rfl | exact Or.inr (Or.inl rfl) | exact Or.inr (Or.inr rfl)) (hdb : (x == ("__debug__" : Str)) = false := by decide) (hcd : (x == ("__classdict__" : Str)) = false := by decide)
    (hbase : attributeBase (.Name x p) "append" X.env (eval (.Name x p) X.env) = eval (.Name x p) X.env := by rfl) (hst : starEach [e] X.env = (false, eval e X.env) :: starEach [] X.env := by rfl) (hline : (apos.endLine == cpos.line) = true := by rfl)
    (hfew : ((backTo cpos (starEach [e] X.env)).all (fun x => !x.1) && (backToKw cpos (keywordEach [] X.env)).all (fun x => x.1.isSome) && decide (([e] : List Expr).length + ([] : List Keyword).length + (if ([] : List Keyword).isEmpty then 0 else 1) < 30)) = true := by rfl)
    (hplain : (backTo cpos (starEach [] X.env)).any (·.1) = false := by rfl)
    (hs : swapsWith (.Call (.Attribute (.Name x p) "append" apos) [e] [] cpos) none pos.line X.env = pure false := by rfl) :
    GS X W (.Expr (.Call (.Attribute (.Name x p) "append" apos) [e] [] cpos) pos) (dAppG i dx) := by
  obtain ⟨te, a1, a2⟩ := he
  refine ⟨_, ps_expr (pe_bm PySem.F.plainAttrs_list PySem.F.slot_list_append PySem.F.type_list_append mt_append (pe_var hN hv hdb hcd) (pa_cons a1 pa_nil hst) hbase hfew hline hst hplain) hs, fun D E F σ H ρ env h m => ?_⟩
  unfold dAppG at h
  cases q : getS ρ i with
  | ow ds =>
    rw [q] at h
    obtain ⟨a, us, h1, h2, h3, h4⟩ := env.ow i ds q
    refine ⟨_, h1, .inl ⟨rfl, _, SqL.of h2⟩, a2 F σ H ρ _ _ env h fun F' H' v d s' env' pv hd => ?_⟩
    obtain ⟨a', vs, g1, g2, g3, g4⟩ := env'.ow i ds q
    rw [h1] at g1
    cases g1
    exact ⟨a, vs, v, rfl, rfl, g2, by rw [g4.len]; exact hd.1, m.nx F' _ _ _ s' (env'.mut i q h1 (g4.app (.one pv))) hd.2⟩
  | _ => rw [q] at h; exact h.elim
end
end L2.D3

set_option maxHeartbeats 4000000
/-! Exceptions with a field of their own; calls beside owned lists. -/
namespace L2.D3
open PySem PySem.Spec PyProof.Rows
/-! ### SheetError.__init__(self, ..) -/
structure InitB (K : PySem.W.Frag) (B : Addr) : Prop where
  ga : PySem.W.specialIn K (.ref B) "__getattribute__" = some (some (.builtin "type.__getattribute__"))
  rd : PySem.W.readsIn K B (.type "type") = true
  fc : PySem.W.findCls K (.ref B) (.type "type") "__init__" = some (.val (.builtin "ValueError.__init__"))
def eqC (a : Option PySem.W.CFound) : Bool := match a with
  | some (.val (.builtin x)) => x == "ValueError.__init__"
  | _ => false
theorem eqC_ok {a : Option PySem.W.CFound} (h : eqC a = true) : a = some (.val (.builtin "ValueError.__init__")) := by
  unfold eqC at h
  split at h
  · rw [beq_iff_eq] at h
    rw [h]
  · cases h
def initB (K : PySem.W.Frag) (B : Addr) : Bool := He.eqO (PySem.W.specialIn K (.ref B) "__getattribute__") (some (some (.builtin "type.__getattribute__"))) && (PySem.W.readsIn K B (.type "type") && eqC (PySem.W.findCls K (.ref B) (.type "type") "__init__"))
theorem initB_ok {K : PySem.W.Frag} {B : Addr} (h : initB K B = true) : InitB K B := by
  obtain ⟨h1, h⟩ := He.ba h
  obtain ⟨h2, h3⟩ := He.ba h
  exact ⟨He.eqO_ok h1, h2, eqC_ok h3⟩
section
variable {X : Cx} {e : Expr} {es : List Expr} {ta : TA} {x : Str} {p1 p2 pos : Pos}
theorem pe_seinit {B : Addr} {pl : Sem Bool} (hg : Gl X x) (hm : X.mg x = some (.ref B)) (ib : InitB X.K B) (ha : PA X (e :: es) ta) (hdb : (x == ("__debug__" : Str)) = false := by decide)
    (hc : eval (.Call (.Attribute (.Name x p1) "__init__" p2) (e :: es) [] pos) X.env = (do
      let ov ← eval (.Name x p1) X.env
      standAt p2.atName
      let (f, first) ← holding [ov] (getMethod ov "__init__" pl)
      callWith pos f first (backTo pos (starEach (e :: es) X.env)) (backToKw pos (keywordEach [] X.env))) := by rfl)
    (he : starEach (e :: es) X.env = (false, eval e X.env) :: starEach es X.env := by rfl) (hpl : (backTo pos (starEach es X.env)).any (·.1) = false := by rfl) :
    PE X (.Call (.Attribute (.Name x p1) "__init__" p2) (e :: es) [] pos) (tVeI X.K ta) := by
  refine ⟨fun pins s σ H Q I h => ?_⟩
  refine PySem.W.methodCall_KW (ld_glob I hg hm ?_ hdb) hc
  refine PySem.W.method_cls I.kIn ib.ga (PySem.W.cls_value I.kIn ib.rd ib.fc (by decide +kernel) ?_)
  show wpAny _ _ (callWith pos (Value.builtin "ValueError.__init__") [] (backTo pos (starEach (e :: es) X.env)) []) _ _ _
  refine PyProof.Rows.callWith_method1 (thn (ha.run pos pins _ σ H _ (I.tok _) h) fun us s1 ⟨vs, H1, I1, r1, a, C, ws, ev, hl, T, ea, q⟩ => ?_) he hpl
  subst ev
  cases r1 with
  | @cons _ u0 _ ur ra rw' =>
    obtain rfl : u0 = Value.ref a := ra
    have hlen : ur.length ≤ sizeLine := by
      rw [← Paired.length rw', sizeLine_eq]
      omega
    exact oinit_ok T I1 ea hlen fun s' J => ⟨.non, H1, J, rfl, q⟩
end
/-! ### the class's own __init__: SheetError.__init__(self, m); self.f = y -/
/-- what C's __init__ keeps -/
def spInit (K : PySem.W.Frag) (C : Addr) (f : Str) : Sp := fun vs H Q _ => ∃ (a : Addr) (y : V), vs = [.ref a, y] ∧ H a = some (exo a C none) ∧ ∀ dx, H dx = none → dx ≠ a → Q .non (upd (upd H dx (exd dx [(f, y)])) a (exo a C (some dx)))
/-- what must be true of such a class -/
structure OexF (K : PySem.W.Frag) (C : Addr) (f : Str) : Prop where
  ox : OexC K C
  nf : PySem.W.findIn K (.ref C) f = some none
  xf : XfC K C
  ini : PySem.W.findIn K (.ref C) "__init__" = some (some (.ref (He.ma K C "__init__")))
  tyI : PySem.W.typeIn K (.ref (He.ma K C "__init__")) = some (.type "function")
  sb : PySem.W.subIn K (.ref C) (.type "BaseException") = some true
  ty : PySem.W.typeIn K (.ref C) = some (.type "type")
section
variable {P : Program} {w : World} {K : PySem.W.Frag} {mg : Str → Option Value} {base : Heap} {qual : Str} {params : Arguments} {scope : Scope} {fa : Addr} {fd : FuncData} {dvs : List V} {kws : List (Str × V)}
/-- the body, as it was told -/
def IniB (X : Cx) (C : Addr) (f : Str) (body : List Stmt) : Prop := ∃ t, PSs X body t ∧ ∀ (D : Ends) (a : Addr) (y : V) (H : Hp), H a = some (exo a C none) → (∀ dx, H dx = none → dx ≠ a → D.nx [some (.ref a), some y] (upd (upd H dx (exd dx [(f, y)])) a (exo a C (some dx)))) → t D [some (.ref a), some y] H
theorem init_body {X : Cx} {C B : Addr} {x f yn m : Str} {j : Nat} {p1 p2 p3 p4 pos pos2 p6 p7 p8 pos3 : Pos} {pl : Sem Bool} (ox : OexF X.K C f) (hm : X.mg x = some (.ref B)) (ib : InitB X.K B) (hN0 : X.N[0]? = some ("self" : Str) := by rfl) (hN1 : X.N[1]? = some yn := by rfl)
    (hv0 : Vis X.env.scope "self" := by first | exact Or.inl rfl | exact Or.inr (Or.inl rfl) | exact Or.inr (Or.inr rfl)) (hv1 : Vis X.env.scope yn := by first | exact Or.inl rfl | exact Or.inr (Or.inl rfl) | exact Or.inr (Or.inr rfl)) (hg : Gl X x := by rfl)
    (hdb : (x == ("__debug__" : Str)) = false := by decide) (hd1 : (yn == ("__debug__" : Str)) = false := by decide) (hc1 : (yn == ("__classdict__" : Str)) = false := by decide)
    (hc : eval (.Call (.Attribute (.Name x p1) "__init__" p2) [.Name "self" p3, .Constant (.str m) j p4] [] pos) X.env = (do
      let ov ← eval (.Name x p1) X.env
      standAt p2.atName
      let (f, first) ← holding [ov] (getMethod ov "__init__" pl)
      callWith pos f first (backTo pos (starEach [.Name "self" p3, .Constant (.str m) j p4] X.env)) (backToKw pos (keywordEach [] X.env))) := by rfl)
    (hs0 : starEach [.Name "self" p3, .Constant (.str m) j p4] X.env = (false, eval (.Name "self" p3) X.env) :: starEach [.Constant (.str m) j p4] X.env := by rfl) (hs00 : starEach [.Constant (.str m) j p4] X.env = (false, eval (.Constant (.str m) j p4) X.env) :: starEach [] X.env := by rfl) (hpl : (backTo pos (starEach [.Constant (.str m) j p4] X.env)).any (·.1) = false := by rfl)
    (hs1 : swapsWith (.Call (.Attribute (.Name x p1) "__init__" p2) [.Name "self" p3, .Constant (.str m) j p4] [] pos) none pos2.line X.env = pure false := by rfl) (hs2 : swapsWith (.Name yn p8) (some (.Attribute (.Name "self" p6) f p7)) pos3.line X.env = pure false := by rfl) :
    IniB X C f [.Expr (.Call (.Attribute (.Name x p1) "__init__" p2) [.Name "self" p3, .Constant (.str m) j p4] [] pos) pos2, .Assign [.Attribute (.Name "self" p6) f p7] (.Name yn p8) pos3] := by
  refine ⟨_, pss_cons (ps_expr (pe_seinit (B := B) hg hm ib (pa_cons (pe_var (i := 0) hN0 hv0 (by decide) (by decide)) (pa_cons pe_str pa_nil hs00) hs0) hdb hc hs0 hpl) hs1) (pss_one (ps_ost (pe_var (i := 0) hN0 hv0 (by decide) (by decide)) (pe_var (i := 1) hN1 hv1 hd1 hc1) hs2)), fun D a y H ha hq => ?_⟩
  exact ⟨_, rfl, a, C, [.str m], rfl, (by decide : 1 ≤ 1000), ox.ox, ha, _, rfl, _, rfl, a, C, rfl, ox.ox, ox.nf, .inl ⟨ha, fun dx h1 h2 => hq dx h1 h2⟩⟩
theorem init_ok {C : Addr} {f yn : Str} {body : List Stmt} (F : FunD K "__init__" qual params body scope dvs kws fa fd) (S : FnScope ["self", yn] ["self", yn] scope)
    (hb : ∀ cdv A outer s H E, IniB (cxOf (L2.CX P w) P w K mg base ["self", yn] qual scope fa cdv A outer s H E) C f body) : FnOk P w K mg base (L2.CX P w) 1 fa fd ["self", yn] (spInit K C f) := by
  refine F.ok (k := 0) S (fun vs H Q E h => ?_) (fun cdv A outer s H vs Q E hr h => ?_)
  · obtain ⟨a, y, rfl, _⟩ := h
    rfl
  · obtain ⟨a, y, rfl, ha, hq⟩ := h
    obtain ⟨t, h1, h2⟩ := hb cdv A outer s H E
    exact ⟨t, h1, h2 _ a y H ha fun dx n1 n2 => hq dx n1 n2⟩
end
/-! raise C(e) -/
structure FNI (P : Program) (w : World) (K : PySem.W.Frag) (mg : Str → Option Value) (base : Heap) (x f : Str) : Prop where
  ox : OexF K (He.ga K x) f
  ex : ∃ fd ps, FnOk P w K mg base (L2.CX P w) 1 (He.ma K (He.ga K x) "__init__") fd ps (spInit K (He.ga K x) f) ∧ Binds K fd ps []
def dRaiseI (x f : Str) (de : DE) : DS := fun E ρ => de (purF ρ) fun d => E.xr ⟨x, [(f, d)]⟩ ρ
section
variable {X : Cx} {W : WX}
theorem s_raiseI {x f : Str} {e : Expr} {de : DE} {p pos pos2 : Pos} (hc : X.calm = true) (tk : Takes X W) (N : FNI X.prog X.w X.K X.mg X.base x f) (gC : X.mg x = some (.ref (He.ga X.K x))) (hr : Room 2 X.A) (he : GE X e de) (hg : Gl X x := by rfl) (hdb : (x == ("__debug__" : Str)) = false := by decide)
    (hst : starEach [e] X.env = (false, eval e X.env) :: starEach [] X.env := by rfl) (hpl : (backTo pos (starEach [] X.env)).any (·.1) = false := by rfl) : GS X W (.Raise (some (.Call (.Name x p) [e] [] pos)) none pos2) (dRaiseI x f de) := by
  obtain ⟨te, a1, a2⟩ := he
  obtain ⟨fd, ps, F1, hb⟩ := N.ex
  refine ⟨_, ps_raise hc tk (pmk_oex N.ox.ox N.ox.ini N.ox.tyI F1 hr hb .nil passL hg gC (pa_cons (pe_frame a1) pa_nil hst) hdb hst hpl), fun D E F σ H ρ env h m => ?_⟩
  refine ss_frame (k := fun v σ H' => tNil σ H' fun xs H1 => (v :: xs).length ≤ 1000 ∧ ∀ a, H1 a = none → spInit X.K (He.ga X.K x) f (.ref a :: ((v :: xs) ++ [])) (upd H1 a (exo a (He.ga X.K x) none)) (fun u H2 => u = .non ∧ ∃ (d : Addr) (fs : List (Str × V)), H2 a = some (exo a (He.ga X.K x) (some d)) ∧ H2 d = some (exd d fs) ∧ H1 d = none ∧ W (.ref (He.ga X.K x)) (some d) σ (upd (del H2 a) d (.xd fs))) (fun _ _ _ => False)) a2 env h fun F' H' v d s env' pv hd => ?_
  refine ⟨(by decide : 1 ≤ 1000), fun a na => ⟨a, v, rfl, upd_same, fun dx hdx hne => ⟨rfl, dx, [(f, v)], upd_same, ?_, ?_, ?_⟩⟩⟩
  · rw [upd_ne hne, upd_same]
  · rw [upd_ne hne] at hdx; exact hdx
  · rw [upd_ne hne] at hdx
    have e : upd (del (upd (upd (upd H' a (exo a (He.ga X.K x) none)) dx (exd dx [(f, v)])) a (exo a (He.ga X.K x) (some dx))) a) dx (.xd [(f, v)]) = upd H' dx (.xd [(f, v)]) := by
      funext b
      by_cases c : b = dx
      · rw [c, upd_same, upd_same]
      · rw [upd_ne c, upd_ne c]
        by_cases c2 : b = a
        · rw [c2, del_same, na]
        · rw [del_ne c2, upd_ne c2, upd_ne c, upd_ne c2]
    rw [e]
    obtain ⟨fn, env3⟩ := env'.track (o := .xd [(f, v)]) hdx
    have s3 := same_new (o := .xd [(f, v)]) fn
    exact m.xr _ σ _ ρ ⟨x, [(f, d)]⟩ (some dx) (s.trans s3) env3 ⟨dx, [v], rfl, upd_same, .one (pv.up s3)⟩ hd
/-! e.f of a caught exception -/
def XfT (K : PySem.W.Frag) (cs : List Str) (f : Str) : Prop := ∀ c ∈ cs, XfC K (He.ga K c) ∧ PySem.W.findIn K (.ref (He.ga K c)) f = some none
def xfTB (K : PySem.W.Frag) (cs : List Str) (f : Str) : Bool := cs.all fun c => xfB K (He.ga K c) && He.eqO (PySem.W.findIn K (.ref (He.ga K c)) f) (some none)
theorem xfT_of {K : PySem.W.Frag} {cs : List Str} {f : Str} (h : xfTB K cs f = true) : XfT K cs f := fun c hc => by
  obtain ⟨h1, h2⟩ := He.ba (List.all_eq_true.mp h c hc)
  exact ⟨xfB_ok h1, He.eqO_ok h2⟩
def dXf (i : Nat) (cs : List Str) (f : Str) : DE := fun φ Φ => ∃ x d, getA φ i = some (exA x) ∧ x.cls ∈ cs ∧ x.fs = [(f, d)] ∧ Φ d
theorem g_xf {i : Nat} {y f : Str} {cs : List Str} {p pos : Pos} (t : XfT X.K cs f) (hN : X.N[i]? = some y := by rfl) (hvs : Vis X.env.scope y := by first | exact Or.inl rfl | exact Or.inr (Or.inl rfl) | exact Or.inr (Or.inr rfl)) (hdy : (y == ("__debug__" : Str)) = false := by decide) (hcy : (y == ("__classdict__" : Str)) = false := by decide)
    (hb : attributeBase (.Name y p) f X.env (eval (.Name y p) X.env) = eval (.Name y p) X.env := by rfl) : GE X (.Attribute (.Name y p) f pos) (dXf i cs f) := by
  refine ⟨fun σ H Q => tVar i σ H fun x H1 => ∃ (a C dd : Addr) (fs : List (Str × V)) (v : V), x = .ref a ∧ H1 a = some (ExC (.ref C) (some dd) a) ∧ XfC X.K C ∧ PySem.W.findIn X.K (.ref C) f = some none ∧ H1 dd = some (.xd fs) ∧ fs.lookup f = some v ∧ Q v H1, ⟨fun pins s σ H Q I h => ?_⟩, fun σ H φ Φ Q env h q => ?_⟩
  · refine attr_of hb (thn ((pe_var (i := i) hN hvs hdy hcy).run pins s σ H _ I h) fun u s1 hh => ?_)
    obtain ⟨x, H1, I1, rx, a, C, dd, fs, v, ex, ha, T, hno, ea, l, q⟩ := hh
    subst ex
    obtain rfl : u = Value.ref a := rx
    obtain ⟨⟨ob, fv, e0, z, dt⟩, _, _⟩ := I1.hok a _ ha
    have hx : ObjOk X.prog X.w H1 s1.heap dd (.xd fs) := I1.hok dd _ ea
    obtain ⟨mA, hns, hr⟩ := hx
    obtain ⟨od, ho, hl⟩ := lookIn_ns hns
    obtain ⟨u, hu, ru⟩ := RelO.some_of (v := v) (o := mA f) (by rw [← l]; exact hr f)
    have J : PySem.W.InstAt s1.heap a ob C (some od) := ⟨e0, z.1, by unfold PySem.W.notCls; rw [dt] <;> rfl, by rw [z.2]; exact ho⟩
    exact HandSPX.exc_get I1.kIn J T.ga T.gg T.exC (PySem.W.findObj_own T.hdC hno rfl (by rw [hl, hu])) (handed_of ru) ⟨v, H1, I1.tok _, ru, q⟩
  · obtain ⟨x, d, h1, h2, h3, h4⟩ := h
    obtain ⟨v, e1, a, rfl, dd, e2, e3⟩ := env.an i (exA x) h1
    unfold XAt at e3
    rw [h3] at e3
    obtain ⟨b, vs, rfl, e4, e5⟩ := e3
    obtain ⟨T, hno⟩ := t _ h2
    match vs, e5 with
    | [v], e5 =>
      cases e5 with
      | cons e6 e7 => exact ⟨_, e1, a, _, b, _, v, rfl, e2, T, hno, e4, (by simp [List.lookup] : List.lookup f (([(f, d)].map (·.1)).zip [v]) = some v), q v H d (Same.refl H) e6 h4⟩
/-! ### calls beside owned lists -/
abbrev DXA := Rho → (List Dt → Prop) → Prop
def SXA (K : PySem.W.Frag) (n : Nat) (ta : TA) (dx : DXA) : Prop := ∀ (F : Hp) (σ : St) (H : Hp) (ρ : Rho) (Φ : List Dt → Prop) (Q : List V → Hp → Prop), EnvO K F σ H ρ → dx ρ Φ → (∀ F' H' vs ds, Same F F' → EnvO K F' σ H' ρ → DpAll K F' vs ds → ds.length = n → Φ ds → Q vs H') → ta σ H Q
structure GXA (X : Cx) (es : List Expr) (dx : DXA) : Prop where
  ex : ∃ ta, PA X es ta ∧ SXA X.K es.length ta dx
def dXnil : DXA := fun _ Φ => Φ []
def dXcons (d : DX) (r : DXA) : DXA := fun ρ Φ => d ρ fun x => r ρ fun xs => Φ (x :: xs)
theorem xa_nil : GXA X [] dXnil := ⟨_, pa_nil, fun F σ H ρ Φ Q env h q => q F H [] [] (Same.refl F) env .nil rfl h⟩
theorem xa_cons {e : Expr} {es : List Expr} {d : DX} {r : DXA} (he : GX X e d) (hr : GXA X es r) (hs : starEach (e :: es) X.env = (false, eval e X.env) :: starEach es X.env := by rfl) : GXA X (e :: es) (dXcons d r) := by
  obtain ⟨te, a1, a2⟩ := he
  obtain ⟨tr, b1, b2⟩ := hr
  refine ⟨_, pa_cons a1 b1 hs, fun F σ H ρ Φ Q env h q => a2 F σ H ρ _ _ env h fun F1 H1 v d s1 env1 pv h1 => b2 F1 σ H1 ρ _ _ env1 h1 fun F2 H2 vs ds s2 env2 ps l h2 => ?_⟩
  exact q F2 H2 _ _ (s1.trans s2) env2 (.cons (pv.up s2) ps) (congrArg Nat.succ l) h2
/-- by what is not owned -/
def dXp (de : DE) : DX := fun ρ Φ => de (purF ρ) Φ
theorem gx_p {e : Expr} {de : DE} (h : GE X e de) : GX X e (dXp de) := by
  obtain ⟨te, a1, a2⟩ := h
  exact ⟨_, pe_frame a1, fun F σ H ρ Φ Q env h q => ss_frame (k := fun v σ H' => Q v H') a2 env h fun F' H' v d s env' p hd => q F' H' v d s env' p hd⟩
/-- by all, its end a number, a text, a truth, None -/
def dXs (de : DE) : DX := fun ρ Φ => de (allF ρ) fun d => scalD d ∧ Φ d
theorem gx_s {e : Expr} {de : DE} (h : GE X e de) : GX X e (dXs de) := by
  obtain ⟨te, a1, a2⟩ := h
  refine ⟨_, a1, fun F σ H ρ Φ Q env h q => a2 σ H _ _ _ env.all h fun v H' d s p hd => ?_⟩
  obtain ⟨F', s', env'⟩ := env.after s
  exact q F' H' v d s' env' (dp_scal p hd.1) hd.2
/-- by all, its end a new list of such -/
def dXl (df : DF) : DX := fun ρ Φ => df (allF ρ) fun ds => (∀ d ∈ ds, scalD d) ∧ Φ (.list ds)
theorem dpAll_scal {K : PySem.W.Frag} {H H' : Hp} : ∀ {ds : List Dt} {vs : List V}, DpAll K H vs ds → (∀ d ∈ ds, scalD d) → DpAll K H' vs ds
  | [], _, h, _ => by cases h; exact .nil
  | d :: ds, _, h, k => by
    cases h with
    | cons h1 h2 => exact .cons (dp_scal h1 (k d List.mem_cons_self)) (dpAll_scal h2 fun e he => k e (List.mem_cons_of_mem _ he))
theorem gx_l {e : Expr} {df : DF} (h : GF X e df) : GX X e (dXl df) := by
  obtain ⟨te, a1, a2⟩ := h
  refine ⟨_, a1, fun F σ H ρ Φ Q env h q => a2 σ H _ _ _ env.all h fun a vs ds H' s n p hd => ?_⟩
  obtain ⟨F', s', env'⟩ := env.after s
  obtain ⟨fn, env3⟩ := env'.track (o := .lst vs) n
  have s3 := same_new (o := .lst vs) fn
  exact q _ _ _ _ (s'.trans s3) env3 (.lst (SqL.of upd_same) (dpAll_scal p hd.1)) hd.2
def dXc (dsp : DSp) (da : DXA) : DX := fun ρ Φ => da ρ fun ds => dsp ds (fun s => Φ s.dat) (fun _ => False)
theorem pe_callFr {CX : CXT} {k : Nat} {f : Addr} {fd : FuncData} {ps : List Str} {sp : Sp} {dvs : List V} {ds : List Value} {E : XK} {x : Str} {p pos : Pos} {e : Expr} {es : List Expr} {t : TA} (F : FnOk X.prog X.w X.K X.mg X.base CX k f fd ps sp) (hr : Room k X.A) (hg : Gl X x) (hm : X.mg x = some (.ref f)) (hk : PySem.W.keepIn X.K (.ref f) = true) (hb : Binds X.K fd ps ds) (hd : Vals dvs ds) (hx : Passes CX X E)
    (ha : PA X (e :: es) t) (hdb : (x == ("__debug__" : Str)) = false := by decide) (he : starEach (e :: es) X.env = (false, eval e X.env) :: starEach es X.env := by rfl) (hpl : (backTo pos (starEach es X.env)).any (·.1) = false := by rfl) :
    PE X (.Call (.Name x p) (e :: es) [] pos) (fun σ H Q => t σ H fun vs H1 => ∃ F0, Fz F0 H1 ∧ sp (vs ++ dvs) F0 (fun v F' => Same F0 F' ∧ ((∀ a o, H1 a = some o → F0 a = none → F' a = none) → Q v (glue F' H1))) E) := by
  refine ⟨fun pins s σ H Q I h => ?_⟩
  refine wpAny_Call_Name_kw (ld_glob I hg hm ?_ hdb)
  refine PySem.W.callWith_K (h₀ := X.base) I.ok.mod.kin hk (thn (ha.run pos pins s σ H _ I h) fun us s1 ⟨vs, H1, I1, r, q⟩ => ⟨I1.kIn, ?_⟩) he hpl
  obtain ⟨F0, z, q⟩ := q
  refine thn (run_fn F hr hb hd hx (Inv.without I1 z) r q) fun u s2 hh => ?_
  obtain ⟨v, F', J, rv, sm, hq⟩ := hh
  obtain ⟨K1, dj⟩ := Inv.back I1 z sm J
  exact ⟨v, glue F' H1, K1, rv, hq dj⟩
theorem gx_call {x : Str} {k : Nat} {dsp : DSp} {e : Expr} {es : List Expr} {da : DXA} {p pos : Pos} (N : FN X.prog X.w X.K X.mg X.base x k dsp) (hr : Room k X.A) (ha : GXA X (e :: es) da) (hg : Gl X x := by rfl)
    (hdb : (x == ("__debug__" : Str)) = false := by decide) (he : starEach (e :: es) X.env = (false, eval e X.env) :: starEach es X.env := by rfl) (hpl : (backTo pos (starEach es X.env)).any (·.1) = false := by rfl) :
    GX X (.Call (.Name x p) (e :: es) [] pos) (dXc dsp da) := by
  obtain ⟨f, fd, ps, us, dvs, sp, F1, hm, hk, hb, hd, hs⟩ := N
  obtain ⟨ta, a1, a2⟩ := ha
  refine ⟨_, pe_callFr F1 hr hg hm hk hb hd passL a1 hdb he hpl, fun F σ H ρ Φ Q env h q => a2 F σ H ρ _ _ env h fun F1 H1 vs ds s1 env1 ps l h1 => ?_⟩
  refine ⟨F1, env1.fz, hs _ _ _ _ ⟨ds, _, _, ps, h1, ?_, fun x d H' s p z => z.elim⟩⟩
  exact retOk_data (Same.refl F1) fun v F2 d s2 pv hd => ⟨s2, fun dj => q F2 _ v d (s1.trans s2) (env1.grow s2 dj) pv hd⟩
end
end L2.D3
namespace L2.D3
open PySem PySem.Spec PyProof.Rows
def oexB (K : PySem.W.Frag) (C : Addr) : Bool := match K.lookup C with
  | some ⟨.type "type", _, .cls cd, sl⟩ => (match cd.mro, sl.toList with
    | .ref C' :: bm, [_, _, _, _, some (.builtin n), _] => C' == C && (n == "ValueError.__new__" && (!cd.hasDel && (cd.hasDict && PySem.HandSPX.refsVE bm)))
    | _, _ => false)
  | _ => false
theorem oexB_ok {K : PySem.W.Frag} {C : Addr} (q : oexB K C = true) : ∃ nm q N bs bm sn sub ab col dd k0 k1 k2 k3 k5, K.lookup C = some (PySem.excClassObj nm q C N bs bm true sn sub ab col dd k0 k1 k2 k3 k5 "ValueError.__new__") ∧ PySem.HandSPX.refsVE bm = true := by
  unfold oexB at q
  split at q
  · rename_i dd cd sl ho
    split at q
    · rename_i C' bm k0 k1 k2 k3 n k5 hm hs
      simp only [Bool.and_eq_true, beq_iff_eq, Bool.not_eq_true'] at q
      obtain ⟨rfl, rfl, hdel, hdct, ht⟩ := q
      obtain ⟨nm, bs, mro, ns, qn, hd, sn, sub, ab, col, del⟩ := cd
      dsimp only at hm hdel hdct
      subst hm hdel hdct
      have hsl : sl = #[k0, k1, k2, k3, some (.builtin "ValueError.__new__"), k5] := by
        obtain ⟨l⟩ := sl
        simp only at hs
        rw [hs]
      subst hsl
      exact ⟨nm, qn, ns, bs, bm, sn, sub, ab, col, dd, k0, k1, k2, k3, k5, ho, ht⟩
    · cases q
  · cases q
def oexFB (K : PySem.W.Frag) (C : Addr) (f : Str) : Bool := oexB K C && (He.eqO (PySem.W.findIn K (.ref C) "__setattr__") (some (some (.builtin "object.__setattr__"))) && (decide (PySem.W.subIn K (.ref C) (.type "BaseException") = some true) && (decide (PySem.W.typeIn K (.ref C) = some (.type "type")) && (PySem.W.keepIn K (.ref C) &&
  (He.eqO (PySem.W.findIn K (.ref C) f) (some none) && (xfB K C && (He.eqO (PySem.W.findIn K (.ref C) "__init__") (some (some (.ref (He.ma K C "__init__")))) && decide (PySem.W.typeIn K (.ref (He.ma K C "__init__")) = some (.type "function")))))))))
theorem oexFB_ok {K : PySem.W.Frag} {C : Addr} {f : Str} (h : oexFB K C f = true) : OexF K C f := by
  obtain ⟨h1, h⟩ := He.ba h
  obtain ⟨h2, h⟩ := He.ba h
  obtain ⟨h3, h⟩ := He.ba h
  obtain ⟨h4, h⟩ := He.ba h
  obtain ⟨h5, h⟩ := He.ba h
  obtain ⟨h6, h⟩ := He.ba h
  obtain ⟨h7, h⟩ := He.ba h
  obtain ⟨h8, h9⟩ := He.ba h
  exact ⟨⟨oexB_ok h1, He.eqO_ok h2, of_decide_eq_true h3, of_decide_eq_true h4, h5⟩, He.eqO_ok h6, xfB_ok h7, He.eqO_ok h8, of_decide_eq_true h9, of_decide_eq_true h3, of_decide_eq_true h4⟩
theorem mkFNI {P : Program} {w : World} {K : PySem.W.Frag} {mg : Str → Option Value} {base : Heap} {x f yn qual : Str} {params : Arguments} {body : List Stmt} {scope : Scope} {fd : FuncData} (ox : OexF K (He.ga K x) f) (F : FunD K "__init__" qual params body scope [] [] (He.ma K (He.ga K x) "__init__") fd) (S : FnScope ["self", yn] ["self", yn] scope) (b : Binds K fd ["self", yn] [])
    (hb : ∀ cdv A outer s H E, IniB (cxOf (L2.CX P w) P w K mg base ["self", yn] qual scope (He.ma K (He.ga K x) "__init__") cdv A outer s H E) (He.ga K x) f body) : FNI P w K mg base x f := ⟨ox, fd, _, init_ok F S hb, b⟩
/-- a method's statement in a class's -/
def inCls (i : Nat) (s : Stmt) : Stmt := match s with
  | .ClassDef _ _ _ body _ _ _ _ _ _ _ => body.getD i (.Pass ⟨0, 0, 0, 0⟩)
  | _ => .Pass ⟨0, 0, 0, 0⟩
theorem t_isN {X : Cx} {a : Expr} {da : DE} {j p2} {pos : Pos} (ha : GE X a da) : GT X (.Compare a [.Is] [.Constant .none j p2] pos) (dTV (dIsN da)) := by
  obtain ⟨t, a1, a2⟩ := ha
  exact ⟨_, pt_cmp (pc_isN a1) rfl, st_test (se_isN a2)⟩
theorem t_notN {X : Cx} {a : Expr} {da : DE} {j p2} {pos : Pos} (ha : GE X a da) : GT X (.Compare a [.IsNot] [.Constant .none j p2] pos) (dTV (dNotN da)) := by
  obtain ⟨t, a1, a2⟩ := ha
  exact ⟨_, pt_cmp (pc_notN a1) rfl, st_test (se_notN a2)⟩
end L2.D3

set_option maxHeartbeats 4000000
/-! e.replace of written texts, in a list whose first item has spent a token; list * int. -/
namespace L2.D3
open PySem PySem.Spec PyProof.Rows
/-! ### list * int -/
theorem int_rmul_list (a : Int) (t : Tok) (l : Addr) (items : Array Value) (n : Nat) (sl : Array (Option Value)) :
    PySem.Meets (Builtin.«int.__rmul__» ⟨[.int a t, .ref l], []⟩) (fun _ R s => s.heap.get? l = some { cls := .type "list", dict := none, data := .seq items n, slots := sl } ∧ R (.ok (.ret Value.notImplemented)) s) :=
  .of_wp fun prog w A R s h => by obtain ⟨hp, g, d, tk, os⟩ := s; obtain ⟨hl, h⟩ := h; wp_walk; exact ⟨_, rfl, h⟩
theorem list_mul_int (l : Addr) (items : Array Value) (n : Nat) (x : Int) (u : Tok) (sl : Array (Option Value)) (hc0 : ¬(!Builtin.List.listFitsIndex x) = true) (hc1 : ¬items.size * x.toNat > (2 ^ 63 - 1) / 8) (hc2 : ¬Builtin.List.listTooLong (items.size * x.toNat) = true) :
    PySem.Meets (Builtin.«list.__mul__» ⟨[.ref l, .int x u], []⟩) (fun _ R s => s.heap.get? l = some { cls := .type "list", dict := none, data := .seq items n, slots := sl } ∧ R (.ok (.ret (Value.ref s.heap.objs.size))) { s with heap := s.heap.push { cls := Value.type "list", data := Data.seq (List.foldl (fun x1 x2 => x1 ++ x2) #[] (List.replicate (if items.isEmpty = true then 0 else x.toNat) items)) }, toks := s.toks }) :=
  .of_wp fun prog w A R s h => by
    obtain ⟨hp, g, d, tk, os⟩ := s; obtain ⟨hl, h⟩ := h
    have hsz := PySem.AutoListH.joined_fits hc2
    wp_walk; refine wpAny_ite_false (decide_eq_false (Nat.not_lt.mpr hsz)) ?_; wp_walk; exact ⟨_, rfl, h⟩
def rRepL (K : PySem.W.Frag) : V → V → Hp → VK → Prop := fun x y H Q => ∃ l k xs, x = .ref l ∧ y = .int k ∧ SqL K H l xs ∧ 0 ≤ k ∧ k ≤ 1000 ∧ xs.length ≤ 1000 ∧ ∀ p, H p = none → Q (.ref p) (upd H p (.lst (List.replicate k.toNat xs).flatten))
section
variable {X : Cx}
theorem op_repL : OpR X (binaryOp .Mult) (rRepL X.K) := by
  intro pins s σ H x y v u Q I rx ry h
  obtain ⟨l, k, xs, rfl, rfl, hT, h1, h2, hz, q⟩ := h
  cases rx
  obtain ⟨t, rfl⟩ := ry
  obtain ⟨its, r, ⟨⟨cls, dd, data, sl⟩, n, ho, hc, hdd, hd⟩, hs⟩ := I.list hT
  simp only at hc hd hdd
  subst hc hd hdd
  have hle : its.length = xs.length := r.length.symm
  have hsz : its.toArray.size * k.toNat ≤ 1000 * 1000 := by
    rw [List.size_toArray, hle]
    exact Nat.mul_le_mul hz (by omega)
  have hlen : its.toArray.size * k.toNat ≤ sizeLine := by rw [sizeLine_eq]; omega
  have hcap : ¬ its.toArray.size * k.toNat > (2 ^ 63 - 1) / 8 := by omega
  have hfit : ¬ (!Builtin.List.listFitsIndex k) = true := by
    rw [fitsIndex_both (by omega) (by omega)]
    exact Bool.false_ne_true
  have hlong : ¬ Builtin.List.listTooLong (its.toArray.size * k.toNat) = true := by
    rw [notLongL hlen]
    exact Bool.false_ne_true
  have hnew : List.foldl (fun x1 x2 => x1 ++ x2) #[] (List.replicate (if its.toArray.isEmpty = true then 0 else k.toNat) its.toArray) = (List.replicate k.toNat its).flatten.toArray := by
    have f0 : ∀ m : Nat, List.foldl (fun x1 x2 => x1 ++ x2) #[] (List.replicate m its.toArray) = (List.replicate m its).flatten.toArray := fun m => by
      have := L2.foldl_rep its m []
      rw [List.nil_append] at this
      exact this
    rw [f0]
    cases its with
    | nil => simp
    | cons a r' => rw [if_neg (by simp)]
  refine wpAny_binaryOp_repeat_ref (T := "list") (U := "int") (by decide) ⟨_, ho, rfl⟩ (fun s' => typeIs_int s' k t) noFill_list_mul F.fills_int_mul F.slot_int_rmul repeat_list F.slot_int_index.lookup
    (call_meets F.slot_int_rmul (typeIs_int s k t) F.entry_int_rmul (F.args_int_rmul_2 _ _) (int_rmul_list k t l its.toArray n sl)
      ⟨ho, rfl, ⟨_, ho, rfl⟩, call_meets F.slot_list_mul ⟨_, ho, rfl⟩ F.entry_list_mul (F.args_list_mul_2 _ _) (list_mul_int l its.toArray n k t sl hfit hcap hlong) ⟨ho, ?_⟩⟩)
  rw [hnew]
  exact ⟨.ref _, _, I.lnew (t' := s.toks) (r.rep k.toNat) (by rw [PyProof.Rows.lm_len_rep_flat, Nat.mul_comm, ← hle, ← List.size_toArray]; exact hlen), rfl, q _ I.fresh⟩
def oRepL : DO := fun x y Φ => match x, y with
  | .list xs, .int k => 0 ≤ k ∧ k ≤ 1000 ∧ xs.length ≤ 1000 ∧ Φ (.list (List.replicate k.toNat xs).flatten)
  | _, _ => False
theorem o_repL : OpG X (binaryOp .Mult) oRepL := by
  refine ⟨_, op_repL, fun x y H Q dx dy Φ px py ho q => ?_⟩
  cases dx with
  | list xs =>
    cases dy with
    | int k =>
      cases py
      cases px with
      | @lst a us _ hs ha =>
        obtain ⟨h1, h2, h3, hΦ⟩ := ho
        refine ⟨a, k, us, rfl, rfl, hs, h1, h2, by rw [ha.len]; exact h3, fun p n => ?_⟩
        have s := same_new (o := .lst (List.replicate k.toNat us).flatten) n
        exact q _ _ _ s (.lst (SqL.of upd_same) ((ha.rep _).up s)) hΦ
    | _ => exact ho.elim
  | _ => exact ho.elim
/-! ### tokens -/
structure GET (X : Cx) (e : Expr) (de : DE) : Prop where
  ex : ∃ te, PET X e te ∧ SE X.K te de
structure GAT (X : Cx) (es : List Expr) (da : DA) : Prop where
  ex : ∃ ta, PAT X es ta ∧ SA X.K es.length ta da
/-- behind it a token is out -/
structure GER (X : Cx) (e : Expr) (de : DE) : Prop where
  ex : ∃ te, (∀ (pins : List (Addr × Obj)) (s : Shared) (σ : St) (H : Hp) (Q : VK), Inv X pins σ H s → te σ H Q → wpAny (model X.prog X.w) X.A (eval e X.env) (fun u s' => 1 ≤ s'.toks ∧ EP X pins σ Q u s') X.xe s) ∧ SE X.K te de
variable {e : Expr} {es : List Expr} {de : DE} {da dr : DA}
theorem GET.of (h : GE X e de) : GET X e de := by
  obtain ⟨te, a1, a2⟩ := h
  exact ⟨te, fun pins s σ H Q _ I q => a1.run pins s σ H Q I q, a2⟩
theorem at_nil : GAT X [] dNil := by
  obtain ⟨ta, a1, a2⟩ := (a_nil : GA X [] dNil)
  exact ⟨ta, fun pos pins s σ H Q _ I q => a1.run pos pins s σ H Q I q, a2⟩
theorem at_cons (he : GET X e de) (hr : GAT X es dr) (hs : starEach (e :: es) X.env = (false, eval e X.env) :: starEach es X.env := by rfl) : GAT X (e :: es) (dCons de dr) := by
  obtain ⟨te, a1, a2⟩ := he
  obtain ⟨tr, b1, b2⟩ := hr
  refine ⟨tCons te tr, fun pos pins s σ H Q h0 I h => ?_, fun σ H φ Φ Q env h q => a2 σ H φ _ _ env h fun v H1 d s1 pv h1 => b2 σ H1 φ _ _ (env.up s1) h1 fun vs H2 ds s2 ps l h2 => q _ H2 _ (s1.trans s2) (.cons (pv.up s2) ps) (congrArg Nat.succ l) h2⟩
  rw [hs]
  show wpAny _ _ (spliced ((false, eval e X.env) :: backTo pos (starEach es X.env))) _ _ s
  refine Calls.spliced_cons (wpAny_mono (PySem.wpAny_toks_of h0 (a1 pins s σ H _ h0 I h)) (fun u s1 hh => ?_) fun _ _ z => z.2)
  obtain ⟨k1, x, H1, I1, r1, q1⟩ := hh
  exact thn (b1 pos pins s1 σ H1 _ k1 I1 q1) fun us s2 ⟨xs, H2, I2, r2, q2⟩ => ⟨x :: xs, H2, I2, .cons r1 r2, q2⟩
theorem ar_cons (he : GER X e de) (hr : GAT X es dr) (hs : starEach (e :: es) X.env = (false, eval e X.env) :: starEach es X.env := by rfl) : GA X (e :: es) (dCons de dr) := by
  obtain ⟨te, a1, a2⟩ := he
  obtain ⟨tr, b1, b2⟩ := hr
  refine ⟨tCons te tr, ⟨fun pos pins s σ H Q I h => ?_⟩, fun σ H φ Φ Q env h q => a2 σ H φ _ _ env h fun v H1 d s1 pv h1 => b2 σ H1 φ _ _ (env.up s1) h1 fun vs H2 ds s2 ps l h2 => q _ H2 _ (s1.trans s2) (.cons (pv.up s2) ps) (congrArg Nat.succ l) h2⟩
  rw [hs]
  show wpAny _ _ (spliced ((false, eval e X.env) :: backTo pos (starEach es X.env))) _ _ s
  refine Calls.spliced_cons (wpAny_mono (a1 pins s σ H _ I h) (fun u s1 hh => ?_) fun _ _ z => z)
  obtain ⟨k1, x, H1, I1, r1, q1⟩ := hh
  exact thn (b1 pos pins s1 σ H1 _ k1 I1 q1) fun us s2 ⟨xs, H2, I2, r2, q2⟩ => ⟨x :: xs, H2, I2, .cons r1 r2, q2⟩
/-- a written text + e -/
theorem gr_addS {c : Str} {j : Nat} {p pos : Pos} {f : Expr} {df : DE} {op : Operator} {o : DO} (ho : OpG X (binaryOp op) o) (hf : GE X f df) : GER X (.BinOp (.Constant (.str c) j p) op f pos) (dBin o (dC (.str c)) df) := by
  obtain ⟨r, h1, h2⟩ := ho
  obtain ⟨ta, a1, a2⟩ := (g_str : GE X (.Constant (.str c) j p) (dC (.str c)))
  obtain ⟨tb, b1, b2⟩ := hf
  refine ⟨tOp r (tC (.str c)) tb, fun pins s σ H Q I h => ?_, se_op h2 (fun σ H φ Φ Q env h q => q _ H _ (Same.refl H) (.str c) h) b2⟩
  refine wpAny_BinOp (Calls.Constant_str ?_)
  have h3 : tb σ H fun y H2 => r (.str c) y H2 Q := h
  refine wpAny_mono (PySem.wpAny_toks_of (n := 1) (by show 1 ≤ s.toks + 1; omega) (b1.run pins _ σ H _ (I.tok _) h3)) (fun u s2 hh => ?_) fun _ _ z => z.2
  obtain ⟨k1, y, H2, I2, r2, q2⟩ := hh
  exact wpAny_mono (PySem.wpAny_toks_of k1 (h1 pins s2 σ H2 (.str c) y (.str c s.toks) u _ I2 ⟨_, rfl⟩ r2 q2)) (fun _ _ z => z) fun _ _ z => z.2
def dRepl (y z : Str) (de : DE) : DE := fun φ Φ => de φ fun x => match x with
  | .str a => a.length + (a.length + 1) * z.length ≤ 16777216 ∧ Φ (.str (Txt.replace a y z))
  | _ => False
theorem gt_repl {y z : Str} {j k : Nat} {c0 c1 apos pos : Pos} (ho : GE X e de) (hyz : (y == z) = false := by decide)
    (hst : starEach [.Constant (.str y) j c0, .Constant (.str z) k c1] X.env = [(false, eval (.Constant (.str y) j c0) X.env), (false, eval (.Constant (.str z) k c1) X.env)] := by rfl)
    (hbase : attributeBase e "replace" X.env (eval e X.env) = eval e X.env := by rfl) (hline : (apos.endLine == pos.line) = true := by rfl) :
    GET X (.Call (.Attribute e "replace" apos) [.Constant (.str y) j c0, .Constant (.str z) k c1] [] pos) (dRepl y z de) := by
  obtain ⟨te, a1, a2⟩ := ho
  refine ⟨_, CwR.pet_replC a1 hyz hst hbase hline, fun σ H φ Φ Q env h q => a2 σ H φ _ _ env h fun v H1 d s1 pv h1 => ?_⟩
  cases d with
  | str a =>
    cases pv
    exact ⟨a, rfl, h1.1, q _ H1 _ s1 (.str _) h1.2⟩
  | _ => exact h1.elim
end
end L2.D3

set_option maxHeartbeats 4000000
/-! Numbers as Rat, points, sides; sizes; what equals what. -/
namespace L2.D3
open PySem PySem.Spec PyProof.Rows
/-! ### numbers as data -/
def eQ (q : Rat) : Dt := .tuple [.int q.num, .int q.den]
abbrev Pt := Rat × Rat
def eP (p : Pt) : Dt := .tuple [eQ p.1, eQ p.2]
abbrev Sd := Pt × Pt
def eS (s : Sd) : Dt := .tuple [eP s.1, eP s.2]
theorem nsp_eQ (q : Rat) : spec (eQ q) = false := rfl
theorem nsp_eP (p : Pt) : spec (eP p) = false := rfl
theorem nsp_eS (s : Sd) : spec (eS s) = false := rfl
theorem eQ_inj {a b : Rat} (h : eQ a = eQ b) : a = b := by
  unfold eQ at h
  simp only [PyData.tuple.injEq, List.cons.injEq, PyData.int.injEq, and_true] at h
  exact Rat.ext h.1 (by exact_mod_cast h.2)
theorem eqv_eQ (a b : Rat) : PyData.eqv (eQ a) (eQ b) = decide (a = b) := by
  unfold eQ
  simp only [PyData.eqv, PyData.eqvAll, Bool.and_true]
  by_cases h : a = b
  · subst h; simp
  · rw [decide_eq_false h, Bool.and_eq_false_iff]
    by_cases h1 : a.num = b.num
    · right
      have h2 : a.den ≠ b.den := fun z => h (Rat.ext h1 z)
      rw [beq_eq_false_iff_ne]
      exact fun z => h2 (by exact_mod_cast z)
    · left
      rw [beq_eq_false_iff_ne]
      exact h1
theorem eqv_eP (a b : Pt) : PyData.eqv (eP a) (eP b) = decide (a = b) := by
  unfold eP
  simp only [PyData.eqv, PyData.eqvAll, Bool.and_true, eqv_eQ]
  by_cases h : a = b
  · subst h; simp
  · rw [decide_eq_false h, Bool.and_eq_false_iff]
    by_cases h1 : a.1 = b.1
    · right; exact decide_eq_false fun z => h (Prod.ext h1 z)
    · left; exact decide_eq_false h1
theorem eqv_eS (a b : Sd) : PyData.eqv (eS a) (eS b) = decide (a = b) := by
  unfold eS
  simp only [PyData.eqv, PyData.eqvAll, Bool.and_true, eqv_eP]
  by_cases h : a = b
  · subst h; simp
  · rw [decide_eq_false h, Bool.and_eq_false_iff]
    by_cases h1 : a.1 = b.1
    · right; exact decide_eq_false fun z => h (Prod.ext h1 z)
    · left; exact decide_eq_false h1
theorem eqvAll_map {α : Type} [DecidableEq α] {f : α → Dt} (hf : ∀ a b, PyData.eqv (f a) (f b) = decide (a = b)) : ∀ xs ys : List α, PyData.eqvAll (xs.map f) (ys.map f) = decide (xs = ys)
  | [], [] => rfl
  | [], _ :: _ => rfl
  | _ :: _, [] => rfl
  | x :: xs, y :: ys => by
    show (PyData.eqv (f x) (f y) && PyData.eqvAll (xs.map f) (ys.map f)) = _
    rw [hf, eqvAll_map hf xs ys]
    by_cases h1 : x = y
    · by_cases h2 : xs = ys
      · simp [h1, h2]
      · simp [h1, h2]
    · simp [h1]
theorem eqv_list {α : Type} [DecidableEq α] {f : α → Dt} (hf : ∀ a b, PyData.eqv (f a) (f b) = decide (a = b)) (xs ys : List α) : PyData.eqv (.list (xs.map f)) (.list (ys.map f)) = decide (xs = ys) := eqvAll_map hf xs ys
theorem eqv_tuple {α : Type} [DecidableEq α] {f : α → Dt} (hf : ∀ a b, PyData.eqv (f a) (f b) = decide (a = b)) (xs ys : List α) : PyData.eqv (.tuple (xs.map f)) (.tuple (ys.map f)) = decide (xs = ys) := eqvAll_map hf xs ys
/-! shaped -/
theorem shaped_iff {d : Dt} : SeqAt.shaped d = true ↔ d.canLay0 = true ∧ d.depth ≤ 64 := by
  unfold SeqAt.shaped
  rw [Bool.and_eq_true, decide_eq_true_iff]
/-- laid at most n deep -/
def Sh (n : Nat) (d : Dt) : Prop := d.canLay0 = true ∧ d.depth ≤ n
theorem Sh.shaped {n : Nat} {d : Dt} (h : Sh n d) (hn : n ≤ 64) : SeqAt.shaped d = true := shaped_iff.mpr ⟨h.1, Nat.le_trans h.2 hn⟩
theorem Sh.mono {n m : Nat} {d : Dt} (h : Sh n d) (hn : n ≤ m) : Sh m d := ⟨h.1, Nat.le_trans h.2 hn⟩
theorem sh_int (n : Nat) (i : Int) : Sh n (.int i) := ⟨by simp [PyData.canLay0], by simp [PyData.depth]⟩
theorem sh_bool (n : Nat) (i : Bool) : Sh n (.bool i) := ⟨by simp [PyData.canLay0], by simp [PyData.depth]⟩
theorem sh_none (n : Nat) : Sh n .none := ⟨by simp [PyData.canLay0], by simp [PyData.depth]⟩
theorem shAll {n : Nat} : ∀ {ds : List Dt}, (∀ d ∈ ds, Sh n d) → PyData.canLayAll0 ds = true ∧ PyData.depthAll ds ≤ n
  | [], _ => ⟨by simp [PyData.canLayAll0], by simp [PyData.depthAll]⟩
  | d :: ds, h => by
    obtain ⟨h1, h2⟩ := h d List.mem_cons_self
    obtain ⟨h3, h4⟩ := shAll (ds := ds) fun e he => h e (List.mem_cons_of_mem _ he)
    refine ⟨by simp [PyData.canLayAll0, h1, h3], ?_⟩
    simp only [PyData.depthAll]
    omega
theorem sh_tuple {n : Nat} {ds : List Dt} (h : ∀ d ∈ ds, Sh n d) : Sh (n + 1) (.tuple ds) := by
  obtain ⟨h1, h2⟩ := shAll h
  exact ⟨by simp only [PyData.canLay0]; exact h1, by simp only [PyData.depth]; omega⟩
theorem sh_list {n : Nat} {ds : List Dt} (h : ∀ d ∈ ds, Sh n d) : Sh (n + 1) (.list ds) := by
  obtain ⟨h1, h2⟩ := shAll h
  exact ⟨by simp only [PyData.canLay0]; exact h1, by simp only [PyData.depth]; omega⟩
theorem sh_eQ (q : Rat) : Sh 1 (eQ q) := sh_tuple fun d hd => by
  simp only [List.mem_cons, List.not_mem_nil, or_false] at hd
  rcases hd with rfl | rfl <;> exact sh_int 0 _
theorem sh_eP (p : Pt) : Sh 2 (eP p) := sh_tuple fun d hd => by
  simp only [List.mem_cons, List.not_mem_nil, or_false] at hd
  rcases hd with rfl | rfl <;> exact sh_eQ _
theorem sh_eS (p : Sd) : Sh 3 (eS p) := sh_tuple fun d hd => by
  simp only [List.mem_cons, List.not_mem_nil, or_false] at hd
  rcases hd with rfl | rfl <;> exact sh_eP _
theorem sh_map {α : Type} {n : Nat} {f : α → Dt} (h : ∀ a, Sh n (f a)) (xs : List α) : ∀ d ∈ xs.map f, Sh n d := fun d hd => by
  obtain ⟨a, _, rfl⟩ := List.mem_map.mp hd
  exact h a
theorem shp_int (i : Int) : SeqAt.shaped (.int i) = true := (sh_int 0 i).shaped (by decide)
theorem shp_bool (i : Bool) : SeqAt.shaped (.bool i) = true := (sh_bool 0 i).shaped (by decide)
theorem shp_none : SeqAt.shaped .none = true := (sh_none 0).shaped (by decide)
theorem shp_eQ (q : Rat) : SeqAt.shaped (eQ q) = true := (sh_eQ q).shaped (by decide)
theorem shp_eP (q : Pt) : SeqAt.shaped (eP q) = true := (sh_eP q).shaped (by decide)
theorem shp_eS (q : Sd) : SeqAt.shaped (eS q) = true := (sh_eS q).shaped (by decide)
theorem shp_ps (xs : List Pt) : SeqAt.shaped (.list (xs.map eP)) = true := (sh_list (sh_map sh_eP xs)).shaped (by decide)
theorem shp_pt (xs : List Pt) : SeqAt.shaped (.tuple (xs.map eP)) = true := (sh_tuple (sh_map sh_eP xs)).shaped (by decide)
theorem shp_ss (xs : List Sd) : SeqAt.shaped (.list (xs.map eS)) = true := (sh_list (sh_map sh_eS xs)).shaped (by decide)
theorem shp_is (xs : List Int) : SeqAt.shaped (.list (xs.map .int)) = true := (sh_list (sh_map (sh_int 0) xs)).shaped (by decide)
theorem eqv_int (a b : Int) : PyData.eqv (.int a) (.int b) = decide (a = b) := by
  simp only [PyData.eqv]
  by_cases h : a = b
  · subst h; simp
  · rw [decide_eq_false h]; exact beq_eq_false_iff_ne.mpr h
theorem eqv_bool (a b : Bool) : PyData.eqv (.bool a) (.bool b) = decide (a = b) := by
  cases a <;> cases b <;> rfl
/-! items -/
theorem it_eQ0 (q : Rat) : itemD (eQ q) 0 = some (.int q.num) := rfl
theorem it_eQ1 (q : Rat) : itemD (eQ q) 1 = some (.int q.den) := rfl
theorem it_eP0 (q : Pt) : itemD (eP q) 0 = some (eQ q.1) := rfl
theorem it_eP1 (q : Pt) : itemD (eP q) 1 = some (eQ q.2) := rfl
theorem it_eS0 (q : Sd) : itemD (eS q) 0 = some (eP q.1) := rfl
theorem it_eS1 (q : Sd) : itemD (eS q) 1 = some (eP q.2) := rfl
theorem fits_eQ (q : Rat) : fitsD (eQ q) := trivial
theorem fits_eP (q : Pt) : fitsD (eP q) := trivial
theorem fits_eS (q : Sd) : fitsD (eS q) := trivial
/-! ### sizes -/
/-- top and bottom below 2 ^ n -/
def Bd (n : Nat) (q : Rat) : Prop := q.num.natAbs < 2 ^ n ∧ q.den < 2 ^ n
theorem Bd.mono {n m : Nat} {q : Rat} (h : Bd n q) (hn : n ≤ m) : Bd m q :=
  ⟨Nat.lt_of_lt_of_le h.1 (Nat.pow_le_pow_right (by decide) hn), Nat.lt_of_lt_of_le h.2 (Nat.pow_le_pow_right (by decide) hn)⟩
theorem Bd.pos {n : Nat} {q : Rat} (h : Bd n q) : 0 < n := by
  cases n with
  | zero =>
    have h1 := h.2
    have h2 := q.den_pos
    simp at h1
    omega
  | succ n => exact Nat.succ_pos n
theorem bd_divInt {t b : Int} {n : Nat} (ht : t.natAbs < 2 ^ n) (hb : b.natAbs < 2 ^ n) (h0 : b ≠ 0) : Bd n (Rat.divInt t b) := by
  have hb0 : b.natAbs ≠ 0 := by omega
  refine ⟨?_, ?_⟩
  · rw [Rat.num_divInt]
    have h1 : (b.sign * t / (b.gcd t : Nat)).natAbs ≤ (b.sign * t).natAbs := Int.natAbs_ediv_le_natAbs _ _
    have h2 : (b.sign * t).natAbs ≤ t.natAbs := by
      rw [Int.natAbs_mul]
      have h3 : b.sign.natAbs ≤ 1 := by
        rcases Int.lt_trichotomy b 0 with h | h | h
        · rw [Int.sign_eq_neg_one_of_neg h]; decide
        · rw [h]; decide
        · rw [Int.sign_eq_one_of_pos h]; decide
      calc b.sign.natAbs * t.natAbs ≤ 1 * t.natAbs := Nat.mul_le_mul_right _ h3
        _ = t.natAbs := Nat.one_mul _
    omega
  · rw [Rat.den_divInt, if_neg h0]
    exact Nat.lt_of_le_of_lt (Nat.div_le_self _ _) hb
theorem den_ne (q : Rat) : (q.den : Int) ≠ 0 := by have := q.den_pos; omega
theorem mul_lt2 {a b : Int} {n m : Nat} (ha : a.natAbs < 2 ^ n) (hb : b.natAbs < 2 ^ m) : (a * b).natAbs < 2 ^ (n + m) := wide_lt ha hb
theorem bd_num {n : Nat} {q : Rat} (h : Bd n q) : q.num.natAbs < 2 ^ n := h.1
theorem bd_den {n : Nat} {q : Rat} (h : Bd n q) : ((q.den : Int)).natAbs < 2 ^ n := by rw [Int.natAbs_natCast]; exact h.2
theorem add_lt2 {a b : Int} {n : Nat} (ha : a.natAbs < 2 ^ n) (hb : b.natAbs < 2 ^ n) : (a + b).natAbs < 2 ^ (n + 1) := by
  rw [Nat.pow_succ]
  omega
theorem sub_lt2 {a b : Int} {n : Nat} (ha : a.natAbs < 2 ^ n) (hb : b.natAbs < 2 ^ n) : (a - b).natAbs < 2 ^ (n + 1) := by
  rw [Nat.pow_succ]
  omega
theorem add_div (a b : Rat) : a + b = Rat.divInt (a.num * b.den + b.num * a.den) (a.den * b.den) := by
  rw [Rat.add_def', ← Rat.divInt_ofNat, Int.natCast_mul]
theorem sub_div (a b : Rat) : a - b = Rat.divInt (a.num * b.den - b.num * a.den) (a.den * b.den) := by
  rw [Rat.sub_def', ← Rat.divInt_ofNat, Int.natCast_mul]
theorem mul_div (a b : Rat) : a * b = Rat.divInt (a.num * b.num) (a.den * b.den) := by
  rw [Rat.mul_def', ← Rat.divInt_ofNat, Int.natCast_mul]
theorem div_div (a b : Rat) : a / b = Rat.divInt (a.num * b.den) (a.den * b.num) := by
  rw [Rat.div_def, Rat.inv_def]
  conv => lhs; rw [← Rat.num_divInt_den a]
  exact Rat.divInt_mul_divInt _ _
theorem Bd.add {n m : Nat} {a b : Rat} (ha : Bd n a) (hb : Bd m b) : Bd (n + m + 1) (a + b) := by
  rw [add_div]
  have k1 := mul_lt2 (bd_num ha) (bd_den hb)
  have k2 := mul_lt2 (bd_num hb) (bd_den ha)
  rw [Nat.add_comm] at k2
  refine bd_divInt (add_lt2 k1 k2) ?_ (Int.mul_ne_zero (den_ne a) (den_ne b))
  exact Nat.lt_trans (mul_lt2 (bd_den ha) (bd_den hb)) (Nat.pow_lt_pow_right (by decide) (Nat.lt_succ_self _))
theorem Bd.sub {n m : Nat} {a b : Rat} (ha : Bd n a) (hb : Bd m b) : Bd (n + m + 1) (a - b) := by
  rw [sub_div]
  have k1 := mul_lt2 (bd_num ha) (bd_den hb)
  have k2 := mul_lt2 (bd_num hb) (bd_den ha)
  rw [Nat.add_comm] at k2
  refine bd_divInt (sub_lt2 k1 k2) ?_ (Int.mul_ne_zero (den_ne a) (den_ne b))
  exact Nat.lt_trans (mul_lt2 (bd_den ha) (bd_den hb)) (Nat.pow_lt_pow_right (by decide) (Nat.lt_succ_self _))
theorem Bd.mul {n m : Nat} {a b : Rat} (ha : Bd n a) (hb : Bd m b) : Bd (n + m) (a * b) := by
  rw [mul_div]
  exact bd_divInt (mul_lt2 (bd_num ha) (bd_num hb)) (mul_lt2 (bd_den ha) (bd_den hb)) (Int.mul_ne_zero (den_ne a) (den_ne b))
theorem Bd.div {n m : Nat} {a b : Rat} (ha : Bd n a) (hb : Bd m b) (h0 : b ≠ 0) : Bd (n + m) (a / b) := by
  rw [div_div]
  have hn : b.num ≠ 0 := fun z => h0 (Rat.num_eq_zero.mp z)
  exact bd_divInt (mul_lt2 (bd_num ha) (bd_den hb)) (mul_lt2 (bd_den ha) (bd_num hb)) (Int.mul_ne_zero (den_ne a) hn)
theorem Bd.neg {n : Nat} {a : Rat} (ha : Bd n a) : Bd n (-a) := ⟨by rw [Rat.neg_num, Int.natAbs_neg]; exact ha.1, by rw [Rat.neg_den]; exact ha.2⟩
theorem cm {a b : Int} {n m : Nat} (ha : a.natAbs < 2 ^ n) (hb : b.natAbs < 2 ^ m) (h : n + m ≤ 900000) : CMulW a b :=
  wide_mul (Nat.lt_of_lt_of_le ha (Nat.pow_le_pow_right (by decide) (Nat.le_succ n))) (Nat.lt_of_lt_of_le hb (Nat.pow_le_pow_right (by decide) (Nat.le_succ m))) (Nat.succ_pos n) (Nat.succ_pos m) (by omega)
theorem cfd {a b : Int} {m : Nat} (h0 : b ≠ 0) (hb : b.natAbs < 2 ^ m) (h : m ≤ 8999) : CFd a b :=
  ⟨h0, Nat.lt_of_lt_of_le (PySem.Flt.log2_lt_of (Nat.succ_pos m) (Nat.lt_of_lt_of_le hb (Nat.pow_le_pow_right (by decide) (Nat.le_succ m)))) (by omega)⟩
/-! ### the greatest common divisor by remainders -/
theorem gcd_step (h l : Int) (hl : 0 < l) : Int.gcd l (h.fmod l) = Int.gcd h l := by
  rw [Int.fmod_eq_emod_of_nonneg h (Int.le_of_lt hl), Int.gcd_comm l, Int.emod_def]
  have e : h - l * (h / l) = h + (-(h / l)) * l := by rw [Int.neg_mul, Int.mul_comm l, Int.sub_eq_add_neg]
  rw [e]
  exact Int.gcd_add_mul_right_left l h (-(h / l))
/-- top and bottom by the greatest common divisor -/
theorem low_num {t b : Int} {g : Int} (hg : g = if b < 0 then 0 - ((Int.gcd t b : Nat) : Int) else ((Int.gcd t b : Nat) : Int)) (h0 : b ≠ 0) : PyData.tuple [.int (t.fdiv g), .int (b.fdiv g)] = eQ (Rat.divInt t b) := by
  have hd0 : (Int.gcd t b) ≠ 0 := fun z => h0 (Int.gcd_eq_zero_iff.mp z).2
  have e1 : Int.gcd b t = Int.gcd t b := Int.gcd_comm b t
  obtain ⟨t', ht⟩ : ((Int.gcd t b : Nat) : Int) ∣ t := Int.gcd_dvd_left ..
  obtain ⟨b', hb⟩ : ((Int.gcd t b : Nat) : Int) ∣ b := Int.gcd_dvd_right ..
  have hdpos : (0 : Int) < (Int.gcd t b : Nat) := by omega
  unfold eQ
  rw [Rat.num_divInt, Rat.den_divInt, if_neg h0, e1]
  by_cases hb0 : b < 0
  · rw [if_pos hb0] at hg
    have hs : b.sign = -1 := Int.sign_eq_neg_one_of_neg hb0
    have f1 : t.fdiv g = b.sign * t / ((Int.gcd t b : Nat) : Int) := by
      rw [hs, hg]
      generalize ((Int.gcd t b : Nat) : Int) = d at *
      subst ht
      have : (-1 : Int) * (d * t') = d * (-t') := by rw [Int.neg_one_mul, Int.mul_neg]
      rw [this, Int.mul_ediv_cancel_left _ (by omega)]
      have e2 : d * t' = (0 - d) * (-t') := by rw [Int.zero_sub, Int.neg_mul_neg]
      rw [e2, Int.mul_fdiv_cancel_left _ (by omega)]
    have f2 : b.fdiv g = ((b.natAbs / Int.gcd t b : Nat) : Int) := by
      have e3 : ((b.natAbs / Int.gcd t b : Nat) : Int) = (-b) / ((Int.gcd t b : Nat) : Int) := by
        rw [Int.natCast_ediv]
        congr 1
        omega
      rw [e3, hg]
      generalize ((Int.gcd t b : Nat) : Int) = d at *
      have e4 : -b = d * (-b') := by rw [hb, Int.mul_neg]
      have e5 : b = (0 - d) * (-b') := by rw [Int.zero_sub, Int.neg_mul_neg]; exact hb
      rw [e4, Int.mul_ediv_cancel_left _ (by omega)]
      conv => lhs; rw [e5]
      rw [Int.mul_fdiv_cancel_left _ (by omega)]
    rw [f1, f2]
  · rw [if_neg hb0] at hg
    have hs : b.sign = 1 := Int.sign_eq_one_of_pos (by omega)
    have f1 : t.fdiv g = b.sign * t / ((Int.gcd t b : Nat) : Int) := by
      rw [hs, hg, Int.one_mul, Int.fdiv_eq_ediv_of_nonneg _ (Int.le_of_lt hdpos)]
    have f2 : b.fdiv g = ((b.natAbs / Int.gcd t b : Nat) : Int) := by
      have e3 : ((b.natAbs / Int.gcd t b : Nat) : Int) = b / ((Int.gcd t b : Nat) : Int) := by
        rw [Int.natCast_ediv]
        congr 1
        omega
      rw [e3, hg, Int.fdiv_eq_ediv_of_nonneg _ (Int.le_of_lt hdpos)]
    rw [f1, f2]
end L2.D3

set_option maxHeartbeats 4000000
/-! The contracts and readings of numbers and points. -/
namespace L2.D3
open PySem PySem.Spec PyProof.Rows
def sp_great_part : DSp := fun ds Φ _ => ∃ a b : Int, ds = [.int a, .int b] ∧ Φ (.pu (.int (Int.gcd a b : Nat)))
def sp_lowest : DSp := fun ds Φ _ => ∃ t b : Int, ds = [.int t, .int b] ∧ b ≠ 0 ∧ b.natAbs < 2 ^ 8990 ∧ Φ (.pu (eQ (Rat.divInt t b)))
def sp_plus : DSp := fun ds Φ _ => ∃ (a b : Rat) (n m : Nat), ds = [eQ a, eQ b] ∧ Bd n a ∧ Bd m b ∧ n + m ≤ 8990 ∧ Φ (.pu (eQ (a + b)))
def sp_minus : DSp := fun ds Φ _ => ∃ (a b : Rat) (n m : Nat), ds = [eQ a, eQ b] ∧ Bd n a ∧ Bd m b ∧ n + m ≤ 8990 ∧ Φ (.pu (eQ (a - b)))
def sp_times : DSp := fun ds Φ _ => ∃ (a b : Rat) (n m : Nat), ds = [eQ a, eQ b] ∧ Bd n a ∧ Bd m b ∧ n + m ≤ 8990 ∧ Φ (.pu (eQ (a * b)))
def sp_below : DSp := fun ds Φ _ => ∃ (a b : Rat) (n m : Nat), ds = [eQ a, eQ b] ∧ Bd n a ∧ Bd m b ∧ n + m ≤ 100000 ∧ Φ (.pu (.bool (decide (a < b))))
abbrev N_great_part : List Str := ["one", "other", "high", "low"]
def d_great_part : DS := (dSeq (dPar 2 3 (dCons (dB bAbs (dCons (dV 0) dNil)) (dCons (dB bAbs (dCons (dV 1) dNil)) dNil)))
  (dSeq (dWhile (dTV (dBin oGt (dV 3) (dC (.int 0)))) (dPar 2 3 (dCons (dV 3) (dCons (dBin oMd (dV 2) (dV 3)) dNil))))
  (dRet (dV 2))))
abbrev N_lowest : List Str := ["top", "bottom", "shared"]
def d_lowest : DS := (dSeq (dSetP 2 (dCall sp_great_part (dCons (dV 0) (dCons (dV 1) dNil))))
  (dSeq (dIf (dTV (dBin oLt (dV 1) (dC (.int 0)))) (dSetP 2 (dBin oSubI (dC (.int 0)) (dV 2))) dNext)
  (dRet (dTup (dCons (dBin oFd (dV 0) (dV 2)) (dCons (dBin oFd (dV 1) (dV 2)) dNil))))))
abbrev N_plus : List Str := ["a", "b"]
def d_plus : DS := (dRet (dCall sp_lowest (dCons (dBin oAddU (dBin oMulU (dBin oIx (dV 0) (dC (.int 0))) (dBin oIx (dV 1) (dC (.int 1)))) (dBin oMulU (dBin oIx (dV 1) (dC (.int 0))) (dBin oIx (dV 0) (dC (.int 1))))) (dCons (dBin oMulU (dBin oIx (dV 0) (dC (.int 1))) (dBin oIx (dV 1) (dC (.int 1)))) dNil))))
abbrev N_minus : List Str := ["a", "b"]
def d_minus : DS := (dRet (dCall sp_lowest (dCons (dBin oSubI (dBin oMulU (dBin oIx (dV 0) (dC (.int 0))) (dBin oIx (dV 1) (dC (.int 1)))) (dBin oMulU (dBin oIx (dV 1) (dC (.int 0))) (dBin oIx (dV 0) (dC (.int 1))))) (dCons (dBin oMulU (dBin oIx (dV 0) (dC (.int 1))) (dBin oIx (dV 1) (dC (.int 1)))) dNil))))
abbrev N_times : List Str := ["a", "b"]
def d_times : DS := (dRet (dCall sp_lowest (dCons (dBin oMulU (dBin oIx (dV 0) (dC (.int 0))) (dBin oIx (dV 1) (dC (.int 0)))) (dCons (dBin oMulU (dBin oIx (dV 0) (dC (.int 1))) (dBin oIx (dV 1) (dC (.int 1)))) dNil))))
abbrev N_below : List Str := ["a", "b"]
def d_below : DS := (dRet (dBin oLt (dBin oMulU (dBin oIx (dV 0) (dC (.int 0))) (dBin oIx (dV 1) (dC (.int 1)))) (dBin oMulU (dBin oIx (dV 1) (dC (.int 0))) (dBin oIx (dV 0) (dC (.int 1))))))
theorem rd_great_part (ds : List Dt) (Φ : Slot → Prop) (Ξ : XD → Prop) (h : sp_great_part ds Φ Ξ) : d_great_part (endsOf Φ Ξ) (rho0 N_great_part ds) := by
  obtain ⟨a, b, rfl, h⟩ := h
  simp only [d_great_part, N_great_part, dRet, dRetF, dSetX, dCallX, dRetX, noOw, dTry, dCpy, dRaise, dRetO, dSetP, dSetS, dSetF, dSeq, dIf, dNext, dCall, dCallF, dB, dBin, dCons, dNil, dTup, dLst, dV, dC, dTV, onB, dTAnd, dTOr, dTNot, dAnd, dOr, dNot, dIfE, dIsN, dNotN, isN, dSl, dSlF, dNoPart, dPart, dPar, dParS, dAsg, dgN, dgT, dgCons, dgNil, seqD, dFE, dIsi, dListF, dNeg, dRev, dFrz, dApp, dAppS, dIns, dExtend, dClear, dReverse, dPop, oIx, oI, oIC, oAddU, oSubI, oMulU, oMulI, oFd, oMd, oPw, oLt, oLe, oGt, oGe, oEq, oNe, getF, setF, Cl.d, getS, setS, purF, allF, rho0, endsOf, scalD, bLen, bAbs, bInt, bIntU, bTup, Slot.dat, true_and, and_true, Option.some.injEq, exists_eq_left', decide_eq_true_eq, Bool.not_eq_true', decide_eq_false_iff_not, it_eQ0, it_eQ1, it_eP0, it_eP1, it_eS0, it_eS1, fits_eQ, fits_eP, fits_eS, eqv_eQ, eqv_eP, eqv_eS, eqv_int, eqv_bool, shp_int, shp_bool, shp_none, shp_eQ, shp_eP, shp_eS, dCont, dBreak, dXi, dSetG, dAppG, oIsB, oNotB, dTx, pJoin, pSplit, pPart, pStarts, bStr, bIntS, dFmt, dJs, ↓reduceIte, nsp_none, nsp_bool, nsp_int, nsp_str, nsp_list, nsp_tuple, nsp_eQ, nsp_eP, nsp_eS, dWhile]
  refine ⟨fun m ρ => ∃ h l : Nat, ρ = [.pu (.int a), .pu (.int b), .pu (.int h), .pu (.int l)] ∧ m = l ∧ Int.gcd h l = Int.gcd a b, ⟨_, _, _, rfl, rfl, ?_⟩, ?_⟩
  · simp [Int.gcd]
  · rintro m ρ' ⟨h1, l, rfl, rfl, hg⟩
    simp only [dRet, dRetF, dSetX, dCallX, dRetX, noOw, dTry, dCpy, dRaise, dRetO, dSetP, dSetS, dSetF, dSeq, dIf, dNext, dCall, dCallF, dB, dBin, dCons, dNil, dTup, dLst, dV, dC, dTV, onB, dTAnd, dTOr, dTNot, dAnd, dOr, dNot, dIfE, dIsN, dNotN, isN, dSl, dSlF, dNoPart, dPart, dPar, dParS, dAsg, dgN, dgT, dgCons, dgNil, seqD, dFE, dIsi, dListF, dNeg, dRev, dFrz, dApp, dAppS, dIns, dExtend, dClear, dReverse, dPop, oIx, oI, oIC, oAddU, oSubI, oMulU, oMulI, oFd, oMd, oPw, oLt, oLe, oGt, oGe, oEq, oNe, getF, setF, Cl.d, getS, setS, purF, allF, rho0, endsOf, scalD, bLen, bAbs, bInt, bIntU, bTup, Slot.dat, true_and, and_true, Option.some.injEq, exists_eq_left', decide_eq_true_eq, Bool.not_eq_true', decide_eq_false_iff_not, it_eQ0, it_eQ1, it_eP0, it_eP1, it_eS0, it_eS1, fits_eQ, fits_eP, fits_eS, eqv_eQ, eqv_eP, eqv_eS, eqv_int, eqv_bool, shp_int, shp_bool, shp_none, shp_eQ, shp_eP, shp_eS, dCont, dBreak, dXi, dSetG, dAppG, oIsB, oNotB, dTx, pJoin, pSplit, pPart, pStarts, bStr, bIntS, dFmt, dJs, ↓reduceIte, nsp_none, nsp_bool, nsp_int, nsp_str, nsp_list, nsp_tuple, nsp_eQ, nsp_eP, nsp_eS]
    split
    · rename_i hl
      refine ⟨by omega, (Int.fmod h1 m).toNat, ?_, m, _, ?_, rfl, ?_⟩
      · have h0 : (0 : Int) ≤ (h1 : Int).fmod m := Int.fmod_nonneg_of_pos _ (by omega)
        have h2 : (h1 : Int).fmod m < m := Int.fmod_lt_of_pos _ (by omega)
        omega
      · have h0 : (0 : Int) ≤ (h1 : Int).fmod m := Int.fmod_nonneg_of_pos _ (by omega)
        rw [Int.toNat_of_nonneg h0]
      · have h0 : (0 : Int) ≤ (h1 : Int).fmod m := Int.fmod_nonneg_of_pos _ (by omega)
        rw [Int.toNat_of_nonneg h0, gcd_step _ _ (by omega)]
        exact hg
    · rename_i hl
      have e : m = 0 := by omega
      subst e
      rw [show ((0 : Nat) : Int) = 0 from rfl, Int.gcd_zero_right] at hg
      have hg' : h1 = Int.gcd a b := by simpa using hg
      rw [hg']
      exact h
theorem rd_lowest (ds : List Dt) (Φ : Slot → Prop) (Ξ : XD → Prop) (h : sp_lowest ds Φ Ξ) : d_lowest (endsOf Φ Ξ) (rho0 N_lowest ds) := by
  obtain ⟨t, b, rfl, h0, hb, h⟩ := h
  have hd0 : (Int.gcd t b) ≠ 0 := fun z => h0 (Int.gcd_eq_zero_iff.mp z).2
  have hgl : Int.gcd t b ≤ b.natAbs := Nat.le_of_dvd (by omega) (Int.gcd_dvd_natAbs_right t b)
  have hlt : Int.gcd t b < 2 ^ 8990 := Nat.lt_of_le_of_lt hgl hb
  simp only [d_lowest, N_lowest, dRet, dRetF, dSetX, dCallX, dRetX, noOw, dTry, dCpy, dRaise, dRetO, dSetP, dSetS, dSetF, dSeq, dIf, dNext, dCall, dCallF, dB, dBin, dCons, dNil, dTup, dLst, dV, dC, dTV, onB, dTAnd, dTOr, dTNot, dAnd, dOr, dNot, dIfE, dIsN, dNotN, isN, dSl, dSlF, dNoPart, dPart, dPar, dParS, dAsg, dgN, dgT, dgCons, dgNil, seqD, dFE, dIsi, dListF, dNeg, dRev, dFrz, dApp, dAppS, dIns, dExtend, dClear, dReverse, dPop, oIx, oI, oIC, oAddU, oSubI, oMulU, oMulI, oFd, oMd, oPw, oLt, oLe, oGt, oGe, oEq, oNe, getF, setF, Cl.d, getS, setS, purF, allF, rho0, endsOf, scalD, bLen, bAbs, bInt, bIntU, bTup, Slot.dat, true_and, and_true, Option.some.injEq, exists_eq_left', decide_eq_true_eq, Bool.not_eq_true', decide_eq_false_iff_not, it_eQ0, it_eQ1, it_eP0, it_eP1, it_eS0, it_eS1, fits_eQ, fits_eP, fits_eS, eqv_eQ, eqv_eP, eqv_eS, eqv_int, eqv_bool, shp_int, shp_bool, shp_none, shp_eQ, shp_eP, shp_eS, dCont, dBreak, dXi, dSetG, dAppG, oIsB, oNotB, dTx, pJoin, pSplit, pPart, pStarts, bStr, bIntS, dFmt, dJs, ↓reduceIte, nsp_none, nsp_bool, nsp_int, nsp_str, nsp_list, nsp_tuple, nsp_eQ, nsp_eP, nsp_eS]
  refine ⟨t, b, rfl, ?_⟩
  simp only [dRet, dRetF, dSetX, dCallX, dRetX, noOw, dTry, dCpy, dRaise, dRetO, dSetP, dSetS, dSetF, dSeq, dIf, dNext, dCall, dCallF, dB, dBin, dCons, dNil, dTup, dLst, dV, dC, dTV, onB, dTAnd, dTOr, dTNot, dAnd, dOr, dNot, dIfE, dIsN, dNotN, isN, dSl, dSlF, dNoPart, dPart, dPar, dParS, dAsg, dgN, dgT, dgCons, dgNil, seqD, dFE, dIsi, dListF, dNeg, dRev, dFrz, dApp, dAppS, dIns, dExtend, dClear, dReverse, dPop, oIx, oI, oIC, oAddU, oSubI, oMulU, oMulI, oFd, oMd, oPw, oLt, oLe, oGt, oGe, oEq, oNe, getF, setF, Cl.d, getS, setS, purF, allF, rho0, endsOf, scalD, bLen, bAbs, bInt, bIntU, bTup, Slot.dat, true_and, and_true, Option.some.injEq, exists_eq_left', decide_eq_true_eq, Bool.not_eq_true', decide_eq_false_iff_not, it_eQ0, it_eQ1, it_eP0, it_eP1, it_eS0, it_eS1, fits_eQ, fits_eP, fits_eS, eqv_eQ, eqv_eP, eqv_eS, eqv_int, eqv_bool, shp_int, shp_bool, shp_none, shp_eQ, shp_eP, shp_eS, dCont, dBreak, dXi, dSetG, dAppG, oIsB, oNotB, dTx, pJoin, pSplit, pPart, pStarts, bStr, bIntS, dFmt, dJs, ↓reduceIte, nsp_none, nsp_bool, nsp_int, nsp_str, nsp_list, nsp_tuple, nsp_eQ, nsp_eP, nsp_eS]
  split
  · rename_i hc
    refine ⟨cfd (m := 8990) (by omega) (by rw [Int.zero_sub, Int.natAbs_neg, Int.natAbs_natCast]; exact hlt) (by decide), cfd (m := 8990) (by omega) (by rw [Int.zero_sub, Int.natAbs_neg, Int.natAbs_natCast]; exact hlt) (by decide), ?_⟩
    rw [low_num (g := 0 - ((Int.gcd t b : Nat) : Int)) (by rw [if_pos hc]) h0]
    exact h
  · rename_i hc
    refine ⟨cfd (m := 8990) (by omega) (by rw [Int.natAbs_natCast]; exact hlt) (by decide), cfd (m := 8990) (by omega) (by rw [Int.natAbs_natCast]; exact hlt) (by decide), ?_⟩
    rw [low_num (g := ((Int.gcd t b : Nat) : Int)) (by rw [if_neg hc]) h0]
    exact h
theorem rd_minus (ds : List Dt) (Φ : Slot → Prop) (Ξ : XD → Prop) (h : sp_minus ds Φ Ξ) : d_minus (endsOf Φ Ξ) (rho0 N_minus ds) := by
  obtain ⟨a, b, n, m, rfl, ha, hb, hl, h⟩ := h
  simp only [d_minus, N_minus, dRet, dRetF, dSetX, dCallX, dRetX, noOw, dTry, dCpy, dRaise, dRetO, dSetP, dSetS, dSetF, dSeq, dIf, dNext, dCall, dCallF, dB, dBin, dCons, dNil, dTup, dLst, dV, dC, dTV, onB, dTAnd, dTOr, dTNot, dAnd, dOr, dNot, dIfE, dIsN, dNotN, isN, dSl, dSlF, dNoPart, dPart, dPar, dParS, dAsg, dgN, dgT, dgCons, dgNil, seqD, dFE, dIsi, dListF, dNeg, dRev, dFrz, dApp, dAppS, dIns, dExtend, dClear, dReverse, dPop, oIx, oI, oIC, oAddU, oSubI, oMulU, oMulI, oFd, oMd, oPw, oLt, oLe, oGt, oGe, oEq, oNe, getF, setF, Cl.d, getS, setS, purF, allF, rho0, endsOf, scalD, bLen, bAbs, bInt, bIntU, bTup, Slot.dat, true_and, and_true, Option.some.injEq, exists_eq_left', decide_eq_true_eq, Bool.not_eq_true', decide_eq_false_iff_not, it_eQ0, it_eQ1, it_eP0, it_eP1, it_eS0, it_eS1, fits_eQ, fits_eP, fits_eS, eqv_eQ, eqv_eP, eqv_eS, eqv_int, eqv_bool, shp_int, shp_bool, shp_none, shp_eQ, shp_eP, shp_eS, dCont, dBreak, dXi, dSetG, dAppG, oIsB, oNotB, dTx, pJoin, pSplit, pPart, pStarts, bStr, bIntS, dFmt, dJs, ↓reduceIte, nsp_none, nsp_bool, nsp_int, nsp_str, nsp_list, nsp_tuple, nsp_eQ, nsp_eP, nsp_eS]
  refine ⟨cm (bd_num ha) (bd_den hb) (by omega), cm (bd_num hb) (bd_den ha) (by omega), cm (bd_den ha) (bd_den hb) (by omega), _, _, rfl, Int.mul_ne_zero (den_ne a) (den_ne b), ?_, ?_⟩
  · exact Nat.lt_of_lt_of_le (mul_lt2 (bd_den ha) (bd_den hb)) (Nat.pow_le_pow_right (by decide) hl)
  · rw [← sub_div]; exact h
theorem rd_plus (ds : List Dt) (Φ : Slot → Prop) (Ξ : XD → Prop) (h : sp_plus ds Φ Ξ) : d_plus (endsOf Φ Ξ) (rho0 N_plus ds) := by
  obtain ⟨a, b, n, m, rfl, ha, hb, hl, h⟩ := h
  simp only [d_plus, N_plus, dRet, dRetF, dSetX, dCallX, dRetX, noOw, dTry, dCpy, dRaise, dRetO, dSetP, dSetS, dSetF, dSeq, dIf, dNext, dCall, dCallF, dB, dBin, dCons, dNil, dTup, dLst, dV, dC, dTV, onB, dTAnd, dTOr, dTNot, dAnd, dOr, dNot, dIfE, dIsN, dNotN, isN, dSl, dSlF, dNoPart, dPart, dPar, dParS, dAsg, dgN, dgT, dgCons, dgNil, seqD, dFE, dIsi, dListF, dNeg, dRev, dFrz, dApp, dAppS, dIns, dExtend, dClear, dReverse, dPop, oIx, oI, oIC, oAddU, oSubI, oMulU, oMulI, oFd, oMd, oPw, oLt, oLe, oGt, oGe, oEq, oNe, getF, setF, Cl.d, getS, setS, purF, allF, rho0, endsOf, scalD, bLen, bAbs, bInt, bIntU, bTup, Slot.dat, true_and, and_true, Option.some.injEq, exists_eq_left', decide_eq_true_eq, Bool.not_eq_true', decide_eq_false_iff_not, it_eQ0, it_eQ1, it_eP0, it_eP1, it_eS0, it_eS1, fits_eQ, fits_eP, fits_eS, eqv_eQ, eqv_eP, eqv_eS, eqv_int, eqv_bool, shp_int, shp_bool, shp_none, shp_eQ, shp_eP, shp_eS, dCont, dBreak, dXi, dSetG, dAppG, oIsB, oNotB, dTx, pJoin, pSplit, pPart, pStarts, bStr, bIntS, dFmt, dJs, ↓reduceIte, nsp_none, nsp_bool, nsp_int, nsp_str, nsp_list, nsp_tuple, nsp_eQ, nsp_eP, nsp_eS]
  refine ⟨cm (bd_num ha) (bd_den hb) (by omega), cm (bd_num hb) (bd_den ha) (by omega), cm (bd_den ha) (bd_den hb) (by omega), _, _, rfl, Int.mul_ne_zero (den_ne a) (den_ne b), ?_, ?_⟩
  · exact Nat.lt_of_lt_of_le (mul_lt2 (bd_den ha) (bd_den hb)) (Nat.pow_le_pow_right (by decide) hl)
  · rw [← add_div]; exact h
theorem rd_times (ds : List Dt) (Φ : Slot → Prop) (Ξ : XD → Prop) (h : sp_times ds Φ Ξ) : d_times (endsOf Φ Ξ) (rho0 N_times ds) := by
  obtain ⟨a, b, n, m, rfl, ha, hb, hl, h⟩ := h
  simp only [d_times, N_times, dRet, dRetF, dSetX, dCallX, dRetX, noOw, dTry, dCpy, dRaise, dRetO, dSetP, dSetS, dSetF, dSeq, dIf, dNext, dCall, dCallF, dB, dBin, dCons, dNil, dTup, dLst, dV, dC, dTV, onB, dTAnd, dTOr, dTNot, dAnd, dOr, dNot, dIfE, dIsN, dNotN, isN, dSl, dSlF, dNoPart, dPart, dPar, dParS, dAsg, dgN, dgT, dgCons, dgNil, seqD, dFE, dIsi, dListF, dNeg, dRev, dFrz, dApp, dAppS, dIns, dExtend, dClear, dReverse, dPop, oIx, oI, oIC, oAddU, oSubI, oMulU, oMulI, oFd, oMd, oPw, oLt, oLe, oGt, oGe, oEq, oNe, getF, setF, Cl.d, getS, setS, purF, allF, rho0, endsOf, scalD, bLen, bAbs, bInt, bIntU, bTup, Slot.dat, true_and, and_true, Option.some.injEq, exists_eq_left', decide_eq_true_eq, Bool.not_eq_true', decide_eq_false_iff_not, it_eQ0, it_eQ1, it_eP0, it_eP1, it_eS0, it_eS1, fits_eQ, fits_eP, fits_eS, eqv_eQ, eqv_eP, eqv_eS, eqv_int, eqv_bool, shp_int, shp_bool, shp_none, shp_eQ, shp_eP, shp_eS, dCont, dBreak, dXi, dSetG, dAppG, oIsB, oNotB, dTx, pJoin, pSplit, pPart, pStarts, bStr, bIntS, dFmt, dJs, ↓reduceIte, nsp_none, nsp_bool, nsp_int, nsp_str, nsp_list, nsp_tuple, nsp_eQ, nsp_eP, nsp_eS]
  refine ⟨cm (bd_num ha) (bd_num hb) (by omega), cm (bd_den ha) (bd_den hb) (by omega), _, _, rfl, Int.mul_ne_zero (den_ne a) (den_ne b), ?_, ?_⟩
  · exact Nat.lt_of_lt_of_le (mul_lt2 (bd_den ha) (bd_den hb)) (Nat.pow_le_pow_right (by decide) hl)
  · rw [← mul_div]; exact h
theorem rd_below (ds : List Dt) (Φ : Slot → Prop) (Ξ : XD → Prop) (h : sp_below ds Φ Ξ) : d_below (endsOf Φ Ξ) (rho0 N_below ds) := by
  obtain ⟨a, b, n, m, rfl, ha, hb, hl, h⟩ := h
  simp only [d_below, N_below, dRet, dRetF, dSetX, dCallX, dRetX, noOw, dTry, dCpy, dRaise, dRetO, dSetP, dSetS, dSetF, dSeq, dIf, dNext, dCall, dCallF, dB, dBin, dCons, dNil, dTup, dLst, dV, dC, dTV, onB, dTAnd, dTOr, dTNot, dAnd, dOr, dNot, dIfE, dIsN, dNotN, isN, dSl, dSlF, dNoPart, dPart, dPar, dParS, dAsg, dgN, dgT, dgCons, dgNil, seqD, dFE, dIsi, dListF, dNeg, dRev, dFrz, dApp, dAppS, dIns, dExtend, dClear, dReverse, dPop, oIx, oI, oIC, oAddU, oSubI, oMulU, oMulI, oFd, oMd, oPw, oLt, oLe, oGt, oGe, oEq, oNe, getF, setF, Cl.d, getS, setS, purF, allF, rho0, endsOf, scalD, bLen, bAbs, bInt, bIntU, bTup, Slot.dat, true_and, and_true, Option.some.injEq, exists_eq_left', decide_eq_true_eq, Bool.not_eq_true', decide_eq_false_iff_not, it_eQ0, it_eQ1, it_eP0, it_eP1, it_eS0, it_eS1, fits_eQ, fits_eP, fits_eS, eqv_eQ, eqv_eP, eqv_eS, eqv_int, eqv_bool, shp_int, shp_bool, shp_none, shp_eQ, shp_eP, shp_eS, dCont, dBreak, dXi, dSetG, dAppG, oIsB, oNotB, dTx, pJoin, pSplit, pPart, pStarts, bStr, bIntS, dFmt, dJs, ↓reduceIte, nsp_none, nsp_bool, nsp_int, nsp_str, nsp_list, nsp_tuple, nsp_eQ, nsp_eP, nsp_eS]
  refine ⟨cm (bd_num ha) (bd_den hb) (by omega), cm (bd_num hb) (bd_den ha) (by omega), ?_⟩
  simp only [← Rat.lt_iff]
  exact h
end L2.D3

set_option maxHeartbeats 4000000
/-! Points: their order, their turns. -/
namespace L2.D3
open PySem PySem.Spec PyProof.Rows
def BdP (n : Nat) (p : Pt) : Prop := Bd n p.1 ∧ Bd n p.2
def BdS (n : Nat) (s : Sd) : Prop := BdP n s.1 ∧ BdP n s.2
theorem BdP.mono {n m : Nat} {p : Pt} (h : BdP n p) (hn : n ≤ m) : BdP m p := ⟨h.1.mono hn, h.2.mono hn⟩
theorem BdS.mono {n m : Nat} {p : Sd} (h : BdS n p) (hn : n ≤ m) : BdS m p := ⟨h.1.mono hn, h.2.mono hn⟩
/-- ahead of another point -/
def ltP (p q : Pt) : Prop := p.1 < q.1 ∨ (p.1 = q.1 ∧ p.2 < q.2)
instance (p q : Pt) : Decidable (ltP p q) := by unfold ltP; exact inferInstance
theorem ltP_irrefl (p : Pt) : ¬ ltP p p := by unfold ltP; grind
theorem ltP_trans {p q r : Pt} (h : ltP p q) (g : ltP q r) : ltP p r := by unfold ltP at *; grind
theorem ltP_total (p q : Pt) : ltP p q ∨ p = q ∨ ltP q p := by
  obtain ⟨a, b⟩ := p
  obtain ⟨c, d⟩ := q
  unfold ltP
  simp only [Prod.mk.injEq]
  grind
theorem ltP_asymm {p q : Pt} (h : ltP p q) : ¬ ltP q p := fun g => ltP_irrefl p (ltP_trans h g)
def crossQ (a b c : Pt) : Rat := (b.1 - a.1) * (c.2 - a.2) - (b.2 - a.2) * (c.1 - a.1)
def sgnQ (q : Rat) : Int := if 0 < q then 1 else if q < 0 then -1 else 0
def sgnI (q : Int) : Int := if 0 < q then 1 else if q < 0 then -1 else 0
theorem it_map {α : Type} [Inhabited α] {f : α → Dt} {xs : List α} {i : Int} (h0 : 0 ≤ i) (h1 : i < xs.length) : itemD (.list (xs.map f)) i = some (f (xs.getD i.toNat default)) := by
  show atI (xs.map f) i = _
  have h2 : i.toNat < xs.length := by omega
  have e : i = ((i.toNat : Nat) : Int) := by omega
  have g : (xs.map f)[i.toNat]? = some (f (xs.getD i.toNat default)) := by
    rw [List.getElem?_map, List.getElem?_eq_getElem h2, List.getD_eq_getElem?_getD, List.getElem?_eq_getElem h2]
    rfl
  rw [e]
  exact atI_nat g
theorem it_mapT {α : Type} [Inhabited α] {f : α → Dt} {xs : List α} {i : Int} (h0 : 0 ≤ i) (h1 : i < xs.length) : itemD (.tuple (xs.map f)) i = some (f (xs.getD i.toNat default)) := by
  show atI (xs.map f) i = _
  have h2 : i.toNat < xs.length := by omega
  have e : i = ((i.toNat : Nat) : Int) := by omega
  have g : (xs.map f)[i.toNat]? = some (f (xs.getD i.toNat default)) := by
    rw [List.getElem?_map, List.getElem?_eq_getElem h2, List.getD_eq_getElem?_getD, List.getElem?_eq_getElem h2]
    rfl
  rw [e]
  exact atI_nat g
theorem getD_mem {α : Type} [Inhabited α] {xs : List α} {i : Nat} (h : i < xs.length) : xs.getD i default ∈ xs := by
  rw [List.getD_eq_getElem?_getD, List.getElem?_eq_getElem h]
  exact List.getElem_mem h
theorem fits_list (ds : List Dt) : fitsD (.list ds) := trivial
theorem fits_tuple (ds : List Dt) : fitsD (.tuple ds) := trivial
/-! ### a sorted list of points, each once -/
def Srt (ps : List Pt) : Prop := ps.Pairwise ltP
/-- how many come ahead of p -/
def ahead (p : Pt) (ps : List Pt) : Nat := (ps.filter fun q => decide (ltP q p)).length
def insP (p : Pt) (ps : List Pt) : List Pt := if p ∈ ps then ps else ps.take (ahead p ps) ++ [p] ++ ps.drop (ahead p ps)
def inOrd (ps : List Pt) : List Pt := ps.foldl (fun acc p => insP p acc) []
theorem ahead_le (p : Pt) (ps : List Pt) : ahead p ps ≤ ps.length := List.length_filter_le _ _
theorem ahead_nil (p : Pt) : ahead p [] = 0 := rfl
theorem ahead_cons (p q : Pt) (ps : List Pt) : ahead p (q :: ps) = (if ltP q p then 1 else 0) + ahead p ps := by
  unfold ahead
  rw [List.filter_cons]
  by_cases c : ltP q p
  · rw [if_pos (decide_eq_true c), if_pos c, List.length_cons]; omega
  · rw [if_neg (by simpa using c), if_neg c]; omega
theorem ahead_none {p : Pt} : ∀ {ps : List Pt}, (∀ q ∈ ps, ¬ ltP q p) → ahead p ps = 0
  | [], _ => rfl
  | q :: ps, h => by
    rw [ahead_cons, if_neg (h q List.mem_cons_self), ahead_none fun r hr => h r (List.mem_cons_of_mem _ hr)]
/-- in a sorted list just the first ones come ahead of p -/
theorem lt_ahead {p : Pt} : ∀ {ps : List Pt} (_ : Srt ps) {i : Nat} {q : Pt}, ps[i]? = some q → (ltP q p ↔ i < ahead p ps)
  | [], _, i, q, h => by simp at h
  | a :: ps, hs, 0, q, h => by
    have e : a = q := Option.some.inj h
    subst e
    rw [ahead_cons]
    by_cases c : ltP a p
    · rw [if_pos c]; exact ⟨fun _ => by omega, fun _ => c⟩
    · rw [if_neg c]
      have hz : ahead p ps = 0 := ahead_none fun r hr z => c (ltP_trans ((List.pairwise_cons.mp hs).1 r hr) z)
      rw [hz]
      exact ⟨fun z => absurd z c, fun z => absurd z (by omega)⟩
  | a :: ps, hs, i + 1, q, h => by
    have hs' := (List.pairwise_cons.mp hs).2
    have h' : ps[i]? = some q := by simpa using h
    have ih := lt_ahead (p := p) hs' h'
    rw [ahead_cons]
    by_cases c : ltP a p
    · rw [if_pos c]
      exact ⟨fun z => by have := ih.mp z; omega, fun z => ih.mpr (by omega)⟩
    · rw [if_neg c]
      have hz : ahead p ps = 0 := ahead_none fun r hr z => c (ltP_trans ((List.pairwise_cons.mp hs).1 r hr) z)
      rw [hz] at ih ⊢
      exact ⟨fun z => absurd (ih.mp z) (by omega), fun z => absurd z (by omega)⟩
theorem mem_ahead {p : Pt} {ps : List Pt} (hs : Srt ps) : p ∈ ps ↔ ps[ahead p ps]? = some p := by
  constructor
  · intro h
    obtain ⟨i, hi, e⟩ := List.mem_iff_getElem.mp h
    have e' : ps[i]? = some p := by rw [List.getElem?_eq_getElem hi, e]
    have h1 : ¬ i < ahead p ps := fun z => ltP_irrefl p ((lt_ahead hs e').mpr z)
    have h2 : ahead p ps ≤ i := by omega
    by_cases c : ahead p ps = i
    · rw [c]; exact e'
    · have h3 : ahead p ps < ps.length := by omega
      have e3 : ps[ahead p ps]? = some ps[ahead p ps] := List.getElem?_eq_getElem h3
      have h4 : ltP ps[ahead p ps] p := by
        have := List.pairwise_iff_getElem.mp hs (ahead p ps) i h3 hi (by omega)
        rw [e] at this
        exact this
      exact absurd ((lt_ahead hs e3).mp h4) (by omega)
  · intro h
    exact List.mem_of_getElem? h
theorem ins_srt {p : Pt} {ps : List Pt} (hs : Srt ps) : Srt (insP p ps) := by
  unfold insP
  by_cases c : p ∈ ps
  · rw [if_pos c]; exact hs
  · rw [if_neg c]
    unfold Srt
    rw [List.append_assoc, List.pairwise_append]
    have t1 : ∀ a ∈ ps.take (ahead p ps), ltP a p := fun a ha => by
      obtain ⟨i, hi, e⟩ := List.mem_iff_getElem.mp ha
      rw [List.length_take] at hi
      have e' : ps[i]? = some a := by
        rw [List.getElem_take] at e
        rw [List.getElem?_eq_getElem (by omega), e]
      exact (lt_ahead hs e').mpr (by omega)
    have t2 : ∀ b ∈ ps.drop (ahead p ps), ltP p b := fun b hb => by
      obtain ⟨i, hi, e⟩ := List.mem_iff_getElem.mp hb
      rw [List.length_drop] at hi
      have e' : ps[ahead p ps + i]? = some b := by
        rw [List.getElem_drop] at e
        rw [List.getElem?_eq_getElem (by omega), e]
      have h1 : ¬ ltP b p := fun z => absurd ((lt_ahead hs e').mp z) (by omega)
      rcases ltP_total p b with z | z | z
      · exact z
      · exact absurd (by rw [z]; exact List.mem_of_getElem? e') c
      · exact absurd z h1
    refine ⟨List.Pairwise.sublist (List.take_sublist _ _) hs, ?_, fun a ha b hb => ?_⟩
    · rw [List.singleton_append, List.pairwise_cons]
      exact ⟨t2, List.Pairwise.sublist (List.drop_sublist _ _) hs⟩
    · rw [List.singleton_append, List.mem_cons] at hb
      rcases hb with rfl | hb
      · exact t1 a ha
      · exact ltP_trans (t1 a ha) (t2 b hb)
theorem mem_ins {p q : Pt} {ps : List Pt} : q ∈ insP p ps ↔ q = p ∨ q ∈ ps := by
  unfold insP
  by_cases c : p ∈ ps
  · rw [if_pos c]
    exact ⟨fun h => .inr h, fun h => h.elim (fun e => by rw [e]; exact c) id⟩
  · rw [if_neg c, List.append_assoc, List.mem_append, List.singleton_append, List.mem_cons]
    constructor
    · rintro (h | h | h)
      · exact .inr (List.mem_of_mem_take h)
      · exact .inl h
      · exact .inr (List.mem_of_mem_drop h)
    · rintro (h | h)
      · exact .inr (.inl h)
      · rw [← List.take_append_drop (ahead p ps) ps, List.mem_append] at h
        rcases h with h | h
        · exact .inl h
        · exact .inr (.inr h)
theorem ins_len {p : Pt} {ps : List Pt} : (insP p ps).length ≤ ps.length + 1 := by
  unfold insP
  split
  · omega
  · have := ahead_le p ps
    rw [List.length_append, List.length_append, List.length_take, List.length_drop, List.length_singleton]
    omega
theorem inOrd_snoc (ps : List Pt) (p : Pt) : inOrd (ps ++ [p]) = insP p (inOrd ps) := by
  unfold inOrd
  rw [List.foldl_append]
  rfl
theorem inOrd_take {ps : List Pt} {k : Nat} {p : Pt} (h : ps[k]? = some p) : inOrd (ps.take (k + 1)) = insP p (inOrd (ps.take k)) := by
  rw [List.take_add_one, h]
  exact inOrd_snoc _ _
theorem inOrd_take_srt (ps : List Pt) : ∀ k, Srt (inOrd (ps.take k))
  | 0 => by rw [List.take_zero]; exact List.Pairwise.nil
  | k + 1 => by
    by_cases c : k < ps.length
    · rw [inOrd_take (List.getElem?_eq_getElem c)]
      exact ins_srt (inOrd_take_srt ps k)
    · have e : ps.take (k + 1) = ps.take k := by rw [List.take_of_length_le (by omega), List.take_of_length_le (by omega)]
      rw [e]
      exact inOrd_take_srt ps k
theorem inOrd_srt (ps : List Pt) : Srt (inOrd ps) := by
  have h := inOrd_take_srt ps ps.length
  rw [List.take_length] at h
  exact h
theorem inOrd_take_len (ps : List Pt) : ∀ k, (inOrd (ps.take k)).length ≤ k
  | 0 => by rw [List.take_zero]; exact Nat.le_refl 0
  | k + 1 => by
    by_cases c : k < ps.length
    · rw [inOrd_take (List.getElem?_eq_getElem c)]
      have := inOrd_take_len ps k
      have := ins_len (p := ps[k]) (ps := inOrd (ps.take k))
      omega
    · have e : ps.take (k + 1) = ps.take k := by rw [List.take_of_length_le (by omega), List.take_of_length_le (by omega)]
      rw [e]
      have := inOrd_take_len ps k
      omega
theorem mem_foldl {q : Pt} : ∀ (ps acc : List Pt), q ∈ ps.foldl (fun acc p => insP p acc) acc ↔ q ∈ acc ∨ q ∈ ps
  | [], acc => by simp
  | p :: ps, acc => by
    rw [List.foldl_cons, mem_foldl ps, mem_ins, List.mem_cons]
    constructor
    · rintro ((h | h) | h)
      · exact .inr (.inl h)
      · exact .inl h
      · exact .inr (.inr h)
    · rintro (h | h | h)
      · exact .inl (.inr h)
      · exact .inl (.inl h)
      · exact .inr h
theorem mem_inOrd {q : Pt} {ps : List Pt} : q ∈ inOrd ps ↔ q ∈ ps := by
  unfold inOrd
  rw [mem_foldl]
  simp
theorem inOrd_two {a b : Pt} (h : ltP a b) : inOrd [a, b] = [a, b] := by
  show insP b (insP a []) = _
  have h1 : insP a [] = [a] := rfl
  rw [h1]
  unfold insP
  have ne : b ≠ a := fun z => by rw [z] at h; exact ltP_irrefl a h
  rw [if_neg (by simpa using ne)]
  have e : ahead b [a] = 1 := by rw [ahead_cons, if_pos h]; rfl
  rw [e]
  rfl
theorem inOrd_two' {a b : Pt} (h : ltP b a) : inOrd [a, b] = [b, a] := by
  show insP b (insP a []) = _
  have h1 : insP a [] = [a] := rfl
  rw [h1]
  unfold insP
  have ne : b ≠ a := fun z => by rw [z] at h; exact ltP_irrefl a h
  rw [if_neg (by simpa using ne)]
  have e : ahead b [a] = 0 := by rw [ahead_cons, if_neg (ltP_asymm h)]; rfl
  rw [e]
  rfl
/-- the lesser, the greater end -/
def loP (s : Sd) : Pt := if ltP s.2 s.1 then s.2 else s.1
def hiP (s : Sd) : Pt := if ltP s.2 s.1 then s.1 else s.2
theorem inOrd_side {s : Sd} (h : s.1 ≠ s.2) : inOrd [s.1, s.2] = [loP s, hiP s] := by
  unfold loP hiP
  by_cases c : ltP s.2 s.1
  · rw [if_pos c, if_pos c]; exact inOrd_two' c
  · rw [if_neg c, if_neg c]
    rcases ltP_total s.1 s.2 with z | z | z
    · exact inOrd_two z
    · exact absurd z h
    · exact absurd z c
/-! ### contracts -/
def sp_before : DSp := fun ds Φ _ => ∃ (p q : Pt) (n : Nat), ds = [eP p, eP q] ∧ BdP n p ∧ BdP n q ∧ n ≤ 40000 ∧ Φ (.pu (.bool (decide (ltP p q))))
def sp_in_order : DSp := fun ds Φ _ => ∃ (ps : List Pt) (n : Nat), (ds = [.list (ps.map eP)] ∨ ds = [.tuple (ps.map eP)]) ∧ (∀ p ∈ ps, BdP n p) ∧ n ≤ 40000 ∧ ps.length ≤ 1000000 ∧ Φ (.ow ((inOrd ps).map eP))
def sp_cross_of : DSp := fun ds Φ _ => ∃ (a b c : Pt) (n : Nat), ds = [eP a, eP b, eP c] ∧ BdP n a ∧ BdP n b ∧ BdP n c ∧ n ≤ 1000 ∧ Φ (.pu (eQ (crossQ a b c)))
def sp_sign_of : DSp := fun ds Φ _ => ∃ q : Rat, ds = [eQ q] ∧ Φ (.pu (.int (sgnQ q)))
def sp_side_of : DSp := fun ds Φ _ => ∃ (s : Sd) (c : Pt) (n : Nat), ds = [eS s, eP c] ∧ BdS n s ∧ BdP n c ∧ n ≤ 1000 ∧ Φ (.pu (.int (sgnQ (crossQ s.1 s.2 c))))
/-- the point lies on the side -/
def onS (s : Sd) (p : Pt) : Prop := crossQ s.1 s.2 p = 0 ∧ ¬ ltP p (loP s) ∧ ¬ ltP (hiP s) p
instance (s : Sd) (p : Pt) : Decidable (onS s p) := by unfold onS; exact inferInstance
def sp_is_on : DSp := fun ds Φ _ => ∃ (s : Sd) (c : Pt) (n : Nat), ds = [eS s, eP c] ∧ s.1 ≠ s.2 ∧ BdS n s ∧ BdP n c ∧ n ≤ 1000 ∧ Φ (.pu (.bool (decide (onS s c))))
abbrev N_before : List Str := ["a", "b"]
def d_before : DS := (dSeq (dIf (dTV (dBin oNe (dBin oIx (dV 0) (dC (.int 0))) (dBin oIx (dV 1) (dC (.int 0))))) (dRet (dCall sp_below (dCons (dBin oIx (dV 0) (dC (.int 0))) (dCons (dBin oIx (dV 1) (dC (.int 0))) dNil)))) dNext)
  (dRet (dCall sp_below (dCons (dBin oIx (dV 0) (dC (.int 1))) (dCons (dBin oIx (dV 1) (dC (.int 1))) dNil)))))
abbrev N_in_order : List Str := ["points", "found", "point", "low", "high", "middle"]
def d_in_order : DS := (dSeq (dSetF 1 dNil)
  (dSeq (dFor (diSeq (dV 0)) (dgN 2) (dSeq (dParS 3 4 (dCons (dC (.int 0)) (dCons (dB bLen (dCons (dV 1) dNil)) dNil)))
  (dSeq (dWhile (dTV (dBin oLt (dV 3) (dV 4))) (dSeq (dSetP 5 (dBin oFd (dBin oAddU (dV 3) (dV 4)) (dC (.int 2))))
  (dIf (dTV (dCall sp_before (dCons (dBin oIx (dV 1) (dV 5)) (dCons (dV 2) dNil)))) (dSetP 3 (dBin oAddU (dV 5) (dC (.int 1)))) (dSetP 4 (dV 5)))))
  (dIf (dTOr (dTV (dBin oEq (dV 3) (dB bLen (dCons (dV 1) dNil)))) (dTV (dBin oNe (dBin oIx (dV 1) (dV 3)) (dV 2)))) (dIns 1 (dCons (dV 3) (dCons (dV 2) dNil))) dNext))))
  (dRetO 1)))
abbrev N_cross_of : List Str := ["a", "b", "c", "first", "second"]
def d_cross_of : DS := (dSeq (dSetP 3 (dCall sp_times (dCons (dCall sp_minus (dCons (dBin oIx (dV 1) (dC (.int 0))) (dCons (dBin oIx (dV 0) (dC (.int 0))) dNil))) (dCons (dCall sp_minus (dCons (dBin oIx (dV 2) (dC (.int 1))) (dCons (dBin oIx (dV 0) (dC (.int 1))) dNil))) dNil))))
  (dSeq (dSetP 4 (dCall sp_times (dCons (dCall sp_minus (dCons (dBin oIx (dV 1) (dC (.int 1))) (dCons (dBin oIx (dV 0) (dC (.int 1))) dNil))) (dCons (dCall sp_minus (dCons (dBin oIx (dV 2) (dC (.int 0))) (dCons (dBin oIx (dV 0) (dC (.int 0))) dNil))) dNil))))
  (dRet (dCall sp_minus (dCons (dV 3) (dCons (dV 4) dNil))))))
abbrev N_sign_of : List Str := ["number"]
def d_sign_of : DS := (dRet (dBin oSubI (dB bIntU (dCons (dBin oGt (dBin oIx (dV 0) (dC (.int 0))) (dC (.int 0))) dNil)) (dB bIntU (dCons (dBin oLt (dBin oIx (dV 0) (dC (.int 0))) (dC (.int 0))) dNil))))
abbrev N_side_of : List Str := ["side", "point"]
def d_side_of : DS := (dRet (dCall sp_sign_of (dCons (dCall sp_cross_of (dCons (dBin oIx (dV 0) (dC (.int 0))) (dCons (dBin oIx (dV 0) (dC (.int 1))) (dCons (dV 1) dNil)))) dNil)))
abbrev N_is_on : List Str := ["side", "point", "low", "high"]
def d_is_on : DS := (dSeq (dIf (dTV (dBin oNe (dCall sp_side_of (dCons (dV 0) (dCons (dV 1) dNil))) (dC (.int 0)))) (dRet (dC (.bool false))) dNext)
  (dSeq (dAsg (dCall sp_in_order (dCons (dFE (dListF (dCons (dV 0) dNil))) dNil)) (dgT 2 (dgCons (dgN 2) (dgCons (dgN 3) dgNil))))
  (dRet (dAnd (dNot (dCall sp_before (dCons (dV 1) (dCons (dV 2) dNil)))) (dNot (dCall sp_before (dCons (dV 3) (dCons (dV 1) dNil))))))))
theorem rd_before (ds : List Dt) (Φ : Slot → Prop) (Ξ : XD → Prop) (h : sp_before ds Φ Ξ) : d_before (endsOf Φ Ξ) (rho0 N_before ds) := by
  obtain ⟨p, q, n, rfl, hp, hq, hl, h⟩ := h
  simp only [d_before, N_before, dRet, dRetF, dSetX, dCallX, dRetX, noOw, dTry, dCpy, dRaise, dRetO, dSetP, dSetS, dSetF, dSeq, dIf, dNext, dCall, dCallF, dB, dBin, dCons, dNil, dTup, dLst, dV, dC, dTV, onB, dTAnd, dTOr, dTNot, dAnd, dOr, dNot, dIfE, dIsN, dNotN, isN, dSl, dSlF, dNoPart, dPart, dPar, dParS, dAsg, dgN, dgT, dgCons, dgNil, seqD, dFE, dIsi, dListF, dNeg, dRev, dFrz, dApp, dAppS, dIns, dExtend, dClear, dReverse, dPop, oIx, oI, oIC, oAddU, oSubI, oMulU, oMulI, oFd, oMd, oPw, oLt, oLe, oGt, oGe, oEq, oNe, getF, setF, Cl.d, getS, setS, purF, allF, rho0, endsOf, scalD, bLen, bAbs, bInt, bIntU, bTup, Slot.dat, true_and, and_true, Option.some.injEq, exists_eq_left', decide_eq_true_eq, Bool.not_eq_true', decide_eq_false_iff_not, it_eQ0, it_eQ1, it_eP0, it_eP1, it_eS0, it_eS1, fits_eQ, fits_eP, fits_eS, eqv_eQ, eqv_eP, eqv_eS, eqv_int, eqv_bool, shp_int, shp_bool, shp_none, shp_eQ, shp_eP, shp_eS, dCont, dBreak, dXi, dSetG, dAppG, oIsB, oNotB, dTx, pJoin, pSplit, pPart, pStarts, bStr, bIntS, dFmt, dJs, ↓reduceIte, nsp_none, nsp_bool, nsp_int, nsp_str, nsp_list, nsp_tuple, nsp_eQ, nsp_eP, nsp_eS]
  split
  · rename_i c
    refine ⟨_, _, n, n, rfl, hp.1, hq.1, by omega, ?_⟩
    have e : decide (ltP p q) = decide (p.1 < q.1) := by
      apply decide_eq_decide.mpr
      unfold ltP
      exact ⟨fun z => z.elim id fun y => absurd y.1 c, fun z => .inl z⟩
    rw [e] at h
    exact h
  · rename_i c
    have c' : p.1 = q.1 := by simpa using c
    refine ⟨_, _, n, n, rfl, hp.2, hq.2, by omega, ?_⟩
    have e : decide (ltP p q) = decide (p.2 < q.2) := by
      apply decide_eq_decide.mpr
      unfold ltP
      rw [c']
      exact ⟨fun z => z.elim (fun y => absurd y Rat.lt_irrefl) fun y => y.2, fun z => .inr ⟨rfl, z⟩⟩
    rw [e] at h
    exact h
theorem rd_cross_of (ds : List Dt) (Φ : Slot → Prop) (Ξ : XD → Prop) (h : sp_cross_of ds Φ Ξ) : d_cross_of (endsOf Φ Ξ) (rho0 N_cross_of ds) := by
  obtain ⟨a, b, c, n, rfl, ha, hb, hc, hl, h⟩ := h
  simp only [d_cross_of, N_cross_of, dRet, dRetF, dSetX, dCallX, dRetX, noOw, dTry, dCpy, dRaise, dRetO, dSetP, dSetS, dSetF, dSeq, dIf, dNext, dCall, dCallF, dB, dBin, dCons, dNil, dTup, dLst, dV, dC, dTV, onB, dTAnd, dTOr, dTNot, dAnd, dOr, dNot, dIfE, dIsN, dNotN, isN, dSl, dSlF, dNoPart, dPart, dPar, dParS, dAsg, dgN, dgT, dgCons, dgNil, seqD, dFE, dIsi, dListF, dNeg, dRev, dFrz, dApp, dAppS, dIns, dExtend, dClear, dReverse, dPop, oIx, oI, oIC, oAddU, oSubI, oMulU, oMulI, oFd, oMd, oPw, oLt, oLe, oGt, oGe, oEq, oNe, getF, setF, Cl.d, getS, setS, purF, allF, rho0, endsOf, scalD, bLen, bAbs, bInt, bIntU, bTup, Slot.dat, true_and, and_true, Option.some.injEq, exists_eq_left', decide_eq_true_eq, Bool.not_eq_true', decide_eq_false_iff_not, it_eQ0, it_eQ1, it_eP0, it_eP1, it_eS0, it_eS1, fits_eQ, fits_eP, fits_eS, eqv_eQ, eqv_eP, eqv_eS, eqv_int, eqv_bool, shp_int, shp_bool, shp_none, shp_eQ, shp_eP, shp_eS, dCont, dBreak, dXi, dSetG, dAppG, oIsB, oNotB, dTx, pJoin, pSplit, pPart, pStarts, bStr, bIntS, dFmt, dJs, ↓reduceIte, nsp_none, nsp_bool, nsp_int, nsp_str, nsp_list, nsp_tuple, nsp_eQ, nsp_eP, nsp_eS]
  refine ⟨_, _, n, n, rfl, hb.1, ha.1, by omega, ?_⟩
  simp only [dRet, dRetF, dSetX, dCallX, dRetX, noOw, dTry, dCpy, dRaise, dRetO, dSetP, dSetS, dSetF, dSeq, dIf, dNext, dCall, dCallF, dB, dBin, dCons, dNil, dTup, dLst, dV, dC, dTV, onB, dTAnd, dTOr, dTNot, dAnd, dOr, dNot, dIfE, dIsN, dNotN, isN, dSl, dSlF, dNoPart, dPart, dPar, dParS, dAsg, dgN, dgT, dgCons, dgNil, seqD, dFE, dIsi, dListF, dNeg, dRev, dFrz, dApp, dAppS, dIns, dExtend, dClear, dReverse, dPop, oIx, oI, oIC, oAddU, oSubI, oMulU, oMulI, oFd, oMd, oPw, oLt, oLe, oGt, oGe, oEq, oNe, getF, setF, Cl.d, getS, setS, purF, allF, rho0, endsOf, scalD, bLen, bAbs, bInt, bIntU, bTup, Slot.dat, true_and, and_true, Option.some.injEq, exists_eq_left', decide_eq_true_eq, Bool.not_eq_true', decide_eq_false_iff_not, it_eQ0, it_eQ1, it_eP0, it_eP1, it_eS0, it_eS1, fits_eQ, fits_eP, fits_eS, eqv_eQ, eqv_eP, eqv_eS, eqv_int, eqv_bool, shp_int, shp_bool, shp_none, shp_eQ, shp_eP, shp_eS, dCont, dBreak, dXi, dSetG, dAppG, oIsB, oNotB, dTx, pJoin, pSplit, pPart, pStarts, bStr, bIntS, dFmt, dJs, ↓reduceIte, nsp_none, nsp_bool, nsp_int, nsp_str, nsp_list, nsp_tuple, nsp_eQ, nsp_eP, nsp_eS]
  refine ⟨_, _, n, n, rfl, hc.2, ha.2, by omega, ?_⟩
  simp only [dRet, dRetF, dSetX, dCallX, dRetX, noOw, dTry, dCpy, dRaise, dRetO, dSetP, dSetS, dSetF, dSeq, dIf, dNext, dCall, dCallF, dB, dBin, dCons, dNil, dTup, dLst, dV, dC, dTV, onB, dTAnd, dTOr, dTNot, dAnd, dOr, dNot, dIfE, dIsN, dNotN, isN, dSl, dSlF, dNoPart, dPart, dPar, dParS, dAsg, dgN, dgT, dgCons, dgNil, seqD, dFE, dIsi, dListF, dNeg, dRev, dFrz, dApp, dAppS, dIns, dExtend, dClear, dReverse, dPop, oIx, oI, oIC, oAddU, oSubI, oMulU, oMulI, oFd, oMd, oPw, oLt, oLe, oGt, oGe, oEq, oNe, getF, setF, Cl.d, getS, setS, purF, allF, rho0, endsOf, scalD, bLen, bAbs, bInt, bIntU, bTup, Slot.dat, true_and, and_true, Option.some.injEq, exists_eq_left', decide_eq_true_eq, Bool.not_eq_true', decide_eq_false_iff_not, it_eQ0, it_eQ1, it_eP0, it_eP1, it_eS0, it_eS1, fits_eQ, fits_eP, fits_eS, eqv_eQ, eqv_eP, eqv_eS, eqv_int, eqv_bool, shp_int, shp_bool, shp_none, shp_eQ, shp_eP, shp_eS, dCont, dBreak, dXi, dSetG, dAppG, oIsB, oNotB, dTx, pJoin, pSplit, pPart, pStarts, bStr, bIntS, dFmt, dJs, ↓reduceIte, nsp_none, nsp_bool, nsp_int, nsp_str, nsp_list, nsp_tuple, nsp_eQ, nsp_eP, nsp_eS]
  refine ⟨_, _, _, _, rfl, hb.1.sub ha.1, hc.2.sub ha.2, by omega, ?_⟩
  simp only [dRet, dRetF, dSetX, dCallX, dRetX, noOw, dTry, dCpy, dRaise, dRetO, dSetP, dSetS, dSetF, dSeq, dIf, dNext, dCall, dCallF, dB, dBin, dCons, dNil, dTup, dLst, dV, dC, dTV, onB, dTAnd, dTOr, dTNot, dAnd, dOr, dNot, dIfE, dIsN, dNotN, isN, dSl, dSlF, dNoPart, dPart, dPar, dParS, dAsg, dgN, dgT, dgCons, dgNil, seqD, dFE, dIsi, dListF, dNeg, dRev, dFrz, dApp, dAppS, dIns, dExtend, dClear, dReverse, dPop, oIx, oI, oIC, oAddU, oSubI, oMulU, oMulI, oFd, oMd, oPw, oLt, oLe, oGt, oGe, oEq, oNe, getF, setF, Cl.d, getS, setS, purF, allF, rho0, endsOf, scalD, bLen, bAbs, bInt, bIntU, bTup, Slot.dat, true_and, and_true, Option.some.injEq, exists_eq_left', decide_eq_true_eq, Bool.not_eq_true', decide_eq_false_iff_not, it_eQ0, it_eQ1, it_eP0, it_eP1, it_eS0, it_eS1, fits_eQ, fits_eP, fits_eS, eqv_eQ, eqv_eP, eqv_eS, eqv_int, eqv_bool, shp_int, shp_bool, shp_none, shp_eQ, shp_eP, shp_eS, dCont, dBreak, dXi, dSetG, dAppG, oIsB, oNotB, dTx, pJoin, pSplit, pPart, pStarts, bStr, bIntS, dFmt, dJs, ↓reduceIte, nsp_none, nsp_bool, nsp_int, nsp_str, nsp_list, nsp_tuple, nsp_eQ, nsp_eP, nsp_eS]
  refine ⟨_, _, n, n, rfl, hb.2, ha.2, by omega, ?_⟩
  simp only [dRet, dRetF, dSetX, dCallX, dRetX, noOw, dTry, dCpy, dRaise, dRetO, dSetP, dSetS, dSetF, dSeq, dIf, dNext, dCall, dCallF, dB, dBin, dCons, dNil, dTup, dLst, dV, dC, dTV, onB, dTAnd, dTOr, dTNot, dAnd, dOr, dNot, dIfE, dIsN, dNotN, isN, dSl, dSlF, dNoPart, dPart, dPar, dParS, dAsg, dgN, dgT, dgCons, dgNil, seqD, dFE, dIsi, dListF, dNeg, dRev, dFrz, dApp, dAppS, dIns, dExtend, dClear, dReverse, dPop, oIx, oI, oIC, oAddU, oSubI, oMulU, oMulI, oFd, oMd, oPw, oLt, oLe, oGt, oGe, oEq, oNe, getF, setF, Cl.d, getS, setS, purF, allF, rho0, endsOf, scalD, bLen, bAbs, bInt, bIntU, bTup, Slot.dat, true_and, and_true, Option.some.injEq, exists_eq_left', decide_eq_true_eq, Bool.not_eq_true', decide_eq_false_iff_not, it_eQ0, it_eQ1, it_eP0, it_eP1, it_eS0, it_eS1, fits_eQ, fits_eP, fits_eS, eqv_eQ, eqv_eP, eqv_eS, eqv_int, eqv_bool, shp_int, shp_bool, shp_none, shp_eQ, shp_eP, shp_eS, dCont, dBreak, dXi, dSetG, dAppG, oIsB, oNotB, dTx, pJoin, pSplit, pPart, pStarts, bStr, bIntS, dFmt, dJs, ↓reduceIte, nsp_none, nsp_bool, nsp_int, nsp_str, nsp_list, nsp_tuple, nsp_eQ, nsp_eP, nsp_eS]
  refine ⟨_, _, n, n, rfl, hc.1, ha.1, by omega, ?_⟩
  simp only [dRet, dRetF, dSetX, dCallX, dRetX, noOw, dTry, dCpy, dRaise, dRetO, dSetP, dSetS, dSetF, dSeq, dIf, dNext, dCall, dCallF, dB, dBin, dCons, dNil, dTup, dLst, dV, dC, dTV, onB, dTAnd, dTOr, dTNot, dAnd, dOr, dNot, dIfE, dIsN, dNotN, isN, dSl, dSlF, dNoPart, dPart, dPar, dParS, dAsg, dgN, dgT, dgCons, dgNil, seqD, dFE, dIsi, dListF, dNeg, dRev, dFrz, dApp, dAppS, dIns, dExtend, dClear, dReverse, dPop, oIx, oI, oIC, oAddU, oSubI, oMulU, oMulI, oFd, oMd, oPw, oLt, oLe, oGt, oGe, oEq, oNe, getF, setF, Cl.d, getS, setS, purF, allF, rho0, endsOf, scalD, bLen, bAbs, bInt, bIntU, bTup, Slot.dat, true_and, and_true, Option.some.injEq, exists_eq_left', decide_eq_true_eq, Bool.not_eq_true', decide_eq_false_iff_not, it_eQ0, it_eQ1, it_eP0, it_eP1, it_eS0, it_eS1, fits_eQ, fits_eP, fits_eS, eqv_eQ, eqv_eP, eqv_eS, eqv_int, eqv_bool, shp_int, shp_bool, shp_none, shp_eQ, shp_eP, shp_eS, dCont, dBreak, dXi, dSetG, dAppG, oIsB, oNotB, dTx, pJoin, pSplit, pPart, pStarts, bStr, bIntS, dFmt, dJs, ↓reduceIte, nsp_none, nsp_bool, nsp_int, nsp_str, nsp_list, nsp_tuple, nsp_eQ, nsp_eP, nsp_eS]
  refine ⟨_, _, _, _, rfl, hb.2.sub ha.2, hc.1.sub ha.1, by omega, ?_⟩
  simp only [dRet, dRetF, dSetX, dCallX, dRetX, noOw, dTry, dCpy, dRaise, dRetO, dSetP, dSetS, dSetF, dSeq, dIf, dNext, dCall, dCallF, dB, dBin, dCons, dNil, dTup, dLst, dV, dC, dTV, onB, dTAnd, dTOr, dTNot, dAnd, dOr, dNot, dIfE, dIsN, dNotN, isN, dSl, dSlF, dNoPart, dPart, dPar, dParS, dAsg, dgN, dgT, dgCons, dgNil, seqD, dFE, dIsi, dListF, dNeg, dRev, dFrz, dApp, dAppS, dIns, dExtend, dClear, dReverse, dPop, oIx, oI, oIC, oAddU, oSubI, oMulU, oMulI, oFd, oMd, oPw, oLt, oLe, oGt, oGe, oEq, oNe, getF, setF, Cl.d, getS, setS, purF, allF, rho0, endsOf, scalD, bLen, bAbs, bInt, bIntU, bTup, Slot.dat, true_and, and_true, Option.some.injEq, exists_eq_left', decide_eq_true_eq, Bool.not_eq_true', decide_eq_false_iff_not, it_eQ0, it_eQ1, it_eP0, it_eP1, it_eS0, it_eS1, fits_eQ, fits_eP, fits_eS, eqv_eQ, eqv_eP, eqv_eS, eqv_int, eqv_bool, shp_int, shp_bool, shp_none, shp_eQ, shp_eP, shp_eS, dCont, dBreak, dXi, dSetG, dAppG, oIsB, oNotB, dTx, pJoin, pSplit, pPart, pStarts, bStr, bIntS, dFmt, dJs, ↓reduceIte, nsp_none, nsp_bool, nsp_int, nsp_str, nsp_list, nsp_tuple, nsp_eQ, nsp_eP, nsp_eS]
  exact ⟨_, _, _, _, rfl, (hb.1.sub ha.1).mul (hc.2.sub ha.2), (hb.2.sub ha.2).mul (hc.1.sub ha.1), by omega, h⟩
theorem num_pos {q : Rat} : 0 < q.num ↔ 0 < q := by
  rw [Rat.lt_iff 0 q]
  simp
theorem num_neg {q : Rat} : q.num < 0 ↔ q < 0 := by
  rw [Rat.lt_iff q 0]
  simp
theorem rd_sign_of (ds : List Dt) (Φ : Slot → Prop) (Ξ : XD → Prop) (h : sp_sign_of ds Φ Ξ) : d_sign_of (endsOf Φ Ξ) (rho0 N_sign_of ds) := by
  obtain ⟨q, rfl, h⟩ := h
  simp only [d_sign_of, N_sign_of, dRet, dRetF, dSetX, dCallX, dRetX, noOw, dTry, dCpy, dRaise, dRetO, dSetP, dSetS, dSetF, dSeq, dIf, dNext, dCall, dCallF, dB, dBin, dCons, dNil, dTup, dLst, dV, dC, dTV, onB, dTAnd, dTOr, dTNot, dAnd, dOr, dNot, dIfE, dIsN, dNotN, isN, dSl, dSlF, dNoPart, dPart, dPar, dParS, dAsg, dgN, dgT, dgCons, dgNil, seqD, dFE, dIsi, dListF, dNeg, dRev, dFrz, dApp, dAppS, dIns, dExtend, dClear, dReverse, dPop, oIx, oI, oIC, oAddU, oSubI, oMulU, oMulI, oFd, oMd, oPw, oLt, oLe, oGt, oGe, oEq, oNe, getF, setF, Cl.d, getS, setS, purF, allF, rho0, endsOf, scalD, bLen, bAbs, bInt, bIntU, bTup, Slot.dat, true_and, and_true, Option.some.injEq, exists_eq_left', decide_eq_true_eq, Bool.not_eq_true', decide_eq_false_iff_not, it_eQ0, it_eQ1, it_eP0, it_eP1, it_eS0, it_eS1, fits_eQ, fits_eP, fits_eS, eqv_eQ, eqv_eP, eqv_eS, eqv_int, eqv_bool, shp_int, shp_bool, shp_none, shp_eQ, shp_eP, shp_eS, dCont, dBreak, dXi, dSetG, dAppG, oIsB, oNotB, dTx, pJoin, pSplit, pPart, pStarts, bStr, bIntS, dFmt, dJs, ↓reduceIte, nsp_none, nsp_bool, nsp_int, nsp_str, nsp_list, nsp_tuple, nsp_eQ, nsp_eP, nsp_eS]
  have e : ((if 0 < q.num then 1 else 0) - (if q.num < 0 then 1 else 0) : Int) = sgnQ q := by
    unfold sgnQ
    simp only [num_pos, num_neg]
    split <;> split <;> first | rfl | (exfalso; grind)
  rw [e]
  exact h
theorem rd_side_of (ds : List Dt) (Φ : Slot → Prop) (Ξ : XD → Prop) (h : sp_side_of ds Φ Ξ) : d_side_of (endsOf Φ Ξ) (rho0 N_side_of ds) := by
  obtain ⟨s, c, n, rfl, hs, hc, hl, h⟩ := h
  simp only [d_side_of, N_side_of, dRet, dRetF, dSetX, dCallX, dRetX, noOw, dTry, dCpy, dRaise, dRetO, dSetP, dSetS, dSetF, dSeq, dIf, dNext, dCall, dCallF, dB, dBin, dCons, dNil, dTup, dLst, dV, dC, dTV, onB, dTAnd, dTOr, dTNot, dAnd, dOr, dNot, dIfE, dIsN, dNotN, isN, dSl, dSlF, dNoPart, dPart, dPar, dParS, dAsg, dgN, dgT, dgCons, dgNil, seqD, dFE, dIsi, dListF, dNeg, dRev, dFrz, dApp, dAppS, dIns, dExtend, dClear, dReverse, dPop, oIx, oI, oIC, oAddU, oSubI, oMulU, oMulI, oFd, oMd, oPw, oLt, oLe, oGt, oGe, oEq, oNe, getF, setF, Cl.d, getS, setS, purF, allF, rho0, endsOf, scalD, bLen, bAbs, bInt, bIntU, bTup, Slot.dat, true_and, and_true, Option.some.injEq, exists_eq_left', decide_eq_true_eq, Bool.not_eq_true', decide_eq_false_iff_not, it_eQ0, it_eQ1, it_eP0, it_eP1, it_eS0, it_eS1, fits_eQ, fits_eP, fits_eS, eqv_eQ, eqv_eP, eqv_eS, eqv_int, eqv_bool, shp_int, shp_bool, shp_none, shp_eQ, shp_eP, shp_eS, dCont, dBreak, dXi, dSetG, dAppG, oIsB, oNotB, dTx, pJoin, pSplit, pPart, pStarts, bStr, bIntS, dFmt, dJs, ↓reduceIte, nsp_none, nsp_bool, nsp_int, nsp_str, nsp_list, nsp_tuple, nsp_eQ, nsp_eP, nsp_eS]
  exact ⟨_, _, _, n, rfl, hs.1, hs.2, hc, hl, _, rfl, h⟩
theorem sgnQ_zero {q : Rat} : sgnQ q = 0 ↔ q = 0 := by
  unfold sgnQ
  split
  · rename_i c; exact ⟨fun z => by omega, fun z => by rw [z] at c; exact absurd c Rat.lt_irrefl⟩
  · split
    · rename_i c; exact ⟨fun z => by omega, fun z => by rw [z] at c; exact absurd c Rat.lt_irrefl⟩
    · rename_i c1 c2
      exact ⟨fun _ => Rat.le_antisymm (Rat.not_lt.mp c1) (Rat.not_lt.mp c2), fun _ => rfl⟩
theorem lo_hi_bd {s : Sd} {n : Nat} (h : BdS n s) : BdP n (loP s) ∧ BdP n (hiP s) := by
  unfold loP hiP
  by_cases c : ltP s.2 s.1
  · rw [if_pos c, if_pos c]; exact ⟨h.2, h.1⟩
  · rw [if_neg c, if_neg c]; exact h
theorem rd_is_on (ds : List Dt) (Φ : Slot → Prop) (Ξ : XD → Prop) (h : sp_is_on ds Φ Ξ) : d_is_on (endsOf Φ Ξ) (rho0 N_is_on ds) := by
  obtain ⟨s, c, n, rfl, hne, hs, hc, hl, h⟩ := h
  simp only [d_is_on, N_is_on, dRet, dRetF, dSetX, dCallX, dRetX, noOw, dTry, dCpy, dRaise, dRetO, dSetP, dSetS, dSetF, dSeq, dIf, dNext, dCall, dCallF, dB, dBin, dCons, dNil, dTup, dLst, dV, dC, dTV, onB, dTAnd, dTOr, dTNot, dAnd, dOr, dNot, dIfE, dIsN, dNotN, isN, dSl, dSlF, dNoPart, dPart, dPar, dParS, dAsg, dgN, dgT, dgCons, dgNil, seqD, dFE, dIsi, dListF, dNeg, dRev, dFrz, dApp, dAppS, dIns, dExtend, dClear, dReverse, dPop, oIx, oI, oIC, oAddU, oSubI, oMulU, oMulI, oFd, oMd, oPw, oLt, oLe, oGt, oGe, oEq, oNe, getF, setF, Cl.d, getS, setS, purF, allF, rho0, endsOf, scalD, bLen, bAbs, bInt, bIntU, bTup, Slot.dat, true_and, and_true, Option.some.injEq, exists_eq_left', decide_eq_true_eq, Bool.not_eq_true', decide_eq_false_iff_not, it_eQ0, it_eQ1, it_eP0, it_eP1, it_eS0, it_eS1, fits_eQ, fits_eP, fits_eS, eqv_eQ, eqv_eP, eqv_eS, eqv_int, eqv_bool, shp_int, shp_bool, shp_none, shp_eQ, shp_eP, shp_eS, dCont, dBreak, dXi, dSetG, dAppG, oIsB, oNotB, dTx, pJoin, pSplit, pPart, pStarts, bStr, bIntS, dFmt, dJs, ↓reduceIte, nsp_none, nsp_bool, nsp_int, nsp_str, nsp_list, nsp_tuple, nsp_eQ, nsp_eP, nsp_eS]
  refine ⟨s, c, n, rfl, hs, hc, hl, ?_⟩
  simp only [dRet, dRetF, dSetX, dCallX, dRetX, noOw, dTry, dCpy, dRaise, dRetO, dSetP, dSetS, dSetF, dSeq, dIf, dNext, dCall, dCallF, dB, dBin, dCons, dNil, dTup, dLst, dV, dC, dTV, onB, dTAnd, dTOr, dTNot, dAnd, dOr, dNot, dIfE, dIsN, dNotN, isN, dSl, dSlF, dNoPart, dPart, dPar, dParS, dAsg, dgN, dgT, dgCons, dgNil, seqD, dFE, dIsi, dListF, dNeg, dRev, dFrz, dApp, dAppS, dIns, dExtend, dClear, dReverse, dPop, oIx, oI, oIC, oAddU, oSubI, oMulU, oMulI, oFd, oMd, oPw, oLt, oLe, oGt, oGe, oEq, oNe, getF, setF, Cl.d, getS, setS, purF, allF, rho0, endsOf, scalD, bLen, bAbs, bInt, bIntU, bTup, Slot.dat, true_and, and_true, Option.some.injEq, exists_eq_left', decide_eq_true_eq, Bool.not_eq_true', decide_eq_false_iff_not, it_eQ0, it_eQ1, it_eP0, it_eP1, it_eS0, it_eS1, fits_eQ, fits_eP, fits_eS, eqv_eQ, eqv_eP, eqv_eS, eqv_int, eqv_bool, shp_int, shp_bool, shp_none, shp_eQ, shp_eP, shp_eS, dCont, dBreak, dXi, dSetG, dAppG, oIsB, oNotB, dTx, pJoin, pSplit, pPart, pStarts, bStr, bIntS, dFmt, dJs, ↓reduceIte, nsp_none, nsp_bool, nsp_int, nsp_str, nsp_list, nsp_tuple, nsp_eQ, nsp_eP, nsp_eS, sgnQ_zero]
  split
  · rename_i k
    have e : decide (onS s c) = false := decide_eq_false fun z => k z.1
    rw [e] at h
    exact h
  · rename_i k
    have k' : crossQ s.1 s.2 c = 0 := by simpa using k
    refine ⟨[s.1, s.2], n, .inl rfl, fun p hp => ?_, by omega, by show 2 ≤ 1000000; decide, ?_⟩
    · simp only [List.mem_cons, List.not_mem_nil, or_false] at hp
      rcases hp with rfl | rfl
      · exact hs.1
      · exact hs.2
    · rw [inOrd_side hne]
      simp only [List.map_cons, List.map_nil, dRet, dRetF, dSetX, dCallX, dRetX, noOw, dTry, dCpy, dRaise, dRetO, dSetP, dSetS, dSetF, dSeq, dIf, dNext, dCall, dCallF, dB, dBin, dCons, dNil, dTup, dLst, dV, dC, dTV, onB, dTAnd, dTOr, dTNot, dAnd, dOr, dNot, dIfE, dIsN, dNotN, isN, dSl, dSlF, dNoPart, dPart, dPar, dParS, dAsg, dgN, dgT, dgCons, dgNil, seqD, dFE, dIsi, dListF, dNeg, dRev, dFrz, dApp, dAppS, dIns, dExtend, dClear, dReverse, dPop, oIx, oI, oIC, oAddU, oSubI, oMulU, oMulI, oFd, oMd, oPw, oLt, oLe, oGt, oGe, oEq, oNe, getF, setF, Cl.d, getS, setS, purF, allF, rho0, endsOf, scalD, bLen, bAbs, bInt, bIntU, bTup, Slot.dat, true_and, and_true, Option.some.injEq, exists_eq_left', decide_eq_true_eq, Bool.not_eq_true', decide_eq_false_iff_not, it_eQ0, it_eQ1, it_eP0, it_eP1, it_eS0, it_eS1, fits_eQ, fits_eP, fits_eS, eqv_eQ, eqv_eP, eqv_eS, eqv_int, eqv_bool, shp_int, shp_bool, shp_none, shp_eQ, shp_eP, shp_eS, dCont, dBreak, dXi, dSetG, dAppG, oIsB, oNotB, dTx, pJoin, pSplit, pPart, pStarts, bStr, bIntS, dFmt, dJs, ↓reduceIte, nsp_none, nsp_bool, nsp_int, nsp_str, nsp_list, nsp_tuple, nsp_eQ, nsp_eP, nsp_eS, List.length_cons, List.length_nil]
      obtain ⟨b1, b2⟩ := lo_hi_bd hs
      refine ⟨_, _, n, rfl, hc, b1, by omega, ?_⟩
      simp only [dRet, dRetF, dSetX, dCallX, dRetX, noOw, dTry, dCpy, dRaise, dRetO, dSetP, dSetS, dSetF, dSeq, dIf, dNext, dCall, dCallF, dB, dBin, dCons, dNil, dTup, dLst, dV, dC, dTV, onB, dTAnd, dTOr, dTNot, dAnd, dOr, dNot, dIfE, dIsN, dNotN, isN, dSl, dSlF, dNoPart, dPart, dPar, dParS, dAsg, dgN, dgT, dgCons, dgNil, seqD, dFE, dIsi, dListF, dNeg, dRev, dFrz, dApp, dAppS, dIns, dExtend, dClear, dReverse, dPop, oIx, oI, oIC, oAddU, oSubI, oMulU, oMulI, oFd, oMd, oPw, oLt, oLe, oGt, oGe, oEq, oNe, getF, setF, Cl.d, getS, setS, purF, allF, rho0, endsOf, scalD, bLen, bAbs, bInt, bIntU, bTup, Slot.dat, true_and, and_true, Option.some.injEq, exists_eq_left', decide_eq_true_eq, Bool.not_eq_true', decide_eq_false_iff_not, it_eQ0, it_eQ1, it_eP0, it_eP1, it_eS0, it_eS1, fits_eQ, fits_eP, fits_eS, eqv_eQ, eqv_eP, eqv_eS, eqv_int, eqv_bool, shp_int, shp_bool, shp_none, shp_eQ, shp_eP, shp_eS, dCont, dBreak, dXi, dSetG, dAppG, oIsB, oNotB, dTx, pJoin, pSplit, pPart, pStarts, bStr, bIntS, dFmt, dJs, ↓reduceIte, nsp_none, nsp_bool, nsp_int, nsp_str, nsp_list, nsp_tuple, nsp_eQ, nsp_eP, nsp_eS]
      split
      · rename_i k1
        refine ⟨_, _, n, rfl, b2, hc, by omega, ?_⟩
        simp only [dRet, dRetF, dSetX, dCallX, dRetX, noOw, dTry, dCpy, dRaise, dRetO, dSetP, dSetS, dSetF, dSeq, dIf, dNext, dCall, dCallF, dB, dBin, dCons, dNil, dTup, dLst, dV, dC, dTV, onB, dTAnd, dTOr, dTNot, dAnd, dOr, dNot, dIfE, dIsN, dNotN, isN, dSl, dSlF, dNoPart, dPart, dPar, dParS, dAsg, dgN, dgT, dgCons, dgNil, seqD, dFE, dIsi, dListF, dNeg, dRev, dFrz, dApp, dAppS, dIns, dExtend, dClear, dReverse, dPop, oIx, oI, oIC, oAddU, oSubI, oMulU, oMulI, oFd, oMd, oPw, oLt, oLe, oGt, oGe, oEq, oNe, getF, setF, Cl.d, getS, setS, purF, allF, rho0, endsOf, scalD, bLen, bAbs, bInt, bIntU, bTup, Slot.dat, true_and, and_true, Option.some.injEq, exists_eq_left', decide_eq_true_eq, Bool.not_eq_true', decide_eq_false_iff_not, it_eQ0, it_eQ1, it_eP0, it_eP1, it_eS0, it_eS1, fits_eQ, fits_eP, fits_eS, eqv_eQ, eqv_eP, eqv_eS, eqv_int, eqv_bool, shp_int, shp_bool, shp_none, shp_eQ, shp_eP, shp_eS, dCont, dBreak, dXi, dSetG, dAppG, oIsB, oNotB, dTx, pJoin, pSplit, pPart, pStarts, bStr, bIntS, dFmt, dJs, ↓reduceIte, nsp_none, nsp_bool, nsp_int, nsp_str, nsp_list, nsp_tuple, nsp_eQ, nsp_eP, nsp_eS]
        have e : decide (onS s c) = !decide (ltP (hiP s) c) := by
          rw [← decide_not]
          apply decide_eq_decide.mpr
          exact ⟨fun z => z.2.2, fun z => ⟨k', by simpa using k1, z⟩⟩
        rw [e] at h
        exact h
      · rename_i k1
        have e : decide (onS s c) = false := decide_eq_false fun z => by
          have := z.2.1
          simp at k1
          exact this k1
        rw [e] at h
        exact h
theorem rd_in_order (ds : List Dt) (Φ : Slot → Prop) (Ξ : XD → Prop) (h : sp_in_order ds Φ Ξ) : d_in_order (endsOf Φ Ξ) (rho0 N_in_order ds) := by
  obtain ⟨ps, n, hds, hb, hn, hl, h⟩ := h
  have hz : (1000000 : Nat) < sizeLine := by decide
  have body : ∀ d : Dt, walkD d = some (ps.map eP) → d_in_order (endsOf Φ Ξ) (rho0 N_in_order [d]) := fun d hw => by
    simp only [d_in_order, N_in_order, dRet, dRetF, dSetX, dCallX, dRetX, noOw, dTry, dCpy, dRaise, dRetO, dSetP, dSetS, dSetF, dSeq, dIf, dNext, dCall, dCallF, dB, dBin, dCons, dNil, dTup, dLst, dV, dC, dTV, onB, dTAnd, dTOr, dTNot, dAnd, dOr, dNot, dIfE, dIsN, dNotN, isN, dSl, dSlF, dNoPart, dPart, dPar, dParS, dAsg, dgN, dgT, dgCons, dgNil, seqD, dFE, dIsi, dListF, dNeg, dRev, dFrz, dApp, dAppS, dIns, dExtend, dClear, dReverse, dPop, oIx, oI, oIC, oAddU, oSubI, oMulU, oMulI, oFd, oMd, oPw, oLt, oLe, oGt, oGe, oEq, oNe, getF, setF, Cl.d, getS, setS, purF, allF, rho0, endsOf, scalD, bLen, bAbs, bInt, bIntU, bTup, Slot.dat, true_and, and_true, Option.some.injEq, exists_eq_left', decide_eq_true_eq, Bool.not_eq_true', decide_eq_false_iff_not, it_eQ0, it_eQ1, it_eP0, it_eP1, it_eS0, it_eS1, fits_eQ, fits_eP, fits_eS, eqv_eQ, eqv_eP, eqv_eS, eqv_int, eqv_bool, shp_int, shp_bool, shp_none, shp_eQ, shp_eP, shp_eS, dCont, dBreak, dXi, dSetG, dAppG, oIsB, oNotB, dTx, pJoin, pSplit, pPart, pStarts, bStr, bIntS, dFmt, dJs, ↓reduceIte, nsp_none, nsp_bool, nsp_int, nsp_str, nsp_list, nsp_tuple, nsp_eQ, nsp_eP, nsp_eS, dFor, diSeq, hw]
    refine ⟨fun k ρ => ∃ x y z w, ρ = [.pu d, .ow ((inOrd (ps.take k)).map eP), x, y, z, w], ⟨_, _, _, _, rfl⟩, ?_, ?_⟩
    · rintro k e ρ' hk ⟨x, y, z, w, rfl⟩
      rw [List.getElem?_map] at hk
      cases hp : ps[k]? with
      | none => rw [hp] at hk; cases hk
      | some p =>
        rw [hp] at hk
        have he : eP p = e := Option.some.inj hk
        subst he
        have hkl : k < ps.length := (List.getElem?_eq_some_iff.mp hp).1
        have hpb : BdP n p := hb p (List.mem_of_getElem? hp)
        have hS := inOrd_take_srt ps k
        have hL := inOrd_take_len ps k
        have hM : ∀ q ∈ inOrd (ps.take k), BdP n q := fun q hq => hb q (List.mem_of_mem_take (mem_inOrd.mp hq))
        simp only [dRet, dRetF, dSetX, dCallX, dRetX, noOw, dTry, dCpy, dRaise, dRetO, dSetP, dSetS, dSetF, dSeq, dIf, dNext, dCall, dCallF, dB, dBin, dCons, dNil, dTup, dLst, dV, dC, dTV, onB, dTAnd, dTOr, dTNot, dAnd, dOr, dNot, dIfE, dIsN, dNotN, isN, dSl, dSlF, dNoPart, dPart, dPar, dParS, dAsg, dgN, dgT, dgCons, dgNil, seqD, dFE, dIsi, dListF, dNeg, dRev, dFrz, dApp, dAppS, dIns, dExtend, dClear, dReverse, dPop, oIx, oI, oIC, oAddU, oSubI, oMulU, oMulI, oFd, oMd, oPw, oLt, oLe, oGt, oGe, oEq, oNe, getF, setF, Cl.d, getS, setS, purF, allF, rho0, endsOf, scalD, bLen, bAbs, bInt, bIntU, bTup, Slot.dat, true_and, and_true, Option.some.injEq, exists_eq_left', decide_eq_true_eq, Bool.not_eq_true', decide_eq_false_iff_not, it_eQ0, it_eQ1, it_eP0, it_eP1, it_eS0, it_eS1, fits_eQ, fits_eP, fits_eS, eqv_eQ, eqv_eP, eqv_eS, eqv_int, eqv_bool, shp_int, shp_bool, shp_none, shp_eQ, shp_eP, shp_eS, dCont, dBreak, dXi, dSetG, dAppG, oIsB, oNotB, dTx, pJoin, pSplit, pPart, pStarts, bStr, bIntS, dFmt, dJs, ↓reduceIte, nsp_none, nsp_bool, nsp_int, nsp_str, nsp_list, nsp_tuple, nsp_eQ, nsp_eP, nsp_eS, dWhile, List.length_map]
        rw [inOrd_take hp]
        generalize inOrd (ps.take k) = acc at hS hL hM
        refine ⟨fun m ρ => ∃ (lo hi : Nat) (w : Slot), ρ = [.pu d, .ow (acc.map eP), .pu (eP p), .pu (.int lo), .pu (.int hi), w] ∧ m = hi - lo ∧ lo ≤ ahead p acc ∧ ahead p acc ≤ hi ∧ hi ≤ acc.length, ⟨_, 0, acc.length, _, rfl, rfl, Nat.zero_le _, ahead_le _ _, Nat.le_refl _⟩, ?_⟩
        rintro m ρ' ⟨lo, hi, w, rfl, rfl, h1, h2, h3⟩
        simp only [dRet, dRetF, dSetX, dCallX, dRetX, noOw, dTry, dCpy, dRaise, dRetO, dSetP, dSetS, dSetF, dSeq, dIf, dNext, dCall, dCallF, dB, dBin, dCons, dNil, dTup, dLst, dV, dC, dTV, onB, dTAnd, dTOr, dTNot, dAnd, dOr, dNot, dIfE, dIsN, dNotN, isN, dSl, dSlF, dNoPart, dPart, dPar, dParS, dAsg, dgN, dgT, dgCons, dgNil, seqD, dFE, dIsi, dListF, dNeg, dRev, dFrz, dApp, dAppS, dIns, dExtend, dClear, dReverse, dPop, oIx, oI, oIC, oAddU, oSubI, oMulU, oMulI, oFd, oMd, oPw, oLt, oLe, oGt, oGe, oEq, oNe, getF, setF, Cl.d, getS, setS, purF, allF, rho0, endsOf, scalD, bLen, bAbs, bInt, bIntU, bTup, Slot.dat, true_and, and_true, Option.some.injEq, exists_eq_left', decide_eq_true_eq, Bool.not_eq_true', decide_eq_false_iff_not, it_eQ0, it_eQ1, it_eP0, it_eP1, it_eS0, it_eS1, fits_eQ, fits_eP, fits_eS, eqv_eQ, eqv_eP, eqv_eS, eqv_int, eqv_bool, shp_int, shp_bool, shp_none, shp_eQ, shp_eP, shp_eS, dCont, dBreak, dXi, dSetG, dAppG, oIsB, oNotB, dTx, pJoin, pSplit, pPart, pStarts, bStr, bIntS, dFmt, dJs, ↓reduceIte, nsp_none, nsp_bool, nsp_int, nsp_str, nsp_list, nsp_tuple, nsp_eQ, nsp_eP, nsp_eS]
        split
        · rename_i c
          have c' : lo < hi := by omega
          refine ⟨cfd (m := 2) (by decide) (by decide) (by decide), ?_⟩
          have em : Int.fdiv ((lo : Int) + hi) 2 = (((lo + hi) / 2 : Nat) : Int) := by
            rw [Int.fdiv_eq_ediv_of_nonneg _ (by decide)]
            omega
          rw [em]
          have hmid : (lo + hi) / 2 < acc.length := by omega
          simp only [dRet, dRetF, dSetX, dCallX, dRetX, noOw, dTry, dCpy, dRaise, dRetO, dSetP, dSetS, dSetF, dSeq, dIf, dNext, dCall, dCallF, dB, dBin, dCons, dNil, dTup, dLst, dV, dC, dTV, onB, dTAnd, dTOr, dTNot, dAnd, dOr, dNot, dIfE, dIsN, dNotN, isN, dSl, dSlF, dNoPart, dPart, dPar, dParS, dAsg, dgN, dgT, dgCons, dgNil, seqD, dFE, dIsi, dListF, dNeg, dRev, dFrz, dApp, dAppS, dIns, dExtend, dClear, dReverse, dPop, oIx, oI, oIC, oAddU, oSubI, oMulU, oMulI, oFd, oMd, oPw, oLt, oLe, oGt, oGe, oEq, oNe, getF, setF, Cl.d, getS, setS, purF, allF, rho0, endsOf, scalD, bLen, bAbs, bInt, bIntU, bTup, Slot.dat, true_and, and_true, Option.some.injEq, exists_eq_left', decide_eq_true_eq, Bool.not_eq_true', decide_eq_false_iff_not, it_eQ0, it_eQ1, it_eP0, it_eP1, it_eS0, it_eS1, fits_eQ, fits_eP, fits_eS, eqv_eQ, eqv_eP, eqv_eS, eqv_int, eqv_bool, shp_int, shp_bool, shp_none, shp_eQ, shp_eP, shp_eS, dCont, dBreak, dXi, dSetG, dAppG, oIsB, oNotB, dTx, pJoin, pSplit, pPart, pStarts, bStr, bIntS, dFmt, dJs, ↓reduceIte, nsp_none, nsp_bool, nsp_int, nsp_str, nsp_list, nsp_tuple, nsp_eQ, nsp_eP, nsp_eS, fits_list]
          refine ⟨_, it_map (by omega) (by omega), ?_⟩
          rw [Int.toNat_natCast]
          have hq : acc[(lo + hi) / 2]? = some (acc.getD ((lo + hi) / 2) default) := by
            rw [List.getD_eq_getElem?_getD, List.getElem?_eq_getElem hmid]
            rfl
          refine ⟨_, _, n, rfl, hM _ (getD_mem hmid), hpb, by omega, ?_⟩
          simp only [dRet, dRetF, dSetX, dCallX, dRetX, noOw, dTry, dCpy, dRaise, dRetO, dSetP, dSetS, dSetF, dSeq, dIf, dNext, dCall, dCallF, dB, dBin, dCons, dNil, dTup, dLst, dV, dC, dTV, onB, dTAnd, dTOr, dTNot, dAnd, dOr, dNot, dIfE, dIsN, dNotN, isN, dSl, dSlF, dNoPart, dPart, dPar, dParS, dAsg, dgN, dgT, dgCons, dgNil, seqD, dFE, dIsi, dListF, dNeg, dRev, dFrz, dApp, dAppS, dIns, dExtend, dClear, dReverse, dPop, oIx, oI, oIC, oAddU, oSubI, oMulU, oMulI, oFd, oMd, oPw, oLt, oLe, oGt, oGe, oEq, oNe, getF, setF, Cl.d, getS, setS, purF, allF, rho0, endsOf, scalD, bLen, bAbs, bInt, bIntU, bTup, Slot.dat, true_and, and_true, Option.some.injEq, exists_eq_left', decide_eq_true_eq, Bool.not_eq_true', decide_eq_false_iff_not, it_eQ0, it_eQ1, it_eP0, it_eP1, it_eS0, it_eS1, fits_eQ, fits_eP, fits_eS, eqv_eQ, eqv_eP, eqv_eS, eqv_int, eqv_bool, shp_int, shp_bool, shp_none, shp_eQ, shp_eP, shp_eS, dCont, dBreak, dXi, dSetG, dAppG, oIsB, oNotB, dTx, pJoin, pSplit, pPart, pStarts, bStr, bIntS, dFmt, dJs, ↓reduceIte, nsp_none, nsp_bool, nsp_int, nsp_str, nsp_list, nsp_tuple, nsp_eQ, nsp_eP, nsp_eS]
          have key := lt_ahead (p := p) hS hq
          split
          · rename_i k1
            have k2 := key.mp k1
            exact ⟨hi - ((lo + hi) / 2 + 1), by omega, (lo + hi) / 2 + 1, hi, _, by rw [Int.natCast_add]; rfl, rfl, by omega, h2, h3⟩
          · rename_i k1
            have k2 : ¬ (lo + hi) / 2 < ahead p acc := fun z => k1 (key.mpr z)
            exact ⟨(lo + hi) / 2 - lo, by omega, lo, (lo + hi) / 2, _, rfl, rfl, h1, by omega, by omega⟩
        · rename_i c
          have e1 : lo = ahead p acc := by omega
          subst e1
          simp only [List.length_map]
          have done : ∀ ρ2, ρ2 = [Slot.pu d, .ow ((insP p acc).map eP), .pu (eP p), .pu (.int (ahead p acc)), .pu (.int hi), w] → ∃ x y z w, ρ2 = [Slot.pu d, .ow ((insP p acc).map eP), x, y, z, w] := fun ρ2 e => ⟨_, _, _, _, e⟩
          have ins : p ∉ acc → acc.length < sizeLine ∧ (0 : Int) ≤ (ahead p acc : Nat) ∧ ((ahead p acc : Nat) : Int) < 2 ^ 63 ∧ ∃ x y z w', [Slot.pu d, .ow ((acc.map eP).take (ahead p acc) ++ [eP p] ++ (acc.map eP).drop (ahead p acc)), .pu (eP p), .pu (.int (ahead p acc : Nat)), .pu (.int hi), w] = [Slot.pu d, .ow ((insP p acc).map eP), x, y, z, w'] := fun hne => by
            refine ⟨by omega, by omega, by omega, done _ ?_⟩
            unfold insP
            rw [if_neg hne, List.map_append, List.map_append, List.map_take, List.map_drop]
            rfl
          split
          · rename_i c1
            have c2 : ahead p acc = acc.length := by omega
            have hne : p ∉ acc := fun z => by
              have := (mem_ahead hS).mp z
              rw [c2, List.getElem?_eq_none (Nat.le_refl _)] at this
              cases this
            rw [Int.toNat_natCast]
            exact ins hne
          · rename_i c1
            have hlt : ahead p acc < acc.length := by have := ahead_le p acc; omega
            simp only [dRet, dRetF, dSetX, dCallX, dRetX, noOw, dTry, dCpy, dRaise, dRetO, dSetP, dSetS, dSetF, dSeq, dIf, dNext, dCall, dCallF, dB, dBin, dCons, dNil, dTup, dLst, dV, dC, dTV, onB, dTAnd, dTOr, dTNot, dAnd, dOr, dNot, dIfE, dIsN, dNotN, isN, dSl, dSlF, dNoPart, dPart, dPar, dParS, dAsg, dgN, dgT, dgCons, dgNil, seqD, dFE, dIsi, dListF, dNeg, dRev, dFrz, dApp, dAppS, dIns, dExtend, dClear, dReverse, dPop, oIx, oI, oIC, oAddU, oSubI, oMulU, oMulI, oFd, oMd, oPw, oLt, oLe, oGt, oGe, oEq, oNe, getF, setF, Cl.d, getS, setS, purF, allF, rho0, endsOf, scalD, bLen, bAbs, bInt, bIntU, bTup, Slot.dat, true_and, and_true, Option.some.injEq, exists_eq_left', decide_eq_true_eq, Bool.not_eq_true', decide_eq_false_iff_not, it_eQ0, it_eQ1, it_eP0, it_eP1, it_eS0, it_eS1, fits_eQ, fits_eP, fits_eS, eqv_eQ, eqv_eP, eqv_eS, eqv_int, eqv_bool, shp_int, shp_bool, shp_none, shp_eQ, shp_eP, shp_eS, dCont, dBreak, dXi, dSetG, dAppG, oIsB, oNotB, dTx, pJoin, pSplit, pPart, pStarts, bStr, bIntS, dFmt, dJs, ↓reduceIte, nsp_none, nsp_bool, nsp_int, nsp_str, nsp_list, nsp_tuple, nsp_eQ, nsp_eP, nsp_eS, fits_list]
            refine ⟨_, it_map (by omega) (by omega), ?_⟩
            rw [Int.toNat_natCast]
            simp only [dRet, dRetF, dSetX, dCallX, dRetX, noOw, dTry, dCpy, dRaise, dRetO, dSetP, dSetS, dSetF, dSeq, dIf, dNext, dCall, dCallF, dB, dBin, dCons, dNil, dTup, dLst, dV, dC, dTV, onB, dTAnd, dTOr, dTNot, dAnd, dOr, dNot, dIfE, dIsN, dNotN, isN, dSl, dSlF, dNoPart, dPart, dPar, dParS, dAsg, dgN, dgT, dgCons, dgNil, seqD, dFE, dIsi, dListF, dNeg, dRev, dFrz, dApp, dAppS, dIns, dExtend, dClear, dReverse, dPop, oIx, oI, oIC, oAddU, oSubI, oMulU, oMulI, oFd, oMd, oPw, oLt, oLe, oGt, oGe, oEq, oNe, getF, setF, Cl.d, getS, setS, purF, allF, rho0, endsOf, scalD, bLen, bAbs, bInt, bIntU, bTup, Slot.dat, true_and, and_true, Option.some.injEq, exists_eq_left', decide_eq_true_eq, Bool.not_eq_true', decide_eq_false_iff_not, it_eQ0, it_eQ1, it_eP0, it_eP1, it_eS0, it_eS1, fits_eQ, fits_eP, fits_eS, eqv_eQ, eqv_eP, eqv_eS, eqv_int, eqv_bool, shp_int, shp_bool, shp_none, shp_eQ, shp_eP, shp_eS, dCont, dBreak, dXi, dSetG, dAppG, oIsB, oNotB, dTx, pJoin, pSplit, pPart, pStarts, bStr, bIntS, dFmt, dJs, ↓reduceIte, nsp_none, nsp_bool, nsp_int, nsp_str, nsp_list, nsp_tuple, nsp_eQ, nsp_eP, nsp_eS]
            have hq : acc[ahead p acc]? = some (acc.getD (ahead p acc) default) := by
              rw [List.getD_eq_getElem?_getD, List.getElem?_eq_getElem hlt]
              rfl
            split
            · rename_i k1
              have hne : p ∉ acc := fun z => by
                have y := (mem_ahead hS).mp z
                rw [hq] at y
                exact k1 (Option.some.inj y)
              exact ins hne
            · rename_i k1
              have k2 : acc.getD (ahead p acc) default = p := by simpa using k1
              have hin : p ∈ acc := (mem_ahead hS).mpr (by rw [hq, k2])
              refine done _ ?_
              unfold insP
              rw [if_pos hin]
    · rintro ρ' ⟨x, y, z, w, rfl⟩
      rw [List.length_map, List.take_length]
      exact h
  rcases hds with rfl | rfl
  · exact body _ rfl
  · exact body _ rfl
end L2.D3

set_option maxHeartbeats 4000000
/-! What the laws' own drawing of numbers gives. -/
namespace L2.D3
open PySem PySem.Spec PyProof.Rows
theorem cutD_map {α : Type} (f : α → Dt) (xs : List α) (lo hi : Option Int) : cutD (xs.map f) lo hi = (cutD xs lo hi).map f := by
  unfold cutD
  rw [List.length_map, List.map_take, List.map_drop]
theorem cutD_len {α : Type} (xs : List α) (lo hi : Option Int) : (cutD xs lo hi).length ≤ xs.length := by
  unfold cutD
  rw [List.length_take, List.length_drop]
  omega
theorem cutD_mem {α : Type} {xs : List α} {lo hi : Option Int} {x : α} (h : x ∈ cutD xs lo hi) : x ∈ xs := by
  unfold cutD at h
  exact List.mem_of_mem_drop (List.mem_of_mem_take h)
/-- xs[k:] -/
theorem cutD_from {α : Type} (xs : List α) (k : Nat) : cutD xs (some (k : Int)) none = xs.drop k := by
  unfold cutD
  rw [HT.sIx_nat, HT.sIx_none]
  by_cases c : k ≤ xs.length
  · rw [Nat.min_eq_left c, List.take_of_length_le (by rw [List.length_drop]; exact Nat.le_refl _)]
  · rw [Nat.min_eq_right (by omega), Nat.sub_self, List.take_zero, List.drop_of_length_le (by omega)]
/-- xs[:k] -/
theorem cutD_to {α : Type} (xs : List α) (k : Nat) : cutD xs none (some (k : Int)) = xs.take k := by
  unfold cutD
  rw [HT.sIx_nat, HT.sIx_none, List.drop_zero, Nat.sub_zero]
  by_cases c : k ≤ xs.length
  · rw [Nat.min_eq_left c]
  · rw [Nat.min_eq_right (by omega), List.take_length, List.take_of_length_le (by omega)]
theorem it_at {ds : List Dt} {i : Int} {k : Nat} {d : Dt} (e : i = (k : Int)) (h : ds[k]? = some d) : itemD (.list ds) i = some d := by
  show atI ds i = some d
  rw [e]
  exact atI_nat h
theorem it_atT {ds : List Dt} {i : Int} {k : Nat} {d : Dt} (e : i = (k : Int)) (h : ds[k]? = some d) : itemD (.tuple ds) i = some d := by
  show atI ds i = some d
  rw [e]
  exact atI_nat h
theorem it_l0 (x : Dt) (r : List Dt) : itemD (.list (x :: r)) 0 = some x := it_at (k := 0) rfl rfl
theorem it_l1 (x y : Dt) (r : List Dt) : itemD (.list (x :: y :: r)) 1 = some y := it_at (k := 1) rfl rfl
theorem it_l2 (x y z : Dt) (r : List Dt) : itemD (.list (x :: y :: z :: r)) 2 = some z := it_at (k := 2) rfl rfl
theorem it_t0 (x : Dt) (r : List Dt) : itemD (.tuple (x :: r)) 0 = some x := it_atT (k := 0) rfl rfl
theorem it_t1 (x y : Dt) (r : List Dt) : itemD (.tuple (x :: y :: r)) 1 = some y := it_atT (k := 1) rfl rfl
theorem it_t2 (x y z : Dt) (r : List Dt) : itemD (.tuple (x :: y :: z :: r)) 2 = some z := it_atT (k := 2) rfl rfl
theorem cmN {a b : Int} (ha : a.natAbs < 2 ^ 240) (hb : b.natAbs < 2 ^ 240) : CMulW a b := cm ha hb (by decide)
theorem fmod_b {x : Int} {m : Int} (hm : 0 < m) : 0 ≤ x.fmod m ∧ x.fmod m < m := ⟨Int.fmod_nonneg_of_pos x hm, Int.fmod_lt_of_pos x hm⟩
theorem cfdN {a b : Int} (h0 : b ≠ 0) (hb : b.natAbs < 2 ^ 240) : CFd a b := cfd h0 hb (by decide)
theorem rng_get {n k : Nat} {d : Dt} (h : ((List.range n).map fun (k : Nat) => PyData.int k)[k]? = some d) : k < n ∧ d = .int k := by
  rw [List.getElem?_map] at h
  cases c : (List.range n)[k]? with
  | none => rw [c] at h; cases h
  | some j =>
    rw [c] at h
    obtain ⟨h1, h2⟩ := List.getElem?_eq_some_iff.mp c
    rw [List.getElem_range] at h2
    rw [List.length_range] at h1
    subst h2
    exact ⟨h1, (Option.some.inj h).symm⟩
theorem rng_len (n : Nat) : ((List.range n).map fun (k : Nat) => PyData.int k).length = n := by rw [List.length_map, List.length_range]
theorem map_get {α : Type} {f : α → Dt} {xs : List α} {k : Nat} {d : Dt} (h : (xs.map f)[k]? = some d) : ∃ x, xs[k]? = some x ∧ d = f x := by
  rw [List.getElem?_map] at h
  cases c : xs[k]? with
  | none => rw [c] at h; cases h
  | some x => rw [c] at h; exact ⟨x, rfl, (Option.some.inj h).symm⟩
/-- a number as _law_numbers draws it -/
def Drw (x : Int) : Prop := 0 ≤ x ∧ x < 1999999973
def sp__law_cell : DSp := fun ds Φ _ => ∃ (ns : List Int) (k : Int), ds = [.list (ns.map .int), .int k] ∧ ns.length ≤ 63 ∧ 0 ≤ k ∧ k ≤ 1000 ∧ ∀ c : Int, Φ (.pu (.int c))
def sp__law_numbers : DSp := fun ds Φ _ => ∃ (c : Int) (m : Nat), ds = [.int c, .int m] ∧ m ≤ 1000 ∧ ∀ xs : List Int, xs.length = m → (∀ x ∈ xs, Drw x) → Φ (.ow (xs.map .int))
def sp__law_low : DSp := sp_lowest
abbrev N__law_cell : List Str := ["_law_script", "_law_k", "_law_state", "_law_cell_here"]
def d__law_cell : DS := (dSeq (dIf (dTV (dBin oLt (dV 1) (dB bLen (dCons (dV 0) dNil)))) (dRet (dBin oIx (dV 0) (dV 1))) dNext)
  (dSeq (dSetP 2 (dBin oMd (dBin oMulU (dC (.int 48271)) (dBin oAddU (dBin oAddU (dBin oMulU (dV 1) (dV 1)) (dBin oMulU (dC (.int 7)) (dV 1))) (dC (.int 11)))) (dC (.int 2147483647))))
  (dSeq (dFor (diSeq (dSl (dV 0) dNoPart (dPart (dC (.int 3))))) (dgN 3) (dSetP 2 (dBin oMd (dBin oAddU (dBin oMulU (dV 2) (dC (.int 69621))) (dV 3)) (dC (.int 2147483647)))))
  (dRet (dV 2)))))
abbrev N__law_numbers : List Str := ["_law_cell_here", "_law_many", "_law_found", "_law_state", "_law_digits", "_law_k"]
def d__law_numbers : DS := (dSeq (dSetF 2 dNil)
  (dSeq (dSetP 3 (dBin oMd (dBin oMulU (dBin oAddU (dBin oMd (dV 0) (dC (.int 1999999973))) (dC (.int 31))) (dC (.int 765432101))) (dC (.int 1999999973))))
  (dSeq (dSetP 4 (dC (.int 0)))
  (dSeq (dIf (dTOr (dTV (dBin oLt (dV 0) (dC (.int 0)))) (dTV (dBin oGe (dV 0) (dBin oPw (dC (.int 10)) (dC (.int 18)))))) (dSetP 4 (dB bAbs (dCons (dV 0) dNil))) dNext)
  (dSeq (dFor (diRng1 (dCons (dV 1) dNil)) (dgN 5) (dSeq (dSetP 3 (dBin oMd (dBin oAddU (dBin oAddU (dBin oMulU (dV 3) (dBin oAddU (dBin oMd (dV 3) (dC (.int 65521))) (dC (.int 40487)))) (dBin oMulU (dC (.int 7)) (dV 5))) (dC (.int 5))) (dC (.int 1999999973))))
  (dSeq (dApp 2 (dBin oIx (dLst (dCons (dV 3) (dCons (dBin oMd (dV 4) (dC (.int 1000000))) dNil))) (dB bIntU (dCons (dBin oGt (dV 4) (dC (.int 0))) dNil))))
  (dSetP 4 (dBin oFd (dV 4) (dC (.int 1000000)))))))
  (dRetO 2))))))
abbrev N__law_low : List Str := ["_law_top", "_law_bottom", "_law_high", "_law_low_here"]
def d__law_low : DS := (dSeq (dPar 2 3 (dCons (dB bAbs (dCons (dV 0) dNil)) (dCons (dB bAbs (dCons (dV 1) dNil)) dNil)))
  (dSeq (dWhile (dTV (dBin oGt (dV 3) (dC (.int 0)))) (dPar 2 3 (dCons (dV 3) (dCons (dBin oMd (dV 2) (dV 3)) dNil))))
  (dSeq (dIf (dTV (dBin oLt (dV 1) (dC (.int 0)))) (dSetP 2 (dBin oSubI (dC (.int 0)) (dV 2))) dNext)
  (dRet (dTup (dCons (dBin oFd (dV 0) (dV 2)) (dCons (dBin oFd (dV 1) (dV 2)) dNil)))))))
theorem rd__law_cell (ds : List Dt) (Φ : Slot → Prop) (Ξ : XD → Prop) (h : sp__law_cell ds Φ Ξ) : d__law_cell (endsOf Φ Ξ) (rho0 N__law_cell ds) := by
  obtain ⟨ns, k, rfl, hl, h0, h1, h⟩ := h
  simp only [d__law_cell, N__law_cell, dRet, dRetF, dSetX, dCallX, dRetX, noOw, dTry, dCpy, dRaise, dRetO, dSetP, dSetS, dSetF, dSeq, dIf, dNext, dCall, dCallF, dB, dBin, dCons, dNil, dTup, dLst, dV, dC, dTV, onB, dTAnd, dTOr, dTNot, dAnd, dOr, dNot, dIfE, dIsN, dNotN, isN, dSl, dSlF, dNoPart, dPart, dPar, dParS, dAsg, dgN, dgT, dgCons, dgNil, seqD, dFE, dIsi, dListF, dNeg, dRev, dFrz, dApp, dAppS, dIns, dExtend, dClear, dReverse, dPop, oIx, oI, oIC, oAddU, oSubI, oMulU, oMulI, oFd, oMd, oPw, oLt, oLe, oGt, oGe, oEq, oNe, getF, setF, Cl.d, getS, setS, purF, allF, rho0, endsOf, scalD, bLen, bAbs, bInt, bIntU, bTup, Slot.dat, true_and, and_true, Option.some.injEq, exists_eq_left', decide_eq_true_eq, Bool.not_eq_true', decide_eq_false_iff_not, it_eQ0, it_eQ1, it_eP0, it_eP1, it_eS0, it_eS1, fits_eQ, fits_eP, fits_eS, eqv_eQ, eqv_eP, eqv_eS, eqv_int, eqv_bool, shp_int, shp_bool, shp_none, shp_eQ, shp_eP, shp_eS, dCont, dBreak, dXi, dSetG, dAppG, oIsB, oNotB, dTx, pJoin, pSplit, pPart, pStarts, bStr, bIntS, dFmt, dJs, ↓reduceIte, nsp_none, nsp_bool, nsp_int, nsp_str, nsp_list, nsp_tuple, nsp_eQ, nsp_eP, nsp_eS, List.length_map]
  split
  · rename_i c
    refine ⟨trivial, _, it_map h0 c, ?_⟩
    exact h _
  · rename_i c
    refine ⟨cmN (by omega) (by omega), cmN (by omega) (by omega), ?_⟩
    have hk2 : 0 ≤ k * k ∧ k * k ≤ 1000000 := ⟨Int.mul_nonneg h0 h0, by have := Int.mul_le_mul h1 h1 h0 (by decide : (0 : Int) ≤ 1000); omega⟩
    refine ⟨cmN (by omega) (by omega), by decide, ?_⟩
    simp only [dFor, diSeq, slD, cutD_map, walkD, dRet, dRetF, dSetX, dCallX, dRetX, noOw, dTry, dCpy, dRaise, dRetO, dSetP, dSetS, dSetF, dSeq, dIf, dNext, dCall, dCallF, dB, dBin, dCons, dNil, dTup, dLst, dV, dC, dTV, onB, dTAnd, dTOr, dTNot, dAnd, dOr, dNot, dIfE, dIsN, dNotN, isN, dSl, dSlF, dNoPart, dPart, dPar, dParS, dAsg, dgN, dgT, dgCons, dgNil, seqD, dFE, dIsi, dListF, dNeg, dRev, dFrz, dApp, dAppS, dIns, dExtend, dClear, dReverse, dPop, oIx, oI, oIC, oAddU, oSubI, oMulU, oMulI, oFd, oMd, oPw, oLt, oLe, oGt, oGe, oEq, oNe, getF, setF, Cl.d, getS, setS, purF, allF, rho0, endsOf, scalD, bLen, bAbs, bInt, bIntU, bTup, Slot.dat, true_and, and_true, Option.some.injEq, exists_eq_left', decide_eq_true_eq, Bool.not_eq_true', decide_eq_false_iff_not, it_eQ0, it_eQ1, it_eP0, it_eP1, it_eS0, it_eS1, fits_eQ, fits_eP, fits_eS, eqv_eQ, eqv_eP, eqv_eS, eqv_int, eqv_bool, shp_int, shp_bool, shp_none, shp_eQ, shp_eP, shp_eS, dCont, dBreak, dXi, dSetG, dAppG, oIsB, oNotB, dTx, pJoin, pSplit, pPart, pStarts, bStr, bIntS, dFmt, dJs, ↓reduceIte, nsp_none, nsp_bool, nsp_int, nsp_str, nsp_list, nsp_tuple, nsp_eQ, nsp_eP, nsp_eS]
    refine ⟨trivial, fun j ρ => ∃ (st : Int) (w : Slot), ρ = [.pu (.list (ns.map .int)), .pu (.int k), .pu (.int st), w] ∧ 0 ≤ st ∧ st < 2147483647, ?_, ?_, ?_⟩
    · obtain ⟨g0, g1⟩ := fmod_b (x := 48271 * (k * k + 7 * k + 11)) (m := 2147483647) (by decide)
      exact ⟨_, _, rfl, g0, g1⟩
    · rintro j d ρ' hj ⟨st, w, rfl, s0, s1⟩
      obtain ⟨x, hx, rfl⟩ := map_get hj
      simp only [dRet, dRetF, dSetX, dCallX, dRetX, noOw, dTry, dCpy, dRaise, dRetO, dSetP, dSetS, dSetF, dSeq, dIf, dNext, dCall, dCallF, dB, dBin, dCons, dNil, dTup, dLst, dV, dC, dTV, onB, dTAnd, dTOr, dTNot, dAnd, dOr, dNot, dIfE, dIsN, dNotN, isN, dSl, dSlF, dNoPart, dPart, dPar, dParS, dAsg, dgN, dgT, dgCons, dgNil, seqD, dFE, dIsi, dListF, dNeg, dRev, dFrz, dApp, dAppS, dIns, dExtend, dClear, dReverse, dPop, oIx, oI, oIC, oAddU, oSubI, oMulU, oMulI, oFd, oMd, oPw, oLt, oLe, oGt, oGe, oEq, oNe, getF, setF, Cl.d, getS, setS, purF, allF, rho0, endsOf, scalD, bLen, bAbs, bInt, bIntU, bTup, Slot.dat, true_and, and_true, Option.some.injEq, exists_eq_left', decide_eq_true_eq, Bool.not_eq_true', decide_eq_false_iff_not, it_eQ0, it_eQ1, it_eP0, it_eP1, it_eS0, it_eS1, fits_eQ, fits_eP, fits_eS, eqv_eQ, eqv_eP, eqv_eS, eqv_int, eqv_bool, shp_int, shp_bool, shp_none, shp_eQ, shp_eP, shp_eS, dCont, dBreak, dXi, dSetG, dAppG, oIsB, oNotB, dTx, pJoin, pSplit, pPart, pStarts, bStr, bIntS, dFmt, dJs, ↓reduceIte, nsp_none, nsp_bool, nsp_int, nsp_str, nsp_list, nsp_tuple, nsp_eQ, nsp_eP, nsp_eS]
      refine ⟨cmN (by omega) (by omega), by decide, _, _, rfl, ?_⟩
      exact fmod_b (by decide)
    · rintro ρ' ⟨st, w, rfl, s0, s1⟩
      simp only [dRet, dRetF, dSetX, dCallX, dRetX, noOw, dTry, dCpy, dRaise, dRetO, dSetP, dSetS, dSetF, dSeq, dIf, dNext, dCall, dCallF, dB, dBin, dCons, dNil, dTup, dLst, dV, dC, dTV, onB, dTAnd, dTOr, dTNot, dAnd, dOr, dNot, dIfE, dIsN, dNotN, isN, dSl, dSlF, dNoPart, dPart, dPar, dParS, dAsg, dgN, dgT, dgCons, dgNil, seqD, dFE, dIsi, dListF, dNeg, dRev, dFrz, dApp, dAppS, dIns, dExtend, dClear, dReverse, dPop, oIx, oI, oIC, oAddU, oSubI, oMulU, oMulI, oFd, oMd, oPw, oLt, oLe, oGt, oGe, oEq, oNe, getF, setF, Cl.d, getS, setS, purF, allF, rho0, endsOf, scalD, bLen, bAbs, bInt, bIntU, bTup, Slot.dat, true_and, and_true, Option.some.injEq, exists_eq_left', decide_eq_true_eq, Bool.not_eq_true', decide_eq_false_iff_not, it_eQ0, it_eQ1, it_eP0, it_eP1, it_eS0, it_eS1, fits_eQ, fits_eP, fits_eS, eqv_eQ, eqv_eP, eqv_eS, eqv_int, eqv_bool, shp_int, shp_bool, shp_none, shp_eQ, shp_eP, shp_eS, dCont, dBreak, dXi, dSetG, dAppG, oIsB, oNotB, dTx, pJoin, pSplit, pPart, pStarts, bStr, bIntS, dFmt, dJs, ↓reduceIte, nsp_none, nsp_bool, nsp_int, nsp_str, nsp_list, nsp_tuple, nsp_eQ, nsp_eP, nsp_eS]
      exact h _
theorem rd__law_numbers (ds : List Dt) (Φ : Slot → Prop) (Ξ : XD → Prop) (h : sp__law_numbers ds Φ Ξ) : d__law_numbers (endsOf Φ Ξ) (rho0 N__law_numbers ds) := by
  obtain ⟨c, m, rfl, hm, h⟩ := h
  have hz : (1000 : Nat) < sizeLine := by decide
  simp only [d__law_numbers, N__law_numbers, dRet, dRetF, dSetX, dCallX, dRetX, noOw, dTry, dCpy, dRaise, dRetO, dSetP, dSetS, dSetF, dSeq, dIf, dNext, dCall, dCallF, dB, dBin, dCons, dNil, dTup, dLst, dV, dC, dTV, onB, dTAnd, dTOr, dTNot, dAnd, dOr, dNot, dIfE, dIsN, dNotN, isN, dSl, dSlF, dNoPart, dPart, dPar, dParS, dAsg, dgN, dgT, dgCons, dgNil, seqD, dFE, dIsi, dListF, dNeg, dRev, dFrz, dApp, dAppS, dIns, dExtend, dClear, dReverse, dPop, oIx, oI, oIC, oAddU, oSubI, oMulU, oMulI, oFd, oMd, oPw, oLt, oLe, oGt, oGe, oEq, oNe, getF, setF, Cl.d, getS, setS, purF, allF, rho0, endsOf, scalD, bLen, bAbs, bInt, bIntU, bTup, Slot.dat, true_and, and_true, Option.some.injEq, exists_eq_left', decide_eq_true_eq, Bool.not_eq_true', decide_eq_false_iff_not, it_eQ0, it_eQ1, it_eP0, it_eP1, it_eS0, it_eS1, fits_eQ, fits_eP, fits_eS, eqv_eQ, eqv_eP, eqv_eS, eqv_int, eqv_bool, shp_int, shp_bool, shp_none, shp_eQ, shp_eP, shp_eS, dCont, dBreak, dXi, dSetG, dAppG, oIsB, oNotB, dTx, pJoin, pSplit, pPart, pStarts, bStr, bIntS, dFmt, dJs, ↓reduceIte, nsp_none, nsp_bool, nsp_int, nsp_str, nsp_list, nsp_tuple, nsp_eQ, nsp_eP, nsp_eS]
  obtain ⟨f0, f1⟩ := fmod_b (x := c) (m := 1999999973) (by decide)
  refine ⟨by decide, cmN (by omega) (by omega), by decide, ?_⟩
  obtain ⟨g0, g1⟩ := fmod_b (x := (c.fmod 1999999973 + 31) * 765432101) (m := 1999999973) (by decide)
  have hp : CPow 10 18 := ⟨by decide, by decide, by decide⟩
  have loop : ∀ (s0 dg : Int), 0 ≤ s0 → s0 < 1999999973 → 0 ≤ dg → dFor (diRng1 (dCons (dV 1) dNil)) (dgN 5) (dSeq (dSetP 3 (dBin oMd (dBin oAddU (dBin oAddU (dBin oMulU (dV 3) (dBin oAddU (dBin oMd (dV 3) (dC (.int 65521))) (dC (.int 40487)))) (dBin oMulU (dC (.int 7)) (dV 5))) (dC (.int 5))) (dC (.int 1999999973))))
      (dSeq (dApp 2 (dBin oIx (dLst (dCons (dV 3) (dCons (dBin oMd (dV 4) (dC (.int 1000000))) dNil))) (dB bIntU (dCons (dBin oGt (dV 4) (dC (.int 0))) dNil))))
      (dSetP 4 (dBin oFd (dV 4) (dC (.int 1000000)))))) { endsOf Φ Ξ with nx := dRetO 2 (endsOf Φ Ξ) } [.pu (.int c), .pu (.int m), .ow [], .pu (.int s0), .pu (.int dg), .un] := fun s0 dg s1 s2 d0 => by
    simp only [dFor, diRng1, dRet, dRetF, dSetX, dCallX, dRetX, noOw, dTry, dCpy, dRaise, dRetO, dSetP, dSetS, dSetF, dSeq, dIf, dNext, dCall, dCallF, dB, dBin, dCons, dNil, dTup, dLst, dV, dC, dTV, onB, dTAnd, dTOr, dTNot, dAnd, dOr, dNot, dIfE, dIsN, dNotN, isN, dSl, dSlF, dNoPart, dPart, dPar, dParS, dAsg, dgN, dgT, dgCons, dgNil, seqD, dFE, dIsi, dListF, dNeg, dRev, dFrz, dApp, dAppS, dIns, dExtend, dClear, dReverse, dPop, oIx, oI, oIC, oAddU, oSubI, oMulU, oMulI, oFd, oMd, oPw, oLt, oLe, oGt, oGe, oEq, oNe, getF, setF, Cl.d, getS, setS, purF, allF, rho0, endsOf, scalD, bLen, bAbs, bInt, bIntU, bTup, Slot.dat, true_and, and_true, Option.some.injEq, exists_eq_left', decide_eq_true_eq, Bool.not_eq_true', decide_eq_false_iff_not, it_eQ0, it_eQ1, it_eP0, it_eP1, it_eS0, it_eS1, fits_eQ, fits_eP, fits_eS, eqv_eQ, eqv_eP, eqv_eS, eqv_int, eqv_bool, shp_int, shp_bool, shp_none, shp_eQ, shp_eP, shp_eS, dCont, dBreak, dXi, dSetG, dAppG, oIsB, oNotB, dTx, pJoin, pSplit, pPart, pStarts, bStr, bIntS, dFmt, dJs, ↓reduceIte, nsp_none, nsp_bool, nsp_int, nsp_str, nsp_list, nsp_tuple, nsp_eQ, nsp_eP, nsp_eS]
    refine ⟨by omega, by omega, fun k ρ => ∃ (xs : List Int) (st dg : Int) (w : Slot), ρ = [.pu (.int c), .pu (.int m), .ow (xs.map .int), .pu (.int st), .pu (.int dg), w] ∧ xs.length = k ∧ (∀ x ∈ xs, Drw x) ∧ 0 ≤ st ∧ st < 1999999973 ∧ 0 ≤ dg, ⟨[], _, _, _, rfl, rfl, (fun x hx => by cases hx), s1, s2, d0⟩, ?_, ?_⟩
    · rintro k d ρ' hk ⟨xs, st, dg, w, rfl, hx, hd, t1, t2, t3⟩
      obtain ⟨hkm, rfl⟩ := rng_get hk
      simp only [dRet, dRetF, dSetX, dCallX, dRetX, noOw, dTry, dCpy, dRaise, dRetO, dSetP, dSetS, dSetF, dSeq, dIf, dNext, dCall, dCallF, dB, dBin, dCons, dNil, dTup, dLst, dV, dC, dTV, onB, dTAnd, dTOr, dTNot, dAnd, dOr, dNot, dIfE, dIsN, dNotN, isN, dSl, dSlF, dNoPart, dPart, dPar, dParS, dAsg, dgN, dgT, dgCons, dgNil, seqD, dFE, dIsi, dListF, dNeg, dRev, dFrz, dApp, dAppS, dIns, dExtend, dClear, dReverse, dPop, oIx, oI, oIC, oAddU, oSubI, oMulU, oMulI, oFd, oMd, oPw, oLt, oLe, oGt, oGe, oEq, oNe, getF, setF, Cl.d, getS, setS, purF, allF, rho0, endsOf, scalD, bLen, bAbs, bInt, bIntU, bTup, Slot.dat, true_and, and_true, Option.some.injEq, exists_eq_left', decide_eq_true_eq, Bool.not_eq_true', decide_eq_false_iff_not, it_eQ0, it_eQ1, it_eP0, it_eP1, it_eS0, it_eS1, fits_eQ, fits_eP, fits_eS, eqv_eQ, eqv_eP, eqv_eS, eqv_int, eqv_bool, shp_int, shp_bool, shp_none, shp_eQ, shp_eP, shp_eS, dCont, dBreak, dXi, dSetG, dAppG, oIsB, oNotB, dTx, pJoin, pSplit, pPart, pStarts, bStr, bIntS, dFmt, dJs, ↓reduceIte, nsp_none, nsp_bool, nsp_int, nsp_str, nsp_list, nsp_tuple, nsp_eQ, nsp_eP, nsp_eS]
      obtain ⟨a0, a1⟩ := fmod_b (x := st) (m := 65521) (by decide)
      refine ⟨by decide, cmN (by omega) (by omega), cmN (by omega) (by omega), by decide, by decide, trivial, ?_⟩
      obtain ⟨e0, e1⟩ := fmod_b (x := st * (st.fmod 65521 + 40487) + 7 * (k : Int) + 5) (m := 1999999973) (by decide)
      obtain ⟨b0, b1⟩ := fmod_b (x := dg) (m := 1000000) (by decide)
      have dn : 0 ≤ dg.fdiv 1000000 := by rw [Int.fdiv_eq_ediv_of_nonneg _ (by decide)]; omega
      have fin : ∀ y : Int, Drw y → (xs.map PyData.int).length < sizeLine ∧ CFd dg 1000000 ∧ ∃ (xs' : List Int) (st' dg' : Int) (w' : Slot), [Slot.pu (.int c), .pu (.int m), .ow (xs.map PyData.int ++ [.int y]), .pu (.int ((st * (st.fmod 65521 + 40487) + 7 * (k : Int) + 5).fmod 1999999973)), .pu (.int (dg.fdiv 1000000)), .pu (.int k)] = [.pu (.int c), .pu (.int m), .ow (xs'.map .int), .pu (.int st'), .pu (.int dg'), w'] ∧ xs'.length = k + 1 ∧ (∀ x ∈ xs', Drw x) ∧ 0 ≤ st' ∧ st' < 1999999973 ∧ 0 ≤ dg' := fun y hy => by
        refine ⟨by rw [List.length_map]; omega, cfdN (by decide) (by decide), xs ++ [y], _, _, _, by rw [List.map_append]; rfl, by rw [List.length_append, hx]; rfl, fun x hx2 => ?_, e0, e1, dn⟩
        rcases List.mem_append.mp hx2 with z | z
        · exact hd x z
        · rw [List.mem_singleton.mp z]; exact hy
      by_cases c0 : 0 < dg
      · simp only [c0, if_true]
        refine ⟨_, it_l1 _ _ _, ?_⟩
        exact fin _ ⟨b0, by omega⟩
      · simp only [c0, if_false]
        refine ⟨_, it_l0 _ _, ?_⟩
        exact fin _ ⟨e0, e1⟩
    · rintro ρ' ⟨xs, st, dg, w, rfl, hx, hd, t1, t2, t3⟩
      rw [rng_len] at hx
      simp only [dRet, dRetF, dSetX, dCallX, dRetX, noOw, dTry, dCpy, dRaise, dRetO, dSetP, dSetS, dSetF, dSeq, dIf, dNext, dCall, dCallF, dB, dBin, dCons, dNil, dTup, dLst, dV, dC, dTV, onB, dTAnd, dTOr, dTNot, dAnd, dOr, dNot, dIfE, dIsN, dNotN, isN, dSl, dSlF, dNoPart, dPart, dPar, dParS, dAsg, dgN, dgT, dgCons, dgNil, seqD, dFE, dIsi, dListF, dNeg, dRev, dFrz, dApp, dAppS, dIns, dExtend, dClear, dReverse, dPop, oIx, oI, oIC, oAddU, oSubI, oMulU, oMulI, oFd, oMd, oPw, oLt, oLe, oGt, oGe, oEq, oNe, getF, setF, Cl.d, getS, setS, purF, allF, rho0, endsOf, scalD, bLen, bAbs, bInt, bIntU, bTup, Slot.dat, true_and, and_true, Option.some.injEq, exists_eq_left', decide_eq_true_eq, Bool.not_eq_true', decide_eq_false_iff_not, it_eQ0, it_eQ1, it_eP0, it_eP1, it_eS0, it_eS1, fits_eQ, fits_eP, fits_eS, eqv_eQ, eqv_eP, eqv_eS, eqv_int, eqv_bool, shp_int, shp_bool, shp_none, shp_eQ, shp_eP, shp_eS, dCont, dBreak, dXi, dSetG, dAppG, oIsB, oNotB, dTx, pJoin, pSplit, pPart, pStarts, bStr, bIntS, dFmt, dJs, ↓reduceIte, nsp_none, nsp_bool, nsp_int, nsp_str, nsp_list, nsp_tuple, nsp_eQ, nsp_eP, nsp_eS]
      exact h xs (by simpa using hx) hd
  have tail : ∀ dg : Int, 0 ≤ dg → _ := fun dg hdg => loop ((c.fmod 1999999973 + 31) * 765432101 |>.fmod 1999999973) dg g0 g1 hdg
  split
  · exact tail _ (by omega)
  · refine ⟨hp, ?_⟩
    split
    · exact tail _ (by omega)
    · exact tail _ (by omega)
theorem rd__law_low (ds : List Dt) (Φ : Slot → Prop) (Ξ : XD → Prop) (h : sp__law_low ds Φ Ξ) : d__law_low (endsOf Φ Ξ) (rho0 N__law_low ds) := by
  obtain ⟨a, b, rfl, h0, hb, h⟩ := h
  have hd0 : (Int.gcd a b) ≠ 0 := fun z => h0 (Int.gcd_eq_zero_iff.mp z).2
  have hgl : Int.gcd a b ≤ b.natAbs := Nat.le_of_dvd (by omega) (Int.gcd_dvd_natAbs_right a b)
  have hlt : Int.gcd a b < 2 ^ 8990 := Nat.lt_of_le_of_lt hgl hb
  simp only [d__law_low, N__law_low, dRet, dRetF, dSetX, dCallX, dRetX, noOw, dTry, dCpy, dRaise, dRetO, dSetP, dSetS, dSetF, dSeq, dIf, dNext, dCall, dCallF, dB, dBin, dCons, dNil, dTup, dLst, dV, dC, dTV, onB, dTAnd, dTOr, dTNot, dAnd, dOr, dNot, dIfE, dIsN, dNotN, isN, dSl, dSlF, dNoPart, dPart, dPar, dParS, dAsg, dgN, dgT, dgCons, dgNil, seqD, dFE, dIsi, dListF, dNeg, dRev, dFrz, dApp, dAppS, dIns, dExtend, dClear, dReverse, dPop, oIx, oI, oIC, oAddU, oSubI, oMulU, oMulI, oFd, oMd, oPw, oLt, oLe, oGt, oGe, oEq, oNe, getF, setF, Cl.d, getS, setS, purF, allF, rho0, endsOf, scalD, bLen, bAbs, bInt, bIntU, bTup, Slot.dat, true_and, and_true, Option.some.injEq, exists_eq_left', decide_eq_true_eq, Bool.not_eq_true', decide_eq_false_iff_not, it_eQ0, it_eQ1, it_eP0, it_eP1, it_eS0, it_eS1, fits_eQ, fits_eP, fits_eS, eqv_eQ, eqv_eP, eqv_eS, eqv_int, eqv_bool, shp_int, shp_bool, shp_none, shp_eQ, shp_eP, shp_eS, dCont, dBreak, dXi, dSetG, dAppG, oIsB, oNotB, dTx, pJoin, pSplit, pPart, pStarts, bStr, bIntS, dFmt, dJs, ↓reduceIte, nsp_none, nsp_bool, nsp_int, nsp_str, nsp_list, nsp_tuple, nsp_eQ, nsp_eP, nsp_eS, dWhile]
  refine ⟨fun m ρ => ∃ h l : Nat, ρ = [.pu (.int a), .pu (.int b), .pu (.int h), .pu (.int l)] ∧ m = l ∧ Int.gcd h l = Int.gcd a b, ⟨_, _, _, rfl, rfl, ?_⟩, ?_⟩
  · simp [Int.gcd]
  · rintro m ρ' ⟨h1, l, rfl, rfl, hg⟩
    simp only [dRet, dRetF, dSetX, dCallX, dRetX, noOw, dTry, dCpy, dRaise, dRetO, dSetP, dSetS, dSetF, dSeq, dIf, dNext, dCall, dCallF, dB, dBin, dCons, dNil, dTup, dLst, dV, dC, dTV, onB, dTAnd, dTOr, dTNot, dAnd, dOr, dNot, dIfE, dIsN, dNotN, isN, dSl, dSlF, dNoPart, dPart, dPar, dParS, dAsg, dgN, dgT, dgCons, dgNil, seqD, dFE, dIsi, dListF, dNeg, dRev, dFrz, dApp, dAppS, dIns, dExtend, dClear, dReverse, dPop, oIx, oI, oIC, oAddU, oSubI, oMulU, oMulI, oFd, oMd, oPw, oLt, oLe, oGt, oGe, oEq, oNe, getF, setF, Cl.d, getS, setS, purF, allF, rho0, endsOf, scalD, bLen, bAbs, bInt, bIntU, bTup, Slot.dat, true_and, and_true, Option.some.injEq, exists_eq_left', decide_eq_true_eq, Bool.not_eq_true', decide_eq_false_iff_not, it_eQ0, it_eQ1, it_eP0, it_eP1, it_eS0, it_eS1, fits_eQ, fits_eP, fits_eS, eqv_eQ, eqv_eP, eqv_eS, eqv_int, eqv_bool, shp_int, shp_bool, shp_none, shp_eQ, shp_eP, shp_eS, dCont, dBreak, dXi, dSetG, dAppG, oIsB, oNotB, dTx, pJoin, pSplit, pPart, pStarts, bStr, bIntS, dFmt, dJs, ↓reduceIte, nsp_none, nsp_bool, nsp_int, nsp_str, nsp_list, nsp_tuple, nsp_eQ, nsp_eP, nsp_eS]
    split
    · rename_i hl
      refine ⟨by omega, (Int.fmod h1 m).toNat, ?_, m, _, ?_, rfl, ?_⟩
      · have h0 : (0 : Int) ≤ (h1 : Int).fmod m := Int.fmod_nonneg_of_pos _ (by omega)
        have h2 : (h1 : Int).fmod m < m := Int.fmod_lt_of_pos _ (by omega)
        omega
      · have h0 : (0 : Int) ≤ (h1 : Int).fmod m := Int.fmod_nonneg_of_pos _ (by omega)
        rw [Int.toNat_of_nonneg h0]
      · have h0 : (0 : Int) ≤ (h1 : Int).fmod m := Int.fmod_nonneg_of_pos _ (by omega)
        rw [Int.toNat_of_nonneg h0, gcd_step _ _ (by omega)]
        exact hg
    · rename_i hl
      have e : m = 0 := by omega
      subst e
      rw [show ((0 : Nat) : Int) = 0 from rfl, Int.gcd_zero_right] at hg
      have hg' : h1 = Int.gcd a b := by simpa using hg
      subst hg'
      split
      · rename_i hc
        refine ⟨cfd (m := 8990) (by omega) (by rw [Int.zero_sub, Int.natAbs_neg, Int.natAbs_natCast]; exact hlt) (by decide), cfd (m := 8990) (by omega) (by rw [Int.zero_sub, Int.natAbs_neg, Int.natAbs_natCast]; exact hlt) (by decide), ?_⟩
        rw [low_num (g := 0 - ((Int.gcd a b : Nat) : Int)) (by rw [if_pos hc]) h0]
        exact h
      · rename_i hc
        refine ⟨cfd (m := 8990) (by omega) (by rw [Int.natAbs_natCast]; exact hlt) (by decide), cfd (m := 8990) (by omega) (by rw [Int.natAbs_natCast]; exact hlt) (by decide), ?_⟩
        rw [low_num (g := ((Int.gcd a b : Nat) : Int)) (by rw [if_neg hc]) h0]
        exact h
end L2.D3

set_option maxHeartbeats 4000000
/-! Loops and comprehensions by recursion; more of the laws' own defs. -/
namespace L2.D3
open PySem PySem.Spec PyProof.Rows
/-- a for over just these -/
def unr (g : DG) (b : DS) (E : DEnds) : List Dt → Rho → Prop
  | [], ρ => E.nx ρ
  | d :: r, ρ => g d ρ fun ρ2 => b { E with nx := unr g b E r, ct := unr g b E r, bk := E.nx } ρ2
theorem for_unr {g : DG} {b : DS} {E : DEnds} {ds : List Dt} {ρ : Rho} (h : unr g b E ds ρ) : ∃ Iv : Nat → Rho → Prop, Iv 0 ρ ∧
    (∀ k d ρ', ds[k]? = some d → Iv k ρ' → g d ρ' fun ρ2 => b { E with nx := Iv (k + 1), ct := Iv (k + 1), bk := E.nx } ρ2) ∧ ∀ ρ', Iv ds.length ρ' → E.nx ρ' := by
  refine ⟨fun k ρ => unr g b E (ds.drop k) ρ, h, fun k d ρ' hk hi => ?_, fun ρ' hi => ?_⟩
  · have e : ds.drop k = d :: ds.drop (k + 1) := by
      obtain ⟨hl, rfl⟩ := List.getElem?_eq_some_iff.mp hk
      exact List.drop_eq_getElem_cons hl
    have hi' : unr g b E (ds.drop k) ρ' := hi
    rw [e] at hi'
    exact hi'
  · have hi' : unr g b E (ds.drop ds.length) ρ' := hi
    rw [List.drop_length] at hi'
    exact hi'
/-- a comprehension over just these -/
def unrC (g : DGc) (t : DT) (de : DE) (φ : Fro) (Φ : List Dt → Prop) : List Dt → List Dt → Prop
  | [], acc => Φ acc
  | d :: r, acc => g d φ fun φ2 => t φ2 fun b => if b = true then de φ2 fun y => acc.length < sizeLine ∧ unrC g t de φ Φ r (acc ++ [y]) else unrC g t de φ Φ r acc
theorem lc_unr {g : DGc} {t : DT} {de : DE} {φ : Fro} {Φ : List Dt → Prop} {ds : List Dt} (h : unrC g t de φ Φ ds []) : ∃ Iv : Nat → List Dt → Prop, Iv 0 [] ∧
    (∀ k d acc, ds[k]? = some d → Iv k acc → g d φ fun φ2 => t φ2 fun b => if b = true then de φ2 fun y => acc.length < sizeLine ∧ Iv (k + 1) (acc ++ [y]) else Iv (k + 1) acc) ∧ ∀ acc, Iv ds.length acc → Φ acc := by
  refine ⟨fun k acc => unrC g t de φ Φ (ds.drop k) acc, h, fun k d acc hk hi => ?_, fun acc hi => ?_⟩
  · have e : ds.drop k = d :: ds.drop (k + 1) := by
      obtain ⟨hl, rfl⟩ := List.getElem?_eq_some_iff.mp hk
      exact List.drop_eq_getElem_cons hl
    have hi' : unrC g t de φ Φ (ds.drop k) acc := hi
    rw [e] at hi'
    exact hi'
  · have hi' : unrC g t de φ Φ (ds.drop ds.length) acc := hi
    rw [List.drop_length] at hi'
    exact hi'
theorem unrC_map {g : DGc} {de : DE} {φ : Fro} {Φ : List Dt → Prop} {f : Dt → Dt} : ∀ (ds acc : List Dt), acc.length + ds.length ≤ sizeLine → (∀ d ∈ ds, ∀ Ψ : Dt → Prop, Ψ (f d) → g d φ fun φ2 => de φ2 Ψ) → Φ (acc ++ ds.map f) → unrC g dYes de φ Φ ds acc
  | [], acc, _, _, h => by rw [List.map_nil, List.append_nil] at h; exact h
  | d :: r, acc, hl, hf, h => by
    show g d φ fun φ2 => dYes φ2 fun b => if b = true then de φ2 fun y => acc.length < sizeLine ∧ unrC g dYes de φ Φ r (acc ++ [y]) else unrC g dYes de φ Φ r acc
    simp only [dYes, if_true]
    rw [List.length_cons] at hl
    refine hf d List.mem_cons_self _ ⟨by omega, ?_⟩
    exact unrC_map r _ (by rw [List.length_append, List.length_singleton]; omega) (fun e he => hf e (List.mem_cons_of_mem _ he)) (by rw [List.append_assoc]; exact h)
/-- a comprehension without a test is a map -/
theorem lc_map {g : DGc} {de : DE} {φ : Fro} {Φ : List Dt → Prop} {ds : List Dt} (f : Dt → Dt) (hl : ds.length ≤ sizeLine) (hf : ∀ d ∈ ds, ∀ Ψ : Dt → Prop, Ψ (f d) → g d φ fun φ2 => de φ2 Ψ) (h : Φ (ds.map f)) : ∃ Iv : Nat → List Dt → Prop, Iv 0 [] ∧
    (∀ k d acc, ds[k]? = some d → Iv k acc → g d φ fun φ2 => dYes φ2 fun b => if b = true then de φ2 fun y => acc.length < sizeLine ∧ Iv (k + 1) (acc ++ [y]) else Iv (k + 1) acc) ∧ ∀ acc, Iv ds.length acc → Φ acc :=
  lc_unr (unrC_map ds [] (by simpa using hl) hf h)
theorem unrC_filter {g : DGc} {t : DT} {de : DE} {φ : Fro} {Φ : List Dt → Prop} {f : Dt → Dt} {c : Dt → Bool} : ∀ (ds acc : List Dt), acc.length + ds.length ≤ sizeLine → (∀ d ∈ ds, ∀ Ψ : Bool → Fro → Prop, (∀ φ2, (∀ Ψ' : Dt → Prop, Ψ' (f d) → de φ2 Ψ') → Ψ (c d) φ2) → g d φ fun φ2 => t φ2 fun b => Ψ b φ2) → Φ (acc ++ (ds.filter c).map f) → unrC g t de φ Φ ds acc
  | [], acc, _, _, h => by rw [List.filter_nil, List.map_nil, List.append_nil] at h; exact h
  | d :: r, acc, hl, hf, h => by
    rw [List.length_cons] at hl
    refine hf d List.mem_cons_self (fun b φ2 => if b = true then de φ2 fun y => acc.length < sizeLine ∧ unrC g t de φ Φ r (acc ++ [y]) else unrC g t de φ Φ r acc) fun φ2 hd => ?_
    rw [List.filter_cons] at h
    cases e : c d with
    | true =>
      rw [if_pos rfl]
      rw [e, if_pos rfl, List.map_cons] at h
      refine hd _ ⟨by omega, unrC_filter r _ (by rw [List.length_append, List.length_singleton]; omega) (fun e he => hf e (List.mem_cons_of_mem _ he)) (by rw [List.append_assoc]; exact h)⟩
    | false =>
      rw [if_neg Bool.false_ne_true]
      rw [e, if_neg Bool.false_ne_true] at h
      exact unrC_filter r acc (by omega) (fun e he => hf e (List.mem_cons_of_mem _ he)) h
theorem lc_filter {g : DGc} {t : DT} {de : DE} {φ : Fro} {Φ : List Dt → Prop} {ds : List Dt} (f : Dt → Dt) (c : Dt → Bool) (hl : ds.length ≤ sizeLine) (hf : ∀ d ∈ ds, ∀ Ψ : Bool → Fro → Prop, (∀ φ2, (∀ Ψ' : Dt → Prop, Ψ' (f d) → de φ2 Ψ') → Ψ (c d) φ2) → g d φ fun φ2 => t φ2 fun b => Ψ b φ2) (h : Φ ((ds.filter c).map f)) : ∃ Iv : Nat → List Dt → Prop, Iv 0 [] ∧
    (∀ k d acc, ds[k]? = some d → Iv k acc → g d φ fun φ2 => t φ2 fun b => if b = true then de φ2 fun y => acc.length < sizeLine ∧ Iv (k + 1) (acc ++ [y]) else Iv (k + 1) acc) ∧ ∀ acc, Iv ds.length acc → Φ acc :=
  lc_unr (unrC_filter ds [] (by simpa using hl) hf h)
theorem dFor_unr {di : DI} {g : DG} {b : DS} {E : DEnds} {ds : List Dt} {ρ : Rho} (hd : ∀ Q : List Dt → Prop, Q ds → di (purF ρ) Q) (h : unr g b E ds ρ) : dFor di g b E ρ := hd _ (for_unr h)
theorem dFor_iv {di : DI} {g : DG} {b : DS} {E : DEnds} {ds : List Dt} {ρ : Rho} (hd : ∀ Q : List Dt → Prop, Q ds → di (purF ρ) Q) (Iv : Nat → Rho → Prop) (h0 : Iv 0 ρ) (ht : ∀ k d ρ', ds[k]? = some d → Iv k ρ' → g d ρ' fun ρ2 => b { E with nx := Iv (k + 1), ct := Iv (k + 1), bk := E.nx } ρ2) (he : ∀ ρ', Iv ds.length ρ' → E.nx ρ') : dFor di g b E ρ := hd _ ⟨Iv, h0, ht, he⟩
theorem dLc_unr {vs : List Nat} {di : DI} {g : DGc} {t : DT} {de : DE} {φ : Fro} {Φ : List Dt → Prop} {ds : List Dt} (hd : ∀ Q : List Dt → Prop, Q ds → di φ Q) (h : unrC g t de (wipeF φ vs) Φ ds []) : dLc vs di g t de φ Φ := hd _ (lc_unr h)
theorem dLc_map {vs : List Nat} {di : DI} {g : DGc} {de : DE} {φ : Fro} {Φ : List Dt → Prop} {ds : List Dt} (hd : ∀ Q : List Dt → Prop, Q ds → di φ Q) (f : Dt → Dt) (hl : ds.length ≤ sizeLine) (hf : ∀ d ∈ ds, ∀ Ψ : Dt → Prop, Ψ (f d) → g d (wipeF φ vs) fun φ2 => de φ2 Ψ) (h : Φ (ds.map f)) : dLc vs di g dYes de φ Φ := hd _ (lc_map f hl hf h)
theorem dLc_filter {vs : List Nat} {di : DI} {g : DGc} {t : DT} {de : DE} {φ : Fro} {Φ : List Dt → Prop} {ds : List Dt} (hd : ∀ Q : List Dt → Prop, Q ds → di φ Q) (f : Dt → Dt) (c : Dt → Bool) (hl : ds.length ≤ sizeLine) (hf : ∀ d ∈ ds, ∀ Ψ : Bool → Fro → Prop, (∀ φ2, (∀ Ψ' : Dt → Prop, Ψ' (f d) → de φ2 Ψ') → Ψ (c d) φ2) → g d (wipeF φ vs) fun φ2 => t φ2 fun b => Ψ b φ2) (h : Φ ((ds.filter c).map f)) : dLc vs di g t de φ Φ := hd _ (lc_filter f c hl hf h)
theorem rho0_len_eq : ∀ {N M : List Str} {ds : List Dt}, N.length = M.length → rho0 N ds = rho0 M ds
  | [], [], _, _ => rfl
  | _ :: r, _ :: r', [], h => by
    show Slot.un :: rho0 r [] = Slot.un :: rho0 r' []
    rw [rho0_len_eq (N := r) (M := r') (by simpa using h)]
  | _ :: r, _ :: r', d :: ds, h => by
    show Slot.pu d :: rho0 r ds = Slot.pu d :: rho0 r' ds
    rw [rho0_len_eq (N := r) (M := r') (by simpa using h)]
/-! ### the laws' own sums -/
/-- how many bits a number of the mode has -/
def bm (m : Int) : Nat := if m ≤ 2 then 20 else if m = 3 then 47 else 101
theorem bm_le (m : Int) : bm m ≤ 101 := by
  unfold bm
  split
  · decide
  · split <;> decide
def sp__law_fraction : DSp := fun ds Φ _ => ∃ x y m : Int, ds = [.int x, .int y, .int m] ∧ Drw x ∧ Drw y ∧ 0 ≤ m ∧ m ≤ 4 ∧ ∀ q : Rat, Bd (bm m) q → Φ (.pu (eQ q))
def sp__law_less : DSp := sp_below
def sp__law_before : DSp := sp_before
def sp__law_cross : DSp := fun ds Φ _ => ∃ (a b c : Pt) (n : Nat), ds = [eP a, eP b, eP c] ∧ BdP n a ∧ BdP n b ∧ BdP n c ∧ n ≤ 8990 ∧ ∀ r : Int, sgnI r = sgnQ (crossQ a b c) → Φ (.pu (.int r))
def sp__law_sign : DSp := fun ds Φ _ => ∃ r : Int, ds = [.int r] ∧ Φ (.pu (.int (sgnI r)))
abbrev N__law_fraction : List Str := ["_law_x", "_law_y", "_law_mode", "_law_sign_here", "_law_great"]
def d__law_fraction : DS := (dSeq (dSetP 3 (dBin oSubI (dC (.int 1)) (dBin oMulU (dC (.int 2)) (dBin oMd (dBin oFd (dV 1) (dC (.int 1000))) (dC (.int 2))))))
  (dSeq (dIf (dTV (dBin oEq (dV 2) (dC (.int 0)))) (dRet (dTup (dCons (dBin oMulU (dV 3) (dBin oMd (dV 0) (dC (.int 5)))) (dCons (dC (.int 1)) dNil)))) dNext)
  (dSeq (dIf (dTV (dBin oEq (dV 2) (dC (.int 1)))) (dRet (dCall sp__law_low (dCons (dBin oMulU (dV 3) (dBin oMd (dV 0) (dC (.int 19)))) (dCons (dBin oAddU (dC (.int 1)) (dBin oMd (dV 1) (dC (.int 6)))) dNil)))) dNext)
  (dSeq (dIf (dTV (dBin oEq (dV 2) (dC (.int 2)))) (dRet (dCall sp__law_low (dCons (dBin oMulU (dV 3) (dBin oMd (dV 0) (dC (.int 1000001)))) (dCons (dBin oAddU (dC (.int 1)) (dBin oMd (dV 1) (dC (.int 1000)))) dNil)))) dNext)
  (dSeq (dSetP 4 (dBin oIx (dLst (dCons (dBin oPw (dC (.int 10)) (dC (.int 14))) (dCons (dBin oPw (dC (.int 10)) (dC (.int 30))) dNil))) (dBin oSubI (dV 2) (dC (.int 3)))))
  (dRet (dCall sp__law_low (dCons (dBin oMulU (dV 3) (dBin oMd (dBin oMulU (dV 0) (dBin oAddU (dBin oPw (dC (.int 10)) (dC (.int 20))) (dBin oMulU (dC (.int 7)) (dV 1)))) (dV 4))) (dCons (dBin oAddU (dC (.int 1)) (dBin oMd (dBin oMulU (dV 1) (dBin oAddU (dBin oPw (dC (.int 10)) (dC (.int 20))) (dBin oMulU (dC (.int 3)) (dV 0)))) (dBin oSubI (dV 4) (dC (.int 1))))) dNil)))))))))
abbrev N__law_less : List Str := ["_law_a", "_law_b"]
def d__law_less : DS := (dRet (dBin oLt (dBin oMulU (dBin oIx (dV 0) (dC (.int 0))) (dBin oIx (dV 1) (dC (.int 1)))) (dBin oMulU (dBin oIx (dV 1) (dC (.int 0))) (dBin oIx (dV 0) (dC (.int 1))))))
abbrev N__law_before : List Str := ["_law_one", "_law_other_here"]
def d__law_before : DS := (dSeq (dIf (dTV (dBin oNe (dBin oIx (dV 0) (dC (.int 0))) (dBin oIx (dV 1) (dC (.int 0))))) (dRet (dCall sp__law_less (dCons (dBin oIx (dV 0) (dC (.int 0))) (dCons (dBin oIx (dV 1) (dC (.int 0))) dNil)))) dNext)
  (dRet (dCall sp__law_less (dCons (dBin oIx (dV 0) (dC (.int 1))) (dCons (dBin oIx (dV 1) (dC (.int 1))) dNil)))))
abbrev N__law_cross : List Str := ["_law_a", "_law_b", "_law_c", "_law_scale", "_law_point", "_law_ax", "_law_ay", "_law_bx", "_law_by", "_law_cx", "_law_cy", "_law_part"]
def d__law_cross : DS := (dSeq (dSetP 3 (dC (.int 1)))
  (dSeq (dFor (diSeq (dLst (dCons (dV 0) (dCons (dV 1) (dCons (dV 2) dNil))))) (dgN 4) (dSetP 3 (dBin oMulU (dBin oMulU (dV 3) (dBin oIx (dBin oIx (dV 4) (dC (.int 0))) (dC (.int 1)))) (dBin oIx (dBin oIx (dV 4) (dC (.int 1))) (dC (.int 1))))))
  (dSeq (dAsg (dFE (dLc [4] (diSeq (dLst (dCons (dV 0) (dCons (dV 1) (dCons (dV 2) dNil))))) (dcN 4) dYes (dFE (dLc [11] (diSeq (dV 4)) (dcN 11) dYes (dBin oFd (dBin oMulU (dBin oIx (dV 11) (dC (.int 0))) (dV 3)) (dBin oIx (dV 11) (dC (.int 1)))))))) (dgT 3 (dgCons (dgT 2 (dgCons (dgN 5) (dgCons (dgN 6) dgNil))) (dgCons (dgT 2 (dgCons (dgN 7) (dgCons (dgN 8) dgNil))) (dgCons (dgT 2 (dgCons (dgN 9) (dgCons (dgN 10) dgNil))) dgNil)))))
  (dRet (dBin oSubI (dBin oMulU (dBin oSubI (dV 7) (dV 5)) (dBin oSubI (dV 10) (dV 6))) (dBin oMulU (dBin oSubI (dV 8) (dV 6)) (dBin oSubI (dV 9) (dV 5))))))))
abbrev N__law_sign : List Str := ["_law_cross_here"]
def d__law_sign : DS := (dRet (dBin oSubI (dB bIntU (dCons (dBin oGt (dV 0) (dC (.int 0))) dNil)) (dB bIntU (dCons (dBin oLt (dV 0) (dC (.int 0))) dNil))))
theorem rd__law_less (ds : List Dt) (Φ : Slot → Prop) (Ξ : XD → Prop) (h : sp__law_less ds Φ Ξ) : d__law_less (endsOf Φ Ξ) (rho0 N__law_less ds) := by
  rw [rho0_len_eq (N := N__law_less) (M := N_below) rfl]
  exact rd_below ds Φ Ξ h
theorem rd__law_before (ds : List Dt) (Φ : Slot → Prop) (Ξ : XD → Prop) (h : sp__law_before ds Φ Ξ) : d__law_before (endsOf Φ Ξ) (rho0 N__law_before ds) := by
  rw [rho0_len_eq (N := N__law_before) (M := N_before) rfl]
  exact rd_before ds Φ Ξ h
theorem rd__law_sign (ds : List Dt) (Φ : Slot → Prop) (Ξ : XD → Prop) (h : sp__law_sign ds Φ Ξ) : d__law_sign (endsOf Φ Ξ) (rho0 N__law_sign ds) := by
  obtain ⟨q, rfl, h⟩ := h
  simp only [d__law_sign, N__law_sign, dRet, dRetF, dSetX, dCallX, dRetX, noOw, dTry, dCpy, dRaise, dRetO, dSetP, dSetS, dSetF, dSeq, dIf, dNext, dCall, dCallF, dB, dBin, dCons, dNil, dTup, dLst, dV, dC, dTV, onB, dTAnd, dTOr, dTNot, dAnd, dOr, dNot, dIfE, dIsN, dNotN, isN, dSl, dSlF, dNoPart, dPart, dPar, dParS, dAsg, dgN, dgT, dgCons, dgNil, seqD, dFE, dIsi, dListF, dNeg, dRev, dFrz, dApp, dAppS, dIns, dExtend, dClear, dReverse, dPop, oIx, oI, oIC, oAddU, oSubI, oMulU, oMulI, oFd, oMd, oPw, oLt, oLe, oGt, oGe, oEq, oNe, getF, setF, Cl.d, getS, setS, purF, allF, rho0, endsOf, scalD, bLen, bAbs, bInt, bIntU, bTup, Slot.dat, true_and, and_true, Option.some.injEq, exists_eq_left', decide_eq_true_eq, Bool.not_eq_true', decide_eq_false_iff_not, it_eQ0, it_eQ1, it_eP0, it_eP1, it_eS0, it_eS1, fits_eQ, fits_eP, fits_eS, eqv_eQ, eqv_eP, eqv_eS, eqv_int, eqv_bool, shp_int, shp_bool, shp_none, shp_eQ, shp_eP, shp_eS, dCont, dBreak, dXi, dSetG, dAppG, oIsB, oNotB, dTx, pJoin, pSplit, pPart, pStarts, bStr, bIntS, dFmt, dJs, ↓reduceIte, nsp_none, nsp_bool, nsp_int, nsp_str, nsp_list, nsp_tuple, nsp_eQ, nsp_eP, nsp_eS]
  have e : ((if 0 < q then 1 else 0) - (if q < 0 then 1 else 0) : Int) = sgnI q := by
    unfold sgnI
    split <;> split <;> first | rfl | omega
  rw [e]
  exact h
theorem bd_low {t b : Int} {n : Nat} (ht : t.natAbs < 2 ^ n) (hb : b.natAbs < 2 ^ n) (h0 : b ≠ 0) : Bd n (Rat.divInt t b) := bd_divInt ht hb h0
theorem rd__law_fraction (ds : List Dt) (Φ : Slot → Prop) (Ξ : XD → Prop) (h : sp__law_fraction ds Φ Ξ) : d__law_fraction (endsOf Φ Ξ) (rho0 N__law_fraction ds) := by
  obtain ⟨x, y, m, rfl, ⟨x0, x1⟩, ⟨y0, y1⟩, m0, m1, h⟩ := h
  simp only [d__law_fraction, N__law_fraction, dRet, dRetF, dSetX, dCallX, dRetX, noOw, dTry, dCpy, dRaise, dRetO, dSetP, dSetS, dSetF, dSeq, dIf, dNext, dCall, dCallF, dB, dBin, dCons, dNil, dTup, dLst, dV, dC, dTV, onB, dTAnd, dTOr, dTNot, dAnd, dOr, dNot, dIfE, dIsN, dNotN, isN, dSl, dSlF, dNoPart, dPart, dPar, dParS, dAsg, dgN, dgT, dgCons, dgNil, seqD, dFE, dIsi, dListF, dNeg, dRev, dFrz, dApp, dAppS, dIns, dExtend, dClear, dReverse, dPop, oIx, oI, oIC, oAddU, oSubI, oMulU, oMulI, oFd, oMd, oPw, oLt, oLe, oGt, oGe, oEq, oNe, getF, setF, Cl.d, getS, setS, purF, allF, rho0, endsOf, scalD, bLen, bAbs, bInt, bIntU, bTup, Slot.dat, true_and, and_true, Option.some.injEq, exists_eq_left', decide_eq_true_eq, Bool.not_eq_true', decide_eq_false_iff_not, it_eQ0, it_eQ1, it_eP0, it_eP1, it_eS0, it_eS1, fits_eQ, fits_eP, fits_eS, eqv_eQ, eqv_eP, eqv_eS, eqv_int, eqv_bool, shp_int, shp_bool, shp_none, shp_eQ, shp_eP, shp_eS, dCont, dBreak, dXi, dSetG, dAppG, oIsB, oNotB, dTx, pJoin, pSplit, pPart, pStarts, bStr, bIntS, dFmt, dJs, ↓reduceIte, nsp_none, nsp_bool, nsp_int, nsp_str, nsp_list, nsp_tuple, nsp_eQ, nsp_eP, nsp_eS]
  have s2 := fmod_b (x := y.fdiv 1000) (m := 2) (by decide)
  refine ⟨cfdN (by decide) (by decide), by decide, cmN (by decide) (by omega), ?_⟩
  generalize hs : 1 - 2 * (y.fdiv 1000).fmod 2 = s at *
  have hsb : s.natAbs ≤ 1 := by omega
  have low : ∀ (n : Nat) (t b : Int), n ≤ 101 → bm m = n → t.natAbs < 2 ^ n → b.natAbs < 2 ^ n → b ≠ 0 → sp_lowest [.int t, .int b] (fun z => Φ (.pu z.dat)) fun _ => False := fun n t b hn101 hn ht hb h0 => ⟨t, b, rfl, h0, Nat.lt_of_lt_of_le hb (Nat.pow_le_pow_right (by decide) (by omega)), h _ (by rw [hn]; exact bd_low ht hb h0)⟩
  have small : ∀ {t : Int} {n : Nat}, t.natAbs < n → (s * t).natAbs < n := fun {t n} ht => by
    rw [Int.natAbs_mul]
    calc s.natAbs * t.natAbs ≤ 1 * t.natAbs := Nat.mul_le_mul hsb (Nat.le_refl _)
      _ < n := by omega
  have p20 : (2 : Nat) ^ 20 = 1048576 := by decide
  have p47 : (2 : Nat) ^ 47 = 140737488355328 := by decide
  have p101 : (2 : Nat) ^ 101 = 2535301200456458802993406410752 := by decide
  split
  · rename_i c0
    have f := fmod_b (x := x) (m := 5) (by decide)
    refine ⟨by decide, cmN (by omega) (by omega), ?_⟩
    have e : PyData.tuple [.int (s * x.fmod 5), .int 1] = eQ ((s * x.fmod 5 : Int) : Rat) := rfl
    rw [e]
    have hb : bm m = 20 := by unfold bm; rw [if_pos (by omega)]
    refine h _ ?_
    rw [hb]
    exact ⟨small (n := 2 ^ 20) (by rw [p20]; omega), by show 1 < 2 ^ 20; decide⟩
  · split
    · rename_i c0 c1
      have f := fmod_b (x := x) (m := 19) (by decide)
      have g := fmod_b (x := y) (m := 6) (by decide)
      exact ⟨by decide, cmN (by omega) (by omega), by decide, low 20 _ _ (by decide) (by unfold bm; rw [if_pos (by omega)]) (small (by rw [p20]; omega)) (by rw [p20]; omega) (by omega)⟩
    · split
      · rename_i c0 c1 c2
        have f := fmod_b (x := x) (m := 1000001) (by decide)
        have g := fmod_b (x := y) (m := 1000) (by decide)
        exact ⟨by decide, cmN (by omega) (by omega), by decide, low 20 _ _ (by decide) (by unfold bm; rw [if_pos (by omega)]) (small (by rw [p20]; omega)) (by rw [p20]; omega) (by omega)⟩
      · rename_i c0 c1 c2
        refine ⟨⟨by decide, by decide, by decide⟩, ⟨by decide, by decide, by decide⟩, trivial, ?_⟩
        have big : ∀ (n : Nat) (gr : Int), n ≤ 101 → bm m = n → 2 ≤ gr → gr.natAbs < 2 ^ n → CPow 10 20 ∧ CMulW 7 y ∧ CMulW x (10 ^ (20 : Int).toNat + 7 * y) ∧ gr ≠ 0 ∧ CMulW s ((x * (10 ^ (20 : Int).toNat + 7 * y)).fmod gr) ∧ CPow 10 20 ∧ CMulW 3 x ∧ CMulW y (10 ^ (20 : Int).toNat + 3 * x) ∧ gr - 1 ≠ 0 ∧ sp_lowest [.int (s * (x * (10 ^ (20 : Int).toNat + 7 * y)).fmod gr), .int (1 + (y * (10 ^ (20 : Int).toNat + 3 * x)).fmod (gr - 1))] (fun z => Φ (.pu z.dat)) fun _ => False := fun n gr n0 hn g0 g1 => by
          have e20 : (10 : Int) ^ (20 : Int).toNat = 100000000000000000000 := by decide
          rw [e20]
          have f := fmod_b (x := x * (100000000000000000000 + 7 * y)) (m := gr) (by omega)
          have g := fmod_b (x := y * (100000000000000000000 + 3 * x)) (m := gr - 1) (by omega)
          have g2 : gr.natAbs < 2 ^ 101 := Nat.lt_of_lt_of_le g1 (Nat.pow_le_pow_right (by decide) n0)
          rw [p101] at g2
          refine ⟨⟨by decide, by decide, by decide⟩, cmN (by omega) (by omega), cmN (by omega) (by omega), by omega, cmN (by omega) (by omega), ⟨by decide, by decide, by decide⟩, cmN (by omega) (by omega), cmN (by omega) (by omega), by omega, low n _ _ n0 hn (small (by omega)) (by omega) (by omega)⟩
        have hm : m = 3 ∨ m = 4 := by omega
        rcases hm with rfl | rfl
        · refine ⟨_, it_l0 _ _, ?_⟩
          exact big 47 _ (by decide) (by decide) (by decide) (by decide)
        · refine ⟨_, it_l1 _ _ _, ?_⟩
          exact big 101 _ (by decide) (by decide) (by decide) (by decide)
/-! the turn by whole numbers -/
theorem exact_div {q : Rat} {S : Int} (h : (q.den : Int) ∣ S) : (((q.num * S).fdiv q.den : Int) : Rat) = q * (S : Rat) := by
  obtain ⟨k, rfl⟩ := h
  have e : (q.num * ((q.den : Int) * k)).fdiv q.den = q.num * k := by
    rw [← Int.mul_assoc, Int.mul_comm q.num, Int.mul_assoc, Int.mul_fdiv_cancel_left _ (den_ne q)]
  rw [e, Rat.intCast_mul, Rat.intCast_mul]
  have hq : q * ((q.den : Int) : Rat) = (q.num : Rat) := by
    conv => lhs; lhs; rw [← Rat.num_divInt_den q, Rat.divInt_eq_div]
    exact Rat.div_mul_cancel (by
      intro z
      exact den_ne q (by exact_mod_cast z))
  rw [← Rat.mul_assoc, hq]
theorem sgn_scale {r S : Int} {q : Rat} (hS : S ≠ 0) (h : (r : Rat) = (S : Rat) * (S : Rat) * q) : sgnI r = sgnQ q := by
  have hS' : (S : Rat) ≠ 0 := fun z => hS (by exact_mod_cast z)
  have hpos : 0 < (S : Rat) * (S : Rat) := by
    rcases (Rat.le_total (a := 0) (b := (S : Rat))) with z | z
    · have : 0 < (S : Rat) := Rat.lt_of_le_of_ne z (Ne.symm hS')
      exact Rat.mul_pos this this
    · have : 0 < -(S : Rat) := by
        have y : (S : Rat) < 0 := Rat.lt_of_le_of_ne z hS'
        grind
      have := Rat.mul_pos this this
      grind
  unfold sgnI sgnQ
  have a1 : 0 < r ↔ 0 < q := by
    rw [← Rat.intCast_pos, h]
    exact Rat.mul_pos_iff_of_pos_left hpos
  have a2 : r < 0 ↔ q < 0 := by
    have : (r : Rat) < 0 ↔ r < 0 := Rat.intCast_neg_iff
    rw [← this, h]
    exact Rat.mul_neg_iff_of_pos_left hpos
  simp only [a1, a2]
theorem rd__law_cross (ds : List Dt) (Φ : Slot → Prop) (Ξ : XD → Prop) (h : sp__law_cross ds Φ Ξ) : d__law_cross (endsOf Φ Ξ) (rho0 N__law_cross ds) := by
  obtain ⟨a, b, c, n, rfl, ha, hb, hc, hn, h⟩ := h
  have db : ∀ {q : Rat}, Bd n q → ((q.den : Int)).natAbs < 2 ^ n := fun h => bd_den h
  simp only [d__law_cross, N__law_cross, dRet, dRetF, dSetX, dCallX, dRetX, noOw, dTry, dCpy, dRaise, dRetO, dSetP, dSetS, dSetF, dSeq, dIf, dNext, dCall, dCallF, dB, dBin, dCons, dNil, dTup, dLst, dV, dC, dTV, onB, dTAnd, dTOr, dTNot, dAnd, dOr, dNot, dIfE, dIsN, dNotN, isN, dSl, dSlF, dNoPart, dPart, dPar, dParS, dAsg, dgN, dgT, dgCons, dgNil, seqD, dFE, dIsi, dListF, dNeg, dRev, dFrz, dApp, dAppS, dIns, dExtend, dClear, dReverse, dPop, oIx, oI, oIC, oAddU, oSubI, oMulU, oMulI, oFd, oMd, oPw, oLt, oLe, oGt, oGe, oEq, oNe, getF, setF, Cl.d, getS, setS, purF, allF, rho0, endsOf, scalD, bLen, bAbs, bInt, bIntU, bTup, Slot.dat, true_and, and_true, Option.some.injEq, exists_eq_left', decide_eq_true_eq, Bool.not_eq_true', decide_eq_false_iff_not, it_eQ0, it_eQ1, it_eP0, it_eP1, it_eS0, it_eS1, fits_eQ, fits_eP, fits_eS, eqv_eQ, eqv_eP, eqv_eS, eqv_int, eqv_bool, shp_int, shp_bool, shp_none, shp_eQ, shp_eP, shp_eS, dCont, dBreak, dXi, dSetG, dAppG, oIsB, oNotB, dTx, pJoin, pSplit, pPart, pStarts, bStr, bIntS, dFmt, dJs, ↓reduceIte, nsp_none, nsp_bool, nsp_int, nsp_str, nsp_list, nsp_tuple, nsp_eQ, nsp_eP, nsp_eS]
  refine dFor_unr (ds := [eP a, eP b, eP c]) (fun Q hQ => by simpa only [diSeq, walkD, dRet, dRetF, dSetX, dCallX, dRetX, noOw, dTry, dCpy, dRaise, dRetO, dSetP, dSetS, dSetF, dSeq, dIf, dNext, dCall, dCallF, dB, dBin, dCons, dNil, dTup, dLst, dV, dC, dTV, onB, dTAnd, dTOr, dTNot, dAnd, dOr, dNot, dIfE, dIsN, dNotN, isN, dSl, dSlF, dNoPart, dPart, dPar, dParS, dAsg, dgN, dgT, dgCons, dgNil, seqD, dFE, dIsi, dListF, dNeg, dRev, dFrz, dApp, dAppS, dIns, dExtend, dClear, dReverse, dPop, oIx, oI, oIC, oAddU, oSubI, oMulU, oMulI, oFd, oMd, oPw, oLt, oLe, oGt, oGe, oEq, oNe, getF, setF, Cl.d, getS, setS, purF, allF, rho0, endsOf, scalD, bLen, bAbs, bInt, bIntU, bTup, Slot.dat, true_and, and_true, Option.some.injEq, exists_eq_left', decide_eq_true_eq, Bool.not_eq_true', decide_eq_false_iff_not, it_eQ0, it_eQ1, it_eP0, it_eP1, it_eS0, it_eS1, fits_eQ, fits_eP, fits_eS, eqv_eQ, eqv_eP, eqv_eS, eqv_int, eqv_bool, shp_int, shp_bool, shp_none, shp_eQ, shp_eP, shp_eS, dCont, dBreak, dXi, dSetG, dAppG, oIsB, oNotB, dTx, pJoin, pSplit, pPart, pStarts, bStr, bIntS, dFmt, dJs, ↓reduceIte, nsp_none, nsp_bool, nsp_int, nsp_str, nsp_list, nsp_tuple, nsp_eQ, nsp_eP, nsp_eS] using hQ) ?_
  simp only [unr, dRet, dRetF, dSetX, dCallX, dRetX, noOw, dTry, dCpy, dRaise, dRetO, dSetP, dSetS, dSetF, dSeq, dIf, dNext, dCall, dCallF, dB, dBin, dCons, dNil, dTup, dLst, dV, dC, dTV, onB, dTAnd, dTOr, dTNot, dAnd, dOr, dNot, dIfE, dIsN, dNotN, isN, dSl, dSlF, dNoPart, dPart, dPar, dParS, dAsg, dgN, dgT, dgCons, dgNil, seqD, dFE, dIsi, dListF, dNeg, dRev, dFrz, dApp, dAppS, dIns, dExtend, dClear, dReverse, dPop, oIx, oI, oIC, oAddU, oSubI, oMulU, oMulI, oFd, oMd, oPw, oLt, oLe, oGt, oGe, oEq, oNe, getF, setF, Cl.d, getS, setS, purF, allF, rho0, endsOf, scalD, bLen, bAbs, bInt, bIntU, bTup, Slot.dat, true_and, and_true, Option.some.injEq, exists_eq_left', decide_eq_true_eq, Bool.not_eq_true', decide_eq_false_iff_not, it_eQ0, it_eQ1, it_eP0, it_eP1, it_eS0, it_eS1, fits_eQ, fits_eP, fits_eS, eqv_eQ, eqv_eP, eqv_eS, eqv_int, eqv_bool, shp_int, shp_bool, shp_none, shp_eQ, shp_eP, shp_eS, dCont, dBreak, dXi, dSetG, dAppG, oIsB, oNotB, dTx, pJoin, pSplit, pPart, pStarts, bStr, bIntS, dFmt, dJs, ↓reduceIte, nsp_none, nsp_bool, nsp_int, nsp_str, nsp_list, nsp_tuple, nsp_eQ, nsp_eP, nsp_eS]
  have m1 : ((1 : Int) * a.1.den).natAbs < 2 ^ n := by rw [Int.one_mul]; exact db ha.1
  have m2 := mul_lt2 m1 (db ha.2)
  have m3 := mul_lt2 m2 (db hb.1)
  have m4 := mul_lt2 m3 (db hb.2)
  have m5 := mul_lt2 m4 (db hc.1)
  have m6 := mul_lt2 m5 (db hc.2)
  refine ⟨cm (n := 1) (m := n) (by decide) (db ha.1) (by omega), cm m1 (db ha.2) (by omega), cm m2 (db hb.1) (by omega), cm m3 (db hb.2) (by omega), cm m4 (db hc.1) (by omega), cm m5 (db hc.2) (by omega), ?_⟩
  generalize hS : (1 : Int) * a.1.den * a.2.den * b.1.den * b.2.den * c.1.den * c.2.den = S at m6
  have S0 : S ≠ 0 := by
    rw [← hS]
    exact Int.mul_ne_zero (Int.mul_ne_zero (Int.mul_ne_zero (Int.mul_ne_zero (Int.mul_ne_zero (Int.mul_ne_zero (by decide) (den_ne _)) (den_ne _)) (den_ne _)) (den_ne _)) (den_ne _)) (den_ne _)
  have d1 : (a.1.den : Int) ∣ S := ⟨a.2.den * b.1.den * b.2.den * c.1.den * c.2.den, by rw [← hS]; grind⟩
  have d2 : (a.2.den : Int) ∣ S := ⟨a.1.den * b.1.den * b.2.den * c.1.den * c.2.den, by rw [← hS]; grind⟩
  have d3 : (b.1.den : Int) ∣ S := ⟨a.1.den * a.2.den * b.2.den * c.1.den * c.2.den, by rw [← hS]; grind⟩
  have d4 : (b.2.den : Int) ∣ S := ⟨a.1.den * a.2.den * b.1.den * c.1.den * c.2.den, by rw [← hS]; grind⟩
  have d5 : (c.1.den : Int) ∣ S := ⟨a.1.den * a.2.den * b.1.den * b.2.den * c.2.den, by rw [← hS]; grind⟩
  have d6 : (c.2.den : Int) ∣ S := ⟨a.1.den * a.2.den * b.1.den * b.2.den * c.1.den, by rw [← hS]; grind⟩
  refine dLc_map (ds := [eP a, eP b, eP c]) (fun Q hQ => by simpa only [diSeq, walkD, dRet, dRetF, dSetX, dCallX, dRetX, noOw, dTry, dCpy, dRaise, dRetO, dSetP, dSetS, dSetF, dSeq, dIf, dNext, dCall, dCallF, dB, dBin, dCons, dNil, dTup, dLst, dV, dC, dTV, onB, dTAnd, dTOr, dTNot, dAnd, dOr, dNot, dIfE, dIsN, dNotN, isN, dSl, dSlF, dNoPart, dPart, dPar, dParS, dAsg, dgN, dgT, dgCons, dgNil, seqD, dFE, dIsi, dListF, dNeg, dRev, dFrz, dApp, dAppS, dIns, dExtend, dClear, dReverse, dPop, oIx, oI, oIC, oAddU, oSubI, oMulU, oMulI, oFd, oMd, oPw, oLt, oLe, oGt, oGe, oEq, oNe, getF, setF, Cl.d, getS, setS, purF, allF, rho0, endsOf, scalD, bLen, bAbs, bInt, bIntU, bTup, Slot.dat, true_and, and_true, Option.some.injEq, exists_eq_left', decide_eq_true_eq, Bool.not_eq_true', decide_eq_false_iff_not, it_eQ0, it_eQ1, it_eP0, it_eP1, it_eS0, it_eS1, fits_eQ, fits_eP, fits_eS, eqv_eQ, eqv_eP, eqv_eS, eqv_int, eqv_bool, shp_int, shp_bool, shp_none, shp_eQ, shp_eP, shp_eS, dCont, dBreak, dXi, dSetG, dAppG, oIsB, oNotB, dTx, pJoin, pSplit, pPart, pStarts, bStr, bIntS, dFmt, dJs, ↓reduceIte, nsp_none, nsp_bool, nsp_int, nsp_str, nsp_list, nsp_tuple, nsp_eQ, nsp_eP, nsp_eS] using hQ) (fun d => .list (match d with | .tuple [.tuple [.int x1, .int y1], .tuple [.int x2, .int y2]] => [.int ((x1 * S).fdiv y1), .int ((x2 * S).fdiv y2)] | _ => [])) (by show 3 ≤ sizeLine; decide) (fun d hd Ψ hΨ => ?_) ?_
  · have pt : ∀ p : Pt, BdP n p → Ψ (.list [.int ((p.1.num * S).fdiv p.1.den), .int ((p.2.num * S).fdiv p.2.den)]) → dLc [11] (diSeq (dV 4)) (dcN 11) dYes (dBin oFd (dBin oMulU (dBin oIx (dV 11) (dC (.int 0))) (dV 3)) (dBin oIx (dV 11) (dC (.int 1)))) [.da (eP a), .da (eP b), .da (eP c), .da (.int S), .da (eP p), .no, .no, .no, .no, .no, .no, .no] (fun ds => Ψ (.list ds)) := fun p hp hq => by
      refine dLc_unr (ds := [eQ p.1, eQ p.2]) (fun Q hQ => by simpa only [diSeq, walkD, eP, dRet, dRetF, dSetX, dCallX, dRetX, noOw, dTry, dCpy, dRaise, dRetO, dSetP, dSetS, dSetF, dSeq, dIf, dNext, dCall, dCallF, dB, dBin, dCons, dNil, dTup, dLst, dV, dC, dTV, onB, dTAnd, dTOr, dTNot, dAnd, dOr, dNot, dIfE, dIsN, dNotN, isN, dSl, dSlF, dNoPart, dPart, dPar, dParS, dAsg, dgN, dgT, dgCons, dgNil, seqD, dFE, dIsi, dListF, dNeg, dRev, dFrz, dApp, dAppS, dIns, dExtend, dClear, dReverse, dPop, oIx, oI, oIC, oAddU, oSubI, oMulU, oMulI, oFd, oMd, oPw, oLt, oLe, oGt, oGe, oEq, oNe, getF, setF, Cl.d, getS, setS, purF, allF, rho0, endsOf, scalD, bLen, bAbs, bInt, bIntU, bTup, Slot.dat, true_and, and_true, Option.some.injEq, exists_eq_left', decide_eq_true_eq, Bool.not_eq_true', decide_eq_false_iff_not, it_eQ0, it_eQ1, it_eP0, it_eP1, it_eS0, it_eS1, fits_eQ, fits_eP, fits_eS, eqv_eQ, eqv_eP, eqv_eS, eqv_int, eqv_bool, shp_int, shp_bool, shp_none, shp_eQ, shp_eP, shp_eS, dCont, dBreak, dXi, dSetG, dAppG, oIsB, oNotB, dTx, pJoin, pSplit, pPart, pStarts, bStr, bIntS, dFmt, dJs, ↓reduceIte, nsp_none, nsp_bool, nsp_int, nsp_str, nsp_list, nsp_tuple, nsp_eQ, nsp_eP, nsp_eS] using hQ) ?_
      simp only [unrC, dcN, dYes, wipeF, noneF, dRet, dRetF, dSetX, dCallX, dRetX, noOw, dTry, dCpy, dRaise, dRetO, dSetP, dSetS, dSetF, dSeq, dIf, dNext, dCall, dCallF, dB, dBin, dCons, dNil, dTup, dLst, dV, dC, dTV, onB, dTAnd, dTOr, dTNot, dAnd, dOr, dNot, dIfE, dIsN, dNotN, isN, dSl, dSlF, dNoPart, dPart, dPar, dParS, dAsg, dgN, dgT, dgCons, dgNil, seqD, dFE, dIsi, dListF, dNeg, dRev, dFrz, dApp, dAppS, dIns, dExtend, dClear, dReverse, dPop, oIx, oI, oIC, oAddU, oSubI, oMulU, oMulI, oFd, oMd, oPw, oLt, oLe, oGt, oGe, oEq, oNe, getF, setF, Cl.d, getS, setS, purF, allF, rho0, endsOf, scalD, bLen, bAbs, bInt, bIntU, bTup, Slot.dat, true_and, and_true, Option.some.injEq, exists_eq_left', decide_eq_true_eq, Bool.not_eq_true', decide_eq_false_iff_not, it_eQ0, it_eQ1, it_eP0, it_eP1, it_eS0, it_eS1, fits_eQ, fits_eP, fits_eS, eqv_eQ, eqv_eP, eqv_eS, eqv_int, eqv_bool, shp_int, shp_bool, shp_none, shp_eQ, shp_eP, shp_eS, dCont, dBreak, dXi, dSetG, dAppG, oIsB, oNotB, dTx, pJoin, pSplit, pPart, pStarts, bStr, bIntS, dFmt, dJs, ↓reduceIte, nsp_none, nsp_bool, nsp_int, nsp_str, nsp_list, nsp_tuple, nsp_eQ, nsp_eP, nsp_eS]
      refine ⟨cm (bd_num hp.1) m6 (by omega), cfd (den_ne _) (db hp.1) (by omega), by show 0 < sizeLine; decide, cm (bd_num hp.2) m6 (by omega), cfd (den_ne _) (db hp.2) (by omega), by show 1 < sizeLine; decide, ?_⟩
      exact hq
    simp only [List.mem_cons, List.not_mem_nil, or_false] at hd
    rcases hd with rfl | rfl | rfl
    · exact pt a ha hΨ
    · exact pt b hb hΨ
    · exact pt c hc hΨ
  · simp only [List.map_cons, List.map_nil, eP, eQ, dRet, dRetF, dSetX, dCallX, dRetX, noOw, dTry, dCpy, dRaise, dRetO, dSetP, dSetS, dSetF, dSeq, dIf, dNext, dCall, dCallF, dB, dBin, dCons, dNil, dTup, dLst, dV, dC, dTV, onB, dTAnd, dTOr, dTNot, dAnd, dOr, dNot, dIfE, dIsN, dNotN, isN, dSl, dSlF, dNoPart, dPart, dPar, dParS, dAsg, dgN, dgT, dgCons, dgNil, seqD, dFE, dIsi, dListF, dNeg, dRev, dFrz, dApp, dAppS, dIns, dExtend, dClear, dReverse, dPop, oIx, oI, oIC, oAddU, oSubI, oMulU, oMulI, oFd, oMd, oPw, oLt, oLe, oGt, oGe, oEq, oNe, getF, setF, Cl.d, getS, setS, purF, allF, rho0, endsOf, scalD, bLen, bAbs, bInt, bIntU, bTup, Slot.dat, true_and, and_true, Option.some.injEq, exists_eq_left', decide_eq_true_eq, Bool.not_eq_true', decide_eq_false_iff_not, it_eQ0, it_eQ1, it_eP0, it_eP1, it_eS0, it_eS1, fits_eQ, fits_eP, fits_eS, eqv_eQ, eqv_eP, eqv_eS, eqv_int, eqv_bool, shp_int, shp_bool, shp_none, shp_eQ, shp_eP, shp_eS, dCont, dBreak, dXi, dSetG, dAppG, oIsB, oNotB, dTx, pJoin, pSplit, pPart, pStarts, bStr, bIntS, dFmt, dJs, ↓reduceIte, nsp_none, nsp_bool, nsp_int, nsp_str, nsp_list, nsp_tuple, nsp_eQ, nsp_eP, nsp_eS, List.length_cons, List.length_nil]
    have big : ∀ {q : Rat}, Bd n q → ((q.num * S).fdiv q.den).natAbs < 2 ^ (n + (n + n + n + n + n + n)) := fun {q} hq => by
      have k := mul_lt2 (bd_num hq) m6
      refine Nat.lt_of_le_of_lt ?_ k
      rw [Int.fdiv_eq_ediv_of_nonneg _ (by omega)]
      exact Int.natAbs_ediv_le_natAbs _ _
    refine ⟨cm (sub_lt2 (big hb.1) (big ha.1)) (sub_lt2 (big hc.2) (big ha.2)) (by omega), cm (sub_lt2 (big hb.2) (big ha.2)) (sub_lt2 (big hc.1) (big ha.1)) (by omega), ?_⟩
    refine h _ (sgn_scale S0 ?_)
    simp only [Rat.intCast_sub, Rat.intCast_mul, exact_div d1, exact_div d2, exact_div d3, exact_div d4, exact_div d5, exact_div d6]
    unfold crossQ
    grind
end L2.D3

set_option maxHeartbeats 4000000
/-! Drawn points and sides. -/
namespace L2.D3
open PySem PySem.Spec PyProof.Rows
/-- k sixths of the way from a to b -/
def atQ (k : Int) (a b : Rat) : Rat := ((6 - (k : Rat)) * a + k * b) / 6
theorem q_den (q : Rat) : q * ((q.den : Int) : Rat) = (q.num : Rat) := by
  conv => lhs; lhs; rw [← Rat.num_divInt_den q, Rat.divInt_eq_div]
  exact Rat.div_mul_cancel fun z => den_ne q (by exact_mod_cast z)
theorem den_neQ (q : Rat) : ((q.den : Int) : Rat) ≠ 0 := fun z => den_ne q (by exact_mod_cast z)
theorem atQ_low (k : Int) (a b : Rat) : Rat.divInt ((6 - k) * a.num * b.den + k * b.num * a.den) (6 * a.den * b.den) = atQ k a b := by
  rw [Rat.divInt_eq_div]
  unfold atQ
  simp only [Rat.intCast_add, Rat.intCast_mul, Rat.intCast_sub]
  have h1 := q_den a
  have h2 := q_den b
  have n1 := den_neQ a
  have n2 := den_neQ b
  rw [← h1, ← h2]
  generalize ((a.den : Int) : Rat) = x at *
  generalize ((b.den : Int) : Rat) = y at *
  have e6 : ((6 : Int) : Rat) = 6 := rfl
  rw [e6]
  have n6 : (6 : Rat) ≠ 0 := by decide
  grind
def atP (k : Int) (s : Sd) : Pt := (atQ k s.1.1 s.2.1, atQ k s.1.2 s.2.2)
theorem bd_at {k : Int} {a b : Rat} {n : Nat} (hk : -100 ≤ k ∧ k ≤ 100) (ha : Bd n a) (hb : Bd n b) : Bd (n + n + 9) (atQ k a b) := by
  rw [← atQ_low]
  have k1 : (6 - k).natAbs < 2 ^ 7 := by omega
  have k2 : k.natAbs < 2 ^ 7 := by omega
  have t1 := mul_lt2 (mul_lt2 k1 (bd_num ha)) (bd_den hb)
  have t2 := mul_lt2 (mul_lt2 k2 (bd_num hb)) (bd_den ha)
  have b1 := mul_lt2 (mul_lt2 (show (6 : Int).natAbs < 2 ^ 3 by decide) (bd_den ha)) (bd_den hb)
  refine bd_divInt (Nat.lt_of_lt_of_le (add_lt2 t1 t2) (Nat.pow_le_pow_right (by decide) (by omega))) (Nat.lt_of_lt_of_le b1 (Nat.pow_le_pow_right (by decide) (by omega))) ?_
  exact Int.mul_ne_zero (Int.mul_ne_zero (by decide) (den_ne a)) (den_ne b)
def sp__law_at : DSp := fun ds Φ _ => ∃ (s : Sd) (k : Int) (n : Nat), ds = [eS s, .int k] ∧ BdS n s ∧ n ≤ 1000 ∧ (-100 ≤ k ∧ k ≤ 100) ∧ Φ (.pu (eP (atP k s)))
def sp__law_spot : DSp := fun ds Φ _ => ∃ (xs : List Int) (m : Int), ds = [.list (xs.map .int), .int m] ∧ 4 ≤ xs.length ∧ (∀ x ∈ xs, Drw x) ∧ 0 ≤ m ∧ m ≤ 4 ∧ ∀ p : Pt, BdP 101 p → Φ (.pu (eP p))
def sp__law_side : DSp := fun ds Φ _ => ∃ (xs : List Int) (m : Int), ds = [.list (xs.map .int), .int m] ∧ 9 ≤ xs.length ∧ (∀ x ∈ xs, Drw x) ∧ 0 ≤ m ∧ m ≤ 4 ∧ ∀ s : Sd, BdS 104 s → s.1 ≠ s.2 → Φ (.pu (eS s))
abbrev N__law_at : List Str := ["_law_side_here", "_law_k", "_law_found", "_law_start", "_law_end", "_law_top"]
def d__law_at : DS := (dSeq (dSetF 2 dNil)
  (dSeq (dFor (diZip (dCons (dBin oIx (dV 0) (dC (.int 0))) (dCons (dBin oIx (dV 0) (dC (.int 1))) dNil))) (dgT 2 (dgCons (dgN 3) (dgCons (dgN 4) dgNil))) (dSeq (dSetP 5 (dBin oAddU (dBin oMulU (dBin oMulU (dBin oSubI (dC (.int 6)) (dV 1)) (dBin oIx (dV 3) (dC (.int 0)))) (dBin oIx (dV 4) (dC (.int 1)))) (dBin oMulU (dBin oMulU (dV 1) (dBin oIx (dV 4) (dC (.int 0)))) (dBin oIx (dV 3) (dC (.int 1))))))
  (dApp 2 (dCall sp__law_low (dCons (dV 5) (dCons (dBin oMulU (dBin oMulU (dC (.int 6)) (dBin oIx (dV 3) (dC (.int 1)))) (dBin oIx (dV 4) (dC (.int 1)))) dNil))))))
  (dRet (dTup (dCons (dBin oIx (dV 2) (dC (.int 0))) (dCons (dBin oIx (dV 2) (dC (.int 1))) dNil))))))
abbrev N__law_spot : List Str := ["_law_xs", "_law_mode"]
def d__law_spot : DS := (dRet (dTup (dCons (dCall sp__law_fraction (dCons (dBin oIx (dV 0) (dC (.int 0))) (dCons (dBin oIx (dV 0) (dC (.int 1))) (dCons (dV 1) dNil)))) (dCons (dCall sp__law_fraction (dCons (dBin oIx (dV 0) (dC (.int 2))) (dCons (dBin oIx (dV 0) (dC (.int 3))) (dCons (dV 1) dNil)))) dNil))))
abbrev N__law_side : List Str := ["_law_xs", "_law_mode", "_law_start", "_law_end"]
def d__law_side : DS := (dSeq (dSetP 2 (dCall sp__law_spot (dCons (dV 0) (dCons (dV 1) dNil))))
  (dSeq (dSetP 3 (dCall sp__law_spot (dCons (dSl (dV 0) (dPart (dC (.int 4))) dNoPart) (dCons (dV 1) dNil))))
  (dSeq (dIf (dTV (dBin oEq (dBin oMd (dBin oIx (dV 0) (dC (.int 8))) (dC (.int 5))) (dC (.int 1)))) (dSetP 3 (dTup (dCons (dBin oIx (dV 3) (dC (.int 0))) (dCons (dBin oIx (dV 2) (dC (.int 1))) dNil)))) dNext)
  (dSeq (dIf (dTV (dBin oEq (dBin oMd (dBin oIx (dV 0) (dC (.int 8))) (dC (.int 5))) (dC (.int 2)))) (dSetP 3 (dTup (dCons (dBin oIx (dV 2) (dC (.int 0))) (dCons (dBin oIx (dV 3) (dC (.int 1))) dNil)))) dNext)
  (dSeq (dIf (dTV (dBin oEq (dV 2) (dV 3))) (dSetP 3 (dTup (dCons (dCall sp__law_low (dCons (dBin oAddU (dBin oIx (dBin oIx (dV 2) (dC (.int 0))) (dC (.int 0))) (dBin oMulU (dBin oIx (dBin oIx (dV 2) (dC (.int 0))) (dC (.int 1))) (dBin oSubI (dC (.int 1)) (dBin oMulU (dC (.int 2)) (dB bIntU (dCons (dBin oGt (dBin oIx (dBin oIx (dV 2) (dC (.int 0))) (dC (.int 0))) (dC (.int 0))) dNil)))))) (dCons (dBin oIx (dBin oIx (dV 2) (dC (.int 0))) (dC (.int 1))) dNil))) (dCons (dBin oIx (dV 2) (dC (.int 1))) dNil)))) dNext)
  (dRet (dTup (dCons (dV 2) (dCons (dV 3) dNil)))))))))
theorem drw_at {xs : List Int} {i : Nat} (h : ∀ x ∈ xs, Drw x) (hi : i < xs.length) : Drw (xs.getD i default) := h _ (getD_mem hi)
theorem it_drw {xs : List Int} (k : Nat) (hk : k < xs.length) : itemD (.list (xs.map .int)) (k : Int) = some (.int (xs.getD k default)) := it_map (xs := xs) (f := PyData.int) (by omega) (by omega)
theorem rd__law_spot (ds : List Dt) (Φ : Slot → Prop) (Ξ : XD → Prop) (h : sp__law_spot ds Φ Ξ) : d__law_spot (endsOf Φ Ξ) (rho0 N__law_spot ds) := by
  obtain ⟨xs, m, rfl, hl, hd, m0, m1, h⟩ := h
  simp only [d__law_spot, N__law_spot, dRet, dRetF, dSetX, dCallX, dRetX, noOw, dTry, dCpy, dRaise, dRetO, dSetP, dSetS, dSetF, dSeq, dIf, dNext, dCall, dCallF, dB, dBin, dCons, dNil, dTup, dLst, dV, dC, dTV, onB, dTAnd, dTOr, dTNot, dAnd, dOr, dNot, dIfE, dIsN, dNotN, isN, dSl, dSlF, dNoPart, dPart, dPar, dParS, dAsg, dgN, dgT, dgCons, dgNil, seqD, dFE, dIsi, dListF, dNeg, dRev, dFrz, dApp, dAppS, dIns, dExtend, dClear, dReverse, dPop, oIx, oI, oIC, oAddU, oSubI, oMulU, oMulI, oFd, oMd, oPw, oLt, oLe, oGt, oGe, oEq, oNe, getF, setF, Cl.d, getS, setS, purF, allF, rho0, endsOf, scalD, bLen, bAbs, bInt, bIntU, bTup, Slot.dat, true_and, and_true, Option.some.injEq, exists_eq_left', decide_eq_true_eq, Bool.not_eq_true', decide_eq_false_iff_not, it_eQ0, it_eQ1, it_eP0, it_eP1, it_eS0, it_eS1, fits_eQ, fits_eP, fits_eS, eqv_eQ, eqv_eP, eqv_eS, eqv_int, eqv_bool, shp_int, shp_bool, shp_none, shp_eQ, shp_eP, shp_eS, dCont, dBreak, dXi, dSetG, dAppG, oIsB, oNotB, dTx, pJoin, pSplit, pPart, pStarts, bStr, bIntS, dFmt, dJs, ↓reduceIte, nsp_none, nsp_bool, nsp_int, nsp_str, nsp_list, nsp_tuple, nsp_eQ, nsp_eP, nsp_eS, fits_list]
  refine ⟨_, it_drw 0 (by omega), _, it_drw 1 (by omega), _, _, _, rfl, drw_at hd (by omega), drw_at hd (by omega), m0, m1, fun q1 b1 => ?_⟩
  simp only [dRet, dRetF, dSetX, dCallX, dRetX, noOw, dTry, dCpy, dRaise, dRetO, dSetP, dSetS, dSetF, dSeq, dIf, dNext, dCall, dCallF, dB, dBin, dCons, dNil, dTup, dLst, dV, dC, dTV, onB, dTAnd, dTOr, dTNot, dAnd, dOr, dNot, dIfE, dIsN, dNotN, isN, dSl, dSlF, dNoPart, dPart, dPar, dParS, dAsg, dgN, dgT, dgCons, dgNil, seqD, dFE, dIsi, dListF, dNeg, dRev, dFrz, dApp, dAppS, dIns, dExtend, dClear, dReverse, dPop, oIx, oI, oIC, oAddU, oSubI, oMulU, oMulI, oFd, oMd, oPw, oLt, oLe, oGt, oGe, oEq, oNe, getF, setF, Cl.d, getS, setS, purF, allF, rho0, endsOf, scalD, bLen, bAbs, bInt, bIntU, bTup, Slot.dat, true_and, and_true, Option.some.injEq, exists_eq_left', decide_eq_true_eq, Bool.not_eq_true', decide_eq_false_iff_not, it_eQ0, it_eQ1, it_eP0, it_eP1, it_eS0, it_eS1, fits_eQ, fits_eP, fits_eS, eqv_eQ, eqv_eP, eqv_eS, eqv_int, eqv_bool, shp_int, shp_bool, shp_none, shp_eQ, shp_eP, shp_eS, dCont, dBreak, dXi, dSetG, dAppG, oIsB, oNotB, dTx, pJoin, pSplit, pPart, pStarts, bStr, bIntS, dFmt, dJs, ↓reduceIte, nsp_none, nsp_bool, nsp_int, nsp_str, nsp_list, nsp_tuple, nsp_eQ, nsp_eP, nsp_eS, fits_list]
  refine ⟨_, it_drw 2 (by omega), _, it_drw 3 (by omega), _, _, _, rfl, drw_at hd (by omega), drw_at hd (by omega), m0, m1, fun q2 b2 => ?_⟩
  exact h (q1, q2) ⟨b1.mono (bm_le m), b2.mono (bm_le m)⟩
theorem rd__law_at (ds : List Dt) (Φ : Slot → Prop) (Ξ : XD → Prop) (h : sp__law_at ds Φ Ξ) : d__law_at (endsOf Φ Ξ) (rho0 N__law_at ds) := by
  obtain ⟨s, k, n, rfl, hs, hn, hk, h⟩ := h
  simp only [d__law_at, N__law_at, dRet, dRetF, dSetX, dCallX, dRetX, noOw, dTry, dCpy, dRaise, dRetO, dSetP, dSetS, dSetF, dSeq, dIf, dNext, dCall, dCallF, dB, dBin, dCons, dNil, dTup, dLst, dV, dC, dTV, onB, dTAnd, dTOr, dTNot, dAnd, dOr, dNot, dIfE, dIsN, dNotN, isN, dSl, dSlF, dNoPart, dPart, dPar, dParS, dAsg, dgN, dgT, dgCons, dgNil, seqD, dFE, dIsi, dListF, dNeg, dRev, dFrz, dApp, dAppS, dIns, dExtend, dClear, dReverse, dPop, oIx, oI, oIC, oAddU, oSubI, oMulU, oMulI, oFd, oMd, oPw, oLt, oLe, oGt, oGe, oEq, oNe, getF, setF, Cl.d, getS, setS, purF, allF, rho0, endsOf, scalD, bLen, bAbs, bInt, bIntU, bTup, Slot.dat, true_and, and_true, Option.some.injEq, exists_eq_left', decide_eq_true_eq, Bool.not_eq_true', decide_eq_false_iff_not, it_eQ0, it_eQ1, it_eP0, it_eP1, it_eS0, it_eS1, fits_eQ, fits_eP, fits_eS, eqv_eQ, eqv_eP, eqv_eS, eqv_int, eqv_bool, shp_int, shp_bool, shp_none, shp_eQ, shp_eP, shp_eS, dCont, dBreak, dXi, dSetG, dAppG, oIsB, oNotB, dTx, pJoin, pSplit, pPart, pStarts, bStr, bIntS, dFmt, dJs, ↓reduceIte, nsp_none, nsp_bool, nsp_int, nsp_str, nsp_list, nsp_tuple, nsp_eQ, nsp_eP, nsp_eS]
  refine dFor_unr (ds := [.tuple [eQ s.1.1, eQ s.2.1], .tuple [eQ s.1.2, eQ s.2.2]]) (fun Q hQ => by simpa only [diZip, eP, zipD, List.zipWith, dRet, dRetF, dSetX, dCallX, dRetX, noOw, dTry, dCpy, dRaise, dRetO, dSetP, dSetS, dSetF, dSeq, dIf, dNext, dCall, dCallF, dB, dBin, dCons, dNil, dTup, dLst, dV, dC, dTV, onB, dTAnd, dTOr, dTNot, dAnd, dOr, dNot, dIfE, dIsN, dNotN, isN, dSl, dSlF, dNoPart, dPart, dPar, dParS, dAsg, dgN, dgT, dgCons, dgNil, seqD, dFE, dIsi, dListF, dNeg, dRev, dFrz, dApp, dAppS, dIns, dExtend, dClear, dReverse, dPop, oIx, oI, oIC, oAddU, oSubI, oMulU, oMulI, oFd, oMd, oPw, oLt, oLe, oGt, oGe, oEq, oNe, getF, setF, Cl.d, getS, setS, purF, allF, rho0, endsOf, scalD, bLen, bAbs, bInt, bIntU, bTup, Slot.dat, true_and, and_true, Option.some.injEq, exists_eq_left', decide_eq_true_eq, Bool.not_eq_true', decide_eq_false_iff_not, it_eQ0, it_eQ1, it_eP0, it_eP1, it_eS0, it_eS1, fits_eQ, fits_eP, fits_eS, eqv_eQ, eqv_eP, eqv_eS, eqv_int, eqv_bool, shp_int, shp_bool, shp_none, shp_eQ, shp_eP, shp_eS, dCont, dBreak, dXi, dSetG, dAppG, oIsB, oNotB, dTx, pJoin, pSplit, pPart, pStarts, bStr, bIntS, dFmt, dJs, ↓reduceIte, nsp_none, nsp_bool, nsp_int, nsp_str, nsp_list, nsp_tuple, nsp_eQ, nsp_eP, nsp_eS] using hQ) ?_
  simp only [unr, dRet, dRetF, dSetX, dCallX, dRetX, noOw, dTry, dCpy, dRaise, dRetO, dSetP, dSetS, dSetF, dSeq, dIf, dNext, dCall, dCallF, dB, dBin, dCons, dNil, dTup, dLst, dV, dC, dTV, onB, dTAnd, dTOr, dTNot, dAnd, dOr, dNot, dIfE, dIsN, dNotN, isN, dSl, dSlF, dNoPart, dPart, dPar, dParS, dAsg, dgN, dgT, dgCons, dgNil, seqD, dFE, dIsi, dListF, dNeg, dRev, dFrz, dApp, dAppS, dIns, dExtend, dClear, dReverse, dPop, oIx, oI, oIC, oAddU, oSubI, oMulU, oMulI, oFd, oMd, oPw, oLt, oLe, oGt, oGe, oEq, oNe, getF, setF, Cl.d, getS, setS, purF, allF, rho0, endsOf, scalD, bLen, bAbs, bInt, bIntU, bTup, Slot.dat, true_and, and_true, Option.some.injEq, exists_eq_left', decide_eq_true_eq, Bool.not_eq_true', decide_eq_false_iff_not, it_eQ0, it_eQ1, it_eP0, it_eP1, it_eS0, it_eS1, fits_eQ, fits_eP, fits_eS, eqv_eQ, eqv_eP, eqv_eS, eqv_int, eqv_bool, shp_int, shp_bool, shp_none, shp_eQ, shp_eP, shp_eS, dCont, dBreak, dXi, dSetG, dAppG, oIsB, oNotB, dTx, pJoin, pSplit, pPart, pStarts, bStr, bIntS, dFmt, dJs, ↓reduceIte, nsp_none, nsp_bool, nsp_int, nsp_str, nsp_list, nsp_tuple, nsp_eQ, nsp_eP, nsp_eS, List.length_cons, List.length_nil, List.nil_append]
  have k1 : (6 - k).natAbs < 2 ^ 7 := by omega
  have k2 : k.natAbs < 2 ^ 7 := by omega
  have one : ∀ (a b : Rat) (Q : Slot → Prop), Bd n a → Bd n b → Q (.pu (eQ (atQ k a b))) → CMulW (6 - k) a.num ∧ CMulW ((6 - k) * a.num) b.den ∧ CMulW k b.num ∧ CMulW (k * b.num) a.den ∧ CMulW 6 a.den ∧ CMulW (6 * (a.den : Int)) b.den ∧ sp__law_low [.int ((6 - k) * a.num * b.den + k * b.num * a.den), .int (6 * a.den * b.den)] Q (fun _ => False) := fun a b Q ha hb hq => by
    have t1 := mul_lt2 k1 (bd_num ha)
    have t2 := mul_lt2 k2 (bd_num hb)
    have t3 := mul_lt2 (show (6 : Int).natAbs < 2 ^ 3 by decide) (bd_den ha)
    refine ⟨cm k1 (bd_num ha) (by omega), cm t1 (bd_den hb) (by omega), cm k2 (bd_num hb) (by omega), cm t2 (bd_den ha) (by omega), cm (n := 3) (by decide) (bd_den ha) (by omega), cm t3 (bd_den hb) (by omega), _, _, rfl, Int.mul_ne_zero (Int.mul_ne_zero (by decide) (den_ne a)) (den_ne b), ?_, ?_⟩
    · exact Nat.lt_of_lt_of_le (mul_lt2 t3 (bd_den hb)) (Nat.pow_le_pow_right (by decide) (by omega))
    · rw [atQ_low]; exact hq
  have f1 := fun Q => one s.1.1 s.2.1 Q hs.1.1 hs.2.1
  have f2 := fun Q => one s.1.2 s.2.2 Q hs.1.2 hs.2.2
  obtain ⟨a1, a2, a3, a4, a5, a6, a7⟩ := f1 (fun d => d = .pu (eQ (atQ k s.1.1 s.2.1))) rfl
  refine ⟨a1, a2, a3, a4, a5, a6, ?_⟩
  refine (one s.1.1 s.2.1 _ hs.1.1 hs.2.1 ?_).2.2.2.2.2.2
  refine ⟨by decide, ?_⟩
  obtain ⟨b1, b2, b3, b4, b5, b6, b7⟩ := f2 (fun d => d = .pu (eQ (atQ k s.1.2 s.2.2))) rfl
  refine ⟨b1, b2, b3, b4, b5, b6, ?_⟩
  refine (one s.1.2 s.2.2 _ hs.1.2 hs.2.2 ?_).2.2.2.2.2.2
  refine ⟨by show 1 < sizeLine; decide, ?_⟩
  simp only [dRet, dRetF, dSetX, dCallX, dRetX, noOw, dTry, dCpy, dRaise, dRetO, dSetP, dSetS, dSetF, dSeq, dIf, dNext, dCall, dCallF, dB, dBin, dCons, dNil, dTup, dLst, dV, dC, dTV, onB, dTAnd, dTOr, dTNot, dAnd, dOr, dNot, dIfE, dIsN, dNotN, isN, dSl, dSlF, dNoPart, dPart, dPar, dParS, dAsg, dgN, dgT, dgCons, dgNil, seqD, dFE, dIsi, dListF, dNeg, dRev, dFrz, dApp, dAppS, dIns, dExtend, dClear, dReverse, dPop, oIx, oI, oIC, oAddU, oSubI, oMulU, oMulI, oFd, oMd, oPw, oLt, oLe, oGt, oGe, oEq, oNe, getF, setF, Cl.d, getS, setS, purF, allF, rho0, endsOf, scalD, bLen, bAbs, bInt, bIntU, bTup, Slot.dat, true_and, and_true, Option.some.injEq, exists_eq_left', decide_eq_true_eq, Bool.not_eq_true', decide_eq_false_iff_not, it_eQ0, it_eQ1, it_eP0, it_eP1, it_eS0, it_eS1, fits_eQ, fits_eP, fits_eS, eqv_eQ, eqv_eP, eqv_eS, eqv_int, eqv_bool, shp_int, shp_bool, shp_none, shp_eQ, shp_eP, shp_eS, dCont, dBreak, dXi, dSetG, dAppG, oIsB, oNotB, dTx, pJoin, pSplit, pPart, pStarts, bStr, bIntS, dFmt, dJs, ↓reduceIte, nsp_none, nsp_bool, nsp_int, nsp_str, nsp_list, nsp_tuple, nsp_eQ, nsp_eP, nsp_eS, List.nil_append, List.cons_append, it_l0, it_l1, fits_list]
  exact h
theorem up_one {x : Rat} (c : Int) (hc : c ≠ 0) : Rat.divInt (x.num + x.den * c) x.den ≠ x := by
  intro e
  have h : Rat.divInt (x.num + x.den * c) x.den = x + c := by
    rw [Rat.divInt_eq_div]
    simp only [Rat.intCast_add, Rat.intCast_mul]
    have h1 := q_den x
    have n1 := den_neQ x
    rw [← h1]
    generalize ((x.den : Int) : Rat) = y at *
    grind
  rw [h] at e
  have : (c : Rat) = 0 := by grind
  exact hc (by exact_mod_cast this)
theorem mkP (a b : Rat) : PyData.tuple [eQ a, eQ b] = eP (a, b) := rfl
theorem mkS (a b : Pt) : PyData.tuple [eP a, eP b] = eS (a, b) := rfl
theorem rd__law_side (ds : List Dt) (Φ : Slot → Prop) (Ξ : XD → Prop) (h : sp__law_side ds Φ Ξ) : d__law_side (endsOf Φ Ξ) (rho0 N__law_side ds) := by
  obtain ⟨xs, m, rfl, hl, hd, m0, m1, h⟩ := h
  simp only [d__law_side, N__law_side, dRet, dRetF, dSetX, dCallX, dRetX, noOw, dTry, dCpy, dRaise, dRetO, dSetP, dSetS, dSetF, dSeq, dIf, dNext, dCall, dCallF, dB, dBin, dCons, dNil, dTup, dLst, dV, dC, dTV, onB, dTAnd, dTOr, dTNot, dAnd, dOr, dNot, dIfE, dIsN, dNotN, isN, dSl, dSlF, dNoPart, dPart, dPar, dParS, dAsg, dgN, dgT, dgCons, dgNil, seqD, dFE, dIsi, dListF, dNeg, dRev, dFrz, dApp, dAppS, dIns, dExtend, dClear, dReverse, dPop, oIx, oI, oIC, oAddU, oSubI, oMulU, oMulI, oFd, oMd, oPw, oLt, oLe, oGt, oGe, oEq, oNe, getF, setF, Cl.d, getS, setS, purF, allF, rho0, endsOf, scalD, bLen, bAbs, bInt, bIntU, bTup, Slot.dat, true_and, and_true, Option.some.injEq, exists_eq_left', decide_eq_true_eq, Bool.not_eq_true', decide_eq_false_iff_not, it_eQ0, it_eQ1, it_eP0, it_eP1, it_eS0, it_eS1, fits_eQ, fits_eP, fits_eS, eqv_eQ, eqv_eP, eqv_eS, eqv_int, eqv_bool, shp_int, shp_bool, shp_none, shp_eQ, shp_eP, shp_eS, dCont, dBreak, dXi, dSetG, dAppG, oIsB, oNotB, dTx, pJoin, pSplit, pPart, pStarts, bStr, bIntS, dFmt, dJs, ↓reduceIte, nsp_none, nsp_bool, nsp_int, nsp_str, nsp_list, nsp_tuple, nsp_eQ, nsp_eP, nsp_eS, fits_list]
  refine ⟨xs, m, rfl, by omega, hd, m0, m1, fun p hp => ?_⟩
  simp only [dRet, dRetF, dSetX, dCallX, dRetX, noOw, dTry, dCpy, dRaise, dRetO, dSetP, dSetS, dSetF, dSeq, dIf, dNext, dCall, dCallF, dB, dBin, dCons, dNil, dTup, dLst, dV, dC, dTV, onB, dTAnd, dTOr, dTNot, dAnd, dOr, dNot, dIfE, dIsN, dNotN, isN, dSl, dSlF, dNoPart, dPart, dPar, dParS, dAsg, dgN, dgT, dgCons, dgNil, seqD, dFE, dIsi, dListF, dNeg, dRev, dFrz, dApp, dAppS, dIns, dExtend, dClear, dReverse, dPop, oIx, oI, oIC, oAddU, oSubI, oMulU, oMulI, oFd, oMd, oPw, oLt, oLe, oGt, oGe, oEq, oNe, getF, setF, Cl.d, getS, setS, purF, allF, rho0, endsOf, scalD, bLen, bAbs, bInt, bIntU, bTup, Slot.dat, true_and, and_true, Option.some.injEq, exists_eq_left', decide_eq_true_eq, Bool.not_eq_true', decide_eq_false_iff_not, it_eQ0, it_eQ1, it_eP0, it_eP1, it_eS0, it_eS1, fits_eQ, fits_eP, fits_eS, eqv_eQ, eqv_eP, eqv_eS, eqv_int, eqv_bool, shp_int, shp_bool, shp_none, shp_eQ, shp_eP, shp_eS, dCont, dBreak, dXi, dSetG, dAppG, oIsB, oNotB, dTx, pJoin, pSplit, pPart, pStarts, bStr, bIntS, dFmt, dJs, ↓reduceIte, nsp_none, nsp_bool, nsp_int, nsp_str, nsp_list, nsp_tuple, nsp_eQ, nsp_eP, nsp_eS, fits_list, slD]
  have e4 : cutD xs (some 4) none = xs.drop 4 := cutD_from xs 4
  refine ⟨xs.drop 4, m, by rw [cutD_map, e4], by rw [List.length_drop]; omega, fun x hx => hd x (List.mem_of_mem_drop hx), m0, m1, fun q hq => ?_⟩
  simp only [dRet, dRetF, dSetX, dCallX, dRetX, noOw, dTry, dCpy, dRaise, dRetO, dSetP, dSetS, dSetF, dSeq, dIf, dNext, dCall, dCallF, dB, dBin, dCons, dNil, dTup, dLst, dV, dC, dTV, onB, dTAnd, dTOr, dTNot, dAnd, dOr, dNot, dIfE, dIsN, dNotN, isN, dSl, dSlF, dNoPart, dPart, dPar, dParS, dAsg, dgN, dgT, dgCons, dgNil, seqD, dFE, dIsi, dListF, dNeg, dRev, dFrz, dApp, dAppS, dIns, dExtend, dClear, dReverse, dPop, oIx, oI, oIC, oAddU, oSubI, oMulU, oMulI, oFd, oMd, oPw, oLt, oLe, oGt, oGe, oEq, oNe, getF, setF, Cl.d, getS, setS, purF, allF, rho0, endsOf, scalD, bLen, bAbs, bInt, bIntU, bTup, Slot.dat, true_and, and_true, Option.some.injEq, exists_eq_left', decide_eq_true_eq, Bool.not_eq_true', decide_eq_false_iff_not, it_eQ0, it_eQ1, it_eP0, it_eP1, it_eS0, it_eS1, fits_eQ, fits_eP, fits_eS, eqv_eQ, eqv_eP, eqv_eS, eqv_int, eqv_bool, shp_int, shp_bool, shp_none, shp_eQ, shp_eP, shp_eS, dCont, dBreak, dXi, dSetG, dAppG, oIsB, oNotB, dTx, pJoin, pSplit, pPart, pStarts, bStr, bIntS, dFmt, dJs, ↓reduceIte, nsp_none, nsp_bool, nsp_int, nsp_str, nsp_list, nsp_tuple, nsp_eQ, nsp_eP, nsp_eS, mkP, mkS, fits_list]
  have tail : ∀ r : Pt, BdP 101 r → dSeq (dIf (dTV (dBin oEq (dV 2) (dV 3))) (dSetP 3 (dTup (dCons (dCall sp__law_low (dCons (dBin oAddU (dBin oIx (dBin oIx (dV 2) (dC (.int 0))) (dC (.int 0))) (dBin oMulU (dBin oIx (dBin oIx (dV 2) (dC (.int 0))) (dC (.int 1))) (dBin oSubI (dC (.int 1)) (dBin oMulU (dC (.int 2)) (dB bIntU (dCons (dBin oGt (dBin oIx (dBin oIx (dV 2) (dC (.int 0))) (dC (.int 0))) (dC (.int 0))) dNil)))))) (dCons (dBin oIx (dBin oIx (dV 2) (dC (.int 0))) (dC (.int 1))) dNil))) (dCons (dBin oIx (dV 2) (dC (.int 1))) dNil)))) dNext)
      (dRet (dTup (dCons (dV 2) (dCons (dV 3) dNil)))) (endsOf Φ Ξ) [.pu (.list (xs.map .int)), .pu (.int m), .pu (eP p), .pu (eP r)] := fun r hr => by
    simp only [dRet, dRetF, dSetX, dCallX, dRetX, noOw, dTry, dCpy, dRaise, dRetO, dSetP, dSetS, dSetF, dSeq, dIf, dNext, dCall, dCallF, dB, dBin, dCons, dNil, dTup, dLst, dV, dC, dTV, onB, dTAnd, dTOr, dTNot, dAnd, dOr, dNot, dIfE, dIsN, dNotN, isN, dSl, dSlF, dNoPart, dPart, dPar, dParS, dAsg, dgN, dgT, dgCons, dgNil, seqD, dFE, dIsi, dListF, dNeg, dRev, dFrz, dApp, dAppS, dIns, dExtend, dClear, dReverse, dPop, oIx, oI, oIC, oAddU, oSubI, oMulU, oMulI, oFd, oMd, oPw, oLt, oLe, oGt, oGe, oEq, oNe, getF, setF, Cl.d, getS, setS, purF, allF, rho0, endsOf, scalD, bLen, bAbs, bInt, bIntU, bTup, Slot.dat, true_and, and_true, Option.some.injEq, exists_eq_left', decide_eq_true_eq, Bool.not_eq_true', decide_eq_false_iff_not, it_eQ0, it_eQ1, it_eP0, it_eP1, it_eS0, it_eS1, fits_eQ, fits_eP, fits_eS, eqv_eQ, eqv_eP, eqv_eS, eqv_int, eqv_bool, shp_int, shp_bool, shp_none, shp_eQ, shp_eP, shp_eS, dCont, dBreak, dXi, dSetG, dAppG, oIsB, oNotB, dTx, pJoin, pSplit, pPart, pStarts, bStr, bIntS, dFmt, dJs, ↓reduceIte, nsp_none, nsp_bool, nsp_int, nsp_str, nsp_list, nsp_tuple, nsp_eQ, nsp_eP, nsp_eS, mkP, mkS]
    split
    · have b1 : ∀ c : Int, c = 1 ∨ c = -1 → CMulW p.1.den c ∧ sp__law_low [.int (p.1.num + p.1.den * c), .int p.1.den] (fun z => Φ (.pu (.tuple [eP p, .tuple [z.dat, eQ p.2]]))) fun _ => False := fun c hc => by
        have hcn : c.natAbs < 2 ^ 1 := by omega
        refine ⟨cm (bd_den hp.1) hcn (by omega), _, _, rfl, den_ne _, Nat.lt_trans (bd_den hp.1) (Nat.pow_lt_pow_right (by decide) (by decide)), ?_⟩
        refine h (p, (Rat.divInt (p.1.num + p.1.den * c) p.1.den, p.2)) ⟨hp.mono (by decide), ?_, hp.2.mono (by decide)⟩ ?_
        · refine bd_divInt ?_ (Nat.lt_trans (bd_den hp.1) (Nat.pow_lt_pow_right (by decide) (by decide))) (den_ne _)
          have k1 := mul_lt2 (bd_den hp.1) hcn
          exact Nat.lt_trans (add_lt2 (Nat.lt_trans (bd_num hp.1) (Nat.pow_lt_pow_right (by decide) (by decide))) k1) (Nat.pow_lt_pow_right (by decide) (by decide))
        · intro e
          have e1 : p.1 = Rat.divInt (p.1.num + p.1.den * c) p.1.den := congrArg Prod.fst e
          exact up_one c (by omega) e1.symm
      by_cases c0 : 0 < p.1.num
      · simp only [c0, if_true]
        refine ⟨cmN (by decide) (by decide), ?_⟩
        exact b1 (1 - 2 * 1) (by decide)
      · simp only [c0, if_false]
        refine ⟨cmN (by decide) (by decide), ?_⟩
        exact b1 (1 - 2 * 0) (by decide)
    · rename_i c
      exact h (p, r) ⟨hp.mono (by decide), hr.mono (by decide)⟩ c
  refine ⟨_, it_drw 8 (by omega), by decide, ?_⟩
  split
  · refine ⟨_, it_drw 8 (by omega), by decide, ?_⟩
    split
    · have t := tail (p.1, p.2) hp; simp only [dRet, dRetF, dSetX, dCallX, dRetX, noOw, dTry, dCpy, dRaise, dRetO, dSetP, dSetS, dSetF, dSeq, dIf, dNext, dCall, dCallF, dB, dBin, dCons, dNil, dTup, dLst, dV, dC, dTV, onB, dTAnd, dTOr, dTNot, dAnd, dOr, dNot, dIfE, dIsN, dNotN, isN, dSl, dSlF, dNoPart, dPart, dPar, dParS, dAsg, dgN, dgT, dgCons, dgNil, seqD, dFE, dIsi, dListF, dNeg, dRev, dFrz, dApp, dAppS, dIns, dExtend, dClear, dReverse, dPop, oIx, oI, oIC, oAddU, oSubI, oMulU, oMulI, oFd, oMd, oPw, oLt, oLe, oGt, oGe, oEq, oNe, getF, setF, Cl.d, getS, setS, purF, allF, rho0, endsOf, scalD, bLen, bAbs, bInt, bIntU, bTup, Slot.dat, true_and, and_true, Option.some.injEq, exists_eq_left', decide_eq_true_eq, Bool.not_eq_true', decide_eq_false_iff_not, it_eQ0, it_eQ1, it_eP0, it_eP1, it_eS0, it_eS1, fits_eQ, fits_eP, fits_eS, eqv_eQ, eqv_eP, eqv_eS, eqv_int, eqv_bool, shp_int, shp_bool, shp_none, shp_eQ, shp_eP, shp_eS, dCont, dBreak, dXi, dSetG, dAppG, oIsB, oNotB, dTx, pJoin, pSplit, pPart, pStarts, bStr, bIntS, dFmt, dJs, ↓reduceIte, nsp_none, nsp_bool, nsp_int, nsp_str, nsp_list, nsp_tuple, nsp_eQ, nsp_eP, nsp_eS, mkP, mkS] at t; exact t
    · have t := tail (q.1, p.2) ⟨hq.1, hp.2⟩; simp only [dRet, dRetF, dSetX, dCallX, dRetX, noOw, dTry, dCpy, dRaise, dRetO, dSetP, dSetS, dSetF, dSeq, dIf, dNext, dCall, dCallF, dB, dBin, dCons, dNil, dTup, dLst, dV, dC, dTV, onB, dTAnd, dTOr, dTNot, dAnd, dOr, dNot, dIfE, dIsN, dNotN, isN, dSl, dSlF, dNoPart, dPart, dPar, dParS, dAsg, dgN, dgT, dgCons, dgNil, seqD, dFE, dIsi, dListF, dNeg, dRev, dFrz, dApp, dAppS, dIns, dExtend, dClear, dReverse, dPop, oIx, oI, oIC, oAddU, oSubI, oMulU, oMulI, oFd, oMd, oPw, oLt, oLe, oGt, oGe, oEq, oNe, getF, setF, Cl.d, getS, setS, purF, allF, rho0, endsOf, scalD, bLen, bAbs, bInt, bIntU, bTup, Slot.dat, true_and, and_true, Option.some.injEq, exists_eq_left', decide_eq_true_eq, Bool.not_eq_true', decide_eq_false_iff_not, it_eQ0, it_eQ1, it_eP0, it_eP1, it_eS0, it_eS1, fits_eQ, fits_eP, fits_eS, eqv_eQ, eqv_eP, eqv_eS, eqv_int, eqv_bool, shp_int, shp_bool, shp_none, shp_eQ, shp_eP, shp_eS, dCont, dBreak, dXi, dSetG, dAppG, oIsB, oNotB, dTx, pJoin, pSplit, pPart, pStarts, bStr, bIntS, dFmt, dJs, ↓reduceIte, nsp_none, nsp_bool, nsp_int, nsp_str, nsp_list, nsp_tuple, nsp_eQ, nsp_eP, nsp_eS, mkP, mkS] at t; exact t
  · refine ⟨_, it_drw 8 (by omega), by decide, ?_⟩
    split
    · have t := tail (p.1, q.2) ⟨hp.1, hq.2⟩; simp only [dRet, dRetF, dSetX, dCallX, dRetX, noOw, dTry, dCpy, dRaise, dRetO, dSetP, dSetS, dSetF, dSeq, dIf, dNext, dCall, dCallF, dB, dBin, dCons, dNil, dTup, dLst, dV, dC, dTV, onB, dTAnd, dTOr, dTNot, dAnd, dOr, dNot, dIfE, dIsN, dNotN, isN, dSl, dSlF, dNoPart, dPart, dPar, dParS, dAsg, dgN, dgT, dgCons, dgNil, seqD, dFE, dIsi, dListF, dNeg, dRev, dFrz, dApp, dAppS, dIns, dExtend, dClear, dReverse, dPop, oIx, oI, oIC, oAddU, oSubI, oMulU, oMulI, oFd, oMd, oPw, oLt, oLe, oGt, oGe, oEq, oNe, getF, setF, Cl.d, getS, setS, purF, allF, rho0, endsOf, scalD, bLen, bAbs, bInt, bIntU, bTup, Slot.dat, true_and, and_true, Option.some.injEq, exists_eq_left', decide_eq_true_eq, Bool.not_eq_true', decide_eq_false_iff_not, it_eQ0, it_eQ1, it_eP0, it_eP1, it_eS0, it_eS1, fits_eQ, fits_eP, fits_eS, eqv_eQ, eqv_eP, eqv_eS, eqv_int, eqv_bool, shp_int, shp_bool, shp_none, shp_eQ, shp_eP, shp_eS, dCont, dBreak, dXi, dSetG, dAppG, oIsB, oNotB, dTx, pJoin, pSplit, pPart, pStarts, bStr, bIntS, dFmt, dJs, ↓reduceIte, nsp_none, nsp_bool, nsp_int, nsp_str, nsp_list, nsp_tuple, nsp_eQ, nsp_eP, nsp_eS, mkP, mkS] at t; exact t
    · have t := tail q hq; simp only [dRet, dRetF, dSetX, dCallX, dRetX, noOw, dTry, dCpy, dRaise, dRetO, dSetP, dSetS, dSetF, dSeq, dIf, dNext, dCall, dCallF, dB, dBin, dCons, dNil, dTup, dLst, dV, dC, dTV, onB, dTAnd, dTOr, dTNot, dAnd, dOr, dNot, dIfE, dIsN, dNotN, isN, dSl, dSlF, dNoPart, dPart, dPar, dParS, dAsg, dgN, dgT, dgCons, dgNil, seqD, dFE, dIsi, dListF, dNeg, dRev, dFrz, dApp, dAppS, dIns, dExtend, dClear, dReverse, dPop, oIx, oI, oIC, oAddU, oSubI, oMulU, oMulI, oFd, oMd, oPw, oLt, oLe, oGt, oGe, oEq, oNe, getF, setF, Cl.d, getS, setS, purF, allF, rho0, endsOf, scalD, bLen, bAbs, bInt, bIntU, bTup, Slot.dat, true_and, and_true, Option.some.injEq, exists_eq_left', decide_eq_true_eq, Bool.not_eq_true', decide_eq_false_iff_not, it_eQ0, it_eQ1, it_eP0, it_eP1, it_eS0, it_eS1, fits_eQ, fits_eP, fits_eS, eqv_eQ, eqv_eP, eqv_eS, eqv_int, eqv_bool, shp_int, shp_bool, shp_none, shp_eQ, shp_eP, shp_eS, dCont, dBreak, dXi, dSetG, dAppG, oIsB, oNotB, dTx, pJoin, pSplit, pPart, pStarts, bStr, bIntS, dFmt, dJs, ↓reduceIte, nsp_none, nsp_bool, nsp_int, nsp_str, nsp_list, nsp_tuple, nsp_eQ, nsp_eP, nsp_eS, mkP, mkS] at t; exact t
end L2.D3

set_option maxHeartbeats 1000000
/-! More of loops and comprehensions; a cut between statements. -/
namespace L2.D3
open PySem PySem.Spec PyProof.Rows
def allH : Slot → Cl
  | .pu d => .da d
  | .ow ds => .da (.list ds)
  | .an A => .an A
  | _ => .no
def purH : Slot → Cl
  | .pu d => .da d
  | .an A => .an A
  | _ => .no
theorem allF_nil : allF [] = [] := rfl
theorem allF_cons (s : Slot) (r : Rho) : allF (s :: r) = allH s :: allF r := by cases s <;> rfl
theorem purF_nil : purF [] = [] := rfl
theorem purF_cons (s : Slot) (r : Rho) : purF (s :: r) = purH s :: purF r := by cases s <;> rfl
/-- a statement, then the rest: what holds between them -/
theorem seq_cut {t u : DS} {E : DEnds} {ρ : Rho} (M : Rho → Prop) (h1 : ∀ E' : DEnds, E'.rt = E.rt → (∀ ρ', M ρ' → E'.nx ρ') → t E' ρ) (h2 : ∀ ρ', M ρ' → u E ρ') : dSeq t u E ρ := h1 { E with nx := u E } rfl h2
theorem seq_set {i : Nat} {de : DE} {u : DS} {E : DEnds} {ρ : Rho} (h : de (purF ρ) fun d => u E (setS ρ i (.pu d))) : dSeq (dSetP i de) u E ρ := h
theorem ite_no {c : Prop} [Decidable c] {a b : Prop} (h : ¬ c) (k : b) : if c then a else b := by rw [if_neg h]; exact k
theorem ite_yes {c : Prop} [Decidable c] {a b : Prop} (h : c) (k : a) : if c then a else b := by rw [if_pos h]; exact k
theorem dat_pu (d : Dt) : (Slot.pu d).dat = d := rfl
theorem dat_ow (d : List Dt) : (Slot.ow d).dat = .list d := rfl
theorem seqD_l (ds : List Dt) : seqD (.list ds) = some ds := rfl
theorem seqD_t (ds : List Dt) : seqD (.tuple ds) = some ds := rfl
theorem unrC_filterM {α : Type} {e v : α → Dt} {g : DGc} {t : DT} {de : DE} {φ : Fro} {Φ : List Dt → Prop} {c : α → Bool} : ∀ (xs : List α) (acc : List Dt), acc.length + xs.length ≤ sizeLine → (∀ a ∈ xs, ∀ Ψ : Bool → Fro → Prop, (∀ φ2, (∀ Ψ' : Dt → Prop, Ψ' (v a) → de φ2 Ψ') → Ψ (c a) φ2) → g (e a) φ fun φ2 => t φ2 fun b => Ψ b φ2) → Φ (acc ++ (xs.filter c).map v) → unrC g t de φ Φ (xs.map e) acc
  | [], acc, _, _, h => by rw [List.filter_nil, List.map_nil, List.append_nil] at h; exact h
  | d :: r, acc, hl, hf, h => by
    rw [List.length_cons] at hl
    refine hf d List.mem_cons_self (fun b φ2 => if b = true then de φ2 fun y => acc.length < sizeLine ∧ unrC g t de φ Φ (r.map e) (acc ++ [y]) else unrC g t de φ Φ (r.map e) acc) fun φ2 hd => ?_
    rw [List.filter_cons] at h
    cases ec : c d with
    | true =>
      rw [if_pos rfl]
      rw [ec, if_pos rfl, List.map_cons] at h
      refine hd _ ⟨by omega, unrC_filterM r _ (by rw [List.length_append, List.length_singleton]; omega) (fun e he => hf e (List.mem_cons_of_mem _ he)) (by rw [List.append_assoc]; exact h)⟩
    | false =>
      rw [if_neg Bool.false_ne_true]
      rw [ec, if_neg Bool.false_ne_true] at h
      exact unrC_filterM r acc (by omega) (fun e he => hf e (List.mem_cons_of_mem _ he)) h
theorem dLc_filterM {α : Type} {xs : List α} {e : α → Dt} {vs : List Nat} {di : DI} {g : DGc} {t : DT} {de : DE} {φ : Fro} {Φ : List Dt → Prop} (hd : ∀ Q : List Dt → Prop, Q (xs.map e) → di φ Q) (v : α → Dt) (c : α → Bool) (hl : xs.length ≤ sizeLine) (hf : ∀ a ∈ xs, ∀ Ψ : Bool → Fro → Prop, (∀ φ2, (∀ Ψ' : Dt → Prop, Ψ' (v a) → de φ2 Ψ') → Ψ (c a) φ2) → g (e a) (wipeF φ vs) fun φ2 => t φ2 fun b => Ψ b φ2) (h : Φ ((xs.filter c).map v)) : dLc vs di g t de φ Φ := hd _ (lc_unr (unrC_filterM xs [] (by simpa using hl) hf h))
theorem unrC_mapM {α : Type} {e v : α → Dt} {g : DGc} {de : DE} {φ : Fro} {Φ : List Dt → Prop} : ∀ (xs : List α) (acc : List Dt), acc.length + xs.length ≤ sizeLine → (∀ a ∈ xs, ∀ Ψ : Dt → Prop, Ψ (v a) → g (e a) φ fun φ2 => de φ2 Ψ) → Φ (acc ++ xs.map v) → unrC g dYes de φ Φ (xs.map e) acc
  | [], acc, _, _, h => by rw [List.map_nil, List.append_nil] at h; exact h
  | d :: r, acc, hl, hf, h => by
    show g (e d) φ fun φ2 => dYes φ2 fun b => if b = true then de φ2 fun y => acc.length < sizeLine ∧ unrC g dYes de φ Φ (r.map e) (acc ++ [y]) else unrC g dYes de φ Φ (r.map e) acc
    simp only [dYes, if_true]
    rw [List.length_cons] at hl
    refine hf d List.mem_cons_self _ ⟨by omega, ?_⟩
    exact unrC_mapM r _ (by rw [List.length_append, List.length_singleton]; omega) (fun e he => hf e (List.mem_cons_of_mem _ he)) (by rw [List.append_assoc]; exact h)
theorem dLc_mapM {α : Type} {xs : List α} {e : α → Dt} {vs : List Nat} {di : DI} {g : DGc} {de : DE} {φ : Fro} {Φ : List Dt → Prop} (hd : ∀ Q : List Dt → Prop, Q (xs.map e) → di φ Q) (v : α → Dt) (hl : xs.length ≤ sizeLine) (hf : ∀ a ∈ xs, ∀ Ψ : Dt → Prop, Ψ (v a) → g (e a) (wipeF φ vs) fun φ2 => de φ2 Ψ) (h : Φ (xs.map v)) : dLc vs di g dYes de φ Φ := hd _ (lc_unr (unrC_mapM xs [] (by simpa using hl) hf h))
/-- .. over one of several lines -/
theorem dFor_ivA {di : DI} {g : DG} {b : DS} {E : DEnds} {ρ : Rho} (C : List Dt → Prop) (hd : ∀ Q : List Dt → Prop, (∀ ds, C ds → Q ds) → di (purF ρ) Q) (Iv : Nat → Rho → Prop) (h0 : Iv 0 ρ) (ht : ∀ ds, C ds → ∀ k d ρ', ds[k]? = some d → Iv k ρ' → g d ρ' fun ρ2 => b { E with nx := Iv (k + 1), ct := Iv (k + 1), bk := E.nx } ρ2) (he : ∀ ds, C ds → ∀ ρ', Iv ds.length ρ' → E.nx ρ') : dFor di g b E ρ := hd _ fun ds hc => ⟨Iv, h0, ht ds hc, he ds hc⟩
theorem any_map {α : Type} [DecidableEq α] {f : α → Dt} (hf : ∀ a b, PyData.eqv (f a) (f b) = decide (a = b)) (xs : List α) (x : α) : ((xs.map f).any fun z => PyData.eqv z (f x)) = decide (x ∈ xs) := by
  rw [List.any_map]
  induction xs with
  | nil => rfl
  | cons a r ih =>
    rw [List.any_cons, ih]
    show (PyData.eqv (f a) (f x) || _) = _
    rw [hf]
    by_cases c : a = x
    · subst c; simp
    · have c' : ¬ x = a := fun z => c z.symm
      simp [c, c', List.mem_cons]
theorem seqD_eQ (q : Rat) : seqD (eQ q) = some [.int q.num, .int q.den] := rfl
theorem seqD_eP (q : Pt) : seqD (eP q) = some [eQ q.1, eQ q.2] := rfl
theorem seqD_eS (q : Sd) : seqD (eS q) = some [eP q.1, eP q.2] := rfl
theorem walkD_eP (q : Pt) : walkD (eP q) = some [eQ q.1, eQ q.2] := rfl
theorem walkD_eS (q : Sd) : walkD (eS q) = some [eP q.1, eP q.2] := rfl
theorem walkD_l (ds : List Dt) : walkD (.list ds) = some ds := rfl
theorem walkD_t (ds : List Dt) : walkD (.tuple ds) = some ds := rfl
theorem BdP.mk2 {n : Nat} {a b : Rat} (h1 : Bd n a) (h2 : Bd n b) : BdP n (a, b) := ⟨h1, h2⟩
theorem bdP_at {k : Int} {s : Sd} {n m : Nat} (hm : n + n + 9 = m) (hk : -100 ≤ k ∧ k ≤ 100) (h : BdS n s) : BdP m (atP k s) := by
  unfold atP
  subst hm
  exact BdP.mk2 (bd_at hk h.1.1 h.2.1) (bd_at hk h.1.2 h.2.2)
/-- a loop and what follows -/
theorem seq_for {di : DI} {g : DG} {b u : DS} {E : DEnds} {ds : List Dt} {ρ : Rho} (hd : ∀ Q : List Dt → Prop, Q ds → di (purF ρ) Q) (Iv : Nat → Rho → Prop) (h0 : Iv 0 ρ) (ht : ∀ k d ρ', ds[k]? = some d → Iv k ρ' → g d ρ' fun ρ2 => b { E with nx := Iv (k + 1), ct := Iv (k + 1), bk := u E } ρ2) (he : ∀ ρ', Iv ds.length ρ' → u E ρ') : dSeq (dFor di g b) u E ρ := hd _ ⟨Iv, h0, ht, he⟩
theorem seq_forA {di : DI} {g : DG} {b u : DS} {E : DEnds} {ρ : Rho} (C : List Dt → Prop) (hd : ∀ Q : List Dt → Prop, (∀ ds, C ds → Q ds) → di (purF ρ) Q) (Iv : Nat → Rho → Prop) (h0 : Iv 0 ρ) (ht : ∀ ds, C ds → ∀ k d ρ', ds[k]? = some d → Iv k ρ' → g d ρ' fun ρ2 => b { E with nx := Iv (k + 1), ct := Iv (k + 1), bk := u E } ρ2) (he : ∀ ds, C ds → ∀ ρ', Iv ds.length ρ' → u E ρ') : dSeq (dFor di g b) u E ρ := hd _ fun ds hc => ⟨Iv, h0, ht ds hc, he ds hc⟩
theorem seq_cut' {t u : DS} {E : DEnds} {ρ : Rho} (M : Rho → Prop) (h1 : ∀ E' : DEnds, E'.rt = E.rt → E'.xr = E.xr → (∀ ρ', M ρ' → E'.nx ρ') → t E' ρ) (h2 : ∀ ρ', M ρ' → u E ρ') : dSeq t u E ρ := h1 { E with nx := u E } rfl rfl h2
end L2.D3

set_option maxHeartbeats 1000000
/-! Lands: what is one. -/
namespace L2.D3
open PySem PySem.Spec PyProof.Rows
/-! ### plain things of bounded size -/
mutual
def okD : PyData → Prop
  | .int i => i.natAbs < 2 ^ 8000
  | .str z => z.length ≤ 100000 ∧ PyData.strOk z = true
  | .list xs => xs.length ≤ 100000 ∧ okAll xs
  | .tuple xs => xs.length ≤ 100000 ∧ okAll xs
  | .dict kv => kv = []
  | .none => True
  | .bool _ => True
def okAll : List PyData → Prop
  | [] => True
  | d :: ds => okD d ∧ okAll ds
end
theorem okAll_mem : ∀ {ds : List PyData}, okAll ds → ∀ d ∈ ds, okD d
  | [], _, d, hd => by cases hd
  | e :: ds, h, d, hd => by
    simp only [okAll] at h
    rcases List.mem_cons.mp hd with rfl | hd
    · exact h.1
    · exact okAll_mem h.2 d hd
theorem okAll_of : ∀ {ds : List PyData}, (∀ d ∈ ds, okD d) → okAll ds
  | [], _ => by simp only [okAll]
  | e :: ds, h => by
    simp only [okAll]
    exact ⟨h e List.mem_cons_self, okAll_of fun d hd => h d (List.mem_cons_of_mem _ hd)⟩
theorem ok_spec {d : Dt} (h : okD d) : spec d = false := by
  cases d with
  | dict kv => simp only [okD] at h; subst h; rfl
  | _ => rfl
theorem okT {xs : List PyData} (h : okD (.tuple xs)) : xs.length ≤ 100000 ∧ ∀ d ∈ xs, okD d := by
  simp only [okD] at h
  exact ⟨h.1, okAll_mem h.2⟩
theorem okT_of {xs : List PyData} (h : xs.length ≤ 100000) (g : ∀ d ∈ xs, okD d) : okD (.tuple xs) := by
  simp only [okD]
  exact ⟨h, okAll_of g⟩
theorem okL_of {xs : List PyData} (h : xs.length ≤ 100000) (g : ∀ d ∈ xs, okD d) : okD (.list xs) := by
  simp only [okD]
  exact ⟨h, okAll_of g⟩
/-! ### what is good -/
def whD : Dt → Bool
  | .int _ => true
  | _ => false
def rowD (n : Nat) : Dt → Bool
  | .tuple xs => decide (xs.length = n)
  | _ => false
def LETS : List Nat := [97, 98, 99, 100, 101, 102, 103, 104, 105, 106, 107, 108, 109, 110, 111, 112, 113, 114, 115, 116, 117, 118, 119, 120, 121, 122]
def WRDS : List Str := ["and", "or", "not", "all", "none", "sheet"]
def RLS : List Str := ["odd", "any", "plus"]
def isNm (z : Str) : Bool := decide (1 ≤ z.length) && (decide (z.length ≤ 8) && (!decide (z ∈ WRDS) && z.cps.toList.all fun c => decide (c ∈ LETS)))
def gName : Dt → Bool
  | .str z => isNm z
  | _ => false
def gRule : Dt → Bool
  | .str z => decide (z ∈ RLS)
  | _ => false
def gNum : Dt → Bool
  | .tuple [.int a, .int b] => decide (1 ≤ b) && decide (Int.gcd a b = 1)
  | _ => false
def gPoint : Dt → Bool
  | .tuple [x, y] => gNum x && gNum y
  | _ => false
def gRing : Dt → Bool
  | .tuple ps => decide (1 ≤ ps.length) && (decide (ps.length ≤ 24) && ps.all gPoint)
  | _ => false
def gLand : Dt → Bool
  | .tuple [a, b, c, .tuple rs] => gName a && (gName b && (gRule c && (decide (rs.length ≤ 6) && rs.all gRing)))
  | _ => false
def cv_LETTERS : Dt := .str "abcdefghijklmnopqrstuvwxyz"
def cv_WORDS : Dt := .tuple (WRDS.map .str)
def cv_RULES : Dt := .tuple (RLS.map .str)
def cv_MOST_RINGS : Dt := .int 6
def cv_MOST_POINTS : Dt := .int 24
theorem lets_eq : ("abcdefghijklmnopqrstuvwxyz" : Str).cps.toList = LETS := by decide +kernel
/-! ### texts in rows -/
theorem eqv_str (a b : Str) : PyData.eqv (.str a) (.str b) = decide (a = b) := by
  simp only [PyData.eqv]
  by_cases h : a = b
  · subst h; simp
  · rw [decide_eq_false h]; exact beq_eq_false_iff_ne.mpr h
theorem sh_str (n : Nat) {z : Str} (h : PyData.strOk z = true) : Sh n (.str z) := ⟨by simpa [PyData.canLay0] using h, by simp [PyData.depth]⟩
theorem shp_str {z : Str} (h : PyData.strOk z = true) : SeqAt.shaped (.str z) = true := (sh_str 0 h).shaped (by decide)
theorem ok_chars {z : Str} (h : PyData.strOk z = true) : ∀ c ∈ z.cps.toList, PyData.strOk ⟨#[c]⟩ = true := fun c hc => by
  unfold PyData.strOk at h ⊢
  rw [← Array.all_toList, List.all_eq_true] at h
  have := h c hc
  simpa using this
theorem shp_chars {z : Str} (h : PyData.strOk z = true) : ∀ c ∈ z.cps.toList, SeqAt.shaped (.str ⟨#[c]⟩) = true := fun c hc => shp_str (ok_chars h c hc)
theorem sh_mapM {α : Type} {n : Nat} {f : α → Dt} {xs : List α} (h : ∀ a ∈ xs, Sh n (f a)) : ∀ d ∈ xs.map f, Sh n d := fun d hd => by
  obtain ⟨a, ha, rfl⟩ := List.mem_map.mp hd
  exact h a ha
theorem shp_strs {zs : List Str} (h : ∀ z ∈ zs, PyData.strOk z = true) : SeqAt.shaped (.tuple (zs.map .str)) = true := (sh_tuple (sh_mapM fun z hz => sh_str 0 (h z hz))).shaped (by decide)
theorem shp_strl {zs : List Str} (h : ∀ z ∈ zs, PyData.strOk z = true) : SeqAt.shaped (.list (zs.map .str)) = true := (sh_list (sh_mapM fun z hz => sh_str 0 (h z hz))).shaped (by decide)
theorem shp_words : SeqAt.shaped (.tuple (WRDS.map .str)) = true := shp_strs (by decide +kernel)
theorem shp_rules : SeqAt.shaped (.tuple (RLS.map .str)) = true := shp_strs (by decide +kernel)
theorem shp_letters : SeqAt.shaped (.str "abcdefghijklmnopqrstuvwxyz") = true := shp_str (by decide +kernel)
theorem any_str (zs : List Str) (z : Str) : ((zs.map PyData.str).any fun x => PyData.eqv x (.str z)) = decide (z ∈ zs) := any_map eqv_str zs z
/-! ### the contracts -/
def sp_is_whole : DSp := fun ds Φ _ => ∃ d, ds = [d] ∧ spec d = false ∧ Φ (.pu (.bool (whD d)))
def sp_is_row : DSp := fun ds Φ _ => ∃ (d : Dt) (n : Nat), ds = [d, .int n] ∧ okD d ∧ Φ (.pu (.bool (rowD n d)))
def sp_is_name : DSp := fun ds Φ _ => ∃ d, ds = [d] ∧ okD d ∧ Φ (.pu (.bool (gName d)))
def sp_is_rule : DSp := fun ds Φ _ => ∃ d, ds = [d] ∧ okD d ∧ Φ (.pu (.bool (gRule d)))
def sp_is_number : DSp := fun ds Φ _ => ∃ d, ds = [d] ∧ okD d ∧ Φ (.pu (.bool (gNum d)))
def sp_is_point : DSp := fun ds Φ _ => ∃ d, ds = [d] ∧ okD d ∧ Φ (.pu (.bool (gPoint d)))
def sp_is_ring : DSp := fun ds Φ _ => ∃ d, ds = [d] ∧ okD d ∧ Φ (.pu (.bool (gRing d)))
def sp_is_land : DSp := fun ds Φ _ => ∃ d, ds = [d] ∧ okD d ∧ Φ (.pu (.bool (gLand d)))
abbrev N_is_name : List Str := ["thing", "sign"]
def d_is_name : DS := (dSeq (dIf (dTOr (dTNot (dTV (dIsi isStrD (dV 0)))) (dTOr (dTNot (dTV (dChn oLe oLe (dC (.int 1)) (dB bLen (dCons (dV 0) dNil)) (dC (.int 8))))) (dTV (dBin oIn (dV 0) (dC cv_WORDS))))) (dRet (dC (.bool false))) dNext)
  (dRet (dB bAll (dCons (dFE (dLc [1] (diSeq (dV 0)) (dcN 1) dYes (dBin oIn (dV 1) (dC cv_LETTERS)))) dNil))))
abbrev N_is_rule : List Str := ["thing"]
def d_is_rule : DS := (dRet (dAnd (dIsi isStrD (dV 0)) (dBin oIn (dV 0) (dC cv_RULES))))
abbrev N_is_whole : List Str := ["thing"]
def d_is_whole : DS := (dRet (dAnd (dIsi isIntD (dV 0)) (dNot (dIsi isBoolD (dV 0)))))
abbrev N_is_row : List Str := ["thing", "many"]
def d_is_row : DS := (dRet (dAnd (dIsi isTupD (dV 0)) (dBin oEq (dB bLen (dCons (dV 0) dNil)) (dV 1))))
abbrev N_is_number : List Str := ["thing", "one", "other"]
def d_is_number : DS := (dSeq (dIf (dTOr (dTNot (dTV (dCall sp_is_row (dCons (dV 0) (dCons (dC (.int 2)) dNil))))) (dTOr (dTNot (dTV (dCall sp_is_whole (dCons (dBin oIx (dV 0) (dC (.int 0))) dNil)))) (dTOr (dTNot (dTV (dCall sp_is_whole (dCons (dBin oIx (dV 0) (dC (.int 1))) dNil)))) (dTV (dBin oLt (dBin oIx (dV 0) (dC (.int 1))) (dC (.int 1))))))) (dRet (dC (.bool false))) dNext)
  (dSeq (dAsg (dV 0) (dgT 2 (dgCons (dgN 1) (dgCons (dgN 2) dgNil))))
  (dSeq (dWhile (dTV (dBin oNe (dV 2) (dC (.int 0)))) (dPar 1 2 (dCons (dV 2) (dCons (dBin oMd (dV 1) (dV 2)) dNil))))
  (dRet (dBin oEq (dB bAbs (dCons (dV 1) dNil)) (dC (.int 1)))))))
abbrev N_is_point : List Str := ["thing"]
def d_is_point : DS := (dRet (dAnd (dCall sp_is_row (dCons (dV 0) (dCons (dC (.int 2)) dNil))) (dAnd (dCall sp_is_number (dCons (dBin oIx (dV 0) (dC (.int 0))) dNil)) (dCall sp_is_number (dCons (dBin oIx (dV 0) (dC (.int 1))) dNil)))))
abbrev N_is_ring : List Str := ["thing", "point"]
def d_is_ring : DS := (dSeq (dIf (dTOr (dTNot (dTV (dIsi isTupD (dV 0)))) (dTNot (dTV (dChn oLe oLe (dC (.int 1)) (dB bLen (dCons (dV 0) dNil)) (dC cv_MOST_POINTS))))) (dRet (dC (.bool false))) dNext)
  (dRet (dB bAll (dCons (dFE (dLc [1] (diSeq (dV 0)) (dcN 1) dYes (dCall sp_is_point (dCons (dV 1) dNil)))) dNil))))
abbrev N_is_land : List Str := ["thing", "ring"]
def d_is_land : DS := (dSeq (dIf (dTOr (dTNot (dTV (dCall sp_is_row (dCons (dV 0) (dCons (dC (.int 4)) dNil))))) (dTOr (dTNot (dTV (dCall sp_is_name (dCons (dBin oIx (dV 0) (dC (.int 0))) dNil)))) (dTOr (dTNot (dTV (dCall sp_is_name (dCons (dBin oIx (dV 0) (dC (.int 1))) dNil)))) (dTNot (dTV (dCall sp_is_rule (dCons (dBin oIx (dV 0) (dC (.int 2))) dNil))))))) (dRet (dC (.bool false))) dNext)
  (dSeq (dIf (dTOr (dTNot (dTV (dIsi isTupD (dBin oIx (dV 0) (dC (.int 3)))))) (dTV (dBin oGt (dB bLen (dCons (dBin oIx (dV 0) (dC (.int 3))) dNil)) (dC cv_MOST_RINGS)))) (dRet (dC (.bool false))) dNext)
  (dRet (dB bAll (dCons (dFE (dLc [1] (diSeq (dBin oIx (dV 0) (dC (.int 3)))) (dcN 1) dYes (dCall sp_is_ring (dCons (dV 1) dNil)))) dNil)))))
theorem rd_is_whole (ds : List Dt) (Φ : Slot → Prop) (Ξ : XD → Prop) (h : sp_is_whole ds Φ Ξ) : d_is_whole (endsOf Φ Ξ) (rho0 N_is_whole ds) := by
  obtain ⟨d, rfl, hs, h⟩ := h
  simp only [d_is_whole, N_is_whole, dRet, dRetF, dSetX, dCallX, dRetX, noOw, dTry, dCpy, dRaise, dRetO, dSetP, dSetS, dSetF, dSeq, dIf, dNext, dCall, dCallF, dB, dBin, dCons, dNil, dTup, dLst, dV, dC, dTV, onB, dTAnd, dTOr, dTNot, dAnd, dOr, dNot, dIfE, dIsN, dNotN, isN, dSl, dSlF, dNoPart, dPart, dPar, dParS, dAsg, dgN, dgT, dgCons, dgNil, dFE, dIsi, dListF, dNeg, dRev, dFrz, dApp, dAppS, dIns, dExtend, dClear, dReverse, dPop, oIx, oI, oIC, oAddU, oSubI, oMulU, oMulI, oFd, oMd, oPw, oLt, oLe, oGt, oGe, oEq, oNe, getF, setF, Cl.d, getS, setS, purF_nil, purF_cons, purH, allF_nil, allF_cons, allH, rho0, endsOf, scalD, bLen, bAbs, bInt, bIntU, bTup, true_and, and_true, Option.some.injEq, exists_eq_left', decide_eq_true_eq, Bool.not_eq_true', decide_eq_false_iff_not, it_eQ0, it_eQ1, it_eP0, it_eP1, it_eS0, it_eS1, fits_eQ, fits_eP, fits_eS, eqv_eQ, eqv_eP, eqv_eS, eqv_int, eqv_bool, shp_int, shp_bool, shp_none, shp_eQ, shp_eP, shp_eS, dCont, dBreak, dXi, dSetG, dAppG, oIsB, oNotB, dTx, pJoin, pSplit, pPart, pStarts, bStr, bIntS, dFmt, dJs, ↓reduceIte, nsp_none, nsp_bool, nsp_int, nsp_str, nsp_list, nsp_tuple, nsp_eQ, nsp_eP, nsp_eS, dat_pu, dat_ow, seqD_l, seqD_t, not_true_eq_false, Bool.true_eq_false, Bool.not_not, List.length_cons, List.length_nil, mkP, mkS, fits_list, fits_tuple, isIntD, isBoolD, isListD, isStrD, isTupD, Bool.not_true, Bool.not_false, Bool.false_eq_true, it_l0, it_l1, it_l2, it_t0, it_t1, it_t2, shp_ps, shp_pt, shp_ss, shp_is, seqD_eQ, seqD_eP, seqD_eS, walkD_eP, walkD_eS, walkD_l, walkD_t]
  cases d <;> simp_all [isIntD, isBoolD, whD, spec]
theorem rd_is_row (ds : List Dt) (Φ : Slot → Prop) (Ξ : XD → Prop) (h : sp_is_row ds Φ Ξ) : d_is_row (endsOf Φ Ξ) (rho0 N_is_row ds) := by
  obtain ⟨d, n, rfl, ho, h⟩ := h
  have hz : (100000 : Nat) < sizeLine := by decide
  have hs := ok_spec ho
  simp only [d_is_row, N_is_row, dRet, dRetF, dSetX, dCallX, dRetX, noOw, dTry, dCpy, dRaise, dRetO, dSetP, dSetS, dSetF, dSeq, dIf, dNext, dCall, dCallF, dB, dBin, dCons, dNil, dTup, dLst, dV, dC, dTV, onB, dTAnd, dTOr, dTNot, dAnd, dOr, dNot, dIfE, dIsN, dNotN, isN, dSl, dSlF, dNoPart, dPart, dPar, dParS, dAsg, dgN, dgT, dgCons, dgNil, dFE, dIsi, dListF, dNeg, dRev, dFrz, dApp, dAppS, dIns, dExtend, dClear, dReverse, dPop, oIx, oI, oIC, oAddU, oSubI, oMulU, oMulI, oFd, oMd, oPw, oLt, oLe, oGt, oGe, oEq, oNe, getF, setF, Cl.d, getS, setS, purF_nil, purF_cons, purH, allF_nil, allF_cons, allH, rho0, endsOf, scalD, bLen, bAbs, bInt, bIntU, bTup, true_and, and_true, Option.some.injEq, exists_eq_left', decide_eq_true_eq, Bool.not_eq_true', decide_eq_false_iff_not, it_eQ0, it_eQ1, it_eP0, it_eP1, it_eS0, it_eS1, fits_eQ, fits_eP, fits_eS, eqv_eQ, eqv_eP, eqv_eS, eqv_int, eqv_bool, shp_int, shp_bool, shp_none, shp_eQ, shp_eP, shp_eS, dCont, dBreak, dXi, dSetG, dAppG, oIsB, oNotB, dTx, pJoin, pSplit, pPart, pStarts, bStr, bIntS, dFmt, dJs, ↓reduceIte, nsp_none, nsp_bool, nsp_int, nsp_str, nsp_list, nsp_tuple, nsp_eQ, nsp_eP, nsp_eS, dat_pu, dat_ow, seqD_l, seqD_t, not_true_eq_false, Bool.true_eq_false, Bool.not_not, List.length_cons, List.length_nil, mkP, mkS, fits_list, fits_tuple, isIntD, isBoolD, isListD, isStrD, isTupD, Bool.not_true, Bool.not_false, Bool.false_eq_true, it_l0, it_l1, it_l2, it_t0, it_t1, it_t2, shp_ps, shp_pt, shp_ss, shp_is, seqD_eQ, seqD_eP, seqD_eS, walkD_eP, walkD_eS, walkD_l, walkD_t]
  cases d with
  | tuple xs =>
    simp only [rowD, dRet, dRetF, dSetX, dCallX, dRetX, noOw, dTry, dCpy, dRaise, dRetO, dSetP, dSetS, dSetF, dSeq, dIf, dNext, dCall, dCallF, dB, dBin, dCons, dNil, dTup, dLst, dV, dC, dTV, onB, dTAnd, dTOr, dTNot, dAnd, dOr, dNot, dIfE, dIsN, dNotN, isN, dSl, dSlF, dNoPart, dPart, dPar, dParS, dAsg, dgN, dgT, dgCons, dgNil, dFE, dIsi, dListF, dNeg, dRev, dFrz, dApp, dAppS, dIns, dExtend, dClear, dReverse, dPop, oIx, oI, oIC, oAddU, oSubI, oMulU, oMulI, oFd, oMd, oPw, oLt, oLe, oGt, oGe, oEq, oNe, getF, setF, Cl.d, getS, setS, purF_nil, purF_cons, purH, allF_nil, allF_cons, allH, rho0, endsOf, scalD, bLen, bAbs, bInt, bIntU, bTup, true_and, and_true, Option.some.injEq, exists_eq_left', decide_eq_true_eq, Bool.not_eq_true', decide_eq_false_iff_not, it_eQ0, it_eQ1, it_eP0, it_eP1, it_eS0, it_eS1, fits_eQ, fits_eP, fits_eS, eqv_eQ, eqv_eP, eqv_eS, eqv_int, eqv_bool, shp_int, shp_bool, shp_none, shp_eQ, shp_eP, shp_eS, dCont, dBreak, dXi, dSetG, dAppG, oIsB, oNotB, dTx, pJoin, pSplit, pPart, pStarts, bStr, bIntS, dFmt, dJs, ↓reduceIte, nsp_none, nsp_bool, nsp_int, nsp_str, nsp_list, nsp_tuple, nsp_eQ, nsp_eP, nsp_eS, dat_pu, dat_ow, seqD_l, seqD_t, not_true_eq_false, Bool.true_eq_false, Bool.not_not, List.length_cons, List.length_nil, mkP, mkS, fits_list, fits_tuple, isIntD, isBoolD, isListD, isStrD, isTupD, Bool.not_true, Bool.not_false, Bool.false_eq_true, it_l0, it_l1, it_l2, it_t0, it_t1, it_t2, shp_ps, shp_pt, shp_ss, shp_is, seqD_eQ, seqD_eP, seqD_eS, walkD_eP, walkD_eS, walkD_l, walkD_t] at h ⊢
    have e : decide ((xs.length : Int) = (n : Int)) = decide (xs.length = n) := decide_eq_decide.mpr (by omega)
    rw [e]
    exact h
  | dict kv =>
    refine ⟨hs, ?_⟩
    simpa [rowD] using h
  | _ => simpa [rowD, spec] using h
theorem all_lets (z : Str) (Φ : Bool → Prop) (h : Φ (z.cps.toList.all fun c => decide (c ∈ LETS))) : Φ ((z.cps.toList.map fun c => decide (c ∈ LETS)).all id) := by
  rw [List.all_map]
  exact h
theorem rd_is_name (ds : List Dt) (Φ : Slot → Prop) (Ξ : XD → Prop) (h : sp_is_name ds Φ Ξ) : d_is_name (endsOf Φ Ξ) (rho0 N_is_name ds) := by
  obtain ⟨d, rfl, ho, h⟩ := h
  have hz : (100000 : Nat) < sizeLine := by decide
  have hs := ok_spec ho
  simp only [d_is_name, N_is_name, dRet, dRetF, dSetX, dCallX, dRetX, noOw, dTry, dCpy, dRaise, dRetO, dSetP, dSetS, dSetF, dSeq, dIf, dNext, dCall, dCallF, dB, dBin, dCons, dNil, dTup, dLst, dV, dC, dTV, onB, dTAnd, dTOr, dTNot, dAnd, dOr, dNot, dIfE, dIsN, dNotN, isN, dSl, dSlF, dNoPart, dPart, dPar, dParS, dAsg, dgN, dgT, dgCons, dgNil, dFE, dIsi, dListF, dNeg, dRev, dFrz, dApp, dAppS, dIns, dExtend, dClear, dReverse, dPop, oIx, oI, oIC, oAddU, oSubI, oMulU, oMulI, oFd, oMd, oPw, oLt, oLe, oGt, oGe, oEq, oNe, getF, setF, Cl.d, getS, setS, purF_nil, purF_cons, purH, allF_nil, allF_cons, allH, rho0, endsOf, scalD, bLen, bAbs, bInt, bIntU, bTup, true_and, and_true, Option.some.injEq, exists_eq_left', decide_eq_true_eq, Bool.not_eq_true', decide_eq_false_iff_not, it_eQ0, it_eQ1, it_eP0, it_eP1, it_eS0, it_eS1, fits_eQ, fits_eP, fits_eS, eqv_eQ, eqv_eP, eqv_eS, eqv_int, eqv_bool, shp_int, shp_bool, shp_none, shp_eQ, shp_eP, shp_eS, dCont, dBreak, dXi, dSetG, dAppG, oIsB, oNotB, dTx, pJoin, pSplit, pPart, pStarts, bStr, bIntS, dFmt, dJs, ↓reduceIte, nsp_none, nsp_bool, nsp_int, nsp_str, nsp_list, nsp_tuple, nsp_eQ, nsp_eP, nsp_eS, dat_pu, dat_ow, seqD_l, seqD_t, not_true_eq_false, Bool.true_eq_false, Bool.not_not, List.length_cons, List.length_nil, mkP, mkS, fits_list, fits_tuple, isIntD, isBoolD, isListD, isStrD, isTupD, Bool.not_true, Bool.not_false, Bool.false_eq_true, it_l0, it_l1, it_l2, it_t0, it_t1, it_t2, shp_ps, shp_pt, shp_ss, shp_is, seqD_eQ, seqD_eP, seqD_eS, walkD_eP, walkD_eS, walkD_l, walkD_t]
  cases d with
  | str z =>
    simp only [okD] at ho
    obtain ⟨ho, hk⟩ := ho
    have hk2 := shp_str hk
    have hk3 := shp_chars hk
    simp only [dChn, hk2, cv_WORDS, shp_words, oIn, any_str, gName, isNm, dRet, dRetF, dSetX, dCallX, dRetX, noOw, dTry, dCpy, dRaise, dRetO, dSetP, dSetS, dSetF, dSeq, dIf, dNext, dCall, dCallF, dB, dBin, dCons, dNil, dTup, dLst, dV, dC, dTV, onB, dTAnd, dTOr, dTNot, dAnd, dOr, dNot, dIfE, dIsN, dNotN, isN, dSl, dSlF, dNoPart, dPart, dPar, dParS, dAsg, dgN, dgT, dgCons, dgNil, dFE, dIsi, dListF, dNeg, dRev, dFrz, dApp, dAppS, dIns, dExtend, dClear, dReverse, dPop, oIx, oI, oIC, oAddU, oSubI, oMulU, oMulI, oFd, oMd, oPw, oLt, oLe, oGt, oGe, oEq, oNe, getF, setF, Cl.d, getS, setS, purF_nil, purF_cons, purH, allF_nil, allF_cons, allH, rho0, endsOf, scalD, bLen, bAbs, bInt, bIntU, bTup, true_and, and_true, Option.some.injEq, exists_eq_left', decide_eq_true_eq, Bool.not_eq_true', decide_eq_false_iff_not, it_eQ0, it_eQ1, it_eP0, it_eP1, it_eS0, it_eS1, fits_eQ, fits_eP, fits_eS, eqv_eQ, eqv_eP, eqv_eS, eqv_int, eqv_bool, shp_int, shp_bool, shp_none, shp_eQ, shp_eP, shp_eS, dCont, dBreak, dXi, dSetG, dAppG, oIsB, oNotB, dTx, pJoin, pSplit, pPart, pStarts, bStr, bIntS, dFmt, dJs, ↓reduceIte, nsp_none, nsp_bool, nsp_int, nsp_str, nsp_list, nsp_tuple, nsp_eQ, nsp_eP, nsp_eS, dat_pu, dat_ow, seqD_l, seqD_t, not_true_eq_false, Bool.true_eq_false, Bool.not_not, List.length_cons, List.length_nil, mkP, mkS, fits_list, fits_tuple, isIntD, isBoolD, isListD, isStrD, isTupD, Bool.not_true, Bool.not_false, Bool.false_eq_true, it_l0, it_l1, it_l2, it_t0, it_t1, it_t2, shp_ps, shp_pt, shp_ss, shp_is, seqD_eQ, seqD_eP, seqD_eS, walkD_eP, walkD_eS, walkD_l, walkD_t] at h ⊢
    refine ⟨by omega, ?_⟩
    by_cases c1 : 1 ≤ z.length
    · have c1' : (1 : Int) ≤ z.length := by omega
      simp only [c1, c1', dRet, dRetF, dSetX, dCallX, dRetX, noOw, dTry, dCpy, dRaise, dRetO, dSetP, dSetS, dSetF, dSeq, dIf, dNext, dCall, dCallF, dB, dBin, dCons, dNil, dTup, dLst, dV, dC, dTV, onB, dTAnd, dTOr, dTNot, dAnd, dOr, dNot, dIfE, dIsN, dNotN, isN, dSl, dSlF, dNoPart, dPart, dPar, dParS, dAsg, dgN, dgT, dgCons, dgNil, dFE, dIsi, dListF, dNeg, dRev, dFrz, dApp, dAppS, dIns, dExtend, dClear, dReverse, dPop, oIx, oI, oIC, oAddU, oSubI, oMulU, oMulI, oFd, oMd, oPw, oLt, oLe, oGt, oGe, oEq, oNe, getF, setF, Cl.d, getS, setS, purF_nil, purF_cons, purH, allF_nil, allF_cons, allH, rho0, endsOf, scalD, bLen, bAbs, bInt, bIntU, bTup, true_and, and_true, Option.some.injEq, exists_eq_left', decide_eq_true_eq, Bool.not_eq_true', decide_eq_false_iff_not, it_eQ0, it_eQ1, it_eP0, it_eP1, it_eS0, it_eS1, fits_eQ, fits_eP, fits_eS, eqv_eQ, eqv_eP, eqv_eS, eqv_int, eqv_bool, shp_int, shp_bool, shp_none, shp_eQ, shp_eP, shp_eS, dCont, dBreak, dXi, dSetG, dAppG, oIsB, oNotB, dTx, pJoin, pSplit, pPart, pStarts, bStr, bIntS, dFmt, dJs, ↓reduceIte, nsp_none, nsp_bool, nsp_int, nsp_str, nsp_list, nsp_tuple, nsp_eQ, nsp_eP, nsp_eS, dat_pu, dat_ow, seqD_l, seqD_t, not_true_eq_false, Bool.true_eq_false, Bool.not_not, List.length_cons, List.length_nil, mkP, mkS, fits_list, fits_tuple, isIntD, isBoolD, isListD, isStrD, isTupD, Bool.not_true, Bool.not_false, Bool.false_eq_true, it_l0, it_l1, it_l2, it_t0, it_t1, it_t2, shp_ps, shp_pt, shp_ss, shp_is, seqD_eQ, seqD_eP, seqD_eS, walkD_eP, walkD_eS, walkD_l, walkD_t] at h ⊢
      by_cases c2 : z.length ≤ 8
      · have c2' : (z.length : Int) ≤ 8 := by omega
        simp only [c2, c2', dRet, dRetF, dSetX, dCallX, dRetX, noOw, dTry, dCpy, dRaise, dRetO, dSetP, dSetS, dSetF, dSeq, dIf, dNext, dCall, dCallF, dB, dBin, dCons, dNil, dTup, dLst, dV, dC, dTV, onB, dTAnd, dTOr, dTNot, dAnd, dOr, dNot, dIfE, dIsN, dNotN, isN, dSl, dSlF, dNoPart, dPart, dPar, dParS, dAsg, dgN, dgT, dgCons, dgNil, dFE, dIsi, dListF, dNeg, dRev, dFrz, dApp, dAppS, dIns, dExtend, dClear, dReverse, dPop, oIx, oI, oIC, oAddU, oSubI, oMulU, oMulI, oFd, oMd, oPw, oLt, oLe, oGt, oGe, oEq, oNe, getF, setF, Cl.d, getS, setS, purF_nil, purF_cons, purH, allF_nil, allF_cons, allH, rho0, endsOf, scalD, bLen, bAbs, bInt, bIntU, bTup, true_and, and_true, Option.some.injEq, exists_eq_left', decide_eq_true_eq, Bool.not_eq_true', decide_eq_false_iff_not, it_eQ0, it_eQ1, it_eP0, it_eP1, it_eS0, it_eS1, fits_eQ, fits_eP, fits_eS, eqv_eQ, eqv_eP, eqv_eS, eqv_int, eqv_bool, shp_int, shp_bool, shp_none, shp_eQ, shp_eP, shp_eS, dCont, dBreak, dXi, dSetG, dAppG, oIsB, oNotB, dTx, pJoin, pSplit, pPart, pStarts, bStr, bIntS, dFmt, dJs, ↓reduceIte, nsp_none, nsp_bool, nsp_int, nsp_str, nsp_list, nsp_tuple, nsp_eQ, nsp_eP, nsp_eS, dat_pu, dat_ow, seqD_l, seqD_t, not_true_eq_false, Bool.true_eq_false, Bool.not_not, List.length_cons, List.length_nil, mkP, mkS, fits_list, fits_tuple, isIntD, isBoolD, isListD, isStrD, isTupD, Bool.not_true, Bool.not_false, Bool.false_eq_true, it_l0, it_l1, it_l2, it_t0, it_t1, it_t2, shp_ps, shp_pt, shp_ss, shp_is, seqD_eQ, seqD_eP, seqD_eS, walkD_eP, walkD_eS, walkD_l, walkD_t] at h ⊢
        by_cases c3 : z ∈ WRDS
        · simp only [c3, dRet, dRetF, dSetX, dCallX, dRetX, noOw, dTry, dCpy, dRaise, dRetO, dSetP, dSetS, dSetF, dSeq, dIf, dNext, dCall, dCallF, dB, dBin, dCons, dNil, dTup, dLst, dV, dC, dTV, onB, dTAnd, dTOr, dTNot, dAnd, dOr, dNot, dIfE, dIsN, dNotN, isN, dSl, dSlF, dNoPart, dPart, dPar, dParS, dAsg, dgN, dgT, dgCons, dgNil, dFE, dIsi, dListF, dNeg, dRev, dFrz, dApp, dAppS, dIns, dExtend, dClear, dReverse, dPop, oIx, oI, oIC, oAddU, oSubI, oMulU, oMulI, oFd, oMd, oPw, oLt, oLe, oGt, oGe, oEq, oNe, getF, setF, Cl.d, getS, setS, purF_nil, purF_cons, purH, allF_nil, allF_cons, allH, rho0, endsOf, scalD, bLen, bAbs, bInt, bIntU, bTup, true_and, and_true, Option.some.injEq, exists_eq_left', decide_eq_true_eq, Bool.not_eq_true', decide_eq_false_iff_not, it_eQ0, it_eQ1, it_eP0, it_eP1, it_eS0, it_eS1, fits_eQ, fits_eP, fits_eS, eqv_eQ, eqv_eP, eqv_eS, eqv_int, eqv_bool, shp_int, shp_bool, shp_none, shp_eQ, shp_eP, shp_eS, dCont, dBreak, dXi, dSetG, dAppG, oIsB, oNotB, dTx, pJoin, pSplit, pPart, pStarts, bStr, bIntS, dFmt, dJs, ↓reduceIte, nsp_none, nsp_bool, nsp_int, nsp_str, nsp_list, nsp_tuple, nsp_eQ, nsp_eP, nsp_eS, dat_pu, dat_ow, seqD_l, seqD_t, not_true_eq_false, Bool.true_eq_false, Bool.not_not, List.length_cons, List.length_nil, mkP, mkS, fits_list, fits_tuple, isIntD, isBoolD, isListD, isStrD, isTupD, Bool.not_true, Bool.not_false, Bool.false_eq_true, it_l0, it_l1, it_l2, it_t0, it_t1, it_t2, shp_ps, shp_pt, shp_ss, shp_is, seqD_eQ, seqD_eP, seqD_eS, walkD_eP, walkD_eS, walkD_l, walkD_t] at h ⊢
          simpa using h
        · simp only [c3, dRet, dRetF, dSetX, dCallX, dRetX, noOw, dTry, dCpy, dRaise, dRetO, dSetP, dSetS, dSetF, dSeq, dIf, dNext, dCall, dCallF, dB, dBin, dCons, dNil, dTup, dLst, dV, dC, dTV, onB, dTAnd, dTOr, dTNot, dAnd, dOr, dNot, dIfE, dIsN, dNotN, isN, dSl, dSlF, dNoPart, dPart, dPar, dParS, dAsg, dgN, dgT, dgCons, dgNil, dFE, dIsi, dListF, dNeg, dRev, dFrz, dApp, dAppS, dIns, dExtend, dClear, dReverse, dPop, oIx, oI, oIC, oAddU, oSubI, oMulU, oMulI, oFd, oMd, oPw, oLt, oLe, oGt, oGe, oEq, oNe, getF, setF, Cl.d, getS, setS, purF_nil, purF_cons, purH, allF_nil, allF_cons, allH, rho0, endsOf, scalD, bLen, bAbs, bInt, bIntU, bTup, true_and, and_true, Option.some.injEq, exists_eq_left', decide_eq_true_eq, Bool.not_eq_true', decide_eq_false_iff_not, it_eQ0, it_eQ1, it_eP0, it_eP1, it_eS0, it_eS1, fits_eQ, fits_eP, fits_eS, eqv_eQ, eqv_eP, eqv_eS, eqv_int, eqv_bool, shp_int, shp_bool, shp_none, shp_eQ, shp_eP, shp_eS, dCont, dBreak, dXi, dSetG, dAppG, oIsB, oNotB, dTx, pJoin, pSplit, pPart, pStarts, bStr, bIntS, dFmt, dJs, ↓reduceIte, nsp_none, nsp_bool, nsp_int, nsp_str, nsp_list, nsp_tuple, nsp_eQ, nsp_eP, nsp_eS, dat_pu, dat_ow, seqD_l, seqD_t, not_true_eq_false, Bool.true_eq_false, Bool.not_not, List.length_cons, List.length_nil, mkP, mkS, fits_list, fits_tuple, isIntD, isBoolD, isListD, isStrD, isTupD, Bool.not_true, Bool.not_false, Bool.false_eq_true, it_l0, it_l1, it_l2, it_t0, it_t1, it_t2, shp_ps, shp_pt, shp_ss, shp_is, seqD_eQ, seqD_eP, seqD_eS, walkD_eP, walkD_eS, walkD_l, walkD_t] at h ⊢
          refine dLc_mapM (xs := z.cps.toList) (e := fun c => .str ⟨#[c]⟩) (fun Q hQ => ?_) (fun c => .bool (decide (c ∈ LETS))) ?_ (fun s hs Ψ hΨ => ?_) ?_
          · simp only [diSeq, walkD, dRet, dRetF, dSetX, dCallX, dRetX, noOw, dTry, dCpy, dRaise, dRetO, dSetP, dSetS, dSetF, dSeq, dIf, dNext, dCall, dCallF, dB, dBin, dCons, dNil, dTup, dLst, dV, dC, dTV, onB, dTAnd, dTOr, dTNot, dAnd, dOr, dNot, dIfE, dIsN, dNotN, isN, dSl, dSlF, dNoPart, dPart, dPar, dParS, dAsg, dgN, dgT, dgCons, dgNil, dFE, dIsi, dListF, dNeg, dRev, dFrz, dApp, dAppS, dIns, dExtend, dClear, dReverse, dPop, oIx, oI, oIC, oAddU, oSubI, oMulU, oMulI, oFd, oMd, oPw, oLt, oLe, oGt, oGe, oEq, oNe, getF, setF, Cl.d, getS, setS, purF_nil, purF_cons, purH, allF_nil, allF_cons, allH, rho0, endsOf, scalD, bLen, bAbs, bInt, bIntU, bTup, true_and, and_true, Option.some.injEq, exists_eq_left', decide_eq_true_eq, Bool.not_eq_true', decide_eq_false_iff_not, it_eQ0, it_eQ1, it_eP0, it_eP1, it_eS0, it_eS1, fits_eQ, fits_eP, fits_eS, eqv_eQ, eqv_eP, eqv_eS, eqv_int, eqv_bool, shp_int, shp_bool, shp_none, shp_eQ, shp_eP, shp_eS, dCont, dBreak, dXi, dSetG, dAppG, oIsB, oNotB, dTx, pJoin, pSplit, pPart, pStarts, bStr, bIntS, dFmt, dJs, ↓reduceIte, nsp_none, nsp_bool, nsp_int, nsp_str, nsp_list, nsp_tuple, nsp_eQ, nsp_eP, nsp_eS, dat_pu, dat_ow, seqD_l, seqD_t, not_true_eq_false, Bool.true_eq_false, Bool.not_not, List.length_cons, List.length_nil, mkP, mkS, fits_list, fits_tuple, isIntD, isBoolD, isListD, isStrD, isTupD, Bool.not_true, Bool.not_false, Bool.false_eq_true, it_l0, it_l1, it_l2, it_t0, it_t1, it_t2, shp_ps, shp_pt, shp_ss, shp_is, seqD_eQ, seqD_eP, seqD_eS, walkD_eP, walkD_eS, walkD_l, walkD_t]
            exact hQ
          · have : z.cps.toList.length = z.length := by simp [Str.length]
            omega
          · simp only [dcN, wipeF, noneF, oIn, cv_LETTERS, hk3 s hs, shp_letters, lets_eq, dRet, dRetF, dSetX, dCallX, dRetX, noOw, dTry, dCpy, dRaise, dRetO, dSetP, dSetS, dSetF, dSeq, dIf, dNext, dCall, dCallF, dB, dBin, dCons, dNil, dTup, dLst, dV, dC, dTV, onB, dTAnd, dTOr, dTNot, dAnd, dOr, dNot, dIfE, dIsN, dNotN, isN, dSl, dSlF, dNoPart, dPart, dPar, dParS, dAsg, dgN, dgT, dgCons, dgNil, dFE, dIsi, dListF, dNeg, dRev, dFrz, dApp, dAppS, dIns, dExtend, dClear, dReverse, dPop, oIx, oI, oIC, oAddU, oSubI, oMulU, oMulI, oFd, oMd, oPw, oLt, oLe, oGt, oGe, oEq, oNe, getF, setF, Cl.d, getS, setS, purF_nil, purF_cons, purH, allF_nil, allF_cons, allH, rho0, endsOf, scalD, bLen, bAbs, bInt, bIntU, bTup, true_and, and_true, Option.some.injEq, exists_eq_left', decide_eq_true_eq, Bool.not_eq_true', decide_eq_false_iff_not, it_eQ0, it_eQ1, it_eP0, it_eP1, it_eS0, it_eS1, fits_eQ, fits_eP, fits_eS, eqv_eQ, eqv_eP, eqv_eS, eqv_int, eqv_bool, shp_int, shp_bool, shp_none, shp_eQ, shp_eP, shp_eS, dCont, dBreak, dXi, dSetG, dAppG, oIsB, oNotB, dTx, pJoin, pSplit, pPart, pStarts, bStr, bIntS, dFmt, dJs, ↓reduceIte, nsp_none, nsp_bool, nsp_int, nsp_str, nsp_list, nsp_tuple, nsp_eQ, nsp_eP, nsp_eS, dat_pu, dat_ow, seqD_l, seqD_t, not_true_eq_false, Bool.true_eq_false, Bool.not_not, List.length_cons, List.length_nil, mkP, mkS, fits_list, fits_tuple, isIntD, isBoolD, isListD, isStrD, isTupD, Bool.not_true, Bool.not_false, Bool.false_eq_true, it_l0, it_l1, it_l2, it_t0, it_t1, it_t2, shp_ps, shp_pt, shp_ss, shp_is, seqD_eQ, seqD_eP, seqD_eS, walkD_eP, walkD_eS, walkD_l, walkD_t]
            exact ⟨rfl, hΨ⟩
          · refine ⟨z.cps.toList.map fun c => decide (c ∈ LETS), by rw [List.map_map]; rfl, ?_⟩
            refine all_lets z (fun b => Φ (.pu (.bool b))) ?_
            simpa using h
      · have c2' : ¬ (z.length : Int) ≤ 8 := by omega
        simp only [c2, c2', dRet, dRetF, dSetX, dCallX, dRetX, noOw, dTry, dCpy, dRaise, dRetO, dSetP, dSetS, dSetF, dSeq, dIf, dNext, dCall, dCallF, dB, dBin, dCons, dNil, dTup, dLst, dV, dC, dTV, onB, dTAnd, dTOr, dTNot, dAnd, dOr, dNot, dIfE, dIsN, dNotN, isN, dSl, dSlF, dNoPart, dPart, dPar, dParS, dAsg, dgN, dgT, dgCons, dgNil, dFE, dIsi, dListF, dNeg, dRev, dFrz, dApp, dAppS, dIns, dExtend, dClear, dReverse, dPop, oIx, oI, oIC, oAddU, oSubI, oMulU, oMulI, oFd, oMd, oPw, oLt, oLe, oGt, oGe, oEq, oNe, getF, setF, Cl.d, getS, setS, purF_nil, purF_cons, purH, allF_nil, allF_cons, allH, rho0, endsOf, scalD, bLen, bAbs, bInt, bIntU, bTup, true_and, and_true, Option.some.injEq, exists_eq_left', decide_eq_true_eq, Bool.not_eq_true', decide_eq_false_iff_not, it_eQ0, it_eQ1, it_eP0, it_eP1, it_eS0, it_eS1, fits_eQ, fits_eP, fits_eS, eqv_eQ, eqv_eP, eqv_eS, eqv_int, eqv_bool, shp_int, shp_bool, shp_none, shp_eQ, shp_eP, shp_eS, dCont, dBreak, dXi, dSetG, dAppG, oIsB, oNotB, dTx, pJoin, pSplit, pPart, pStarts, bStr, bIntS, dFmt, dJs, ↓reduceIte, nsp_none, nsp_bool, nsp_int, nsp_str, nsp_list, nsp_tuple, nsp_eQ, nsp_eP, nsp_eS, dat_pu, dat_ow, seqD_l, seqD_t, not_true_eq_false, Bool.true_eq_false, Bool.not_not, List.length_cons, List.length_nil, mkP, mkS, fits_list, fits_tuple, isIntD, isBoolD, isListD, isStrD, isTupD, Bool.not_true, Bool.not_false, Bool.false_eq_true, it_l0, it_l1, it_l2, it_t0, it_t1, it_t2, shp_ps, shp_pt, shp_ss, shp_is, seqD_eQ, seqD_eP, seqD_eS, walkD_eP, walkD_eS, walkD_l, walkD_t] at h ⊢
        simpa using h
    · have c1' : ¬ (1 : Int) ≤ z.length := by omega
      simp only [c1, c1', dRet, dRetF, dSetX, dCallX, dRetX, noOw, dTry, dCpy, dRaise, dRetO, dSetP, dSetS, dSetF, dSeq, dIf, dNext, dCall, dCallF, dB, dBin, dCons, dNil, dTup, dLst, dV, dC, dTV, onB, dTAnd, dTOr, dTNot, dAnd, dOr, dNot, dIfE, dIsN, dNotN, isN, dSl, dSlF, dNoPart, dPart, dPar, dParS, dAsg, dgN, dgT, dgCons, dgNil, dFE, dIsi, dListF, dNeg, dRev, dFrz, dApp, dAppS, dIns, dExtend, dClear, dReverse, dPop, oIx, oI, oIC, oAddU, oSubI, oMulU, oMulI, oFd, oMd, oPw, oLt, oLe, oGt, oGe, oEq, oNe, getF, setF, Cl.d, getS, setS, purF_nil, purF_cons, purH, allF_nil, allF_cons, allH, rho0, endsOf, scalD, bLen, bAbs, bInt, bIntU, bTup, true_and, and_true, Option.some.injEq, exists_eq_left', decide_eq_true_eq, Bool.not_eq_true', decide_eq_false_iff_not, it_eQ0, it_eQ1, it_eP0, it_eP1, it_eS0, it_eS1, fits_eQ, fits_eP, fits_eS, eqv_eQ, eqv_eP, eqv_eS, eqv_int, eqv_bool, shp_int, shp_bool, shp_none, shp_eQ, shp_eP, shp_eS, dCont, dBreak, dXi, dSetG, dAppG, oIsB, oNotB, dTx, pJoin, pSplit, pPart, pStarts, bStr, bIntS, dFmt, dJs, ↓reduceIte, nsp_none, nsp_bool, nsp_int, nsp_str, nsp_list, nsp_tuple, nsp_eQ, nsp_eP, nsp_eS, dat_pu, dat_ow, seqD_l, seqD_t, not_true_eq_false, Bool.true_eq_false, Bool.not_not, List.length_cons, List.length_nil, mkP, mkS, fits_list, fits_tuple, isIntD, isBoolD, isListD, isStrD, isTupD, Bool.not_true, Bool.not_false, Bool.false_eq_true, it_l0, it_l1, it_l2, it_t0, it_t1, it_t2, shp_ps, shp_pt, shp_ss, shp_is, seqD_eQ, seqD_eP, seqD_eS, walkD_eP, walkD_eS, walkD_l, walkD_t] at h ⊢
      simpa using h
  | dict kv =>
    refine ⟨hs, ?_⟩
    simpa [isStrD, gName] using h
  | _ => simpa [isStrD, gName, spec] using h
theorem rd_is_rule (ds : List Dt) (Φ : Slot → Prop) (Ξ : XD → Prop) (h : sp_is_rule ds Φ Ξ) : d_is_rule (endsOf Φ Ξ) (rho0 N_is_rule ds) := by
  obtain ⟨d, rfl, ho, h⟩ := h
  have hs := ok_spec ho
  simp only [d_is_rule, N_is_rule, dRet, dRetF, dSetX, dCallX, dRetX, noOw, dTry, dCpy, dRaise, dRetO, dSetP, dSetS, dSetF, dSeq, dIf, dNext, dCall, dCallF, dB, dBin, dCons, dNil, dTup, dLst, dV, dC, dTV, onB, dTAnd, dTOr, dTNot, dAnd, dOr, dNot, dIfE, dIsN, dNotN, isN, dSl, dSlF, dNoPart, dPart, dPar, dParS, dAsg, dgN, dgT, dgCons, dgNil, dFE, dIsi, dListF, dNeg, dRev, dFrz, dApp, dAppS, dIns, dExtend, dClear, dReverse, dPop, oIx, oI, oIC, oAddU, oSubI, oMulU, oMulI, oFd, oMd, oPw, oLt, oLe, oGt, oGe, oEq, oNe, getF, setF, Cl.d, getS, setS, purF_nil, purF_cons, purH, allF_nil, allF_cons, allH, rho0, endsOf, scalD, bLen, bAbs, bInt, bIntU, bTup, true_and, and_true, Option.some.injEq, exists_eq_left', decide_eq_true_eq, Bool.not_eq_true', decide_eq_false_iff_not, it_eQ0, it_eQ1, it_eP0, it_eP1, it_eS0, it_eS1, fits_eQ, fits_eP, fits_eS, eqv_eQ, eqv_eP, eqv_eS, eqv_int, eqv_bool, shp_int, shp_bool, shp_none, shp_eQ, shp_eP, shp_eS, dCont, dBreak, dXi, dSetG, dAppG, oIsB, oNotB, dTx, pJoin, pSplit, pPart, pStarts, bStr, bIntS, dFmt, dJs, ↓reduceIte, nsp_none, nsp_bool, nsp_int, nsp_str, nsp_list, nsp_tuple, nsp_eQ, nsp_eP, nsp_eS, dat_pu, dat_ow, seqD_l, seqD_t, not_true_eq_false, Bool.true_eq_false, Bool.not_not, List.length_cons, List.length_nil, mkP, mkS, fits_list, fits_tuple, isIntD, isBoolD, isListD, isStrD, isTupD, Bool.not_true, Bool.not_false, Bool.false_eq_true, it_l0, it_l1, it_l2, it_t0, it_t1, it_t2, shp_ps, shp_pt, shp_ss, shp_is, seqD_eQ, seqD_eP, seqD_eS, walkD_eP, walkD_eS, walkD_l, walkD_t]
  cases d with
  | str z =>
    simp only [okD] at ho
    simp only [oIn, cv_RULES, shp_str ho.2, shp_rules, any_str, gRule, dRet, dRetF, dSetX, dCallX, dRetX, noOw, dTry, dCpy, dRaise, dRetO, dSetP, dSetS, dSetF, dSeq, dIf, dNext, dCall, dCallF, dB, dBin, dCons, dNil, dTup, dLst, dV, dC, dTV, onB, dTAnd, dTOr, dTNot, dAnd, dOr, dNot, dIfE, dIsN, dNotN, isN, dSl, dSlF, dNoPart, dPart, dPar, dParS, dAsg, dgN, dgT, dgCons, dgNil, dFE, dIsi, dListF, dNeg, dRev, dFrz, dApp, dAppS, dIns, dExtend, dClear, dReverse, dPop, oIx, oI, oIC, oAddU, oSubI, oMulU, oMulI, oFd, oMd, oPw, oLt, oLe, oGt, oGe, oEq, oNe, getF, setF, Cl.d, getS, setS, purF_nil, purF_cons, purH, allF_nil, allF_cons, allH, rho0, endsOf, scalD, bLen, bAbs, bInt, bIntU, bTup, true_and, and_true, Option.some.injEq, exists_eq_left', decide_eq_true_eq, Bool.not_eq_true', decide_eq_false_iff_not, it_eQ0, it_eQ1, it_eP0, it_eP1, it_eS0, it_eS1, fits_eQ, fits_eP, fits_eS, eqv_eQ, eqv_eP, eqv_eS, eqv_int, eqv_bool, shp_int, shp_bool, shp_none, shp_eQ, shp_eP, shp_eS, dCont, dBreak, dXi, dSetG, dAppG, oIsB, oNotB, dTx, pJoin, pSplit, pPart, pStarts, bStr, bIntS, dFmt, dJs, ↓reduceIte, nsp_none, nsp_bool, nsp_int, nsp_str, nsp_list, nsp_tuple, nsp_eQ, nsp_eP, nsp_eS, dat_pu, dat_ow, seqD_l, seqD_t, not_true_eq_false, Bool.true_eq_false, Bool.not_not, List.length_cons, List.length_nil, mkP, mkS, fits_list, fits_tuple, isIntD, isBoolD, isListD, isStrD, isTupD, Bool.not_true, Bool.not_false, Bool.false_eq_true, it_l0, it_l1, it_l2, it_t0, it_t1, it_t2, shp_ps, shp_pt, shp_ss, shp_is, seqD_eQ, seqD_eP, seqD_eS, walkD_eP, walkD_eS, walkD_l, walkD_t] at h ⊢
    exact h
  | dict kv =>
    refine ⟨hs, ?_⟩
    simpa [isStrD, gRule] using h
  | _ => simpa [isStrD, gRule, spec] using h
theorem gcd_loop {a b : Int} (hb : 1 ≤ b) {E : DEnds} {s : Slot} (h : ∀ x : Int, x.natAbs = Int.gcd a b → E.nx [s, .pu (.int x), .pu (.int 0)]) : dWhile (dTV (dBin oNe (dV 2) (dC (.int 0)))) (dPar 1 2 (dCons (dV 2) (dCons (dBin oMd (dV 1) (dV 2)) dNil))) E [s, .pu (.int a), .pu (.int b)] := by
  have hs : ∀ d : Dt, getF (purF [s, .pu d, .pu d]) 1 = some d := fun d => by cases s <;> rfl
  have p1 : ∀ d e : Dt, getF (purF [s, .pu d, .pu e]) 1 = some d := fun d e => by cases s <;> rfl
  have p2 : ∀ d e : Dt, getF (purF [s, .pu d, .pu e]) 2 = some e := fun d e => by cases s <;> rfl
  have a2 : ∀ d e : Dt, getF (allF [s, .pu d, .pu e]) 2 = some e := fun d e => by cases s <;> rfl
  refine ⟨fun m ρ => ∃ (x : Int) (l : Nat), ρ = [s, .pu (.int x), .pu (.int l)] ∧ m = l ∧ Int.gcd x l = Int.gcd a b, ⟨_, a, b.toNat, ?_, rfl, ?_⟩, ?_⟩
  · rw [Int.toNat_of_nonneg (by omega)]
  · rw [Int.toNat_of_nonneg (by omega)]
  · rintro m ρ' ⟨x, l, rfl, rfl, hg⟩
    simp only [dTV, dBin, dV, dC, a2, oNe, shp_int, eqv_int, onB, true_and]
    by_cases c : (m : Int) = 0
    · have e : m = 0 := by omega
      subst e
      rw [show decide (((0 : Nat) : Int) = 0) = true from rfl]
      simp only [Bool.not_true, Bool.false_eq_true, if_false]
      refine h x ?_
      rw [← hg, show ((0 : Nat) : Int) = 0 from rfl, Int.gcd_zero_right]
    · rw [decide_eq_false c]
      simp only [Bool.not_false, if_true, dPar, dCons, dNil, dV, dBin, p1, p2, oMd, oIC]
      have h0 : (0 : Int) ≤ x.fmod m := Int.fmod_nonneg_of_pos _ (by omega)
      have h2 : x.fmod m < m := Int.fmod_lt_of_pos _ (by omega)
      refine ⟨c, (x.fmod m).toNat, by omega, m, (x.fmod m).toNat, ?_, rfl, ?_⟩
      · rw [Int.toNat_of_nonneg h0]; rfl
      · rw [Int.toNat_of_nonneg h0, gcd_step _ _ (by omega)]
        exact hg
theorem rd_is_number (ds : List Dt) (Φ : Slot → Prop) (Ξ : XD → Prop) (h : sp_is_number ds Φ Ξ) : d_is_number (endsOf Φ Ξ) (rho0 N_is_number ds) := by
  obtain ⟨d, rfl, ho, h⟩ := h
  have row : ∀ Ψ : Slot → Prop, Ψ (.pu (.bool (rowD 2 d))) → sp_is_row [d, .int 2] Ψ (fun _ => False) := fun Ψ hΨ => ⟨d, 2, rfl, ho, hΨ⟩
  show dSeq _ _ _ [.pu d, .un, .un]
  by_cases c : rowD 2 d = true
  · obtain ⟨x, y, rfl⟩ : ∃ x y, d = .tuple [x, y] := by
      cases d with
      | tuple xs =>
        match xs, c with
        | [x, y], _ => exact ⟨x, y, rfl⟩
        | [], c => simp [rowD] at c
        | [_], c => simp [rowD] at c
        | _ :: _ :: _ :: _, c => simp [rowD] at c
      | _ => cases c
    obtain ⟨_, hm⟩ := okT ho
    have sx := ok_spec (hm x (by simp))
    have sy := ok_spec (hm y (by simp))
    have bad : (whD x = false ∨ whD y = false ∨ ∃ j : Int, y = .int j ∧ j < 1) → Φ (.pu (.bool false)) := fun z => by
      have e : gNum (.tuple [x, y]) = false := by
        rcases z with z | z | ⟨j, rfl, z⟩
        · cases x <;> first | rfl | cases z
        · cases x <;> cases y <;> first | rfl | cases z
        · cases x <;> first | rfl | (simp only [gNum]; rw [decide_eq_false (by omega)]; rfl)
      rw [e] at h
      exact h
    refine seq_cut (fun ρ => ρ = [.pu (.tuple [x, y]), .un, .un] ∧ ∃ i j : Int, x = .int i ∧ y = .int j ∧ 1 ≤ j) (fun E hr hE => ?_) ?_
    · simp only [dRet, dRetF, dSetX, dCallX, dRetX, noOw, dTry, dCpy, dRaise, dRetO, dSetP, dSetS, dSetF, dSeq, dIf, dNext, dCall, dCallF, dB, dBin, dCons, dNil, dTup, dLst, dV, dC, dTV, onB, dTAnd, dTOr, dTNot, dAnd, dOr, dNot, dIfE, dIsN, dNotN, isN, dSl, dSlF, dNoPart, dPart, dPar, dParS, dAsg, dgN, dgT, dgCons, dgNil, dFE, dIsi, dListF, dNeg, dRev, dFrz, dApp, dAppS, dIns, dExtend, dClear, dReverse, dPop, oIx, oI, oIC, oAddU, oSubI, oMulU, oMulI, oFd, oMd, oPw, oLt, oLe, oGt, oGe, oEq, oNe, getF, setF, Cl.d, getS, setS, purF_nil, purF_cons, purH, allF_nil, allF_cons, allH, rho0, endsOf, scalD, bLen, bAbs, bInt, bIntU, bTup, true_and, and_true, Option.some.injEq, exists_eq_left', decide_eq_true_eq, Bool.not_eq_true', decide_eq_false_iff_not, it_eQ0, it_eQ1, it_eP0, it_eP1, it_eS0, it_eS1, fits_eQ, fits_eP, fits_eS, eqv_eQ, eqv_eP, eqv_eS, eqv_int, eqv_bool, shp_int, shp_bool, shp_none, shp_eQ, shp_eP, shp_eS, dCont, dBreak, dXi, dSetG, dAppG, oIsB, oNotB, dTx, pJoin, pSplit, pPart, pStarts, bStr, bIntS, dFmt, dJs, ↓reduceIte, nsp_none, nsp_bool, nsp_int, nsp_str, nsp_list, nsp_tuple, nsp_eQ, nsp_eP, nsp_eS, dat_pu, dat_ow, seqD_l, seqD_t, not_true_eq_false, Bool.true_eq_false, Bool.not_not, List.length_cons, List.length_nil, mkP, mkS, fits_list, fits_tuple, isIntD, isBoolD, isListD, isStrD, isTupD, Bool.not_true, Bool.not_false, Bool.false_eq_true, it_l0, it_l1, it_l2, it_t0, it_t1, it_t2, shp_ps, shp_pt, shp_ss, shp_is, seqD_eQ, seqD_eP, seqD_eS, walkD_eP, walkD_eS, walkD_l, walkD_t]
      refine row _ ?_
      simp only [c, dRet, dRetF, dSetX, dCallX, dRetX, noOw, dTry, dCpy, dRaise, dRetO, dSetP, dSetS, dSetF, dSeq, dIf, dNext, dCall, dCallF, dB, dBin, dCons, dNil, dTup, dLst, dV, dC, dTV, onB, dTAnd, dTOr, dTNot, dAnd, dOr, dNot, dIfE, dIsN, dNotN, isN, dSl, dSlF, dNoPart, dPart, dPar, dParS, dAsg, dgN, dgT, dgCons, dgNil, dFE, dIsi, dListF, dNeg, dRev, dFrz, dApp, dAppS, dIns, dExtend, dClear, dReverse, dPop, oIx, oI, oIC, oAddU, oSubI, oMulU, oMulI, oFd, oMd, oPw, oLt, oLe, oGt, oGe, oEq, oNe, getF, setF, Cl.d, getS, setS, purF_nil, purF_cons, purH, allF_nil, allF_cons, allH, rho0, endsOf, scalD, bLen, bAbs, bInt, bIntU, bTup, true_and, and_true, Option.some.injEq, exists_eq_left', decide_eq_true_eq, Bool.not_eq_true', decide_eq_false_iff_not, it_eQ0, it_eQ1, it_eP0, it_eP1, it_eS0, it_eS1, fits_eQ, fits_eP, fits_eS, eqv_eQ, eqv_eP, eqv_eS, eqv_int, eqv_bool, shp_int, shp_bool, shp_none, shp_eQ, shp_eP, shp_eS, dCont, dBreak, dXi, dSetG, dAppG, oIsB, oNotB, dTx, pJoin, pSplit, pPart, pStarts, bStr, bIntS, dFmt, dJs, ↓reduceIte, nsp_none, nsp_bool, nsp_int, nsp_str, nsp_list, nsp_tuple, nsp_eQ, nsp_eP, nsp_eS, dat_pu, dat_ow, seqD_l, seqD_t, not_true_eq_false, Bool.true_eq_false, Bool.not_not, List.length_cons, List.length_nil, mkP, mkS, fits_list, fits_tuple, isIntD, isBoolD, isListD, isStrD, isTupD, Bool.not_true, Bool.not_false, Bool.false_eq_true, it_l0, it_l1, it_l2, it_t0, it_t1, it_t2, shp_ps, shp_pt, shp_ss, shp_is, seqD_eQ, seqD_eP, seqD_eS, walkD_eP, walkD_eS, walkD_l, walkD_t]
      refine ⟨x, rfl, sx, ?_⟩
      cases c1 : whD x with
      | false => simp only [dRet, dRetF, dSetX, dCallX, dRetX, noOw, dTry, dCpy, dRaise, dRetO, dSetP, dSetS, dSetF, dSeq, dIf, dNext, dCall, dCallF, dB, dBin, dCons, dNil, dTup, dLst, dV, dC, dTV, onB, dTAnd, dTOr, dTNot, dAnd, dOr, dNot, dIfE, dIsN, dNotN, isN, dSl, dSlF, dNoPart, dPart, dPar, dParS, dAsg, dgN, dgT, dgCons, dgNil, dFE, dIsi, dListF, dNeg, dRev, dFrz, dApp, dAppS, dIns, dExtend, dClear, dReverse, dPop, oIx, oI, oIC, oAddU, oSubI, oMulU, oMulI, oFd, oMd, oPw, oLt, oLe, oGt, oGe, oEq, oNe, getF, setF, Cl.d, getS, setS, purF_nil, purF_cons, purH, allF_nil, allF_cons, allH, rho0, endsOf, scalD, bLen, bAbs, bInt, bIntU, bTup, true_and, and_true, Option.some.injEq, exists_eq_left', decide_eq_true_eq, Bool.not_eq_true', decide_eq_false_iff_not, it_eQ0, it_eQ1, it_eP0, it_eP1, it_eS0, it_eS1, fits_eQ, fits_eP, fits_eS, eqv_eQ, eqv_eP, eqv_eS, eqv_int, eqv_bool, shp_int, shp_bool, shp_none, shp_eQ, shp_eP, shp_eS, dCont, dBreak, dXi, dSetG, dAppG, oIsB, oNotB, dTx, pJoin, pSplit, pPart, pStarts, bStr, bIntS, dFmt, dJs, ↓reduceIte, nsp_none, nsp_bool, nsp_int, nsp_str, nsp_list, nsp_tuple, nsp_eQ, nsp_eP, nsp_eS, dat_pu, dat_ow, seqD_l, seqD_t, not_true_eq_false, Bool.true_eq_false, Bool.not_not, List.length_cons, List.length_nil, mkP, mkS, fits_list, fits_tuple, isIntD, isBoolD, isListD, isStrD, isTupD, Bool.not_true, Bool.not_false, Bool.false_eq_true, it_l0, it_l1, it_l2, it_t0, it_t1, it_t2, shp_ps, shp_pt, shp_ss, shp_is, seqD_eQ, seqD_eP, seqD_eS, walkD_eP, walkD_eS, walkD_l, walkD_t]; rw [hr]; exact bad (.inl c1)
      | true =>
        simp only [dRet, dRetF, dSetX, dCallX, dRetX, noOw, dTry, dCpy, dRaise, dRetO, dSetP, dSetS, dSetF, dSeq, dIf, dNext, dCall, dCallF, dB, dBin, dCons, dNil, dTup, dLst, dV, dC, dTV, onB, dTAnd, dTOr, dTNot, dAnd, dOr, dNot, dIfE, dIsN, dNotN, isN, dSl, dSlF, dNoPart, dPart, dPar, dParS, dAsg, dgN, dgT, dgCons, dgNil, dFE, dIsi, dListF, dNeg, dRev, dFrz, dApp, dAppS, dIns, dExtend, dClear, dReverse, dPop, oIx, oI, oIC, oAddU, oSubI, oMulU, oMulI, oFd, oMd, oPw, oLt, oLe, oGt, oGe, oEq, oNe, getF, setF, Cl.d, getS, setS, purF_nil, purF_cons, purH, allF_nil, allF_cons, allH, rho0, endsOf, scalD, bLen, bAbs, bInt, bIntU, bTup, true_and, and_true, Option.some.injEq, exists_eq_left', decide_eq_true_eq, Bool.not_eq_true', decide_eq_false_iff_not, it_eQ0, it_eQ1, it_eP0, it_eP1, it_eS0, it_eS1, fits_eQ, fits_eP, fits_eS, eqv_eQ, eqv_eP, eqv_eS, eqv_int, eqv_bool, shp_int, shp_bool, shp_none, shp_eQ, shp_eP, shp_eS, dCont, dBreak, dXi, dSetG, dAppG, oIsB, oNotB, dTx, pJoin, pSplit, pPart, pStarts, bStr, bIntS, dFmt, dJs, ↓reduceIte, nsp_none, nsp_bool, nsp_int, nsp_str, nsp_list, nsp_tuple, nsp_eQ, nsp_eP, nsp_eS, dat_pu, dat_ow, seqD_l, seqD_t, not_true_eq_false, Bool.true_eq_false, Bool.not_not, List.length_cons, List.length_nil, mkP, mkS, fits_list, fits_tuple, isIntD, isBoolD, isListD, isStrD, isTupD, Bool.not_true, Bool.not_false, Bool.false_eq_true, it_l0, it_l1, it_l2, it_t0, it_t1, it_t2, shp_ps, shp_pt, shp_ss, shp_is, seqD_eQ, seqD_eP, seqD_eS, walkD_eP, walkD_eS, walkD_l, walkD_t]
        refine ⟨y, rfl, sy, ?_⟩
        cases c2 : whD y with
        | false => simp only [dRet, dRetF, dSetX, dCallX, dRetX, noOw, dTry, dCpy, dRaise, dRetO, dSetP, dSetS, dSetF, dSeq, dIf, dNext, dCall, dCallF, dB, dBin, dCons, dNil, dTup, dLst, dV, dC, dTV, onB, dTAnd, dTOr, dTNot, dAnd, dOr, dNot, dIfE, dIsN, dNotN, isN, dSl, dSlF, dNoPart, dPart, dPar, dParS, dAsg, dgN, dgT, dgCons, dgNil, dFE, dIsi, dListF, dNeg, dRev, dFrz, dApp, dAppS, dIns, dExtend, dClear, dReverse, dPop, oIx, oI, oIC, oAddU, oSubI, oMulU, oMulI, oFd, oMd, oPw, oLt, oLe, oGt, oGe, oEq, oNe, getF, setF, Cl.d, getS, setS, purF_nil, purF_cons, purH, allF_nil, allF_cons, allH, rho0, endsOf, scalD, bLen, bAbs, bInt, bIntU, bTup, true_and, and_true, Option.some.injEq, exists_eq_left', decide_eq_true_eq, Bool.not_eq_true', decide_eq_false_iff_not, it_eQ0, it_eQ1, it_eP0, it_eP1, it_eS0, it_eS1, fits_eQ, fits_eP, fits_eS, eqv_eQ, eqv_eP, eqv_eS, eqv_int, eqv_bool, shp_int, shp_bool, shp_none, shp_eQ, shp_eP, shp_eS, dCont, dBreak, dXi, dSetG, dAppG, oIsB, oNotB, dTx, pJoin, pSplit, pPart, pStarts, bStr, bIntS, dFmt, dJs, ↓reduceIte, nsp_none, nsp_bool, nsp_int, nsp_str, nsp_list, nsp_tuple, nsp_eQ, nsp_eP, nsp_eS, dat_pu, dat_ow, seqD_l, seqD_t, not_true_eq_false, Bool.true_eq_false, Bool.not_not, List.length_cons, List.length_nil, mkP, mkS, fits_list, fits_tuple, isIntD, isBoolD, isListD, isStrD, isTupD, Bool.not_true, Bool.not_false, Bool.false_eq_true, it_l0, it_l1, it_l2, it_t0, it_t1, it_t2, shp_ps, shp_pt, shp_ss, shp_is, seqD_eQ, seqD_eP, seqD_eS, walkD_eP, walkD_eS, walkD_l, walkD_t]; rw [hr]; exact bad (.inr (.inl c2))
        | true =>
          obtain ⟨i, rfl⟩ : ∃ i, x = .int i := by cases x <;> first | exact ⟨_, rfl⟩ | cases c1
          obtain ⟨j, rfl⟩ : ∃ j, y = .int j := by cases y <;> first | exact ⟨_, rfl⟩ | cases c2
          simp only [dRet, dRetF, dSetX, dCallX, dRetX, noOw, dTry, dCpy, dRaise, dRetO, dSetP, dSetS, dSetF, dSeq, dIf, dNext, dCall, dCallF, dB, dBin, dCons, dNil, dTup, dLst, dV, dC, dTV, onB, dTAnd, dTOr, dTNot, dAnd, dOr, dNot, dIfE, dIsN, dNotN, isN, dSl, dSlF, dNoPart, dPart, dPar, dParS, dAsg, dgN, dgT, dgCons, dgNil, dFE, dIsi, dListF, dNeg, dRev, dFrz, dApp, dAppS, dIns, dExtend, dClear, dReverse, dPop, oIx, oI, oIC, oAddU, oSubI, oMulU, oMulI, oFd, oMd, oPw, oLt, oLe, oGt, oGe, oEq, oNe, getF, setF, Cl.d, getS, setS, purF_nil, purF_cons, purH, allF_nil, allF_cons, allH, rho0, endsOf, scalD, bLen, bAbs, bInt, bIntU, bTup, true_and, and_true, Option.some.injEq, exists_eq_left', decide_eq_true_eq, Bool.not_eq_true', decide_eq_false_iff_not, it_eQ0, it_eQ1, it_eP0, it_eP1, it_eS0, it_eS1, fits_eQ, fits_eP, fits_eS, eqv_eQ, eqv_eP, eqv_eS, eqv_int, eqv_bool, shp_int, shp_bool, shp_none, shp_eQ, shp_eP, shp_eS, dCont, dBreak, dXi, dSetG, dAppG, oIsB, oNotB, dTx, pJoin, pSplit, pPart, pStarts, bStr, bIntS, dFmt, dJs, ↓reduceIte, nsp_none, nsp_bool, nsp_int, nsp_str, nsp_list, nsp_tuple, nsp_eQ, nsp_eP, nsp_eS, dat_pu, dat_ow, seqD_l, seqD_t, not_true_eq_false, Bool.true_eq_false, Bool.not_not, List.length_cons, List.length_nil, mkP, mkS, fits_list, fits_tuple, isIntD, isBoolD, isListD, isStrD, isTupD, Bool.not_true, Bool.not_false, Bool.false_eq_true, it_l0, it_l1, it_l2, it_t0, it_t1, it_t2, shp_ps, shp_pt, shp_ss, shp_is, seqD_eQ, seqD_eP, seqD_eS, walkD_eP, walkD_eS, walkD_l, walkD_t]
          by_cases c3 : j < 1
          · refine ite_yes c3 ?_
            rw [hr]; exact bad (.inr (.inr ⟨j, rfl, c3⟩))
          · refine ite_no c3 ?_
            exact hE _ ⟨rfl, i, j, rfl, rfl, by omega⟩
    rintro _ ⟨rfl, i, j, rfl, rfl, hj⟩
    refine seq_cut (fun ρ => ρ = [.pu (.tuple [.int i, .int j]), .pu (.int i), .pu (.int j)]) (fun E hr hE => ?_) ?_
    · simp only [dRet, dRetF, dSetX, dCallX, dRetX, noOw, dTry, dCpy, dRaise, dRetO, dSetP, dSetS, dSetF, dSeq, dIf, dNext, dCall, dCallF, dB, dBin, dCons, dNil, dTup, dLst, dV, dC, dTV, onB, dTAnd, dTOr, dTNot, dAnd, dOr, dNot, dIfE, dIsN, dNotN, isN, dSl, dSlF, dNoPart, dPart, dPar, dParS, dAsg, dgN, dgT, dgCons, dgNil, dFE, dIsi, dListF, dNeg, dRev, dFrz, dApp, dAppS, dIns, dExtend, dClear, dReverse, dPop, oIx, oI, oIC, oAddU, oSubI, oMulU, oMulI, oFd, oMd, oPw, oLt, oLe, oGt, oGe, oEq, oNe, getF, setF, Cl.d, getS, setS, purF_nil, purF_cons, purH, allF_nil, allF_cons, allH, rho0, endsOf, scalD, bLen, bAbs, bInt, bIntU, bTup, true_and, and_true, Option.some.injEq, exists_eq_left', decide_eq_true_eq, Bool.not_eq_true', decide_eq_false_iff_not, it_eQ0, it_eQ1, it_eP0, it_eP1, it_eS0, it_eS1, fits_eQ, fits_eP, fits_eS, eqv_eQ, eqv_eP, eqv_eS, eqv_int, eqv_bool, shp_int, shp_bool, shp_none, shp_eQ, shp_eP, shp_eS, dCont, dBreak, dXi, dSetG, dAppG, oIsB, oNotB, dTx, pJoin, pSplit, pPart, pStarts, bStr, bIntS, dFmt, dJs, ↓reduceIte, nsp_none, nsp_bool, nsp_int, nsp_str, nsp_list, nsp_tuple, nsp_eQ, nsp_eP, nsp_eS, dat_pu, dat_ow, seqD_l, seqD_t, not_true_eq_false, Bool.true_eq_false, Bool.not_not, List.length_cons, List.length_nil, mkP, mkS, fits_list, fits_tuple, isIntD, isBoolD, isListD, isStrD, isTupD, Bool.not_true, Bool.not_false, Bool.false_eq_true, it_l0, it_l1, it_l2, it_t0, it_t1, it_t2, shp_ps, shp_pt, shp_ss, shp_is, seqD_eQ, seqD_eP, seqD_eS, walkD_eP, walkD_eS, walkD_l, walkD_t]
      exact hE _ rfl
    rintro _ rfl
    refine gcd_loop hj fun x hx => ?_
    simp only [dRet, dRetF, dSetX, dCallX, dRetX, noOw, dTry, dCpy, dRaise, dRetO, dSetP, dSetS, dSetF, dSeq, dIf, dNext, dCall, dCallF, dB, dBin, dCons, dNil, dTup, dLst, dV, dC, dTV, onB, dTAnd, dTOr, dTNot, dAnd, dOr, dNot, dIfE, dIsN, dNotN, isN, dSl, dSlF, dNoPart, dPart, dPar, dParS, dAsg, dgN, dgT, dgCons, dgNil, dFE, dIsi, dListF, dNeg, dRev, dFrz, dApp, dAppS, dIns, dExtend, dClear, dReverse, dPop, oIx, oI, oIC, oAddU, oSubI, oMulU, oMulI, oFd, oMd, oPw, oLt, oLe, oGt, oGe, oEq, oNe, getF, setF, Cl.d, getS, setS, purF_nil, purF_cons, purH, allF_nil, allF_cons, allH, rho0, endsOf, scalD, bLen, bAbs, bInt, bIntU, bTup, true_and, and_true, Option.some.injEq, exists_eq_left', decide_eq_true_eq, Bool.not_eq_true', decide_eq_false_iff_not, it_eQ0, it_eQ1, it_eP0, it_eP1, it_eS0, it_eS1, fits_eQ, fits_eP, fits_eS, eqv_eQ, eqv_eP, eqv_eS, eqv_int, eqv_bool, shp_int, shp_bool, shp_none, shp_eQ, shp_eP, shp_eS, dCont, dBreak, dXi, dSetG, dAppG, oIsB, oNotB, dTx, pJoin, pSplit, pPart, pStarts, bStr, bIntS, dFmt, dJs, ↓reduceIte, nsp_none, nsp_bool, nsp_int, nsp_str, nsp_list, nsp_tuple, nsp_eQ, nsp_eP, nsp_eS, dat_pu, dat_ow, seqD_l, seqD_t, not_true_eq_false, Bool.true_eq_false, Bool.not_not, List.length_cons, List.length_nil, mkP, mkS, fits_list, fits_tuple, isIntD, isBoolD, isListD, isStrD, isTupD, Bool.not_true, Bool.not_false, Bool.false_eq_true, it_l0, it_l1, it_l2, it_t0, it_t1, it_t2, shp_ps, shp_pt, shp_ss, shp_is, seqD_eQ, seqD_eP, seqD_eS, walkD_eP, walkD_eS, walkD_l, walkD_t]
    have e : gNum (.tuple [.int i, .int j]) = decide (((x.natAbs : Nat) : Int) = 1) := by
      simp only [gNum]
      rw [decide_eq_true hj, Bool.true_and, ← hx]
      exact decide_eq_decide.mpr (by omega)
    rw [e] at h
    exact h
  · have c' : rowD 2 d = false := by simpa using c
    have e : gNum d = false := by
      cases d with
      | tuple xs =>
        match xs, c with
        | [x, y], c => simp [rowD] at c
        | [], c => rfl
        | [_], c => simp [gNum]
        | _ :: _ :: _ :: _, c => simp [gNum]
      | _ => rfl
    rw [e] at h
    simp only [dRet, dRetF, dSetX, dCallX, dRetX, noOw, dTry, dCpy, dRaise, dRetO, dSetP, dSetS, dSetF, dSeq, dIf, dNext, dCall, dCallF, dB, dBin, dCons, dNil, dTup, dLst, dV, dC, dTV, onB, dTAnd, dTOr, dTNot, dAnd, dOr, dNot, dIfE, dIsN, dNotN, isN, dSl, dSlF, dNoPart, dPart, dPar, dParS, dAsg, dgN, dgT, dgCons, dgNil, dFE, dIsi, dListF, dNeg, dRev, dFrz, dApp, dAppS, dIns, dExtend, dClear, dReverse, dPop, oIx, oI, oIC, oAddU, oSubI, oMulU, oMulI, oFd, oMd, oPw, oLt, oLe, oGt, oGe, oEq, oNe, getF, setF, Cl.d, getS, setS, purF_nil, purF_cons, purH, allF_nil, allF_cons, allH, rho0, endsOf, scalD, bLen, bAbs, bInt, bIntU, bTup, true_and, and_true, Option.some.injEq, exists_eq_left', decide_eq_true_eq, Bool.not_eq_true', decide_eq_false_iff_not, it_eQ0, it_eQ1, it_eP0, it_eP1, it_eS0, it_eS1, fits_eQ, fits_eP, fits_eS, eqv_eQ, eqv_eP, eqv_eS, eqv_int, eqv_bool, shp_int, shp_bool, shp_none, shp_eQ, shp_eP, shp_eS, dCont, dBreak, dXi, dSetG, dAppG, oIsB, oNotB, dTx, pJoin, pSplit, pPart, pStarts, bStr, bIntS, dFmt, dJs, ↓reduceIte, nsp_none, nsp_bool, nsp_int, nsp_str, nsp_list, nsp_tuple, nsp_eQ, nsp_eP, nsp_eS, dat_pu, dat_ow, seqD_l, seqD_t, not_true_eq_false, Bool.true_eq_false, Bool.not_not, List.length_cons, List.length_nil, mkP, mkS, fits_list, fits_tuple, isIntD, isBoolD, isListD, isStrD, isTupD, Bool.not_true, Bool.not_false, Bool.false_eq_true, it_l0, it_l1, it_l2, it_t0, it_t1, it_t2, shp_ps, shp_pt, shp_ss, shp_is, seqD_eQ, seqD_eP, seqD_eS, walkD_eP, walkD_eS, walkD_l, walkD_t]
    refine row _ ?_
    simp only [c', dRet, dRetF, dSetX, dCallX, dRetX, noOw, dTry, dCpy, dRaise, dRetO, dSetP, dSetS, dSetF, dSeq, dIf, dNext, dCall, dCallF, dB, dBin, dCons, dNil, dTup, dLst, dV, dC, dTV, onB, dTAnd, dTOr, dTNot, dAnd, dOr, dNot, dIfE, dIsN, dNotN, isN, dSl, dSlF, dNoPart, dPart, dPar, dParS, dAsg, dgN, dgT, dgCons, dgNil, dFE, dIsi, dListF, dNeg, dRev, dFrz, dApp, dAppS, dIns, dExtend, dClear, dReverse, dPop, oIx, oI, oIC, oAddU, oSubI, oMulU, oMulI, oFd, oMd, oPw, oLt, oLe, oGt, oGe, oEq, oNe, getF, setF, Cl.d, getS, setS, purF_nil, purF_cons, purH, allF_nil, allF_cons, allH, rho0, endsOf, scalD, bLen, bAbs, bInt, bIntU, bTup, true_and, and_true, Option.some.injEq, exists_eq_left', decide_eq_true_eq, Bool.not_eq_true', decide_eq_false_iff_not, it_eQ0, it_eQ1, it_eP0, it_eP1, it_eS0, it_eS1, fits_eQ, fits_eP, fits_eS, eqv_eQ, eqv_eP, eqv_eS, eqv_int, eqv_bool, shp_int, shp_bool, shp_none, shp_eQ, shp_eP, shp_eS, dCont, dBreak, dXi, dSetG, dAppG, oIsB, oNotB, dTx, pJoin, pSplit, pPart, pStarts, bStr, bIntS, dFmt, dJs, ↓reduceIte, nsp_none, nsp_bool, nsp_int, nsp_str, nsp_list, nsp_tuple, nsp_eQ, nsp_eP, nsp_eS, dat_pu, dat_ow, seqD_l, seqD_t, not_true_eq_false, Bool.true_eq_false, Bool.not_not, List.length_cons, List.length_nil, mkP, mkS, fits_list, fits_tuple, isIntD, isBoolD, isListD, isStrD, isTupD, Bool.not_true, Bool.not_false, Bool.false_eq_true, it_l0, it_l1, it_l2, it_t0, it_t1, it_t2, shp_ps, shp_pt, shp_ss, shp_is, seqD_eQ, seqD_eP, seqD_eS, walkD_eP, walkD_eS, walkD_l, walkD_t]
    exact h
theorem row2 {d : Dt} (c : rowD 2 d = true) : ∃ x y, d = .tuple [x, y] := by
  cases d with
  | tuple xs =>
    match xs, c with
    | [x, y], _ => exact ⟨x, y, rfl⟩
    | [], c => simp [rowD] at c
    | [_], c => simp [rowD] at c
    | _ :: _ :: _ :: _, c => simp [rowD] at c
  | _ => cases c
theorem row4 {d : Dt} (c : rowD 4 d = true) : ∃ x y z u, d = .tuple [x, y, z, u] := by
  cases d with
  | tuple xs =>
    match xs, c with
    | [x, y, z, u], _ => exact ⟨x, y, z, u, rfl⟩
    | [], c => simp [rowD] at c
    | [_], c => simp [rowD] at c
    | [_, _], c => simp [rowD] at c
    | [_, _, _], c => simp [rowD] at c
    | _ :: _ :: _ :: _ :: _ :: _, c => simp [rowD] at c
  | _ => cases c
theorem no_point {d : Dt} (c : rowD 2 d = false) : gPoint d = false := by
  cases d with
  | tuple xs =>
    match xs, c with
    | [x, y], c => simp [rowD] at c
    | [], c => rfl
    | [_], c => rfl
    | _ :: _ :: _ :: _, c => rfl
  | _ => rfl
theorem no_land {d : Dt} (c : rowD 4 d = false) : gLand d = false := by
  cases d with
  | tuple xs =>
    match xs, c with
    | [x, y, z, u], c => simp [rowD] at c
    | [], c => rfl
    | [_], c => rfl
    | [_, _], c => rfl
    | [_, _, _], c => rfl
    | _ :: _ :: _ :: _ :: _ :: _, c => simp [gLand]
  | _ => rfl
theorem rd_is_point (ds : List Dt) (Φ : Slot → Prop) (Ξ : XD → Prop) (h : sp_is_point ds Φ Ξ) : d_is_point (endsOf Φ Ξ) (rho0 N_is_point ds) := by
  obtain ⟨d, rfl, ho, h⟩ := h
  simp only [d_is_point, N_is_point, dRet, dRetF, dSetX, dCallX, dRetX, noOw, dTry, dCpy, dRaise, dRetO, dSetP, dSetS, dSetF, dSeq, dIf, dNext, dCall, dCallF, dB, dBin, dCons, dNil, dTup, dLst, dV, dC, dTV, onB, dTAnd, dTOr, dTNot, dAnd, dOr, dNot, dIfE, dIsN, dNotN, isN, dSl, dSlF, dNoPart, dPart, dPar, dParS, dAsg, dgN, dgT, dgCons, dgNil, dFE, dIsi, dListF, dNeg, dRev, dFrz, dApp, dAppS, dIns, dExtend, dClear, dReverse, dPop, oIx, oI, oIC, oAddU, oSubI, oMulU, oMulI, oFd, oMd, oPw, oLt, oLe, oGt, oGe, oEq, oNe, getF, setF, Cl.d, getS, setS, purF_nil, purF_cons, purH, allF_nil, allF_cons, allH, rho0, endsOf, scalD, bLen, bAbs, bInt, bIntU, bTup, true_and, and_true, Option.some.injEq, exists_eq_left', decide_eq_true_eq, Bool.not_eq_true', decide_eq_false_iff_not, it_eQ0, it_eQ1, it_eP0, it_eP1, it_eS0, it_eS1, fits_eQ, fits_eP, fits_eS, eqv_eQ, eqv_eP, eqv_eS, eqv_int, eqv_bool, shp_int, shp_bool, shp_none, shp_eQ, shp_eP, shp_eS, dCont, dBreak, dXi, dSetG, dAppG, oIsB, oNotB, dTx, pJoin, pSplit, pPart, pStarts, bStr, bIntS, dFmt, dJs, ↓reduceIte, nsp_none, nsp_bool, nsp_int, nsp_str, nsp_list, nsp_tuple, nsp_eQ, nsp_eP, nsp_eS, dat_pu, dat_ow, seqD_l, seqD_t, not_true_eq_false, Bool.true_eq_false, Bool.not_not, List.length_cons, List.length_nil, mkP, mkS, fits_list, fits_tuple, isIntD, isBoolD, isListD, isStrD, isTupD, Bool.not_true, Bool.not_false, Bool.false_eq_true, it_l0, it_l1, it_l2, it_t0, it_t1, it_t2, shp_ps, shp_pt, shp_ss, shp_is, seqD_eQ, seqD_eP, seqD_eS, walkD_eP, walkD_eS, walkD_l, walkD_t]
  refine ⟨d, 2, rfl, ho, ?_⟩
  cases c : rowD 2 d with
  | false =>
    rw [no_point c] at h
    simp only [dRet, dRetF, dSetX, dCallX, dRetX, noOw, dTry, dCpy, dRaise, dRetO, dSetP, dSetS, dSetF, dSeq, dIf, dNext, dCall, dCallF, dB, dBin, dCons, dNil, dTup, dLst, dV, dC, dTV, onB, dTAnd, dTOr, dTNot, dAnd, dOr, dNot, dIfE, dIsN, dNotN, isN, dSl, dSlF, dNoPart, dPart, dPar, dParS, dAsg, dgN, dgT, dgCons, dgNil, dFE, dIsi, dListF, dNeg, dRev, dFrz, dApp, dAppS, dIns, dExtend, dClear, dReverse, dPop, oIx, oI, oIC, oAddU, oSubI, oMulU, oMulI, oFd, oMd, oPw, oLt, oLe, oGt, oGe, oEq, oNe, getF, setF, Cl.d, getS, setS, purF_nil, purF_cons, purH, allF_nil, allF_cons, allH, rho0, endsOf, scalD, bLen, bAbs, bInt, bIntU, bTup, true_and, and_true, Option.some.injEq, exists_eq_left', decide_eq_true_eq, Bool.not_eq_true', decide_eq_false_iff_not, it_eQ0, it_eQ1, it_eP0, it_eP1, it_eS0, it_eS1, fits_eQ, fits_eP, fits_eS, eqv_eQ, eqv_eP, eqv_eS, eqv_int, eqv_bool, shp_int, shp_bool, shp_none, shp_eQ, shp_eP, shp_eS, dCont, dBreak, dXi, dSetG, dAppG, oIsB, oNotB, dTx, pJoin, pSplit, pPart, pStarts, bStr, bIntS, dFmt, dJs, ↓reduceIte, nsp_none, nsp_bool, nsp_int, nsp_str, nsp_list, nsp_tuple, nsp_eQ, nsp_eP, nsp_eS, dat_pu, dat_ow, seqD_l, seqD_t, not_true_eq_false, Bool.true_eq_false, Bool.not_not, List.length_cons, List.length_nil, mkP, mkS, fits_list, fits_tuple, isIntD, isBoolD, isListD, isStrD, isTupD, Bool.not_true, Bool.not_false, Bool.false_eq_true, it_l0, it_l1, it_l2, it_t0, it_t1, it_t2, shp_ps, shp_pt, shp_ss, shp_is, seqD_eQ, seqD_eP, seqD_eS, walkD_eP, walkD_eS, walkD_l, walkD_t]
    exact h
  | true =>
    obtain ⟨x, y, rfl⟩ := row2 c
    obtain ⟨_, hm⟩ := okT ho
    simp only [dRet, dRetF, dSetX, dCallX, dRetX, noOw, dTry, dCpy, dRaise, dRetO, dSetP, dSetS, dSetF, dSeq, dIf, dNext, dCall, dCallF, dB, dBin, dCons, dNil, dTup, dLst, dV, dC, dTV, onB, dTAnd, dTOr, dTNot, dAnd, dOr, dNot, dIfE, dIsN, dNotN, isN, dSl, dSlF, dNoPart, dPart, dPar, dParS, dAsg, dgN, dgT, dgCons, dgNil, dFE, dIsi, dListF, dNeg, dRev, dFrz, dApp, dAppS, dIns, dExtend, dClear, dReverse, dPop, oIx, oI, oIC, oAddU, oSubI, oMulU, oMulI, oFd, oMd, oPw, oLt, oLe, oGt, oGe, oEq, oNe, getF, setF, Cl.d, getS, setS, purF_nil, purF_cons, purH, allF_nil, allF_cons, allH, rho0, endsOf, scalD, bLen, bAbs, bInt, bIntU, bTup, true_and, and_true, Option.some.injEq, exists_eq_left', decide_eq_true_eq, Bool.not_eq_true', decide_eq_false_iff_not, it_eQ0, it_eQ1, it_eP0, it_eP1, it_eS0, it_eS1, fits_eQ, fits_eP, fits_eS, eqv_eQ, eqv_eP, eqv_eS, eqv_int, eqv_bool, shp_int, shp_bool, shp_none, shp_eQ, shp_eP, shp_eS, dCont, dBreak, dXi, dSetG, dAppG, oIsB, oNotB, dTx, pJoin, pSplit, pPart, pStarts, bStr, bIntS, dFmt, dJs, ↓reduceIte, nsp_none, nsp_bool, nsp_int, nsp_str, nsp_list, nsp_tuple, nsp_eQ, nsp_eP, nsp_eS, dat_pu, dat_ow, seqD_l, seqD_t, not_true_eq_false, Bool.true_eq_false, Bool.not_not, List.length_cons, List.length_nil, mkP, mkS, fits_list, fits_tuple, isIntD, isBoolD, isListD, isStrD, isTupD, Bool.not_true, Bool.not_false, Bool.false_eq_true, it_l0, it_l1, it_l2, it_t0, it_t1, it_t2, shp_ps, shp_pt, shp_ss, shp_is, seqD_eQ, seqD_eP, seqD_eS, walkD_eP, walkD_eS, walkD_l, walkD_t]
    refine ⟨x, rfl, hm x (by simp), ?_⟩
    simp only [gPoint] at h
    cases c1 : gNum x with
    | false =>
      rw [c1] at h
      simp only [dRet, dRetF, dSetX, dCallX, dRetX, noOw, dTry, dCpy, dRaise, dRetO, dSetP, dSetS, dSetF, dSeq, dIf, dNext, dCall, dCallF, dB, dBin, dCons, dNil, dTup, dLst, dV, dC, dTV, onB, dTAnd, dTOr, dTNot, dAnd, dOr, dNot, dIfE, dIsN, dNotN, isN, dSl, dSlF, dNoPart, dPart, dPar, dParS, dAsg, dgN, dgT, dgCons, dgNil, dFE, dIsi, dListF, dNeg, dRev, dFrz, dApp, dAppS, dIns, dExtend, dClear, dReverse, dPop, oIx, oI, oIC, oAddU, oSubI, oMulU, oMulI, oFd, oMd, oPw, oLt, oLe, oGt, oGe, oEq, oNe, getF, setF, Cl.d, getS, setS, purF_nil, purF_cons, purH, allF_nil, allF_cons, allH, rho0, endsOf, scalD, bLen, bAbs, bInt, bIntU, bTup, true_and, and_true, Option.some.injEq, exists_eq_left', decide_eq_true_eq, Bool.not_eq_true', decide_eq_false_iff_not, it_eQ0, it_eQ1, it_eP0, it_eP1, it_eS0, it_eS1, fits_eQ, fits_eP, fits_eS, eqv_eQ, eqv_eP, eqv_eS, eqv_int, eqv_bool, shp_int, shp_bool, shp_none, shp_eQ, shp_eP, shp_eS, dCont, dBreak, dXi, dSetG, dAppG, oIsB, oNotB, dTx, pJoin, pSplit, pPart, pStarts, bStr, bIntS, dFmt, dJs, ↓reduceIte, nsp_none, nsp_bool, nsp_int, nsp_str, nsp_list, nsp_tuple, nsp_eQ, nsp_eP, nsp_eS, dat_pu, dat_ow, seqD_l, seqD_t, not_true_eq_false, Bool.true_eq_false, Bool.not_not, List.length_cons, List.length_nil, mkP, mkS, fits_list, fits_tuple, isIntD, isBoolD, isListD, isStrD, isTupD, Bool.not_true, Bool.not_false, Bool.false_eq_true, it_l0, it_l1, it_l2, it_t0, it_t1, it_t2, shp_ps, shp_pt, shp_ss, shp_is, seqD_eQ, seqD_eP, seqD_eS, walkD_eP, walkD_eS, walkD_l, walkD_t]
      exact h
    | true =>
      rw [c1, Bool.true_and] at h
      simp only [dRet, dRetF, dSetX, dCallX, dRetX, noOw, dTry, dCpy, dRaise, dRetO, dSetP, dSetS, dSetF, dSeq, dIf, dNext, dCall, dCallF, dB, dBin, dCons, dNil, dTup, dLst, dV, dC, dTV, onB, dTAnd, dTOr, dTNot, dAnd, dOr, dNot, dIfE, dIsN, dNotN, isN, dSl, dSlF, dNoPart, dPart, dPar, dParS, dAsg, dgN, dgT, dgCons, dgNil, dFE, dIsi, dListF, dNeg, dRev, dFrz, dApp, dAppS, dIns, dExtend, dClear, dReverse, dPop, oIx, oI, oIC, oAddU, oSubI, oMulU, oMulI, oFd, oMd, oPw, oLt, oLe, oGt, oGe, oEq, oNe, getF, setF, Cl.d, getS, setS, purF_nil, purF_cons, purH, allF_nil, allF_cons, allH, rho0, endsOf, scalD, bLen, bAbs, bInt, bIntU, bTup, true_and, and_true, Option.some.injEq, exists_eq_left', decide_eq_true_eq, Bool.not_eq_true', decide_eq_false_iff_not, it_eQ0, it_eQ1, it_eP0, it_eP1, it_eS0, it_eS1, fits_eQ, fits_eP, fits_eS, eqv_eQ, eqv_eP, eqv_eS, eqv_int, eqv_bool, shp_int, shp_bool, shp_none, shp_eQ, shp_eP, shp_eS, dCont, dBreak, dXi, dSetG, dAppG, oIsB, oNotB, dTx, pJoin, pSplit, pPart, pStarts, bStr, bIntS, dFmt, dJs, ↓reduceIte, nsp_none, nsp_bool, nsp_int, nsp_str, nsp_list, nsp_tuple, nsp_eQ, nsp_eP, nsp_eS, dat_pu, dat_ow, seqD_l, seqD_t, not_true_eq_false, Bool.true_eq_false, Bool.not_not, List.length_cons, List.length_nil, mkP, mkS, fits_list, fits_tuple, isIntD, isBoolD, isListD, isStrD, isTupD, Bool.not_true, Bool.not_false, Bool.false_eq_true, it_l0, it_l1, it_l2, it_t0, it_t1, it_t2, shp_ps, shp_pt, shp_ss, shp_is, seqD_eQ, seqD_eP, seqD_eS, walkD_eP, walkD_eS, walkD_l, walkD_t]
      exact ⟨y, rfl, hm y (by simp), h⟩
theorem all_D {f : Dt → Bool} {ps : List Dt} {Φ : Dt → Prop} (h : Φ (.bool (ps.all f))) : bAll [.list (ps.map fun d => .bool (f d))] Φ := ⟨ps.map f, by rw [List.map_map]; rfl, by rw [List.all_map]; exact h⟩
theorem rd_is_ring (ds : List Dt) (Φ : Slot → Prop) (Ξ : XD → Prop) (h : sp_is_ring ds Φ Ξ) : d_is_ring (endsOf Φ Ξ) (rho0 N_is_ring ds) := by
  obtain ⟨d, rfl, ho, h⟩ := h
  have hz : (100000 : Nat) < sizeLine := by decide
  have hs := ok_spec ho
  simp only [d_is_ring, N_is_ring, cv_MOST_POINTS, dRet, dRetF, dSetX, dCallX, dRetX, noOw, dTry, dCpy, dRaise, dRetO, dSetP, dSetS, dSetF, dSeq, dIf, dNext, dCall, dCallF, dB, dBin, dCons, dNil, dTup, dLst, dV, dC, dTV, onB, dTAnd, dTOr, dTNot, dAnd, dOr, dNot, dIfE, dIsN, dNotN, isN, dSl, dSlF, dNoPart, dPart, dPar, dParS, dAsg, dgN, dgT, dgCons, dgNil, dFE, dIsi, dListF, dNeg, dRev, dFrz, dApp, dAppS, dIns, dExtend, dClear, dReverse, dPop, oIx, oI, oIC, oAddU, oSubI, oMulU, oMulI, oFd, oMd, oPw, oLt, oLe, oGt, oGe, oEq, oNe, getF, setF, Cl.d, getS, setS, purF_nil, purF_cons, purH, allF_nil, allF_cons, allH, rho0, endsOf, scalD, bLen, bAbs, bInt, bIntU, bTup, true_and, and_true, Option.some.injEq, exists_eq_left', decide_eq_true_eq, Bool.not_eq_true', decide_eq_false_iff_not, it_eQ0, it_eQ1, it_eP0, it_eP1, it_eS0, it_eS1, fits_eQ, fits_eP, fits_eS, eqv_eQ, eqv_eP, eqv_eS, eqv_int, eqv_bool, shp_int, shp_bool, shp_none, shp_eQ, shp_eP, shp_eS, dCont, dBreak, dXi, dSetG, dAppG, oIsB, oNotB, dTx, pJoin, pSplit, pPart, pStarts, bStr, bIntS, dFmt, dJs, ↓reduceIte, nsp_none, nsp_bool, nsp_int, nsp_str, nsp_list, nsp_tuple, nsp_eQ, nsp_eP, nsp_eS, dat_pu, dat_ow, seqD_l, seqD_t, not_true_eq_false, Bool.true_eq_false, Bool.not_not, List.length_cons, List.length_nil, mkP, mkS, fits_list, fits_tuple, isIntD, isBoolD, isListD, isStrD, isTupD, Bool.not_true, Bool.not_false, Bool.false_eq_true, it_l0, it_l1, it_l2, it_t0, it_t1, it_t2, shp_ps, shp_pt, shp_ss, shp_is, seqD_eQ, seqD_eP, seqD_eS, walkD_eP, walkD_eS, walkD_l, walkD_t]
  cases d with
  | tuple ps =>
    obtain ⟨hl, hm⟩ := okT ho
    simp only [dChn, gRing, dRet, dRetF, dSetX, dCallX, dRetX, noOw, dTry, dCpy, dRaise, dRetO, dSetP, dSetS, dSetF, dSeq, dIf, dNext, dCall, dCallF, dB, dBin, dCons, dNil, dTup, dLst, dV, dC, dTV, onB, dTAnd, dTOr, dTNot, dAnd, dOr, dNot, dIfE, dIsN, dNotN, isN, dSl, dSlF, dNoPart, dPart, dPar, dParS, dAsg, dgN, dgT, dgCons, dgNil, dFE, dIsi, dListF, dNeg, dRev, dFrz, dApp, dAppS, dIns, dExtend, dClear, dReverse, dPop, oIx, oI, oIC, oAddU, oSubI, oMulU, oMulI, oFd, oMd, oPw, oLt, oLe, oGt, oGe, oEq, oNe, getF, setF, Cl.d, getS, setS, purF_nil, purF_cons, purH, allF_nil, allF_cons, allH, rho0, endsOf, scalD, bLen, bAbs, bInt, bIntU, bTup, true_and, and_true, Option.some.injEq, exists_eq_left', decide_eq_true_eq, Bool.not_eq_true', decide_eq_false_iff_not, it_eQ0, it_eQ1, it_eP0, it_eP1, it_eS0, it_eS1, fits_eQ, fits_eP, fits_eS, eqv_eQ, eqv_eP, eqv_eS, eqv_int, eqv_bool, shp_int, shp_bool, shp_none, shp_eQ, shp_eP, shp_eS, dCont, dBreak, dXi, dSetG, dAppG, oIsB, oNotB, dTx, pJoin, pSplit, pPart, pStarts, bStr, bIntS, dFmt, dJs, ↓reduceIte, nsp_none, nsp_bool, nsp_int, nsp_str, nsp_list, nsp_tuple, nsp_eQ, nsp_eP, nsp_eS, dat_pu, dat_ow, seqD_l, seqD_t, not_true_eq_false, Bool.true_eq_false, Bool.not_not, List.length_cons, List.length_nil, mkP, mkS, fits_list, fits_tuple, isIntD, isBoolD, isListD, isStrD, isTupD, Bool.not_true, Bool.not_false, Bool.false_eq_true, it_l0, it_l1, it_l2, it_t0, it_t1, it_t2, shp_ps, shp_pt, shp_ss, shp_is, seqD_eQ, seqD_eP, seqD_eS, walkD_eP, walkD_eS, walkD_l, walkD_t] at h ⊢
    by_cases c1 : 1 ≤ ps.length
    · have c1' : (1 : Int) ≤ ps.length := by omega
      simp only [c1, c1', dRet, dRetF, dSetX, dCallX, dRetX, noOw, dTry, dCpy, dRaise, dRetO, dSetP, dSetS, dSetF, dSeq, dIf, dNext, dCall, dCallF, dB, dBin, dCons, dNil, dTup, dLst, dV, dC, dTV, onB, dTAnd, dTOr, dTNot, dAnd, dOr, dNot, dIfE, dIsN, dNotN, isN, dSl, dSlF, dNoPart, dPart, dPar, dParS, dAsg, dgN, dgT, dgCons, dgNil, dFE, dIsi, dListF, dNeg, dRev, dFrz, dApp, dAppS, dIns, dExtend, dClear, dReverse, dPop, oIx, oI, oIC, oAddU, oSubI, oMulU, oMulI, oFd, oMd, oPw, oLt, oLe, oGt, oGe, oEq, oNe, getF, setF, Cl.d, getS, setS, purF_nil, purF_cons, purH, allF_nil, allF_cons, allH, rho0, endsOf, scalD, bLen, bAbs, bInt, bIntU, bTup, true_and, and_true, Option.some.injEq, exists_eq_left', decide_eq_true_eq, Bool.not_eq_true', decide_eq_false_iff_not, it_eQ0, it_eQ1, it_eP0, it_eP1, it_eS0, it_eS1, fits_eQ, fits_eP, fits_eS, eqv_eQ, eqv_eP, eqv_eS, eqv_int, eqv_bool, shp_int, shp_bool, shp_none, shp_eQ, shp_eP, shp_eS, dCont, dBreak, dXi, dSetG, dAppG, oIsB, oNotB, dTx, pJoin, pSplit, pPart, pStarts, bStr, bIntS, dFmt, dJs, ↓reduceIte, nsp_none, nsp_bool, nsp_int, nsp_str, nsp_list, nsp_tuple, nsp_eQ, nsp_eP, nsp_eS, dat_pu, dat_ow, seqD_l, seqD_t, not_true_eq_false, Bool.true_eq_false, Bool.not_not, List.length_cons, List.length_nil, mkP, mkS, fits_list, fits_tuple, isIntD, isBoolD, isListD, isStrD, isTupD, Bool.not_true, Bool.not_false, Bool.false_eq_true, it_l0, it_l1, it_l2, it_t0, it_t1, it_t2, shp_ps, shp_pt, shp_ss, shp_is, seqD_eQ, seqD_eP, seqD_eS, walkD_eP, walkD_eS, walkD_l, walkD_t] at h ⊢
      by_cases c2 : ps.length ≤ 24
      · have c2' : (ps.length : Int) ≤ 24 := by omega
        simp only [c2, c2', dRet, dRetF, dSetX, dCallX, dRetX, noOw, dTry, dCpy, dRaise, dRetO, dSetP, dSetS, dSetF, dSeq, dIf, dNext, dCall, dCallF, dB, dBin, dCons, dNil, dTup, dLst, dV, dC, dTV, onB, dTAnd, dTOr, dTNot, dAnd, dOr, dNot, dIfE, dIsN, dNotN, isN, dSl, dSlF, dNoPart, dPart, dPar, dParS, dAsg, dgN, dgT, dgCons, dgNil, dFE, dIsi, dListF, dNeg, dRev, dFrz, dApp, dAppS, dIns, dExtend, dClear, dReverse, dPop, oIx, oI, oIC, oAddU, oSubI, oMulU, oMulI, oFd, oMd, oPw, oLt, oLe, oGt, oGe, oEq, oNe, getF, setF, Cl.d, getS, setS, purF_nil, purF_cons, purH, allF_nil, allF_cons, allH, rho0, endsOf, scalD, bLen, bAbs, bInt, bIntU, bTup, true_and, and_true, Option.some.injEq, exists_eq_left', decide_eq_true_eq, Bool.not_eq_true', decide_eq_false_iff_not, it_eQ0, it_eQ1, it_eP0, it_eP1, it_eS0, it_eS1, fits_eQ, fits_eP, fits_eS, eqv_eQ, eqv_eP, eqv_eS, eqv_int, eqv_bool, shp_int, shp_bool, shp_none, shp_eQ, shp_eP, shp_eS, dCont, dBreak, dXi, dSetG, dAppG, oIsB, oNotB, dTx, pJoin, pSplit, pPart, pStarts, bStr, bIntS, dFmt, dJs, ↓reduceIte, nsp_none, nsp_bool, nsp_int, nsp_str, nsp_list, nsp_tuple, nsp_eQ, nsp_eP, nsp_eS, dat_pu, dat_ow, seqD_l, seqD_t, not_true_eq_false, Bool.true_eq_false, Bool.not_not, List.length_cons, List.length_nil, mkP, mkS, fits_list, fits_tuple, isIntD, isBoolD, isListD, isStrD, isTupD, Bool.not_true, Bool.not_false, Bool.false_eq_true, it_l0, it_l1, it_l2, it_t0, it_t1, it_t2, shp_ps, shp_pt, shp_ss, shp_is, seqD_eQ, seqD_eP, seqD_eS, walkD_eP, walkD_eS, walkD_l, walkD_t] at h ⊢
        refine dLc_mapM (xs := ps) (e := fun d => d) (fun Q hQ => ?_) (fun d => .bool (gPoint d)) (by omega) (fun s hs Ψ hΨ => ?_) ?_
        · simp only [diSeq, dRet, dRetF, dSetX, dCallX, dRetX, noOw, dTry, dCpy, dRaise, dRetO, dSetP, dSetS, dSetF, dSeq, dIf, dNext, dCall, dCallF, dB, dBin, dCons, dNil, dTup, dLst, dV, dC, dTV, onB, dTAnd, dTOr, dTNot, dAnd, dOr, dNot, dIfE, dIsN, dNotN, isN, dSl, dSlF, dNoPart, dPart, dPar, dParS, dAsg, dgN, dgT, dgCons, dgNil, dFE, dIsi, dListF, dNeg, dRev, dFrz, dApp, dAppS, dIns, dExtend, dClear, dReverse, dPop, oIx, oI, oIC, oAddU, oSubI, oMulU, oMulI, oFd, oMd, oPw, oLt, oLe, oGt, oGe, oEq, oNe, getF, setF, Cl.d, getS, setS, purF_nil, purF_cons, purH, allF_nil, allF_cons, allH, rho0, endsOf, scalD, bLen, bAbs, bInt, bIntU, bTup, true_and, and_true, Option.some.injEq, exists_eq_left', decide_eq_true_eq, Bool.not_eq_true', decide_eq_false_iff_not, it_eQ0, it_eQ1, it_eP0, it_eP1, it_eS0, it_eS1, fits_eQ, fits_eP, fits_eS, eqv_eQ, eqv_eP, eqv_eS, eqv_int, eqv_bool, shp_int, shp_bool, shp_none, shp_eQ, shp_eP, shp_eS, dCont, dBreak, dXi, dSetG, dAppG, oIsB, oNotB, dTx, pJoin, pSplit, pPart, pStarts, bStr, bIntS, dFmt, dJs, ↓reduceIte, nsp_none, nsp_bool, nsp_int, nsp_str, nsp_list, nsp_tuple, nsp_eQ, nsp_eP, nsp_eS, dat_pu, dat_ow, seqD_l, seqD_t, not_true_eq_false, Bool.true_eq_false, Bool.not_not, List.length_cons, List.length_nil, mkP, mkS, fits_list, fits_tuple, isIntD, isBoolD, isListD, isStrD, isTupD, Bool.not_true, Bool.not_false, Bool.false_eq_true, it_l0, it_l1, it_l2, it_t0, it_t1, it_t2, shp_ps, shp_pt, shp_ss, shp_is, seqD_eQ, seqD_eP, seqD_eS, walkD_eP, walkD_eS, walkD_l, walkD_t]
          rw [List.map_id'] at hQ
          exact hQ
        · simp only [dcN, wipeF, noneF, dRet, dRetF, dSetX, dCallX, dRetX, noOw, dTry, dCpy, dRaise, dRetO, dSetP, dSetS, dSetF, dSeq, dIf, dNext, dCall, dCallF, dB, dBin, dCons, dNil, dTup, dLst, dV, dC, dTV, onB, dTAnd, dTOr, dTNot, dAnd, dOr, dNot, dIfE, dIsN, dNotN, isN, dSl, dSlF, dNoPart, dPart, dPar, dParS, dAsg, dgN, dgT, dgCons, dgNil, dFE, dIsi, dListF, dNeg, dRev, dFrz, dApp, dAppS, dIns, dExtend, dClear, dReverse, dPop, oIx, oI, oIC, oAddU, oSubI, oMulU, oMulI, oFd, oMd, oPw, oLt, oLe, oGt, oGe, oEq, oNe, getF, setF, Cl.d, getS, setS, purF_nil, purF_cons, purH, allF_nil, allF_cons, allH, rho0, endsOf, scalD, bLen, bAbs, bInt, bIntU, bTup, true_and, and_true, Option.some.injEq, exists_eq_left', decide_eq_true_eq, Bool.not_eq_true', decide_eq_false_iff_not, it_eQ0, it_eQ1, it_eP0, it_eP1, it_eS0, it_eS1, fits_eQ, fits_eP, fits_eS, eqv_eQ, eqv_eP, eqv_eS, eqv_int, eqv_bool, shp_int, shp_bool, shp_none, shp_eQ, shp_eP, shp_eS, dCont, dBreak, dXi, dSetG, dAppG, oIsB, oNotB, dTx, pJoin, pSplit, pPart, pStarts, bStr, bIntS, dFmt, dJs, ↓reduceIte, nsp_none, nsp_bool, nsp_int, nsp_str, nsp_list, nsp_tuple, nsp_eQ, nsp_eP, nsp_eS, dat_pu, dat_ow, seqD_l, seqD_t, not_true_eq_false, Bool.true_eq_false, Bool.not_not, List.length_cons, List.length_nil, mkP, mkS, fits_list, fits_tuple, isIntD, isBoolD, isListD, isStrD, isTupD, Bool.not_true, Bool.not_false, Bool.false_eq_true, it_l0, it_l1, it_l2, it_t0, it_t1, it_t2, shp_ps, shp_pt, shp_ss, shp_is, seqD_eQ, seqD_eP, seqD_eS, walkD_eP, walkD_eS, walkD_l, walkD_t]
          exact ⟨s, rfl, hm s hs, hΨ⟩
        · refine all_D (Φ := fun d => Φ (.pu d)) ?_
          simpa using h
      · have c2' : ¬ (ps.length : Int) ≤ 24 := by omega
        simp only [c2, c2', dRet, dRetF, dSetX, dCallX, dRetX, noOw, dTry, dCpy, dRaise, dRetO, dSetP, dSetS, dSetF, dSeq, dIf, dNext, dCall, dCallF, dB, dBin, dCons, dNil, dTup, dLst, dV, dC, dTV, onB, dTAnd, dTOr, dTNot, dAnd, dOr, dNot, dIfE, dIsN, dNotN, isN, dSl, dSlF, dNoPart, dPart, dPar, dParS, dAsg, dgN, dgT, dgCons, dgNil, dFE, dIsi, dListF, dNeg, dRev, dFrz, dApp, dAppS, dIns, dExtend, dClear, dReverse, dPop, oIx, oI, oIC, oAddU, oSubI, oMulU, oMulI, oFd, oMd, oPw, oLt, oLe, oGt, oGe, oEq, oNe, getF, setF, Cl.d, getS, setS, purF_nil, purF_cons, purH, allF_nil, allF_cons, allH, rho0, endsOf, scalD, bLen, bAbs, bInt, bIntU, bTup, true_and, and_true, Option.some.injEq, exists_eq_left', decide_eq_true_eq, Bool.not_eq_true', decide_eq_false_iff_not, it_eQ0, it_eQ1, it_eP0, it_eP1, it_eS0, it_eS1, fits_eQ, fits_eP, fits_eS, eqv_eQ, eqv_eP, eqv_eS, eqv_int, eqv_bool, shp_int, shp_bool, shp_none, shp_eQ, shp_eP, shp_eS, dCont, dBreak, dXi, dSetG, dAppG, oIsB, oNotB, dTx, pJoin, pSplit, pPart, pStarts, bStr, bIntS, dFmt, dJs, ↓reduceIte, nsp_none, nsp_bool, nsp_int, nsp_str, nsp_list, nsp_tuple, nsp_eQ, nsp_eP, nsp_eS, dat_pu, dat_ow, seqD_l, seqD_t, not_true_eq_false, Bool.true_eq_false, Bool.not_not, List.length_cons, List.length_nil, mkP, mkS, fits_list, fits_tuple, isIntD, isBoolD, isListD, isStrD, isTupD, Bool.not_true, Bool.not_false, Bool.false_eq_true, it_l0, it_l1, it_l2, it_t0, it_t1, it_t2, shp_ps, shp_pt, shp_ss, shp_is, seqD_eQ, seqD_eP, seqD_eS, walkD_eP, walkD_eS, walkD_l, walkD_t] at h ⊢
        simpa using h
    · have c1' : ¬ (1 : Int) ≤ ps.length := by omega
      simp only [c1, c1', dRet, dRetF, dSetX, dCallX, dRetX, noOw, dTry, dCpy, dRaise, dRetO, dSetP, dSetS, dSetF, dSeq, dIf, dNext, dCall, dCallF, dB, dBin, dCons, dNil, dTup, dLst, dV, dC, dTV, onB, dTAnd, dTOr, dTNot, dAnd, dOr, dNot, dIfE, dIsN, dNotN, isN, dSl, dSlF, dNoPart, dPart, dPar, dParS, dAsg, dgN, dgT, dgCons, dgNil, dFE, dIsi, dListF, dNeg, dRev, dFrz, dApp, dAppS, dIns, dExtend, dClear, dReverse, dPop, oIx, oI, oIC, oAddU, oSubI, oMulU, oMulI, oFd, oMd, oPw, oLt, oLe, oGt, oGe, oEq, oNe, getF, setF, Cl.d, getS, setS, purF_nil, purF_cons, purH, allF_nil, allF_cons, allH, rho0, endsOf, scalD, bLen, bAbs, bInt, bIntU, bTup, true_and, and_true, Option.some.injEq, exists_eq_left', decide_eq_true_eq, Bool.not_eq_true', decide_eq_false_iff_not, it_eQ0, it_eQ1, it_eP0, it_eP1, it_eS0, it_eS1, fits_eQ, fits_eP, fits_eS, eqv_eQ, eqv_eP, eqv_eS, eqv_int, eqv_bool, shp_int, shp_bool, shp_none, shp_eQ, shp_eP, shp_eS, dCont, dBreak, dXi, dSetG, dAppG, oIsB, oNotB, dTx, pJoin, pSplit, pPart, pStarts, bStr, bIntS, dFmt, dJs, ↓reduceIte, nsp_none, nsp_bool, nsp_int, nsp_str, nsp_list, nsp_tuple, nsp_eQ, nsp_eP, nsp_eS, dat_pu, dat_ow, seqD_l, seqD_t, not_true_eq_false, Bool.true_eq_false, Bool.not_not, List.length_cons, List.length_nil, mkP, mkS, fits_list, fits_tuple, isIntD, isBoolD, isListD, isStrD, isTupD, Bool.not_true, Bool.not_false, Bool.false_eq_true, it_l0, it_l1, it_l2, it_t0, it_t1, it_t2, shp_ps, shp_pt, shp_ss, shp_is, seqD_eQ, seqD_eP, seqD_eS, walkD_eP, walkD_eS, walkD_l, walkD_t] at h ⊢
      simpa using h
  | dict kv =>
    refine ⟨hs, ?_⟩
    simpa [isTupD, gRing] using h
  | _ => simpa [isTupD, gRing, spec] using h
theorem rd_is_land (ds : List Dt) (Φ : Slot → Prop) (Ξ : XD → Prop) (h : sp_is_land ds Φ Ξ) : d_is_land (endsOf Φ Ξ) (rho0 N_is_land ds) := by
  obtain ⟨d, rfl, ho, h⟩ := h
  have hz : (100000 : Nat) < sizeLine := by decide
  simp only [d_is_land, N_is_land, cv_MOST_RINGS, dRet, dRetF, dSetX, dCallX, dRetX, noOw, dTry, dCpy, dRaise, dRetO, dSetP, dSetS, dSetF, dSeq, dIf, dNext, dCall, dCallF, dB, dBin, dCons, dNil, dTup, dLst, dV, dC, dTV, onB, dTAnd, dTOr, dTNot, dAnd, dOr, dNot, dIfE, dIsN, dNotN, isN, dSl, dSlF, dNoPart, dPart, dPar, dParS, dAsg, dgN, dgT, dgCons, dgNil, dFE, dIsi, dListF, dNeg, dRev, dFrz, dApp, dAppS, dIns, dExtend, dClear, dReverse, dPop, oIx, oI, oIC, oAddU, oSubI, oMulU, oMulI, oFd, oMd, oPw, oLt, oLe, oGt, oGe, oEq, oNe, getF, setF, Cl.d, getS, setS, purF_nil, purF_cons, purH, allF_nil, allF_cons, allH, rho0, endsOf, scalD, bLen, bAbs, bInt, bIntU, bTup, true_and, and_true, Option.some.injEq, exists_eq_left', decide_eq_true_eq, Bool.not_eq_true', decide_eq_false_iff_not, it_eQ0, it_eQ1, it_eP0, it_eP1, it_eS0, it_eS1, fits_eQ, fits_eP, fits_eS, eqv_eQ, eqv_eP, eqv_eS, eqv_int, eqv_bool, shp_int, shp_bool, shp_none, shp_eQ, shp_eP, shp_eS, dCont, dBreak, dXi, dSetG, dAppG, oIsB, oNotB, dTx, pJoin, pSplit, pPart, pStarts, bStr, bIntS, dFmt, dJs, ↓reduceIte, nsp_none, nsp_bool, nsp_int, nsp_str, nsp_list, nsp_tuple, nsp_eQ, nsp_eP, nsp_eS, dat_pu, dat_ow, seqD_l, seqD_t, not_true_eq_false, Bool.true_eq_false, Bool.not_not, List.length_cons, List.length_nil, mkP, mkS, fits_list, fits_tuple, isIntD, isBoolD, isListD, isStrD, isTupD, Bool.not_true, Bool.not_false, Bool.false_eq_true, it_l0, it_l1, it_l2, it_t0, it_t1, it_t2, shp_ps, shp_pt, shp_ss, shp_is, seqD_eQ, seqD_eP, seqD_eS, walkD_eP, walkD_eS, walkD_l, walkD_t]
  refine ⟨d, 4, rfl, ho, ?_⟩
  cases c : rowD 4 d with
  | false =>
    rw [no_land c] at h
    simp only [dRet, dRetF, dSetX, dCallX, dRetX, noOw, dTry, dCpy, dRaise, dRetO, dSetP, dSetS, dSetF, dSeq, dIf, dNext, dCall, dCallF, dB, dBin, dCons, dNil, dTup, dLst, dV, dC, dTV, onB, dTAnd, dTOr, dTNot, dAnd, dOr, dNot, dIfE, dIsN, dNotN, isN, dSl, dSlF, dNoPart, dPart, dPar, dParS, dAsg, dgN, dgT, dgCons, dgNil, dFE, dIsi, dListF, dNeg, dRev, dFrz, dApp, dAppS, dIns, dExtend, dClear, dReverse, dPop, oIx, oI, oIC, oAddU, oSubI, oMulU, oMulI, oFd, oMd, oPw, oLt, oLe, oGt, oGe, oEq, oNe, getF, setF, Cl.d, getS, setS, purF_nil, purF_cons, purH, allF_nil, allF_cons, allH, rho0, endsOf, scalD, bLen, bAbs, bInt, bIntU, bTup, true_and, and_true, Option.some.injEq, exists_eq_left', decide_eq_true_eq, Bool.not_eq_true', decide_eq_false_iff_not, it_eQ0, it_eQ1, it_eP0, it_eP1, it_eS0, it_eS1, fits_eQ, fits_eP, fits_eS, eqv_eQ, eqv_eP, eqv_eS, eqv_int, eqv_bool, shp_int, shp_bool, shp_none, shp_eQ, shp_eP, shp_eS, dCont, dBreak, dXi, dSetG, dAppG, oIsB, oNotB, dTx, pJoin, pSplit, pPart, pStarts, bStr, bIntS, dFmt, dJs, ↓reduceIte, nsp_none, nsp_bool, nsp_int, nsp_str, nsp_list, nsp_tuple, nsp_eQ, nsp_eP, nsp_eS, dat_pu, dat_ow, seqD_l, seqD_t, not_true_eq_false, Bool.true_eq_false, Bool.not_not, List.length_cons, List.length_nil, mkP, mkS, fits_list, fits_tuple, isIntD, isBoolD, isListD, isStrD, isTupD, Bool.not_true, Bool.not_false, Bool.false_eq_true, it_l0, it_l1, it_l2, it_t0, it_t1, it_t2, shp_ps, shp_pt, shp_ss, shp_is, seqD_eQ, seqD_eP, seqD_eS, walkD_eP, walkD_eS, walkD_l, walkD_t]
    exact h
  | true =>
    obtain ⟨x, y, z, u, rfl⟩ := row4 c
    obtain ⟨_, hm⟩ := okT ho
    have it3 : itemD (.tuple [x, y, z, u]) 3 = some u := rfl
    have no : ∀ {P : Prop}, (gName x = false ∨ gName y = false ∨ gRule z = false ∨ isTupD u = false ∨ ∃ rs, u = .tuple rs ∧ 6 < rs.length) → Φ (.pu (.bool false)) := fun {P} q => by
      have e : gLand (.tuple [x, y, z, u]) = false := by
        cases u with
        | tuple rs =>
          simp only [gLand]
          rcases q with q | q | q | q | ⟨rs', q, q2⟩
          · rw [q]; rfl
          · rw [q]; simp
          · rw [q]; simp
          · cases q
          · cases q; rw [decide_eq_false (by omega)]; simp
        | _ => rfl
      rw [e] at h
      exact h
    simp only [dRet, dRetF, dSetX, dCallX, dRetX, noOw, dTry, dCpy, dRaise, dRetO, dSetP, dSetS, dSetF, dSeq, dIf, dNext, dCall, dCallF, dB, dBin, dCons, dNil, dTup, dLst, dV, dC, dTV, onB, dTAnd, dTOr, dTNot, dAnd, dOr, dNot, dIfE, dIsN, dNotN, isN, dSl, dSlF, dNoPart, dPart, dPar, dParS, dAsg, dgN, dgT, dgCons, dgNil, dFE, dIsi, dListF, dNeg, dRev, dFrz, dApp, dAppS, dIns, dExtend, dClear, dReverse, dPop, oIx, oI, oIC, oAddU, oSubI, oMulU, oMulI, oFd, oMd, oPw, oLt, oLe, oGt, oGe, oEq, oNe, getF, setF, Cl.d, getS, setS, purF_nil, purF_cons, purH, allF_nil, allF_cons, allH, rho0, endsOf, scalD, bLen, bAbs, bInt, bIntU, bTup, true_and, and_true, Option.some.injEq, exists_eq_left', decide_eq_true_eq, Bool.not_eq_true', decide_eq_false_iff_not, it_eQ0, it_eQ1, it_eP0, it_eP1, it_eS0, it_eS1, fits_eQ, fits_eP, fits_eS, eqv_eQ, eqv_eP, eqv_eS, eqv_int, eqv_bool, shp_int, shp_bool, shp_none, shp_eQ, shp_eP, shp_eS, dCont, dBreak, dXi, dSetG, dAppG, oIsB, oNotB, dTx, pJoin, pSplit, pPart, pStarts, bStr, bIntS, dFmt, dJs, ↓reduceIte, nsp_none, nsp_bool, nsp_int, nsp_str, nsp_list, nsp_tuple, nsp_eQ, nsp_eP, nsp_eS, dat_pu, dat_ow, seqD_l, seqD_t, not_true_eq_false, Bool.true_eq_false, Bool.not_not, List.length_cons, List.length_nil, mkP, mkS, fits_list, fits_tuple, isIntD, isBoolD, isListD, isStrD, isTupD, Bool.not_true, Bool.not_false, Bool.false_eq_true, it_l0, it_l1, it_l2, it_t0, it_t1, it_t2, shp_ps, shp_pt, shp_ss, shp_is, seqD_eQ, seqD_eP, seqD_eS, walkD_eP, walkD_eS, walkD_l, walkD_t]
    refine ⟨x, rfl, hm x (by simp), ?_⟩
    cases c1 : gName x with
    | false => simp only [dRet, dRetF, dSetX, dCallX, dRetX, noOw, dTry, dCpy, dRaise, dRetO, dSetP, dSetS, dSetF, dSeq, dIf, dNext, dCall, dCallF, dB, dBin, dCons, dNil, dTup, dLst, dV, dC, dTV, onB, dTAnd, dTOr, dTNot, dAnd, dOr, dNot, dIfE, dIsN, dNotN, isN, dSl, dSlF, dNoPart, dPart, dPar, dParS, dAsg, dgN, dgT, dgCons, dgNil, dFE, dIsi, dListF, dNeg, dRev, dFrz, dApp, dAppS, dIns, dExtend, dClear, dReverse, dPop, oIx, oI, oIC, oAddU, oSubI, oMulU, oMulI, oFd, oMd, oPw, oLt, oLe, oGt, oGe, oEq, oNe, getF, setF, Cl.d, getS, setS, purF_nil, purF_cons, purH, allF_nil, allF_cons, allH, rho0, endsOf, scalD, bLen, bAbs, bInt, bIntU, bTup, true_and, and_true, Option.some.injEq, exists_eq_left', decide_eq_true_eq, Bool.not_eq_true', decide_eq_false_iff_not, it_eQ0, it_eQ1, it_eP0, it_eP1, it_eS0, it_eS1, fits_eQ, fits_eP, fits_eS, eqv_eQ, eqv_eP, eqv_eS, eqv_int, eqv_bool, shp_int, shp_bool, shp_none, shp_eQ, shp_eP, shp_eS, dCont, dBreak, dXi, dSetG, dAppG, oIsB, oNotB, dTx, pJoin, pSplit, pPart, pStarts, bStr, bIntS, dFmt, dJs, ↓reduceIte, nsp_none, nsp_bool, nsp_int, nsp_str, nsp_list, nsp_tuple, nsp_eQ, nsp_eP, nsp_eS, dat_pu, dat_ow, seqD_l, seqD_t, not_true_eq_false, Bool.true_eq_false, Bool.not_not, List.length_cons, List.length_nil, mkP, mkS, fits_list, fits_tuple, isIntD, isBoolD, isListD, isStrD, isTupD, Bool.not_true, Bool.not_false, Bool.false_eq_true, it_l0, it_l1, it_l2, it_t0, it_t1, it_t2, shp_ps, shp_pt, shp_ss, shp_is, seqD_eQ, seqD_eP, seqD_eS, walkD_eP, walkD_eS, walkD_l, walkD_t]; exact no (P := True) (.inl c1)
    | true =>
      simp only [dRet, dRetF, dSetX, dCallX, dRetX, noOw, dTry, dCpy, dRaise, dRetO, dSetP, dSetS, dSetF, dSeq, dIf, dNext, dCall, dCallF, dB, dBin, dCons, dNil, dTup, dLst, dV, dC, dTV, onB, dTAnd, dTOr, dTNot, dAnd, dOr, dNot, dIfE, dIsN, dNotN, isN, dSl, dSlF, dNoPart, dPart, dPar, dParS, dAsg, dgN, dgT, dgCons, dgNil, dFE, dIsi, dListF, dNeg, dRev, dFrz, dApp, dAppS, dIns, dExtend, dClear, dReverse, dPop, oIx, oI, oIC, oAddU, oSubI, oMulU, oMulI, oFd, oMd, oPw, oLt, oLe, oGt, oGe, oEq, oNe, getF, setF, Cl.d, getS, setS, purF_nil, purF_cons, purH, allF_nil, allF_cons, allH, rho0, endsOf, scalD, bLen, bAbs, bInt, bIntU, bTup, true_and, and_true, Option.some.injEq, exists_eq_left', decide_eq_true_eq, Bool.not_eq_true', decide_eq_false_iff_not, it_eQ0, it_eQ1, it_eP0, it_eP1, it_eS0, it_eS1, fits_eQ, fits_eP, fits_eS, eqv_eQ, eqv_eP, eqv_eS, eqv_int, eqv_bool, shp_int, shp_bool, shp_none, shp_eQ, shp_eP, shp_eS, dCont, dBreak, dXi, dSetG, dAppG, oIsB, oNotB, dTx, pJoin, pSplit, pPart, pStarts, bStr, bIntS, dFmt, dJs, ↓reduceIte, nsp_none, nsp_bool, nsp_int, nsp_str, nsp_list, nsp_tuple, nsp_eQ, nsp_eP, nsp_eS, dat_pu, dat_ow, seqD_l, seqD_t, not_true_eq_false, Bool.true_eq_false, Bool.not_not, List.length_cons, List.length_nil, mkP, mkS, fits_list, fits_tuple, isIntD, isBoolD, isListD, isStrD, isTupD, Bool.not_true, Bool.not_false, Bool.false_eq_true, it_l0, it_l1, it_l2, it_t0, it_t1, it_t2, shp_ps, shp_pt, shp_ss, shp_is, seqD_eQ, seqD_eP, seqD_eS, walkD_eP, walkD_eS, walkD_l, walkD_t]
      refine ⟨y, rfl, hm y (by simp), ?_⟩
      cases c2 : gName y with
      | false => simp only [dRet, dRetF, dSetX, dCallX, dRetX, noOw, dTry, dCpy, dRaise, dRetO, dSetP, dSetS, dSetF, dSeq, dIf, dNext, dCall, dCallF, dB, dBin, dCons, dNil, dTup, dLst, dV, dC, dTV, onB, dTAnd, dTOr, dTNot, dAnd, dOr, dNot, dIfE, dIsN, dNotN, isN, dSl, dSlF, dNoPart, dPart, dPar, dParS, dAsg, dgN, dgT, dgCons, dgNil, dFE, dIsi, dListF, dNeg, dRev, dFrz, dApp, dAppS, dIns, dExtend, dClear, dReverse, dPop, oIx, oI, oIC, oAddU, oSubI, oMulU, oMulI, oFd, oMd, oPw, oLt, oLe, oGt, oGe, oEq, oNe, getF, setF, Cl.d, getS, setS, purF_nil, purF_cons, purH, allF_nil, allF_cons, allH, rho0, endsOf, scalD, bLen, bAbs, bInt, bIntU, bTup, true_and, and_true, Option.some.injEq, exists_eq_left', decide_eq_true_eq, Bool.not_eq_true', decide_eq_false_iff_not, it_eQ0, it_eQ1, it_eP0, it_eP1, it_eS0, it_eS1, fits_eQ, fits_eP, fits_eS, eqv_eQ, eqv_eP, eqv_eS, eqv_int, eqv_bool, shp_int, shp_bool, shp_none, shp_eQ, shp_eP, shp_eS, dCont, dBreak, dXi, dSetG, dAppG, oIsB, oNotB, dTx, pJoin, pSplit, pPart, pStarts, bStr, bIntS, dFmt, dJs, ↓reduceIte, nsp_none, nsp_bool, nsp_int, nsp_str, nsp_list, nsp_tuple, nsp_eQ, nsp_eP, nsp_eS, dat_pu, dat_ow, seqD_l, seqD_t, not_true_eq_false, Bool.true_eq_false, Bool.not_not, List.length_cons, List.length_nil, mkP, mkS, fits_list, fits_tuple, isIntD, isBoolD, isListD, isStrD, isTupD, Bool.not_true, Bool.not_false, Bool.false_eq_true, it_l0, it_l1, it_l2, it_t0, it_t1, it_t2, shp_ps, shp_pt, shp_ss, shp_is, seqD_eQ, seqD_eP, seqD_eS, walkD_eP, walkD_eS, walkD_l, walkD_t]; exact no (P := True) (.inr (.inl c2))
      | true =>
        simp only [dRet, dRetF, dSetX, dCallX, dRetX, noOw, dTry, dCpy, dRaise, dRetO, dSetP, dSetS, dSetF, dSeq, dIf, dNext, dCall, dCallF, dB, dBin, dCons, dNil, dTup, dLst, dV, dC, dTV, onB, dTAnd, dTOr, dTNot, dAnd, dOr, dNot, dIfE, dIsN, dNotN, isN, dSl, dSlF, dNoPart, dPart, dPar, dParS, dAsg, dgN, dgT, dgCons, dgNil, dFE, dIsi, dListF, dNeg, dRev, dFrz, dApp, dAppS, dIns, dExtend, dClear, dReverse, dPop, oIx, oI, oIC, oAddU, oSubI, oMulU, oMulI, oFd, oMd, oPw, oLt, oLe, oGt, oGe, oEq, oNe, getF, setF, Cl.d, getS, setS, purF_nil, purF_cons, purH, allF_nil, allF_cons, allH, rho0, endsOf, scalD, bLen, bAbs, bInt, bIntU, bTup, true_and, and_true, Option.some.injEq, exists_eq_left', decide_eq_true_eq, Bool.not_eq_true', decide_eq_false_iff_not, it_eQ0, it_eQ1, it_eP0, it_eP1, it_eS0, it_eS1, fits_eQ, fits_eP, fits_eS, eqv_eQ, eqv_eP, eqv_eS, eqv_int, eqv_bool, shp_int, shp_bool, shp_none, shp_eQ, shp_eP, shp_eS, dCont, dBreak, dXi, dSetG, dAppG, oIsB, oNotB, dTx, pJoin, pSplit, pPart, pStarts, bStr, bIntS, dFmt, dJs, ↓reduceIte, nsp_none, nsp_bool, nsp_int, nsp_str, nsp_list, nsp_tuple, nsp_eQ, nsp_eP, nsp_eS, dat_pu, dat_ow, seqD_l, seqD_t, not_true_eq_false, Bool.true_eq_false, Bool.not_not, List.length_cons, List.length_nil, mkP, mkS, fits_list, fits_tuple, isIntD, isBoolD, isListD, isStrD, isTupD, Bool.not_true, Bool.not_false, Bool.false_eq_true, it_l0, it_l1, it_l2, it_t0, it_t1, it_t2, shp_ps, shp_pt, shp_ss, shp_is, seqD_eQ, seqD_eP, seqD_eS, walkD_eP, walkD_eS, walkD_l, walkD_t]
        refine ⟨z, rfl, hm z (by simp), ?_⟩
        cases c3 : gRule z with
        | false => simp only [dRet, dRetF, dSetX, dCallX, dRetX, noOw, dTry, dCpy, dRaise, dRetO, dSetP, dSetS, dSetF, dSeq, dIf, dNext, dCall, dCallF, dB, dBin, dCons, dNil, dTup, dLst, dV, dC, dTV, onB, dTAnd, dTOr, dTNot, dAnd, dOr, dNot, dIfE, dIsN, dNotN, isN, dSl, dSlF, dNoPart, dPart, dPar, dParS, dAsg, dgN, dgT, dgCons, dgNil, dFE, dIsi, dListF, dNeg, dRev, dFrz, dApp, dAppS, dIns, dExtend, dClear, dReverse, dPop, oIx, oI, oIC, oAddU, oSubI, oMulU, oMulI, oFd, oMd, oPw, oLt, oLe, oGt, oGe, oEq, oNe, getF, setF, Cl.d, getS, setS, purF_nil, purF_cons, purH, allF_nil, allF_cons, allH, rho0, endsOf, scalD, bLen, bAbs, bInt, bIntU, bTup, true_and, and_true, Option.some.injEq, exists_eq_left', decide_eq_true_eq, Bool.not_eq_true', decide_eq_false_iff_not, it_eQ0, it_eQ1, it_eP0, it_eP1, it_eS0, it_eS1, fits_eQ, fits_eP, fits_eS, eqv_eQ, eqv_eP, eqv_eS, eqv_int, eqv_bool, shp_int, shp_bool, shp_none, shp_eQ, shp_eP, shp_eS, dCont, dBreak, dXi, dSetG, dAppG, oIsB, oNotB, dTx, pJoin, pSplit, pPart, pStarts, bStr, bIntS, dFmt, dJs, ↓reduceIte, nsp_none, nsp_bool, nsp_int, nsp_str, nsp_list, nsp_tuple, nsp_eQ, nsp_eP, nsp_eS, dat_pu, dat_ow, seqD_l, seqD_t, not_true_eq_false, Bool.true_eq_false, Bool.not_not, List.length_cons, List.length_nil, mkP, mkS, fits_list, fits_tuple, isIntD, isBoolD, isListD, isStrD, isTupD, Bool.not_true, Bool.not_false, Bool.false_eq_true, it_l0, it_l1, it_l2, it_t0, it_t1, it_t2, shp_ps, shp_pt, shp_ss, shp_is, seqD_eQ, seqD_eP, seqD_eS, walkD_eP, walkD_eS, walkD_l, walkD_t]; exact no (P := True) (.inr (.inr (.inl c3)))
        | true =>
          have hu := hm u (by simp)
          simp only [it3, dRet, dRetF, dSetX, dCallX, dRetX, noOw, dTry, dCpy, dRaise, dRetO, dSetP, dSetS, dSetF, dSeq, dIf, dNext, dCall, dCallF, dB, dBin, dCons, dNil, dTup, dLst, dV, dC, dTV, onB, dTAnd, dTOr, dTNot, dAnd, dOr, dNot, dIfE, dIsN, dNotN, isN, dSl, dSlF, dNoPart, dPart, dPar, dParS, dAsg, dgN, dgT, dgCons, dgNil, dFE, dIsi, dListF, dNeg, dRev, dFrz, dApp, dAppS, dIns, dExtend, dClear, dReverse, dPop, oIx, oI, oIC, oAddU, oSubI, oMulU, oMulI, oFd, oMd, oPw, oLt, oLe, oGt, oGe, oEq, oNe, getF, setF, Cl.d, getS, setS, purF_nil, purF_cons, purH, allF_nil, allF_cons, allH, rho0, endsOf, scalD, bLen, bAbs, bInt, bIntU, bTup, true_and, and_true, Option.some.injEq, exists_eq_left', decide_eq_true_eq, Bool.not_eq_true', decide_eq_false_iff_not, it_eQ0, it_eQ1, it_eP0, it_eP1, it_eS0, it_eS1, fits_eQ, fits_eP, fits_eS, eqv_eQ, eqv_eP, eqv_eS, eqv_int, eqv_bool, shp_int, shp_bool, shp_none, shp_eQ, shp_eP, shp_eS, dCont, dBreak, dXi, dSetG, dAppG, oIsB, oNotB, dTx, pJoin, pSplit, pPart, pStarts, bStr, bIntS, dFmt, dJs, ↓reduceIte, nsp_none, nsp_bool, nsp_int, nsp_str, nsp_list, nsp_tuple, nsp_eQ, nsp_eP, nsp_eS, dat_pu, dat_ow, seqD_l, seqD_t, not_true_eq_false, Bool.true_eq_false, Bool.not_not, List.length_cons, List.length_nil, mkP, mkS, fits_list, fits_tuple, isIntD, isBoolD, isListD, isStrD, isTupD, Bool.not_true, Bool.not_false, Bool.false_eq_true, it_l0, it_l1, it_l2, it_t0, it_t1, it_t2, shp_ps, shp_pt, shp_ss, shp_is, seqD_eQ, seqD_eP, seqD_eS, walkD_eP, walkD_eS, walkD_l, walkD_t]
          refine ⟨ok_spec hu, ?_⟩
          cases u with
          | tuple rs =>
            obtain ⟨hl, hr⟩ := okT hu
            simp only [dRet, dRetF, dSetX, dCallX, dRetX, noOw, dTry, dCpy, dRaise, dRetO, dSetP, dSetS, dSetF, dSeq, dIf, dNext, dCall, dCallF, dB, dBin, dCons, dNil, dTup, dLst, dV, dC, dTV, onB, dTAnd, dTOr, dTNot, dAnd, dOr, dNot, dIfE, dIsN, dNotN, isN, dSl, dSlF, dNoPart, dPart, dPar, dParS, dAsg, dgN, dgT, dgCons, dgNil, dFE, dIsi, dListF, dNeg, dRev, dFrz, dApp, dAppS, dIns, dExtend, dClear, dReverse, dPop, oIx, oI, oIC, oAddU, oSubI, oMulU, oMulI, oFd, oMd, oPw, oLt, oLe, oGt, oGe, oEq, oNe, getF, setF, Cl.d, getS, setS, purF_nil, purF_cons, purH, allF_nil, allF_cons, allH, rho0, endsOf, scalD, bLen, bAbs, bInt, bIntU, bTup, true_and, and_true, Option.some.injEq, exists_eq_left', decide_eq_true_eq, Bool.not_eq_true', decide_eq_false_iff_not, it_eQ0, it_eQ1, it_eP0, it_eP1, it_eS0, it_eS1, fits_eQ, fits_eP, fits_eS, eqv_eQ, eqv_eP, eqv_eS, eqv_int, eqv_bool, shp_int, shp_bool, shp_none, shp_eQ, shp_eP, shp_eS, dCont, dBreak, dXi, dSetG, dAppG, oIsB, oNotB, dTx, pJoin, pSplit, pPart, pStarts, bStr, bIntS, dFmt, dJs, ↓reduceIte, nsp_none, nsp_bool, nsp_int, nsp_str, nsp_list, nsp_tuple, nsp_eQ, nsp_eP, nsp_eS, dat_pu, dat_ow, seqD_l, seqD_t, not_true_eq_false, Bool.true_eq_false, Bool.not_not, List.length_cons, List.length_nil, mkP, mkS, fits_list, fits_tuple, isIntD, isBoolD, isListD, isStrD, isTupD, Bool.not_true, Bool.not_false, Bool.false_eq_true, it_l0, it_l1, it_l2, it_t0, it_t1, it_t2, shp_ps, shp_pt, shp_ss, shp_is, seqD_eQ, seqD_eP, seqD_eS, walkD_eP, walkD_eS, walkD_l, walkD_t]
            by_cases c4 : rs.length ≤ 6
            · refine ite_no (by omega) ?_
              refine dLc_mapM (xs := rs) (e := fun d => d) (fun Q hQ => ?_) (fun d => .bool (gRing d)) (by omega) (fun s hs Ψ hΨ => ?_) ?_
              · simp only [diSeq, it3, dRet, dRetF, dSetX, dCallX, dRetX, noOw, dTry, dCpy, dRaise, dRetO, dSetP, dSetS, dSetF, dSeq, dIf, dNext, dCall, dCallF, dB, dBin, dCons, dNil, dTup, dLst, dV, dC, dTV, onB, dTAnd, dTOr, dTNot, dAnd, dOr, dNot, dIfE, dIsN, dNotN, isN, dSl, dSlF, dNoPart, dPart, dPar, dParS, dAsg, dgN, dgT, dgCons, dgNil, dFE, dIsi, dListF, dNeg, dRev, dFrz, dApp, dAppS, dIns, dExtend, dClear, dReverse, dPop, oIx, oI, oIC, oAddU, oSubI, oMulU, oMulI, oFd, oMd, oPw, oLt, oLe, oGt, oGe, oEq, oNe, getF, setF, Cl.d, getS, setS, purF_nil, purF_cons, purH, allF_nil, allF_cons, allH, rho0, endsOf, scalD, bLen, bAbs, bInt, bIntU, bTup, true_and, and_true, Option.some.injEq, exists_eq_left', decide_eq_true_eq, Bool.not_eq_true', decide_eq_false_iff_not, it_eQ0, it_eQ1, it_eP0, it_eP1, it_eS0, it_eS1, fits_eQ, fits_eP, fits_eS, eqv_eQ, eqv_eP, eqv_eS, eqv_int, eqv_bool, shp_int, shp_bool, shp_none, shp_eQ, shp_eP, shp_eS, dCont, dBreak, dXi, dSetG, dAppG, oIsB, oNotB, dTx, pJoin, pSplit, pPart, pStarts, bStr, bIntS, dFmt, dJs, ↓reduceIte, nsp_none, nsp_bool, nsp_int, nsp_str, nsp_list, nsp_tuple, nsp_eQ, nsp_eP, nsp_eS, dat_pu, dat_ow, seqD_l, seqD_t, not_true_eq_false, Bool.true_eq_false, Bool.not_not, List.length_cons, List.length_nil, mkP, mkS, fits_list, fits_tuple, isIntD, isBoolD, isListD, isStrD, isTupD, Bool.not_true, Bool.not_false, Bool.false_eq_true, it_l0, it_l1, it_l2, it_t0, it_t1, it_t2, shp_ps, shp_pt, shp_ss, shp_is, seqD_eQ, seqD_eP, seqD_eS, walkD_eP, walkD_eS, walkD_l, walkD_t]
                rw [List.map_id'] at hQ
                exact hQ
              · simp only [dcN, wipeF, noneF, dRet, dRetF, dSetX, dCallX, dRetX, noOw, dTry, dCpy, dRaise, dRetO, dSetP, dSetS, dSetF, dSeq, dIf, dNext, dCall, dCallF, dB, dBin, dCons, dNil, dTup, dLst, dV, dC, dTV, onB, dTAnd, dTOr, dTNot, dAnd, dOr, dNot, dIfE, dIsN, dNotN, isN, dSl, dSlF, dNoPart, dPart, dPar, dParS, dAsg, dgN, dgT, dgCons, dgNil, dFE, dIsi, dListF, dNeg, dRev, dFrz, dApp, dAppS, dIns, dExtend, dClear, dReverse, dPop, oIx, oI, oIC, oAddU, oSubI, oMulU, oMulI, oFd, oMd, oPw, oLt, oLe, oGt, oGe, oEq, oNe, getF, setF, Cl.d, getS, setS, purF_nil, purF_cons, purH, allF_nil, allF_cons, allH, rho0, endsOf, scalD, bLen, bAbs, bInt, bIntU, bTup, true_and, and_true, Option.some.injEq, exists_eq_left', decide_eq_true_eq, Bool.not_eq_true', decide_eq_false_iff_not, it_eQ0, it_eQ1, it_eP0, it_eP1, it_eS0, it_eS1, fits_eQ, fits_eP, fits_eS, eqv_eQ, eqv_eP, eqv_eS, eqv_int, eqv_bool, shp_int, shp_bool, shp_none, shp_eQ, shp_eP, shp_eS, dCont, dBreak, dXi, dSetG, dAppG, oIsB, oNotB, dTx, pJoin, pSplit, pPart, pStarts, bStr, bIntS, dFmt, dJs, ↓reduceIte, nsp_none, nsp_bool, nsp_int, nsp_str, nsp_list, nsp_tuple, nsp_eQ, nsp_eP, nsp_eS, dat_pu, dat_ow, seqD_l, seqD_t, not_true_eq_false, Bool.true_eq_false, Bool.not_not, List.length_cons, List.length_nil, mkP, mkS, fits_list, fits_tuple, isIntD, isBoolD, isListD, isStrD, isTupD, Bool.not_true, Bool.not_false, Bool.false_eq_true, it_l0, it_l1, it_l2, it_t0, it_t1, it_t2, shp_ps, shp_pt, shp_ss, shp_is, seqD_eQ, seqD_eP, seqD_eS, walkD_eP, walkD_eS, walkD_l, walkD_t]
                exact ⟨s, rfl, hr s hs, hΨ⟩
              · refine all_D (Φ := fun d => Φ (.pu d)) ?_
                simp only [gLand, c1, c2, c3, decide_eq_true c4, Bool.true_and] at h
                exact h
            · refine ite_yes (by omega) ?_
              exact no (P := True) (.inr (.inr (.inr (.inr ⟨rs, rfl, by omega⟩))))
          | _ => simp only [isTupD, dRet, dRetF, dSetX, dCallX, dRetX, noOw, dTry, dCpy, dRaise, dRetO, dSetP, dSetS, dSetF, dSeq, dIf, dNext, dCall, dCallF, dB, dBin, dCons, dNil, dTup, dLst, dV, dC, dTV, onB, dTAnd, dTOr, dTNot, dAnd, dOr, dNot, dIfE, dIsN, dNotN, isN, dSl, dSlF, dNoPart, dPart, dPar, dParS, dAsg, dgN, dgT, dgCons, dgNil, dFE, dIsi, dListF, dNeg, dRev, dFrz, dApp, dAppS, dIns, dExtend, dClear, dReverse, dPop, oIx, oI, oIC, oAddU, oSubI, oMulU, oMulI, oFd, oMd, oPw, oLt, oLe, oGt, oGe, oEq, oNe, getF, setF, Cl.d, getS, setS, purF_nil, purF_cons, purH, allF_nil, allF_cons, allH, rho0, endsOf, scalD, bLen, bAbs, bInt, bIntU, bTup, true_and, and_true, Option.some.injEq, exists_eq_left', decide_eq_true_eq, Bool.not_eq_true', decide_eq_false_iff_not, it_eQ0, it_eQ1, it_eP0, it_eP1, it_eS0, it_eS1, fits_eQ, fits_eP, fits_eS, eqv_eQ, eqv_eP, eqv_eS, eqv_int, eqv_bool, shp_int, shp_bool, shp_none, shp_eQ, shp_eP, shp_eS, dCont, dBreak, dXi, dSetG, dAppG, oIsB, oNotB, dTx, pJoin, pSplit, pPart, pStarts, bStr, bIntS, dFmt, dJs, ↓reduceIte, nsp_none, nsp_bool, nsp_int, nsp_str, nsp_list, nsp_tuple, nsp_eQ, nsp_eP, nsp_eS, dat_pu, dat_ow, seqD_l, seqD_t, not_true_eq_false, Bool.true_eq_false, Bool.not_not, List.length_cons, List.length_nil, mkP, mkS, fits_list, fits_tuple, isIntD, isBoolD, isListD, isStrD, isTupD, Bool.not_true, Bool.not_false, Bool.false_eq_true, it_l0, it_l1, it_l2, it_t0, it_t1, it_t2, shp_ps, shp_pt, shp_ss, shp_is, seqD_eQ, seqD_eP, seqD_eS, walkD_eP, walkD_eS, walkD_l, walkD_t]; exact no (P := True) (.inr (.inr (.inr (.inl rfl))))
def eR (r : List Pt) : Dt := .tuple (r.map eP)
/-- a land -/
structure Ld where
  name : Str
  sheet : Str
  rule : Str
  rings : List (List Pt)
def eL (l : Ld) : Dt := .tuple [.str l.name, .str l.sheet, .str l.rule, .tuple (l.rings.map eR)]
end L2.D3

set_option maxHeartbeats 1000000
/-! Texts of numbers, points, rings: written and read, over lists of signs. -/
namespace L2.D3
open PySem
open SX (S)
/-! ### whole numbers -/
def shI (i : Int) : List Nat := if i < 0 then 45 :: TL.numL i.natAbs else TL.numL i.natAbs
theorem str_int (i : Int) : Str.ofString (toString i) = S (shI i) := by
  unfold shI
  cases i with
  | ofNat n =>
    rw [if_neg (by simp)]
    exact SX.num_S n
  | negSucc n =>
    rw [if_pos (Int.negSucc_lt_zero n)]
    have e1 : toString (Int.negSucc n) = "-" ++ toString (((n + 1 : Nat)) : Int) := rfl
    have e2 := congrArg (fun x : Str => x.cps.toList) (SX.num_S (n + 1))
    rw [Str.ofString_eq_toList] at e2
    simp only at e2
    rw [Str.ofString_eq_toList, e1, String.toList_append, List.map_append, e2]
    rfl
theorem numL_head {n : Nat} (h : 1 ≤ n) : (TL.numL n).head? ≠ some 48 := by
  induction n using Nat.strongRecOn with
  | _ n ih =>
    by_cases c : n < 10
    · rw [TL.numL_lt c]
      simp
      omega
    · rw [TL.numL_step (by omega)]
      have := ih (n / 10) (by omega) (by omega)
      cases e : TL.numL (n / 10) with
      | nil => exact absurd e (TL.numL_ne _)
      | cons a l => rw [e] at this; exact this
theorem val_lt : ∀ (w : List Nat) (a : Nat), NumText.AllDigits w → w.foldl (fun acc c => acc * 10 + (c - 48)) a < (a + 1) * 10 ^ w.length
  | [], a, _ => by simp
  | c :: w, a, h => by
    have hc := h c List.mem_cons_self
    have ih := val_lt w (a * 10 + (c - 48)) fun d hd => h d (List.mem_cons_of_mem _ hd)
    rw [List.foldl_cons, List.length_cons, Nat.pow_succ]
    refine Nat.lt_of_lt_of_le ih ?_
    have : a * 10 + (c - 48) + 1 ≤ (a + 1) * 10 := by omega
    calc (a * 10 + (c - 48) + 1) * 10 ^ w.length ≤ ((a + 1) * 10) * 10 ^ w.length := Nat.mul_le_mul_right _ this
      _ = (a + 1) * (10 ^ w.length * 10) := by rw [Nat.mul_assoc, Nat.mul_comm 10]
theorem digitsVal_lt {w : List Nat} (h : NumText.AllDigits w) : NumText.digitsVal w < 10 ^ w.length := by
  have := val_lt w 0 h
  unfold NumText.digitsVal
  omega
/-- the whole number that some figures write -/
def figOk (w : List Nat) : Prop := 1 ≤ w.length ∧ w.length ≤ 7 ∧ (∀ c ∈ w, 48 ≤ c ∧ c ≤ 57) ∧ ¬ (w.head? = some 48 ∧ 1 < w.length)
instance (w : List Nat) : Decidable (figOk w) := by unfold figOk; exact inferInstance
def figs (w : List Nat) : Option Nat := if figOk w then some (NumText.digitsVal w) else none
theorem figs_num {n : Nat} (h : n < 10 ^ 7) : figs (TL.numL n) = some n := by
  unfold figs
  rw [if_pos ?_, TL.numL_val]
  refine ⟨?_, TL.numL_len (by decide) h, TL.numL_digits n, fun z => ?_⟩
  · exact List.length_pos_iff.mpr (TL.numL_ne n)
  · by_cases c : n = 0
    · subst c
      have := z.2
      simp [TL.numL_lt] at this
    · exact numL_head (by omega) z.1
theorem figs_big {n : Nat} (h : 10 ^ 7 ≤ n) : figs (TL.numL n) = none := by
  unfold figs
  rw [if_neg ?_]
  intro z
  have := digitsVal_lt (TL.numL_digits n)
  rw [TL.numL_val] at this
  have k : 10 ^ (TL.numL n).length ≤ 10 ^ 7 := Nat.pow_le_pow_right (by decide) z.2.1
  omega
/-! ### numbers -/
def shQ (q : Rat) : List Nat := if q.den = 1 then shI q.num else shI q.num ++ 47 :: TL.numL q.den
def numH (h : List Nat) (t : Option (List Nat)) : Option Rat := match figs (if h.take 1 = [45] then h.drop 1 else h) with
  | none => none
  | some n => if n = 0 ∧ h ≠ [48] then none else match t with
    | none => some (((if h.take 1 = [45] then 0 - (n : Int) else (n : Int)) : Int) : Rat)
    | some t => match figs t with
      | none => none
      | some b => if b < 2 ∨ Int.gcd (if h.take 1 = [45] then 0 - (n : Int) else (n : Int)) b ≠ 1 then none else some (Rat.divInt (if h.take 1 = [45] then 0 - (n : Int) else (n : Int)) b)
def numQ (w : List Nat) : Option Rat := match TL.par [47] [] w with
  | none => numH w none
  | some (h, t) => numH h (some t)
/-- few figures -/
def Few (q : Rat) : Prop := q.num.natAbs < 10 ^ 7 ∧ q.den < 10 ^ 7
theorem shI_signs {i : Int} {c : Nat} (h : c ∈ shI i) : c = 45 ∨ (48 ≤ c ∧ c ≤ 57) := by
  unfold shI at h
  split at h
  · rcases List.mem_cons.mp h with h | h
    · exact .inl h
    · exact .inr (TL.numL_digits _ c h)
  · exact .inr (TL.numL_digits _ c h)
theorem shQ_signs {q : Rat} {c : Nat} (h : c ∈ shQ q) : c = 45 ∨ c = 47 ∨ (48 ≤ c ∧ c ≤ 57) := by
  unfold shQ at h
  split at h
  · rcases shI_signs h with h | h
    · exact .inl h
    · exact .inr (.inr h)
  · rcases List.mem_append.mp h with h | h
    · rcases shI_signs h with h | h
      · exact .inl h
      · exact .inr (.inr h)
    · rcases List.mem_cons.mp h with h | h
      · exact .inr (.inl h)
      · exact .inr (.inr (TL.numL_digits _ c h))
/-- what the top's text tells -/
theorem top_back {i : Int} (h : i.natAbs < 10 ^ 7) : figs (if (shI i).take 1 = [45] then (shI i).drop 1 else shI i) = some i.natAbs ∧ ((shI i).take 1 = [45] ↔ i < 0) ∧ (i.natAbs = 0 → shI i = [48]) := by
  have nm : ∀ n, (TL.numL n).take 1 ≠ [45] := fun n z => by
    cases e : TL.numL n with
    | nil => exact TL.numL_ne n e
    | cons a l =>
      rw [e] at z
      have := TL.numL_digits n a (by rw [e]; exact List.mem_cons_self)
      simp at z
      omega
  unfold shI
  by_cases c : i < 0
  · rw [if_pos c, if_pos (by simp)]
    exact ⟨figs_num h, ⟨fun _ => c, fun _ => by simp⟩, fun z => by omega⟩
  · rw [if_neg c, if_neg (nm _)]
    refine ⟨figs_num h, ⟨fun z => absurd z (nm _), fun z => absurd z c⟩, fun z => ?_⟩
    rw [z, TL.numL_lt (by decide)]
theorem numQ_show {q : Rat} (h : Few q) : numQ (shQ q) = some q := by
  obtain ⟨t1, t2, t3⟩ := top_back h.1
  have no : 47 ∉ shI q.num := fun z => by rcases shI_signs z with z | z <;> omega
  have hz : ¬ (q.num.natAbs = 0 ∧ shI q.num ≠ [48]) := fun z => z.2 (t3 z.1)
  have sg : (if (shI q.num).take 1 = [45] then 0 - ((q.num.natAbs : Nat) : Int) else ((q.num.natAbs : Nat) : Int)) = q.num := by
    by_cases c : q.num < 0
    · rw [if_pos (t2.mpr c)]; omega
    · rw [if_neg (fun z => c (t2.mp z))]; omega
  unfold numQ shQ
  by_cases c : q.den = 1
  · rw [if_pos c, TL.par_none1 no]
    simp only [numH, t1]
    rw [if_neg hz, sg]
    congr 1
    exact Rat.ext (by rw [Rat.num_intCast]) (by rw [Rat.den_intCast, c])
  · rw [if_neg c]
    have e : shI q.num ++ 47 :: TL.numL q.den = shI q.num ++ ([47] ++ TL.numL q.den) := by simp
    rw [e, TL.par_part1 (S := []) no]
    simp only [List.nil_append, numH, t1, figs_num h.2]
    have h2 := q.den_pos
    have h3 := q.reduced
    rw [if_neg hz, sg, if_neg ?_]
    · rw [Rat.num_divInt_den]
    · rintro (z | z)
      · omega
      · apply z
        unfold Int.gcd
        rw [Int.natAbs_natCast]
        exact h3
theorem numQ_big {q : Rat} (h : 10 ^ 7 ≤ q.num.natAbs) : numQ (shQ q) = none := by
  have no : 47 ∉ shI q.num := fun z => by rcases shI_signs z with z | z <;> omega
  have t1 : figs (if (shI q.num).take 1 = [45] then (shI q.num).drop 1 else shI q.num) = none := by
    unfold shI
    by_cases c : q.num < 0
    · rw [if_pos c, if_pos (by simp)]
      exact figs_big h
    · rw [if_neg c, if_neg ?_]
      · exact figs_big h
      · intro z
        cases e : TL.numL q.num.natAbs with
        | nil => exact TL.numL_ne _ e
        | cons a l =>
          rw [e] at z
          have := TL.numL_digits q.num.natAbs a (by rw [e]; exact List.mem_cons_self)
          simp at z
          omega
  unfold numQ shQ
  by_cases c : q.den = 1
  · rw [if_pos c, TL.par_none1 no]
    simp only [numH, t1]
  · rw [if_neg c]
    have e : shI q.num ++ 47 :: TL.numL q.den = shI q.num ++ ([47] ++ TL.numL q.den) := by simp
    rw [e, TL.par_part1 (S := []) no]
    simp only [List.nil_append, numH, t1]
/-! ### points -/
def shP (p : Pt) : List Nat := shQ p.1 ++ 44 :: shQ p.2
def ptIn (w : List Nat) : Option Pt := match TL.par [44] [] w with
  | none => none
  | some (h, t) => match numQ h, numQ t with
    | some x, some y => some (x, y)
    | _, _ => none
theorem par_shP (p : Pt) : TL.par [44] [] (shP p) = some (shQ p.1, shQ p.2) := by
  have no : 44 ∉ shQ p.1 := fun z => by rcases shQ_signs z with z | z | z <;> omega
  have e : shP p = shQ p.1 ++ ([44] ++ shQ p.2) := by simp [shP]
  rw [e, TL.par_part1 (S := []) no]
  simp
theorem ptIn_show {p : Pt} (h1 : Few p.1) (h2 : Few p.2) : ptIn (shP p) = some p := by
  unfold ptIn
  rw [par_shP]
  simp only [numQ_show h1, numQ_show h2]
theorem shP_signs {p : Pt} {c : Nat} (h : c ∈ shP p) : c ≠ 32 := by
  unfold shP at h
  rcases List.mem_append.mp h with h | h
  · rcases shQ_signs h with h | h | h <;> omega
  · rcases List.mem_cons.mp h with h | h
    · omega
    · rcases shQ_signs h with h | h | h <;> omega
/-! ### rings -/
def shR (r : List Pt) : List Nat := TL.joinL [32] (r.map shP)
def allS {α : Type} : List (Option α) → Option (List α)
  | [] => some []
  | none :: _ => none
  | some a :: l => (allS l).map (a :: ·)
def readR (t : List Nat) : Option (List Pt) := if (TL.spl [32] 0 [] t).length ≤ 24 then allS ((TL.spl [32] 0 [] t).map ptIn) else none
theorem allS_some {α : Type} : ∀ {l : List (Option α)} {xs : List α}, l = xs.map some → allS l = some xs
  | [], xs, h => by cases xs <;> first | rfl | cases h
  | o :: l, xs, h => by
    cases xs with
    | nil => cases h
    | cons x xs =>
      simp only [List.map_cons, List.cons.injEq] at h
      obtain ⟨rfl, h⟩ := h
      simp only [allS, allS_some h, Option.map_some]
theorem allS_of {α : Type} : ∀ {l : List (Option α)} {xs : List α}, allS l = some xs → l = xs.map some
  | [], xs, h => by cases h; rfl
  | none :: l, xs, h => by cases h
  | some a :: l, xs, h => by
    simp only [allS] at h
    cases e : allS l with
    | none => rw [e] at h; cases h
    | some ys =>
      rw [e] at h
      cases h
      rw [allS_of e]
      rfl
theorem allS_none {α : Type} : ∀ {l : List (Option α)}, allS l = none ↔ none ∈ l
  | [] => by simp [allS]
  | none :: l => by simp [allS]
  | some a :: l => by
    simp only [allS, Option.map_eq_none_iff, List.mem_cons, allS_none (l := l)]
    constructor
    · exact fun h => .inr h
    · rintro (h | h)
      · cases h
      · exact h
theorem spl_shR {r : List Pt} (h : r ≠ []) : TL.spl [32] 0 [] (shR r) = r.map shP := by
  refine TL.spl_join (by simpa using h) fun p hp => ?_
  obtain ⟨q, _, rfl⟩ := List.mem_map.mp hp
  exact fun z => shP_signs z rfl
theorem readR_show {r : List Pt} (h : r ≠ []) (hl : r.length ≤ 24) (hf : ∀ p ∈ r, Few p.1 ∧ Few p.2) : readR (shR r) = some r := by
  unfold readR
  rw [spl_shR h, if_pos (by rw [List.length_map]; exact hl)]
  refine allS_some ?_
  rw [List.map_map]
  refine List.map_congr_left fun p hp => ?_
  exact ptIn_show (hf p hp).1 (hf p hp).2
theorem readR_big {r : List Pt} (h : r ≠ []) {p : Pt} (hp : p ∈ r) (hb : 10 ^ 7 ≤ p.1.num.natAbs) : readR (shR r) = none := by
  unfold readR
  rw [spl_shR h]
  split
  · refine allS_none.mpr ?_
    rw [List.map_map]
    refine List.mem_map.mpr ⟨p, hp, ?_⟩
    show ptIn (shP p) = none
    unfold ptIn
    rw [par_shP]
    simp only [numQ_big hb]
  · rfl
end L2.D3

set_option maxHeartbeats 1000000
/-! Rings written and read: the program's defs. -/
namespace L2.D3
open PySem PySem.Spec PyProof.Rows
open SX (S)
/-! ### words of bounded size -/
def OkW (w : List Nat) : Prop := w.length ≤ 100000 ∧ ∀ c ∈ w, c < 1114112
theorem OkW.str {w : List Nat} (h : OkW w) : PyData.strOk (S w) = true := by
  unfold PyData.strOk
  rw [← Array.all_toList]
  exact List.all_eq_true.mpr fun c hc => decide_eq_true (h.2 c (by simpa using hc))
theorem OkW.sub {w v : List Nat} (h : OkW w) (hl : v.length ≤ w.length) (hm : ∀ c ∈ v, c ∈ w) : OkW v := ⟨Nat.le_trans hl h.1, fun c hc => h.2 c (hm c hc)⟩
theorem OkW.of {z : Str} (h : okD (.str z)) : ∃ w, z = S w ∧ OkW w := by
  simp only [okD] at h
  refine ⟨z.cps.toList, (SX.S_tl z).symm, ?_, fun c hc => ?_⟩
  · have := h.1; unfold Str.length at this; simpa using this
  · have := h.2
    unfold PyData.strOk at this
    rw [← Array.all_toList, List.all_eq_true] at this
    exact of_decide_eq_true (this c hc)
theorem OkW.ok {w : List Nat} (h : OkW w) : okD (.str (S w)) := by
  simp only [okD]
  exact ⟨by rw [SX.S_len]; exact h.1, h.str⟩
theorem OkW.shp {w : List Nat} (h : OkW w) : SeqAt.shaped (.str (S w)) = true := shp_str h.str
theorem spl_sub (s : Nat) : ∀ (l acc : List Nat), ∀ p ∈ TL.spl [s] 0 acc l, p.length ≤ acc.length + l.length ∧ ∀ c ∈ p, c ∈ acc ∨ c ∈ l
  | [], acc, p, hp => by
    rw [TL.spl_nil] at hp
    rw [List.mem_singleton.mp hp]
    exact ⟨by simp, fun c hc => .inl hc⟩
  | c :: l, acc, p, hp => by
    by_cases k : TL.pre [s] (c :: l) = true
    · rw [TL.spl_hit k] at hp
      rcases List.mem_cons.mp hp with rfl | hp
      · exact ⟨by simp, fun c hc => .inl hc⟩
      · obtain ⟨i1, i2⟩ := spl_sub s l [] p hp
        simp only [List.length_nil, Nat.zero_add] at i1
        refine ⟨by rw [List.length_cons]; omega, fun d hd => ?_⟩
        rcases i2 d hd with z | z
        · cases z
        · exact .inr (List.mem_cons_of_mem _ z)
    · rw [TL.spl_miss (by simpa using k)] at hp
      obtain ⟨i1, i2⟩ := spl_sub s l (acc ++ [c]) p hp
      rw [List.length_append, List.length_singleton] at i1
      refine ⟨by rw [List.length_cons]; omega, fun d hd => ?_⟩
      rcases i2 d hd with z | z
      · rcases List.mem_append.mp z with z | z
        · exact .inl z
        · exact .inr (by rw [List.mem_singleton.mp z]; exact List.mem_cons_self)
      · exact .inr (List.mem_cons_of_mem _ z)
theorem spl_len (s : Nat) : ∀ (l acc : List Nat), (TL.spl [s] 0 acc l).length ≤ l.length + 1
  | [], acc => by rw [TL.spl_nil]; simp
  | c :: l, acc => by
    by_cases k : TL.pre [s] (c :: l) = true
    · rw [TL.spl_hit k]
      have := spl_len s l []
      simp only [List.length_cons] at this ⊢
      show (TL.spl [s] 0 [] l).length + 1 ≤ _
      omega
    · rw [TL.spl_miss (by simpa using k)]
      have := spl_len s l (acc ++ [c])
      simp only [List.length_cons]
      omega
theorem par_sub (s : Nat) : ∀ (l acc h t : List Nat), TL.par [s] acc l = some (h, t) → h.length ≤ acc.length + l.length ∧ t.length ≤ l.length ∧ (∀ c ∈ h, c ∈ acc ∨ c ∈ l) ∧ ∀ c ∈ t, c ∈ l
  | [], acc, h, t, e => by cases e
  | c :: l, acc, h, t, e => by
    by_cases k : TL.pre [s] (c :: l) = true
    · rw [TL.par_hit k] at e
      cases e
      refine ⟨by omega, by simp, fun c hc => .inl hc, fun d hd => ?_⟩
      exact List.mem_of_mem_drop hd
    · rw [TL.par_miss (by simpa using k)] at e
      obtain ⟨i1, i2, i3, i4⟩ := par_sub s l (acc ++ [c]) h t e
      rw [List.length_append, List.length_singleton] at i1
      refine ⟨by rw [List.length_cons]; omega, by rw [List.length_cons]; omega, fun d hd => ?_, fun d hd => List.mem_cons_of_mem _ (i4 d hd)⟩
      rcases i3 d hd with z | z
      · rcases List.mem_append.mp z with z | z
        · exact .inl z
        · exact .inr (by rw [List.mem_singleton.mp z]; exact List.mem_cons_self)
      · exact .inr (List.mem_cons_of_mem _ z)
/-! ### the contracts -/
def cv_FIGURES : Dt := .str "0123456789"
def cv_MOST_FIGURES : Dt := .int 7
def oN : Option Nat → Dt
  | none => .none
  | some n => .int n
def oQ : Option Rat → Dt
  | none => .none
  | some q => eQ q
def oP : Option Pt → Dt
  | none => .none
  | some p => eP p
def readD : Dt → Option (List Pt)
  | .str z => readR z.cps.toList
  | _ => none
def sp_show_number : DSp := fun ds Φ _ => ∃ q : Rat, ds = [eQ q] ∧ Bd 1900 q ∧ Φ (.pu (.str (S (shQ q))))
def sp_show_point : DSp := fun ds Φ _ => ∃ p : Pt, ds = [eP p] ∧ BdP 1900 p ∧ Φ (.pu (.str (S (shP p))))
def sp_show_ring : DSp := fun ds Φ _ => ∃ r : List Pt, ds = [.tuple (r.map eP)] ∧ r.length ≤ 1000 ∧ (∀ p ∈ r, BdP 1900 p) ∧ Φ (.pu (.str (S (shR r))))
def sp_figures_in : DSp := fun ds Φ _ => ∃ w : List Nat, ds = [.str (S w)] ∧ OkW w ∧ Φ (.pu (oN (figs w)))
def sp_number_in : DSp := fun ds Φ _ => ∃ w : List Nat, ds = [.str (S w)] ∧ OkW w ∧ Φ (.pu (oQ (numQ w)))
def sp_point_in_word : DSp := fun ds Φ _ => ∃ w : List Nat, ds = [.str (S w)] ∧ OkW w ∧ Φ (.pu (oP (ptIn w)))
def sp_read_ring : DSp := fun ds Φ Ξ => ∃ d : Dt, ds = [d] ∧ okD d ∧ (∀ r, readD d = some r → Φ (.pu (.tuple (r.map eP)))) ∧ (readD d = none → Ξ ⟨"NoText", []⟩)
abbrev N_show_number : List Str := ["told"]
def d_show_number : DS := (dSeq (dIf (dTV (dBin oEq (dBin oIx (dV 0) (dC (.int 1))) (dC (.int 1)))) (dRet (dB bStr (dCons (dBin oIx (dV 0) (dC (.int 0))) dNil))) dNext)
  (dRet (dJs ((dFmt (dBin oIx (dV 0) (dC (.int 0)))) :: ((dC (.str "/")) :: ((dFmt (dBin oIx (dV 0) (dC (.int 1)))) :: []))) Str.empty)))
abbrev N_show_point : List Str := ["point"]
def d_show_point : DS := (dRet (dBin oAddU (dBin oAddU (dCall sp_show_number (dCons (dBin oIx (dV 0) (dC (.int 0))) dNil)) (dC (.str ","))) (dCall sp_show_number (dCons (dBin oIx (dV 0) (dC (.int 1))) dNil))))
abbrev N_show_ring : List Str := ["ring", "point"]
def d_show_ring : DS := (dRet (dTx pJoin (dC (.str " ")) (dFE (dLc [1] (diSeq (dV 0)) (dcN 1) dYes (dCall sp_show_point (dCons (dV 1) dNil))))))
abbrev N_figures_in : List Str := ["word", "sign"]
def d_figures_in : DS := (dSeq (dIf (dTOr (dTNot (dTV (dChn oLe oLe (dC (.int 1)) (dB bLen (dCons (dV 0) dNil)) (dC cv_MOST_FIGURES)))) (dTNot (dTV (dB bAll (dCons (dFE (dLc [1] (diSeq (dV 0)) (dcN 1) dYes (dBin oIn (dV 1) (dC cv_FIGURES)))) dNil))))) (dRet (dC .none)) dNext)
  (dSeq (dIf (dTAnd (dTV (dBin oEq (dBin oIx (dV 0) (dC (.int 0))) (dC (.str "0")))) (dTV (dBin oGt (dB bLen (dCons (dV 0) dNil)) (dC (.int 1))))) (dRet (dC .none)) dNext)
  (dRet (dB bIntS (dCons (dV 0) dNil)))))
abbrev N_number_in : List Str := ["word", "head", "stroke", "tail", "sign", "top", "bottom"]
def d_number_in : DS := (dSeq (dAsg (dTx pPart (dV 0) (dC (.str "/"))) (dgT 3 (dgCons (dgN 1) (dgCons (dgN 2) (dgCons (dgN 3) dgNil)))))
  (dSeq (dSetP 4 (dB bIntU (dCons (dBin oEq (dSl (dV 1) dNoPart (dPart (dC (.int 1)))) (dC (.str "-"))) dNil)))
  (dSeq (dSetP 5 (dCall sp_figures_in (dCons (dSl (dV 1) (dPart (dV 4)) dNoPart) dNil)))
  (dSeq (dIf (dTOr (dTV (dIsN (dV 5))) (dTAnd (dTV (dBin oEq (dV 5) (dC (.int 0)))) (dTV (dBin oNe (dV 1) (dC (.str "0")))))) (dRet (dC .none)) dNext)
  (dSeq (dIf (dTV (dBin oEq (dV 4) (dC (.int 1)))) (dSetP 5 (dBin oSubI (dC (.int 0)) (dV 5))) dNext)
  (dSeq (dIf (dTV (dBin oEq (dV 2) (dC (.str "")))) (dRet (dTup (dCons (dV 5) (dCons (dC (.int 1)) dNil)))) dNext)
  (dSeq (dSetP 6 (dCall sp_figures_in (dCons (dV 3) dNil)))
  (dSeq (dIf (dTOr (dTV (dIsN (dV 6))) (dTOr (dTV (dBin oLt (dV 6) (dC (.int 2)))) (dTV (dBin oNe (dCall sp_great_part (dCons (dV 5) (dCons (dV 6) dNil))) (dC (.int 1)))))) (dRet (dC .none)) dNext)
  (dRet (dTup (dCons (dV 5) (dCons (dV 6) dNil))))))))))))
abbrev N_point_in_word : List Str := ["word", "head", "comma", "tail", "x", "y"]
def d_point_in_word : DS := (dSeq (dAsg (dTx pPart (dV 0) (dC (.str ","))) (dgT 3 (dgCons (dgN 1) (dgCons (dgN 2) (dgCons (dgN 3) dgNil)))))
  (dSeq (dSetP 4 (dCall sp_number_in (dCons (dV 1) dNil)))
  (dSeq (dSetP 5 (dCall sp_number_in (dCons (dV 3) dNil)))
  (dSeq (dIf (dTOr (dTV (dBin oEq (dV 2) (dC (.str "")))) (dTOr (dTV (dIsN (dV 4))) (dTV (dIsN (dV 5))))) (dRet (dC .none)) dNext)
  (dRet (dTup (dCons (dV 4) (dCons (dV 5) dNil))))))))
abbrev N_read_ring : List Str := ["text", "points", "word"]
def d_read_ring : DS := (dSeq (dIf (dTNot (dTV (dIsi isStrD (dV 0)))) (dRaise ⟨"NoText", []⟩) dNext)
  (dSeq (dSetF 1 (dLc [2] (diSeq (dTx pSplit (dV 0) (dC (.str " ")))) (dcN 2) dYes (dCall sp_point_in_word (dCons (dV 2) dNil))))
  (dFrz 1 (dSeq (dIf (dTOr (dTV (dBin oIn (dC .none) (dV 1))) (dTV (dBin oGt (dB bLen (dCons (dV 1) dNil)) (dC cv_MOST_POINTS)))) (dRaise ⟨"NoText", []⟩) dNext)
  (dRet (dB bTup (dCons (dV 1) dNil)))))))
theorem log_ok {n : Nat} (h : n < 2 ^ 1900) : n.log2 < 1920 := Nat.lt_of_lt_of_le (PySem.Flt.log2_lt_of (by decide) h) (by decide)
theorem shI_len {i : Int} (h : i.natAbs < 2 ^ 1900) : (shI i).length ≤ 1921 := by
  have := PyProof.Rows.int_text_len_1921 (i := i) (log_ok h)
  rw [str_int, SX.S_len] at this
  exact this
theorem numL_len2 {n : Nat} (h : n < 2 ^ 1900) : (TL.numL n).length ≤ 1921 := by
  have := shI_len (i := (n : Int)) (by rw [Int.natAbs_natCast]; exact h)
  unfold shI at this
  rw [if_neg (by omega), Int.natAbs_natCast] at this
  exact this
theorem shQ_len {q : Rat} (h : Bd 1900 q) : (shQ q).length ≤ 3843 := by
  have h1 := shI_len h.1
  have h2 := numL_len2 h.2
  unfold shQ
  split
  · omega
  · rw [List.length_append, List.length_cons]; omega
theorem shP_len {p : Pt} (h : BdP 1900 p) : (shP p).length ≤ 7687 := by
  have h1 := shQ_len h.1
  have h2 := shQ_len h.2
  unfold shP
  rw [List.length_append, List.length_cons]
  omega
theorem nat_text (n : Nat) : Str.ofString (toString ((n : Nat) : Int)) = S (TL.numL n) := SX.num_S n
theorem rd_show_number (ds : List Dt) (Φ : Slot → Prop) (Ξ : XD → Prop) (h : sp_show_number ds Φ Ξ) : d_show_number (endsOf Φ Ξ) (rho0 N_show_number ds) := by
  obtain ⟨q, rfl, hb, h⟩ := h
  have hz : (100000 : Nat) < sizeLine := by decide
  have l1 := log_ok hb.1
  have l2 : ((q.den : Int)).natAbs.log2 < 1920 := by rw [Int.natAbs_natCast]; exact log_ok hb.2
  have t1 := str_int q.num
  have t2 := nat_text q.den
  have n1 := shI_len hb.1
  have n2 := numL_len2 hb.2
  simp only [d_show_number, N_show_number, dRet, dRetF, dSetX, dCallX, dRetX, noOw, dTry, dCpy, dRaise, dRetO, dSetP, dSetS, dSetF, dSeq, dIf, dNext, dCall, dCallF, dB, dBin, dCons, dNil, dTup, dLst, dV, dC, dTV, onB, dTAnd, dTOr, dTNot, dAnd, dOr, dNot, dIfE, dIsN, dNotN, isN, dSl, dSlF, dNoPart, dPart, dPar, dParS, dAsg, dgN, dgT, dgCons, dgNil, dFE, dIsi, dListF, dNeg, dRev, dFrz, dApp, dAppS, dIns, dExtend, dClear, dReverse, dPop, oIx, oI, oIC, oAddU, oSubI, oMulU, oMulI, oFd, oMd, oPw, oLt, oLe, oGt, oGe, oEq, oNe, getF, setF, Cl.d, getS, setS, purF_nil, purF_cons, purH, allF_nil, allF_cons, allH, rho0, endsOf, scalD, bLen, bAbs, bInt, bIntU, bTup, true_and, and_true, Option.some.injEq, exists_eq_left', decide_eq_true_eq, Bool.not_eq_true', decide_eq_false_iff_not, it_eQ0, it_eQ1, it_eP0, it_eP1, it_eS0, it_eS1, fits_eQ, fits_eP, fits_eS, eqv_eQ, eqv_eP, eqv_eS, eqv_int, eqv_bool, shp_int, shp_bool, shp_none, shp_eQ, shp_eP, shp_eS, dCont, dBreak, dXi, dSetG, dAppG, oIsB, oNotB, dTx, pJoin, pSplit, pPart, pStarts, bStr, bIntS, dFmt, dJs, ↓reduceIte, nsp_none, nsp_bool, nsp_int, nsp_str, nsp_list, nsp_tuple, nsp_eQ, nsp_eP, nsp_eS, dat_pu, dat_ow, seqD_l, seqD_t, not_true_eq_false, Bool.true_eq_false, Bool.not_not, List.length_cons, List.length_nil, mkP, mkS, fits_list, fits_tuple, isIntD, isBoolD, isListD, isStrD, isTupD, Bool.not_true, Bool.not_false, Bool.false_eq_true, it_l0, it_l1, it_l2, it_t0, it_t1, it_t2, shp_ps, shp_pt, shp_ss, shp_is, seqD_eQ, seqD_eP, seqD_eS, walkD_eP, walkD_eS, walkD_l, walkD_t]
  unfold shQ at h
  by_cases c : q.den = 1
  · rw [if_pos c] at h
    refine ite_yes (by omega) ?_
    refine ⟨l1, ?_⟩
    rw [t1]
    exact h
  · rw [if_neg c] at h
    refine ite_no (by omega) ?_
    have e0 : Str.empty ++ S (shI q.num) = S (shI q.num) := SX.S_cat [] _
    have e1 : S (shI q.num) ++ ("/" : Str) = S (shI q.num ++ [47]) := SX.S_cat _ [47]
    have e2 : S (shI q.num ++ [47]) ++ S (TL.numL q.den) = S (shI q.num ++ 47 :: TL.numL q.den) := by rw [SX.S_cat]; simp
    refine ⟨l1, _, rfl, ?_⟩
    rw [t1, e0]
    refine ⟨by rw [SX.S_len]; omega, _, rfl, ?_⟩
    rw [e1]
    refine ⟨by rw [SX.S_len, List.length_append]; simp; omega, l2, _, rfl, ?_⟩
    rw [t2, e2]
    exact ⟨by rw [SX.S_len, List.length_append, List.length_cons]; omega, h⟩
theorem rd_show_point (ds : List Dt) (Φ : Slot → Prop) (Ξ : XD → Prop) (h : sp_show_point ds Φ Ξ) : d_show_point (endsOf Φ Ξ) (rho0 N_show_point ds) := by
  obtain ⟨p, rfl, hb, h⟩ := h
  have hz : (100000 : Nat) < sizeLine := by decide
  have n1 := shQ_len hb.1
  have n2 := shQ_len hb.2
  simp only [d_show_point, N_show_point, dRet, dRetF, dSetX, dCallX, dRetX, noOw, dTry, dCpy, dRaise, dRetO, dSetP, dSetS, dSetF, dSeq, dIf, dNext, dCall, dCallF, dB, dBin, dCons, dNil, dTup, dLst, dV, dC, dTV, onB, dTAnd, dTOr, dTNot, dAnd, dOr, dNot, dIfE, dIsN, dNotN, isN, dSl, dSlF, dNoPart, dPart, dPar, dParS, dAsg, dgN, dgT, dgCons, dgNil, dFE, dIsi, dListF, dNeg, dRev, dFrz, dApp, dAppS, dIns, dExtend, dClear, dReverse, dPop, oIx, oI, oIC, oAddU, oSubI, oMulU, oMulI, oFd, oMd, oPw, oLt, oLe, oGt, oGe, oEq, oNe, getF, setF, Cl.d, getS, setS, purF_nil, purF_cons, purH, allF_nil, allF_cons, allH, rho0, endsOf, scalD, bLen, bAbs, bInt, bIntU, bTup, true_and, and_true, Option.some.injEq, exists_eq_left', decide_eq_true_eq, Bool.not_eq_true', decide_eq_false_iff_not, it_eQ0, it_eQ1, it_eP0, it_eP1, it_eS0, it_eS1, fits_eQ, fits_eP, fits_eS, eqv_eQ, eqv_eP, eqv_eS, eqv_int, eqv_bool, shp_int, shp_bool, shp_none, shp_eQ, shp_eP, shp_eS, dCont, dBreak, dXi, dSetG, dAppG, oIsB, oNotB, dTx, pJoin, pSplit, pPart, pStarts, bStr, bIntS, dFmt, dJs, ↓reduceIte, nsp_none, nsp_bool, nsp_int, nsp_str, nsp_list, nsp_tuple, nsp_eQ, nsp_eP, nsp_eS, dat_pu, dat_ow, seqD_l, seqD_t, not_true_eq_false, Bool.true_eq_false, Bool.not_not, List.length_cons, List.length_nil, mkP, mkS, fits_list, fits_tuple, isIntD, isBoolD, isListD, isStrD, isTupD, Bool.not_true, Bool.not_false, Bool.false_eq_true, it_l0, it_l1, it_l2, it_t0, it_t1, it_t2, shp_ps, shp_pt, shp_ss, shp_is, seqD_eQ, seqD_eP, seqD_eS, walkD_eP, walkD_eS, walkD_l, walkD_t]
  refine ⟨_, rfl, hb.1, ?_⟩
  simp only [dRet, dRetF, dSetX, dCallX, dRetX, noOw, dTry, dCpy, dRaise, dRetO, dSetP, dSetS, dSetF, dSeq, dIf, dNext, dCall, dCallF, dB, dBin, dCons, dNil, dTup, dLst, dV, dC, dTV, onB, dTAnd, dTOr, dTNot, dAnd, dOr, dNot, dIfE, dIsN, dNotN, isN, dSl, dSlF, dNoPart, dPart, dPar, dParS, dAsg, dgN, dgT, dgCons, dgNil, dFE, dIsi, dListF, dNeg, dRev, dFrz, dApp, dAppS, dIns, dExtend, dClear, dReverse, dPop, oIx, oI, oIC, oAddU, oSubI, oMulU, oMulI, oFd, oMd, oPw, oLt, oLe, oGt, oGe, oEq, oNe, getF, setF, Cl.d, getS, setS, purF_nil, purF_cons, purH, allF_nil, allF_cons, allH, rho0, endsOf, scalD, bLen, bAbs, bInt, bIntU, bTup, true_and, and_true, Option.some.injEq, exists_eq_left', decide_eq_true_eq, Bool.not_eq_true', decide_eq_false_iff_not, it_eQ0, it_eQ1, it_eP0, it_eP1, it_eS0, it_eS1, fits_eQ, fits_eP, fits_eS, eqv_eQ, eqv_eP, eqv_eS, eqv_int, eqv_bool, shp_int, shp_bool, shp_none, shp_eQ, shp_eP, shp_eS, dCont, dBreak, dXi, dSetG, dAppG, oIsB, oNotB, dTx, pJoin, pSplit, pPart, pStarts, bStr, bIntS, dFmt, dJs, ↓reduceIte, nsp_none, nsp_bool, nsp_int, nsp_str, nsp_list, nsp_tuple, nsp_eQ, nsp_eP, nsp_eS, dat_pu, dat_ow, seqD_l, seqD_t, not_true_eq_false, Bool.true_eq_false, Bool.not_not, List.length_cons, List.length_nil, mkP, mkS, fits_list, fits_tuple, isIntD, isBoolD, isListD, isStrD, isTupD, Bool.not_true, Bool.not_false, Bool.false_eq_true, it_l0, it_l1, it_l2, it_t0, it_t1, it_t2, shp_ps, shp_pt, shp_ss, shp_is, seqD_eQ, seqD_eP, seqD_eS, walkD_eP, walkD_eS, walkD_l, walkD_t]
  have e1 : S (shQ p.1) ++ ("," : Str) = S (shQ p.1 ++ [44]) := SX.S_cat _ [44]
  have e2 : S (shQ p.1 ++ [44]) ++ S (shQ p.2) = S (shP p) := by rw [SX.S_cat]; simp [shP]
  refine ⟨by rw [SX.S_len]; show _ + 1 ≤ _; omega, ?_⟩
  rw [e1]
  refine ⟨_, rfl, hb.2, ?_⟩
  simp only [dRet, dRetF, dSetX, dCallX, dRetX, noOw, dTry, dCpy, dRaise, dRetO, dSetP, dSetS, dSetF, dSeq, dIf, dNext, dCall, dCallF, dB, dBin, dCons, dNil, dTup, dLst, dV, dC, dTV, onB, dTAnd, dTOr, dTNot, dAnd, dOr, dNot, dIfE, dIsN, dNotN, isN, dSl, dSlF, dNoPart, dPart, dPar, dParS, dAsg, dgN, dgT, dgCons, dgNil, dFE, dIsi, dListF, dNeg, dRev, dFrz, dApp, dAppS, dIns, dExtend, dClear, dReverse, dPop, oIx, oI, oIC, oAddU, oSubI, oMulU, oMulI, oFd, oMd, oPw, oLt, oLe, oGt, oGe, oEq, oNe, getF, setF, Cl.d, getS, setS, purF_nil, purF_cons, purH, allF_nil, allF_cons, allH, rho0, endsOf, scalD, bLen, bAbs, bInt, bIntU, bTup, true_and, and_true, Option.some.injEq, exists_eq_left', decide_eq_true_eq, Bool.not_eq_true', decide_eq_false_iff_not, it_eQ0, it_eQ1, it_eP0, it_eP1, it_eS0, it_eS1, fits_eQ, fits_eP, fits_eS, eqv_eQ, eqv_eP, eqv_eS, eqv_int, eqv_bool, shp_int, shp_bool, shp_none, shp_eQ, shp_eP, shp_eS, dCont, dBreak, dXi, dSetG, dAppG, oIsB, oNotB, dTx, pJoin, pSplit, pPart, pStarts, bStr, bIntS, dFmt, dJs, ↓reduceIte, nsp_none, nsp_bool, nsp_int, nsp_str, nsp_list, nsp_tuple, nsp_eQ, nsp_eP, nsp_eS, dat_pu, dat_ow, seqD_l, seqD_t, not_true_eq_false, Bool.true_eq_false, Bool.not_not, List.length_cons, List.length_nil, mkP, mkS, fits_list, fits_tuple, isIntD, isBoolD, isListD, isStrD, isTupD, Bool.not_true, Bool.not_false, Bool.false_eq_true, it_l0, it_l1, it_l2, it_t0, it_t1, it_t2, shp_ps, shp_pt, shp_ss, shp_is, seqD_eQ, seqD_eP, seqD_eS, walkD_eP, walkD_eS, walkD_l, walkD_t]
  rw [e2]
  exact ⟨by rw [SX.S_len, SX.S_len, List.length_append]; simp; omega, h⟩
theorem rd_show_ring (ds : List Dt) (Φ : Slot → Prop) (Ξ : XD → Prop) (h : sp_show_ring ds Φ Ξ) : d_show_ring (endsOf Φ Ξ) (rho0 N_show_ring ds) := by
  obtain ⟨r, rfl, hl, hb, h⟩ := h
  have hz : (100000 : Nat) < sizeLine := by decide
  simp only [d_show_ring, N_show_ring, dRet, dRetF, dSetX, dCallX, dRetX, noOw, dTry, dCpy, dRaise, dRetO, dSetP, dSetS, dSetF, dSeq, dIf, dNext, dCall, dCallF, dB, dBin, dCons, dNil, dTup, dLst, dV, dC, dTV, onB, dTAnd, dTOr, dTNot, dAnd, dOr, dNot, dIfE, dIsN, dNotN, isN, dSl, dSlF, dNoPart, dPart, dPar, dParS, dAsg, dgN, dgT, dgCons, dgNil, dFE, dIsi, dListF, dNeg, dRev, dFrz, dApp, dAppS, dIns, dExtend, dClear, dReverse, dPop, oIx, oI, oIC, oAddU, oSubI, oMulU, oMulI, oFd, oMd, oPw, oLt, oLe, oGt, oGe, oEq, oNe, getF, setF, Cl.d, getS, setS, purF_nil, purF_cons, purH, allF_nil, allF_cons, allH, rho0, endsOf, scalD, bLen, bAbs, bInt, bIntU, bTup, true_and, and_true, Option.some.injEq, exists_eq_left', decide_eq_true_eq, Bool.not_eq_true', decide_eq_false_iff_not, it_eQ0, it_eQ1, it_eP0, it_eP1, it_eS0, it_eS1, fits_eQ, fits_eP, fits_eS, eqv_eQ, eqv_eP, eqv_eS, eqv_int, eqv_bool, shp_int, shp_bool, shp_none, shp_eQ, shp_eP, shp_eS, dCont, dBreak, dXi, dSetG, dAppG, oIsB, oNotB, dTx, pJoin, pSplit, pPart, pStarts, bStr, bIntS, dFmt, dJs, ↓reduceIte, nsp_none, nsp_bool, nsp_int, nsp_str, nsp_list, nsp_tuple, nsp_eQ, nsp_eP, nsp_eS, dat_pu, dat_ow, seqD_l, seqD_t, not_true_eq_false, Bool.true_eq_false, Bool.not_not, List.length_cons, List.length_nil, mkP, mkS, fits_list, fits_tuple, isIntD, isBoolD, isListD, isStrD, isTupD, Bool.not_true, Bool.not_false, Bool.false_eq_true, it_l0, it_l1, it_l2, it_t0, it_t1, it_t2, shp_ps, shp_pt, shp_ss, shp_is, seqD_eQ, seqD_eP, seqD_eS, walkD_eP, walkD_eS, walkD_l, walkD_t]
  refine dLc_mapM (xs := r) (e := eP) (fun Q hQ => ?_) (fun p => .str (S (shP p))) (by omega) (fun p hp Ψ hΨ => ?_) ?_
  · simp only [diSeq, dRet, dRetF, dSetX, dCallX, dRetX, noOw, dTry, dCpy, dRaise, dRetO, dSetP, dSetS, dSetF, dSeq, dIf, dNext, dCall, dCallF, dB, dBin, dCons, dNil, dTup, dLst, dV, dC, dTV, onB, dTAnd, dTOr, dTNot, dAnd, dOr, dNot, dIfE, dIsN, dNotN, isN, dSl, dSlF, dNoPart, dPart, dPar, dParS, dAsg, dgN, dgT, dgCons, dgNil, dFE, dIsi, dListF, dNeg, dRev, dFrz, dApp, dAppS, dIns, dExtend, dClear, dReverse, dPop, oIx, oI, oIC, oAddU, oSubI, oMulU, oMulI, oFd, oMd, oPw, oLt, oLe, oGt, oGe, oEq, oNe, getF, setF, Cl.d, getS, setS, purF_nil, purF_cons, purH, allF_nil, allF_cons, allH, rho0, endsOf, scalD, bLen, bAbs, bInt, bIntU, bTup, true_and, and_true, Option.some.injEq, exists_eq_left', decide_eq_true_eq, Bool.not_eq_true', decide_eq_false_iff_not, it_eQ0, it_eQ1, it_eP0, it_eP1, it_eS0, it_eS1, fits_eQ, fits_eP, fits_eS, eqv_eQ, eqv_eP, eqv_eS, eqv_int, eqv_bool, shp_int, shp_bool, shp_none, shp_eQ, shp_eP, shp_eS, dCont, dBreak, dXi, dSetG, dAppG, oIsB, oNotB, dTx, pJoin, pSplit, pPart, pStarts, bStr, bIntS, dFmt, dJs, ↓reduceIte, nsp_none, nsp_bool, nsp_int, nsp_str, nsp_list, nsp_tuple, nsp_eQ, nsp_eP, nsp_eS, dat_pu, dat_ow, seqD_l, seqD_t, not_true_eq_false, Bool.true_eq_false, Bool.not_not, List.length_cons, List.length_nil, mkP, mkS, fits_list, fits_tuple, isIntD, isBoolD, isListD, isStrD, isTupD, Bool.not_true, Bool.not_false, Bool.false_eq_true, it_l0, it_l1, it_l2, it_t0, it_t1, it_t2, shp_ps, shp_pt, shp_ss, shp_is, seqD_eQ, seqD_eP, seqD_eS, walkD_eP, walkD_eS, walkD_l, walkD_t]
    exact hQ
  · simp only [dcN, wipeF, noneF, dRet, dRetF, dSetX, dCallX, dRetX, noOw, dTry, dCpy, dRaise, dRetO, dSetP, dSetS, dSetF, dSeq, dIf, dNext, dCall, dCallF, dB, dBin, dCons, dNil, dTup, dLst, dV, dC, dTV, onB, dTAnd, dTOr, dTNot, dAnd, dOr, dNot, dIfE, dIsN, dNotN, isN, dSl, dSlF, dNoPart, dPart, dPar, dParS, dAsg, dgN, dgT, dgCons, dgNil, dFE, dIsi, dListF, dNeg, dRev, dFrz, dApp, dAppS, dIns, dExtend, dClear, dReverse, dPop, oIx, oI, oIC, oAddU, oSubI, oMulU, oMulI, oFd, oMd, oPw, oLt, oLe, oGt, oGe, oEq, oNe, getF, setF, Cl.d, getS, setS, purF_nil, purF_cons, purH, allF_nil, allF_cons, allH, rho0, endsOf, scalD, bLen, bAbs, bInt, bIntU, bTup, true_and, and_true, Option.some.injEq, exists_eq_left', decide_eq_true_eq, Bool.not_eq_true', decide_eq_false_iff_not, it_eQ0, it_eQ1, it_eP0, it_eP1, it_eS0, it_eS1, fits_eQ, fits_eP, fits_eS, eqv_eQ, eqv_eP, eqv_eS, eqv_int, eqv_bool, shp_int, shp_bool, shp_none, shp_eQ, shp_eP, shp_eS, dCont, dBreak, dXi, dSetG, dAppG, oIsB, oNotB, dTx, pJoin, pSplit, pPart, pStarts, bStr, bIntS, dFmt, dJs, ↓reduceIte, nsp_none, nsp_bool, nsp_int, nsp_str, nsp_list, nsp_tuple, nsp_eQ, nsp_eP, nsp_eS, dat_pu, dat_ow, seqD_l, seqD_t, not_true_eq_false, Bool.true_eq_false, Bool.not_not, List.length_cons, List.length_nil, mkP, mkS, fits_list, fits_tuple, isIntD, isBoolD, isListD, isStrD, isTupD, Bool.not_true, Bool.not_false, Bool.false_eq_true, it_l0, it_l1, it_l2, it_t0, it_t1, it_t2, shp_ps, shp_pt, shp_ss, shp_is, seqD_eQ, seqD_eP, seqD_eS, walkD_eP, walkD_eS, walkD_l, walkD_t]
    exact ⟨p, rfl, hb p hp, hΨ⟩
  · refine ⟨(r.map shP).map S, .inl (by rw [List.map_map, List.map_map]; rfl), ?_, ?_⟩
    · rw [SX.lens]
      have g : ∀ r : List Pt, (∀ p ∈ r, BdP 1900 p) → ((r.map shP).map (·.length)).sum ≤ r.length * 7687 := fun r => by
        induction r with
        | nil => intro _; exact Nat.le_refl _
        | cons p r ih =>
          intro k
          have k1 := shP_len (k p List.mem_cons_self)
          have k2 := ih fun q hq => k q (List.mem_cons_of_mem _ hq)
          simp only [List.map_cons, List.sum_cons, List.length_cons] at k2 ⊢
          omega
      have k3 := g r hb
      have : (" " : Str).length = 1 := rfl
      rw [this, List.length_map, List.length_map]
      omega
    · have e := SX.join_S [32] (r.map shP)
      have e2 : (" " : Str) = S [32] := rfl
      rw [e2, e]
      exact h
theorem dig_eq : ("0123456789" : Str).cps.toList = [48, 49, 50, 51, 52, 53, 54, 55, 56, 57] := by decide +kernel
theorem dig_mem (c : Nat) : c ∈ [48, 49, 50, 51, 52, 53, 54, 55, 56, 57] ↔ 48 ≤ c ∧ c ≤ 57 := by simp; omega
theorem shp_dig : SeqAt.shaped (.str "0123456789") = true := shp_str (by decide +kernel)
theorem shp_lit {z : Str} (h : PyData.strOk z = true) : SeqAt.shaped (.str z) = true := shp_str h
theorem rd_figures_in (ds : List Dt) (Φ : Slot → Prop) (Ξ : XD → Prop) (h : sp_figures_in ds Φ Ξ) : d_figures_in (endsOf Φ Ξ) (rho0 N_figures_in ds) := by
  obtain ⟨w, rfl, ho, h⟩ := h
  have hz : (200000 : Nat) < sizeLine := by decide
  have hl := ho.1
  have sl : (S w).length = w.length := SX.S_len w
  have no : ¬ figOk w → Φ (.pu .none) := fun z => by
    have e : figs w = none := if_neg z
    rw [e] at h
    exact h
  show dSeq _ _ _ [.pu (.str (S w)), .un]
  refine seq_cut (fun ρ => ∃ s : Slot, ρ = [.pu (.str (S w)), s] ∧ 1 ≤ w.length ∧ w.length ≤ 7 ∧ ∀ c ∈ w, 48 ≤ c ∧ c ≤ 57) (fun E hr hE => ?_) ?_
  · simp only [dChn, cv_MOST_FIGURES, sl, dRet, dRetF, dSetX, dCallX, dRetX, noOw, dTry, dCpy, dRaise, dRetO, dSetP, dSetS, dSetF, dSeq, dIf, dNext, dCall, dCallF, dB, dBin, dCons, dNil, dTup, dLst, dV, dC, dTV, onB, dTAnd, dTOr, dTNot, dAnd, dOr, dNot, dIfE, dIsN, dNotN, isN, dSl, dSlF, dNoPart, dPart, dPar, dParS, dAsg, dgN, dgT, dgCons, dgNil, dFE, dIsi, dListF, dNeg, dRev, dFrz, dApp, dAppS, dIns, dExtend, dClear, dReverse, dPop, oIx, oI, oIC, oAddU, oSubI, oMulU, oMulI, oFd, oMd, oPw, oLt, oLe, oGt, oGe, oEq, oNe, getF, setF, Cl.d, getS, setS, purF_nil, purF_cons, purH, allF_nil, allF_cons, allH, rho0, endsOf, scalD, bLen, bAbs, bInt, bIntU, bTup, true_and, and_true, Option.some.injEq, exists_eq_left', decide_eq_true_eq, Bool.not_eq_true', decide_eq_false_iff_not, it_eQ0, it_eQ1, it_eP0, it_eP1, it_eS0, it_eS1, fits_eQ, fits_eP, fits_eS, eqv_eQ, eqv_eP, eqv_eS, eqv_int, eqv_bool, shp_int, shp_bool, shp_none, shp_eQ, shp_eP, shp_eS, dCont, dBreak, dXi, dSetG, dAppG, oIsB, oNotB, dTx, pJoin, pSplit, pPart, pStarts, bStr, bIntS, dFmt, dJs, ↓reduceIte, nsp_none, nsp_bool, nsp_int, nsp_str, nsp_list, nsp_tuple, nsp_eQ, nsp_eP, nsp_eS, dat_pu, dat_ow, seqD_l, seqD_t, not_true_eq_false, Bool.true_eq_false, Bool.not_not, List.length_cons, List.length_nil, mkP, mkS, fits_list, fits_tuple, isIntD, isBoolD, isListD, isStrD, isTupD, Bool.not_true, Bool.not_false, Bool.false_eq_true, it_l0, it_l1, it_l2, it_t0, it_t1, it_t2, shp_ps, shp_pt, shp_ss, shp_is, seqD_eQ, seqD_eP, seqD_eS, walkD_eP, walkD_eS, walkD_l, walkD_t]
    refine ⟨by omega, ?_⟩
    by_cases c1 : 1 ≤ w.length
    · have c1' : (1 : Int) ≤ w.length := by omega
      simp only [c1', dRet, dRetF, dSetX, dCallX, dRetX, noOw, dTry, dCpy, dRaise, dRetO, dSetP, dSetS, dSetF, dSeq, dIf, dNext, dCall, dCallF, dB, dBin, dCons, dNil, dTup, dLst, dV, dC, dTV, onB, dTAnd, dTOr, dTNot, dAnd, dOr, dNot, dIfE, dIsN, dNotN, isN, dSl, dSlF, dNoPart, dPart, dPar, dParS, dAsg, dgN, dgT, dgCons, dgNil, dFE, dIsi, dListF, dNeg, dRev, dFrz, dApp, dAppS, dIns, dExtend, dClear, dReverse, dPop, oIx, oI, oIC, oAddU, oSubI, oMulU, oMulI, oFd, oMd, oPw, oLt, oLe, oGt, oGe, oEq, oNe, getF, setF, Cl.d, getS, setS, purF_nil, purF_cons, purH, allF_nil, allF_cons, allH, rho0, endsOf, scalD, bLen, bAbs, bInt, bIntU, bTup, true_and, and_true, Option.some.injEq, exists_eq_left', decide_eq_true_eq, Bool.not_eq_true', decide_eq_false_iff_not, it_eQ0, it_eQ1, it_eP0, it_eP1, it_eS0, it_eS1, fits_eQ, fits_eP, fits_eS, eqv_eQ, eqv_eP, eqv_eS, eqv_int, eqv_bool, shp_int, shp_bool, shp_none, shp_eQ, shp_eP, shp_eS, dCont, dBreak, dXi, dSetG, dAppG, oIsB, oNotB, dTx, pJoin, pSplit, pPart, pStarts, bStr, bIntS, dFmt, dJs, ↓reduceIte, nsp_none, nsp_bool, nsp_int, nsp_str, nsp_list, nsp_tuple, nsp_eQ, nsp_eP, nsp_eS, dat_pu, dat_ow, seqD_l, seqD_t, not_true_eq_false, Bool.true_eq_false, Bool.not_not, List.length_cons, List.length_nil, mkP, mkS, fits_list, fits_tuple, isIntD, isBoolD, isListD, isStrD, isTupD, Bool.not_true, Bool.not_false, Bool.false_eq_true, it_l0, it_l1, it_l2, it_t0, it_t1, it_t2, shp_ps, shp_pt, shp_ss, shp_is, seqD_eQ, seqD_eP, seqD_eS, walkD_eP, walkD_eS, walkD_l, walkD_t]
      by_cases c2 : w.length ≤ 7
      · have c2' : (w.length : Int) ≤ 7 := by omega
        simp only [c2', dRet, dRetF, dSetX, dCallX, dRetX, noOw, dTry, dCpy, dRaise, dRetO, dSetP, dSetS, dSetF, dSeq, dIf, dNext, dCall, dCallF, dB, dBin, dCons, dNil, dTup, dLst, dV, dC, dTV, onB, dTAnd, dTOr, dTNot, dAnd, dOr, dNot, dIfE, dIsN, dNotN, isN, dSl, dSlF, dNoPart, dPart, dPar, dParS, dAsg, dgN, dgT, dgCons, dgNil, dFE, dIsi, dListF, dNeg, dRev, dFrz, dApp, dAppS, dIns, dExtend, dClear, dReverse, dPop, oIx, oI, oIC, oAddU, oSubI, oMulU, oMulI, oFd, oMd, oPw, oLt, oLe, oGt, oGe, oEq, oNe, getF, setF, Cl.d, getS, setS, purF_nil, purF_cons, purH, allF_nil, allF_cons, allH, rho0, endsOf, scalD, bLen, bAbs, bInt, bIntU, bTup, true_and, and_true, Option.some.injEq, exists_eq_left', decide_eq_true_eq, Bool.not_eq_true', decide_eq_false_iff_not, it_eQ0, it_eQ1, it_eP0, it_eP1, it_eS0, it_eS1, fits_eQ, fits_eP, fits_eS, eqv_eQ, eqv_eP, eqv_eS, eqv_int, eqv_bool, shp_int, shp_bool, shp_none, shp_eQ, shp_eP, shp_eS, dCont, dBreak, dXi, dSetG, dAppG, oIsB, oNotB, dTx, pJoin, pSplit, pPart, pStarts, bStr, bIntS, dFmt, dJs, ↓reduceIte, nsp_none, nsp_bool, nsp_int, nsp_str, nsp_list, nsp_tuple, nsp_eQ, nsp_eP, nsp_eS, dat_pu, dat_ow, seqD_l, seqD_t, not_true_eq_false, Bool.true_eq_false, Bool.not_not, List.length_cons, List.length_nil, mkP, mkS, fits_list, fits_tuple, isIntD, isBoolD, isListD, isStrD, isTupD, Bool.not_true, Bool.not_false, Bool.false_eq_true, it_l0, it_l1, it_l2, it_t0, it_t1, it_t2, shp_ps, shp_pt, shp_ss, shp_is, seqD_eQ, seqD_eP, seqD_eS, walkD_eP, walkD_eS, walkD_l, walkD_t]
        refine dLc_mapM (xs := w) (e := fun c => .str ⟨#[c]⟩) (fun Q hQ => ?_) (fun c => .bool (decide (48 ≤ c ∧ c ≤ 57))) (by omega) (fun c hc Ψ hΨ => ?_) ?_
        · simp only [diSeq, walkD, dRet, dRetF, dSetX, dCallX, dRetX, noOw, dTry, dCpy, dRaise, dRetO, dSetP, dSetS, dSetF, dSeq, dIf, dNext, dCall, dCallF, dB, dBin, dCons, dNil, dTup, dLst, dV, dC, dTV, onB, dTAnd, dTOr, dTNot, dAnd, dOr, dNot, dIfE, dIsN, dNotN, isN, dSl, dSlF, dNoPart, dPart, dPar, dParS, dAsg, dgN, dgT, dgCons, dgNil, dFE, dIsi, dListF, dNeg, dRev, dFrz, dApp, dAppS, dIns, dExtend, dClear, dReverse, dPop, oIx, oI, oIC, oAddU, oSubI, oMulU, oMulI, oFd, oMd, oPw, oLt, oLe, oGt, oGe, oEq, oNe, getF, setF, Cl.d, getS, setS, purF_nil, purF_cons, purH, allF_nil, allF_cons, allH, rho0, endsOf, scalD, bLen, bAbs, bInt, bIntU, bTup, true_and, and_true, Option.some.injEq, exists_eq_left', decide_eq_true_eq, Bool.not_eq_true', decide_eq_false_iff_not, it_eQ0, it_eQ1, it_eP0, it_eP1, it_eS0, it_eS1, fits_eQ, fits_eP, fits_eS, eqv_eQ, eqv_eP, eqv_eS, eqv_int, eqv_bool, shp_int, shp_bool, shp_none, shp_eQ, shp_eP, shp_eS, dCont, dBreak, dXi, dSetG, dAppG, oIsB, oNotB, dTx, pJoin, pSplit, pPart, pStarts, bStr, bIntS, dFmt, dJs, ↓reduceIte, nsp_none, nsp_bool, nsp_int, nsp_str, nsp_list, nsp_tuple, nsp_eQ, nsp_eP, nsp_eS, dat_pu, dat_ow, seqD_l, seqD_t, not_true_eq_false, Bool.true_eq_false, Bool.not_not, List.length_cons, List.length_nil, mkP, mkS, fits_list, fits_tuple, isIntD, isBoolD, isListD, isStrD, isTupD, Bool.not_true, Bool.not_false, Bool.false_eq_true, it_l0, it_l1, it_l2, it_t0, it_t1, it_t2, shp_ps, shp_pt, shp_ss, shp_is, seqD_eQ, seqD_eP, seqD_eS, walkD_eP, walkD_eS, walkD_l, walkD_t]
          exact hQ
        · have k := shp_chars ho.str c (by simpa using hc)
          simp only [dcN, wipeF, noneF, oIn, cv_FIGURES, k, shp_dig, dig_eq, dRet, dRetF, dSetX, dCallX, dRetX, noOw, dTry, dCpy, dRaise, dRetO, dSetP, dSetS, dSetF, dSeq, dIf, dNext, dCall, dCallF, dB, dBin, dCons, dNil, dTup, dLst, dV, dC, dTV, onB, dTAnd, dTOr, dTNot, dAnd, dOr, dNot, dIfE, dIsN, dNotN, isN, dSl, dSlF, dNoPart, dPart, dPar, dParS, dAsg, dgN, dgT, dgCons, dgNil, dFE, dIsi, dListF, dNeg, dRev, dFrz, dApp, dAppS, dIns, dExtend, dClear, dReverse, dPop, oIx, oI, oIC, oAddU, oSubI, oMulU, oMulI, oFd, oMd, oPw, oLt, oLe, oGt, oGe, oEq, oNe, getF, setF, Cl.d, getS, setS, purF_nil, purF_cons, purH, allF_nil, allF_cons, allH, rho0, endsOf, scalD, bLen, bAbs, bInt, bIntU, bTup, true_and, and_true, Option.some.injEq, exists_eq_left', decide_eq_true_eq, Bool.not_eq_true', decide_eq_false_iff_not, it_eQ0, it_eQ1, it_eP0, it_eP1, it_eS0, it_eS1, fits_eQ, fits_eP, fits_eS, eqv_eQ, eqv_eP, eqv_eS, eqv_int, eqv_bool, shp_int, shp_bool, shp_none, shp_eQ, shp_eP, shp_eS, dCont, dBreak, dXi, dSetG, dAppG, oIsB, oNotB, dTx, pJoin, pSplit, pPart, pStarts, bStr, bIntS, dFmt, dJs, ↓reduceIte, nsp_none, nsp_bool, nsp_int, nsp_str, nsp_list, nsp_tuple, nsp_eQ, nsp_eP, nsp_eS, dat_pu, dat_ow, seqD_l, seqD_t, not_true_eq_false, Bool.true_eq_false, Bool.not_not, List.length_cons, List.length_nil, mkP, mkS, fits_list, fits_tuple, isIntD, isBoolD, isListD, isStrD, isTupD, Bool.not_true, Bool.not_false, Bool.false_eq_true, it_l0, it_l1, it_l2, it_t0, it_t1, it_t2, shp_ps, shp_pt, shp_ss, shp_is, seqD_eQ, seqD_eP, seqD_eS, walkD_eP, walkD_eS, walkD_l, walkD_t]
          refine ⟨rfl, ?_⟩
          have e : decide ((⟨#[c]⟩ : Str).cps.getD 0 0 ∈ [48, 49, 50, 51, 52, 53, 54, 55, 56, 57]) = decide (48 ≤ c ∧ c ≤ 57) := decide_eq_decide.mpr (dig_mem c)
          rw [e]
          exact hΨ
        · refine ⟨w.map fun c => decide (48 ≤ c ∧ c ≤ 57), by rw [List.map_map]; rfl, ?_⟩
          rw [List.all_map]
          cases c3 : w.all (id ∘ fun c => decide (48 ≤ c ∧ c ≤ 57)) with
          | true =>
            simp only [dRet, dRetF, dSetX, dCallX, dRetX, noOw, dTry, dCpy, dRaise, dRetO, dSetP, dSetS, dSetF, dSeq, dIf, dNext, dCall, dCallF, dB, dBin, dCons, dNil, dTup, dLst, dV, dC, dTV, onB, dTAnd, dTOr, dTNot, dAnd, dOr, dNot, dIfE, dIsN, dNotN, isN, dSl, dSlF, dNoPart, dPart, dPar, dParS, dAsg, dgN, dgT, dgCons, dgNil, dFE, dIsi, dListF, dNeg, dRev, dFrz, dApp, dAppS, dIns, dExtend, dClear, dReverse, dPop, oIx, oI, oIC, oAddU, oSubI, oMulU, oMulI, oFd, oMd, oPw, oLt, oLe, oGt, oGe, oEq, oNe, getF, setF, Cl.d, getS, setS, purF_nil, purF_cons, purH, allF_nil, allF_cons, allH, rho0, endsOf, scalD, bLen, bAbs, bInt, bIntU, bTup, true_and, and_true, Option.some.injEq, exists_eq_left', decide_eq_true_eq, Bool.not_eq_true', decide_eq_false_iff_not, it_eQ0, it_eQ1, it_eP0, it_eP1, it_eS0, it_eS1, fits_eQ, fits_eP, fits_eS, eqv_eQ, eqv_eP, eqv_eS, eqv_int, eqv_bool, shp_int, shp_bool, shp_none, shp_eQ, shp_eP, shp_eS, dCont, dBreak, dXi, dSetG, dAppG, oIsB, oNotB, dTx, pJoin, pSplit, pPart, pStarts, bStr, bIntS, dFmt, dJs, ↓reduceIte, nsp_none, nsp_bool, nsp_int, nsp_str, nsp_list, nsp_tuple, nsp_eQ, nsp_eP, nsp_eS, dat_pu, dat_ow, seqD_l, seqD_t, not_true_eq_false, Bool.true_eq_false, Bool.not_not, List.length_cons, List.length_nil, mkP, mkS, fits_list, fits_tuple, isIntD, isBoolD, isListD, isStrD, isTupD, Bool.not_true, Bool.not_false, Bool.false_eq_true, it_l0, it_l1, it_l2, it_t0, it_t1, it_t2, shp_ps, shp_pt, shp_ss, shp_is, seqD_eQ, seqD_eP, seqD_eS, walkD_eP, walkD_eS, walkD_l, walkD_t]
            exact hE _ ⟨_, rfl, c1, c2, fun c hc => of_decide_eq_true (List.all_eq_true.mp c3 c hc)⟩
          | false =>
            simp only [dRet, dRetF, dSetX, dCallX, dRetX, noOw, dTry, dCpy, dRaise, dRetO, dSetP, dSetS, dSetF, dSeq, dIf, dNext, dCall, dCallF, dB, dBin, dCons, dNil, dTup, dLst, dV, dC, dTV, onB, dTAnd, dTOr, dTNot, dAnd, dOr, dNot, dIfE, dIsN, dNotN, isN, dSl, dSlF, dNoPart, dPart, dPar, dParS, dAsg, dgN, dgT, dgCons, dgNil, dFE, dIsi, dListF, dNeg, dRev, dFrz, dApp, dAppS, dIns, dExtend, dClear, dReverse, dPop, oIx, oI, oIC, oAddU, oSubI, oMulU, oMulI, oFd, oMd, oPw, oLt, oLe, oGt, oGe, oEq, oNe, getF, setF, Cl.d, getS, setS, purF_nil, purF_cons, purH, allF_nil, allF_cons, allH, rho0, endsOf, scalD, bLen, bAbs, bInt, bIntU, bTup, true_and, and_true, Option.some.injEq, exists_eq_left', decide_eq_true_eq, Bool.not_eq_true', decide_eq_false_iff_not, it_eQ0, it_eQ1, it_eP0, it_eP1, it_eS0, it_eS1, fits_eQ, fits_eP, fits_eS, eqv_eQ, eqv_eP, eqv_eS, eqv_int, eqv_bool, shp_int, shp_bool, shp_none, shp_eQ, shp_eP, shp_eS, dCont, dBreak, dXi, dSetG, dAppG, oIsB, oNotB, dTx, pJoin, pSplit, pPart, pStarts, bStr, bIntS, dFmt, dJs, ↓reduceIte, nsp_none, nsp_bool, nsp_int, nsp_str, nsp_list, nsp_tuple, nsp_eQ, nsp_eP, nsp_eS, dat_pu, dat_ow, seqD_l, seqD_t, not_true_eq_false, Bool.true_eq_false, Bool.not_not, List.length_cons, List.length_nil, mkP, mkS, fits_list, fits_tuple, isIntD, isBoolD, isListD, isStrD, isTupD, Bool.not_true, Bool.not_false, Bool.false_eq_true, it_l0, it_l1, it_l2, it_t0, it_t1, it_t2, shp_ps, shp_pt, shp_ss, shp_is, seqD_eQ, seqD_eP, seqD_eS, walkD_eP, walkD_eS, walkD_l, walkD_t]
            rw [hr]
            refine no fun z => ?_
            have c4 : w.all (id ∘ fun c => decide (48 ≤ c ∧ c ≤ 57)) = true := List.all_eq_true.mpr fun c hc => decide_eq_true (z.2.2.1 c hc)
            rw [c4] at c3
            cases c3
      · have c2' : ¬ (w.length : Int) ≤ 7 := by omega
        simp only [c2', dRet, dRetF, dSetX, dCallX, dRetX, noOw, dTry, dCpy, dRaise, dRetO, dSetP, dSetS, dSetF, dSeq, dIf, dNext, dCall, dCallF, dB, dBin, dCons, dNil, dTup, dLst, dV, dC, dTV, onB, dTAnd, dTOr, dTNot, dAnd, dOr, dNot, dIfE, dIsN, dNotN, isN, dSl, dSlF, dNoPart, dPart, dPar, dParS, dAsg, dgN, dgT, dgCons, dgNil, dFE, dIsi, dListF, dNeg, dRev, dFrz, dApp, dAppS, dIns, dExtend, dClear, dReverse, dPop, oIx, oI, oIC, oAddU, oSubI, oMulU, oMulI, oFd, oMd, oPw, oLt, oLe, oGt, oGe, oEq, oNe, getF, setF, Cl.d, getS, setS, purF_nil, purF_cons, purH, allF_nil, allF_cons, allH, rho0, endsOf, scalD, bLen, bAbs, bInt, bIntU, bTup, true_and, and_true, Option.some.injEq, exists_eq_left', decide_eq_true_eq, Bool.not_eq_true', decide_eq_false_iff_not, it_eQ0, it_eQ1, it_eP0, it_eP1, it_eS0, it_eS1, fits_eQ, fits_eP, fits_eS, eqv_eQ, eqv_eP, eqv_eS, eqv_int, eqv_bool, shp_int, shp_bool, shp_none, shp_eQ, shp_eP, shp_eS, dCont, dBreak, dXi, dSetG, dAppG, oIsB, oNotB, dTx, pJoin, pSplit, pPart, pStarts, bStr, bIntS, dFmt, dJs, ↓reduceIte, nsp_none, nsp_bool, nsp_int, nsp_str, nsp_list, nsp_tuple, nsp_eQ, nsp_eP, nsp_eS, dat_pu, dat_ow, seqD_l, seqD_t, not_true_eq_false, Bool.true_eq_false, Bool.not_not, List.length_cons, List.length_nil, mkP, mkS, fits_list, fits_tuple, isIntD, isBoolD, isListD, isStrD, isTupD, Bool.not_true, Bool.not_false, Bool.false_eq_true, it_l0, it_l1, it_l2, it_t0, it_t1, it_t2, shp_ps, shp_pt, shp_ss, shp_is, seqD_eQ, seqD_eP, seqD_eS, walkD_eP, walkD_eS, walkD_l, walkD_t]
        rw [hr]
        exact no fun z => c2 z.2.1
    · have c1' : ¬ (1 : Int) ≤ w.length := by omega
      simp only [c1', dRet, dRetF, dSetX, dCallX, dRetX, noOw, dTry, dCpy, dRaise, dRetO, dSetP, dSetS, dSetF, dSeq, dIf, dNext, dCall, dCallF, dB, dBin, dCons, dNil, dTup, dLst, dV, dC, dTV, onB, dTAnd, dTOr, dTNot, dAnd, dOr, dNot, dIfE, dIsN, dNotN, isN, dSl, dSlF, dNoPart, dPart, dPar, dParS, dAsg, dgN, dgT, dgCons, dgNil, dFE, dIsi, dListF, dNeg, dRev, dFrz, dApp, dAppS, dIns, dExtend, dClear, dReverse, dPop, oIx, oI, oIC, oAddU, oSubI, oMulU, oMulI, oFd, oMd, oPw, oLt, oLe, oGt, oGe, oEq, oNe, getF, setF, Cl.d, getS, setS, purF_nil, purF_cons, purH, allF_nil, allF_cons, allH, rho0, endsOf, scalD, bLen, bAbs, bInt, bIntU, bTup, true_and, and_true, Option.some.injEq, exists_eq_left', decide_eq_true_eq, Bool.not_eq_true', decide_eq_false_iff_not, it_eQ0, it_eQ1, it_eP0, it_eP1, it_eS0, it_eS1, fits_eQ, fits_eP, fits_eS, eqv_eQ, eqv_eP, eqv_eS, eqv_int, eqv_bool, shp_int, shp_bool, shp_none, shp_eQ, shp_eP, shp_eS, dCont, dBreak, dXi, dSetG, dAppG, oIsB, oNotB, dTx, pJoin, pSplit, pPart, pStarts, bStr, bIntS, dFmt, dJs, ↓reduceIte, nsp_none, nsp_bool, nsp_int, nsp_str, nsp_list, nsp_tuple, nsp_eQ, nsp_eP, nsp_eS, dat_pu, dat_ow, seqD_l, seqD_t, not_true_eq_false, Bool.true_eq_false, Bool.not_not, List.length_cons, List.length_nil, mkP, mkS, fits_list, fits_tuple, isIntD, isBoolD, isListD, isStrD, isTupD, Bool.not_true, Bool.not_false, Bool.false_eq_true, it_l0, it_l1, it_l2, it_t0, it_t1, it_t2, shp_ps, shp_pt, shp_ss, shp_is, seqD_eQ, seqD_eP, seqD_eS, walkD_eP, walkD_eS, walkD_l, walkD_t]
      rw [hr]
      exact no fun z => c1 z.1
  rintro _ ⟨s, rfl, c1, c2, c3⟩
  cases w with
  | nil => simp at c1
  | cons c w =>
    have i0 : itemD (.str (S (c :: w))) 0 = some (.str ⟨#[c]⟩) := by
      show (atI (c :: w) ((0 : Nat) : Int)).map _ = _
      rw [atI_nat (xs := c :: w) (j := 0) (v := c) rfl]
      rfl
    have hc := c3 c List.mem_cons_self
    have sl2 : (S (c :: w)).length = w.length + 1 := by rw [SX.S_len]; rfl
    have sl3 : (c :: w).length = w.length + 1 := rfl
    have k := shp_chars ho.str c (by simp)
    have k0 : SeqAt.shaped (.str "0") = true := shp_str (by decide +kernel)
    have e0 : PyData.eqv (.str ⟨#[c]⟩) (.str "0") = decide (c = 48) := by
      rw [eqv_str]
      refine decide_eq_decide.mpr ⟨fun z => ?_, fun z => by rw [z]; rfl⟩
      have := SX.S_inj (a := [c]) (b := [48]) z
      simpa using this
    have last : figOk (c :: w) → (dRet (dB bIntS (dCons (dV 0) dNil))) (endsOf Φ Ξ) [.pu (.str (S (c :: w))), s] := fun z => by
      simp only [dRet, dRetF, dSetX, dCallX, dRetX, noOw, dTry, dCpy, dRaise, dRetO, dSetP, dSetS, dSetF, dSeq, dIf, dNext, dCall, dCallF, dB, dBin, dCons, dNil, dTup, dLst, dV, dC, dTV, onB, dTAnd, dTOr, dTNot, dAnd, dOr, dNot, dIfE, dIsN, dNotN, isN, dSl, dSlF, dNoPart, dPart, dPar, dParS, dAsg, dgN, dgT, dgCons, dgNil, dFE, dIsi, dListF, dNeg, dRev, dFrz, dApp, dAppS, dIns, dExtend, dClear, dReverse, dPop, oIx, oI, oIC, oAddU, oSubI, oMulU, oMulI, oFd, oMd, oPw, oLt, oLe, oGt, oGe, oEq, oNe, getF, setF, Cl.d, getS, setS, purF_nil, purF_cons, purH, allF_nil, allF_cons, allH, rho0, endsOf, scalD, bLen, bAbs, bInt, bIntU, bTup, true_and, and_true, Option.some.injEq, exists_eq_left', decide_eq_true_eq, Bool.not_eq_true', decide_eq_false_iff_not, it_eQ0, it_eQ1, it_eP0, it_eP1, it_eS0, it_eS1, fits_eQ, fits_eP, fits_eS, eqv_eQ, eqv_eP, eqv_eS, eqv_int, eqv_bool, shp_int, shp_bool, shp_none, shp_eQ, shp_eP, shp_eS, dCont, dBreak, dXi, dSetG, dAppG, oIsB, oNotB, dTx, pJoin, pSplit, pPart, pStarts, bStr, bIntS, dFmt, dJs, ↓reduceIte, nsp_none, nsp_bool, nsp_int, nsp_str, nsp_list, nsp_tuple, nsp_eQ, nsp_eP, nsp_eS, dat_pu, dat_ow, seqD_l, seqD_t, not_true_eq_false, Bool.true_eq_false, Bool.not_not, List.length_cons, List.length_nil, mkP, mkS, fits_list, fits_tuple, isIntD, isBoolD, isListD, isStrD, isTupD, Bool.not_true, Bool.not_false, Bool.false_eq_true, it_l0, it_l1, it_l2, it_t0, it_t1, it_t2, shp_ps, shp_pt, shp_ss, shp_is, seqD_eQ, seqD_eP, seqD_eS, walkD_eP, walkD_eS, walkD_l, walkD_t]
      refine ⟨_, SX.int_S (List.all_eq_true.mpr fun d hd => by have := c3 d hd; simp; omega) (by simp) (by omega), by rw [SX.S_len]; omega, ?_⟩
      have e : figs (c :: w) = some (NumText.digitsVal (c :: w)) := if_pos z
      rw [e] at h
      exact h
    refine seq_cut (fun ρ => ρ = [.pu (.str (S (c :: w))), s] ∧ figOk (c :: w)) (fun E hr hE => ?_) ?_
    · simp only [sl2, fitsD, i0, dRet, dRetF, dSetX, dCallX, dRetX, noOw, dTry, dCpy, dRaise, dRetO, dSetP, dSetS, dSetF, dSeq, dIf, dNext, dCall, dCallF, dB, dBin, dCons, dNil, dTup, dLst, dV, dC, dTV, onB, dTAnd, dTOr, dTNot, dAnd, dOr, dNot, dIfE, dIsN, dNotN, isN, dSl, dSlF, dNoPart, dPart, dPar, dParS, dAsg, dgN, dgT, dgCons, dgNil, dFE, dIsi, dListF, dNeg, dRev, dFrz, dApp, dAppS, dIns, dExtend, dClear, dReverse, dPop, oIx, oI, oIC, oAddU, oSubI, oMulU, oMulI, oFd, oMd, oPw, oLt, oLe, oGt, oGe, oEq, oNe, getF, setF, Cl.d, getS, setS, purF_nil, purF_cons, purH, allF_nil, allF_cons, allH, rho0, endsOf, scalD, bLen, bAbs, bInt, bIntU, bTup, true_and, and_true, Option.some.injEq, exists_eq_left', decide_eq_true_eq, Bool.not_eq_true', decide_eq_false_iff_not, it_eQ0, it_eQ1, it_eP0, it_eP1, it_eS0, it_eS1, fits_eQ, fits_eP, fits_eS, eqv_eQ, eqv_eP, eqv_eS, eqv_int, eqv_bool, shp_int, shp_bool, shp_none, shp_eQ, shp_eP, shp_eS, dCont, dBreak, dXi, dSetG, dAppG, oIsB, oNotB, dTx, pJoin, pSplit, pPart, pStarts, bStr, bIntS, dFmt, dJs, ↓reduceIte, nsp_none, nsp_bool, nsp_int, nsp_str, nsp_list, nsp_tuple, nsp_eQ, nsp_eP, nsp_eS, dat_pu, dat_ow, seqD_l, seqD_t, not_true_eq_false, Bool.true_eq_false, Bool.not_not, List.length_cons, List.length_nil, mkP, mkS, fits_list, fits_tuple, isIntD, isBoolD, isListD, isStrD, isTupD, Bool.not_true, Bool.not_false, Bool.false_eq_true, it_l0, it_l1, it_l2, it_t0, it_t1, it_t2, shp_ps, shp_pt, shp_ss, shp_is, seqD_eQ, seqD_eP, seqD_eS, walkD_eP, walkD_eS, walkD_l, walkD_t]
      refine ⟨by omega, ?_⟩
      refine ⟨k, k0, ?_⟩
      simp only [e0, dRet, dRetF, dSetX, dCallX, dRetX, noOw, dTry, dCpy, dRaise, dRetO, dSetP, dSetS, dSetF, dSeq, dIf, dNext, dCall, dCallF, dB, dBin, dCons, dNil, dTup, dLst, dV, dC, dTV, onB, dTAnd, dTOr, dTNot, dAnd, dOr, dNot, dIfE, dIsN, dNotN, isN, dSl, dSlF, dNoPart, dPart, dPar, dParS, dAsg, dgN, dgT, dgCons, dgNil, dFE, dIsi, dListF, dNeg, dRev, dFrz, dApp, dAppS, dIns, dExtend, dClear, dReverse, dPop, oIx, oI, oIC, oAddU, oSubI, oMulU, oMulI, oFd, oMd, oPw, oLt, oLe, oGt, oGe, oEq, oNe, getF, setF, Cl.d, getS, setS, purF_nil, purF_cons, purH, allF_nil, allF_cons, allH, rho0, endsOf, scalD, bLen, bAbs, bInt, bIntU, bTup, true_and, and_true, Option.some.injEq, exists_eq_left', decide_eq_true_eq, Bool.not_eq_true', decide_eq_false_iff_not, it_eQ0, it_eQ1, it_eP0, it_eP1, it_eS0, it_eS1, fits_eQ, fits_eP, fits_eS, eqv_eQ, eqv_eP, eqv_eS, eqv_int, eqv_bool, shp_int, shp_bool, shp_none, shp_eQ, shp_eP, shp_eS, dCont, dBreak, dXi, dSetG, dAppG, oIsB, oNotB, dTx, pJoin, pSplit, pPart, pStarts, bStr, bIntS, dFmt, dJs, ↓reduceIte, nsp_none, nsp_bool, nsp_int, nsp_str, nsp_list, nsp_tuple, nsp_eQ, nsp_eP, nsp_eS, dat_pu, dat_ow, seqD_l, seqD_t, not_true_eq_false, Bool.true_eq_false, Bool.not_not, List.length_cons, List.length_nil, mkP, mkS, fits_list, fits_tuple, isIntD, isBoolD, isListD, isStrD, isTupD, Bool.not_true, Bool.not_false, Bool.false_eq_true, it_l0, it_l1, it_l2, it_t0, it_t1, it_t2, shp_ps, shp_pt, shp_ss, shp_is, seqD_eQ, seqD_eP, seqD_eS, walkD_eP, walkD_eS, walkD_l, walkD_t]
      by_cases c4 : c = 48
      · refine ite_yes c4 ?_
        refine ⟨by omega, ?_⟩
        by_cases c5 : 1 < (c :: w).length
        · refine ite_yes (by omega) ?_
          rw [hr]
          exact no fun z => z.2.2.2 ⟨by rw [c4]; rfl, c5⟩
        · refine ite_no (by omega) ?_
          exact hE _ ⟨rfl, c1, c2, c3, fun z => c5 z.2⟩
      · refine ite_no c4 ?_
        exact hE _ ⟨rfl, c1, c2, c3, fun z => c4 (by have := z.1; simpa using this)⟩
    rintro _ ⟨rfl, z⟩
    exact last z
theorem cutSr (cs : List Nat) (lo hi : Option Int) : cutS (S cs) lo hi = S (cutD cs lo hi) := by
  unfold cutS cutD
  have e : (S cs).length = cs.length := SX.S_len cs
  rw [e]
theorem eqS (a b : List Nat) : PyData.eqv (.str (S a)) (.str (S b)) = decide (a = b) := by
  rw [eqv_str]
  exact decide_eq_decide.mpr ⟨fun z => SX.S_inj z, fun z => by rw [z]⟩
theorem OkW.nil : OkW [] := ⟨by simp, fun c hc => by cases hc⟩
theorem OkW.one {c : Nat} (h : c < 1114112) : OkW [c] := ⟨by simp, fun d hd => by rw [List.mem_singleton.mp hd]; exact h⟩
theorem OkW.drop {w : List Nat} (h : OkW w) (n : Nat) : OkW (w.drop n) := h.sub (by rw [List.length_drop]; omega) fun c hc => List.mem_of_mem_drop hc
theorem OkW.take {w : List Nat} (h : OkW w) (n : Nat) : OkW (w.take n) := h.sub (by rw [List.length_take]; omega) fun c hc => List.mem_of_mem_take hc
theorem rd_number_in (ds : List Dt) (Φ : Slot → Prop) (Ξ : XD → Prop) (h : sp_number_in ds Φ Ξ) : d_number_in (endsOf Φ Ξ) (rho0 N_number_in ds) := by
  obtain ⟨w, rfl, ho, h⟩ := h
  have hz : (200000 : Nat) < sizeLine := by decide
  have hl := ho.1
  show dSeq _ _ _ [.pu (.str (S w)), .un, .un, .un, .un, .un, .un]
  refine seq_cut (fun ρ => ∃ (hd st tl : List Nat) (t : Option (List Nat)), numQ w = numH hd t ∧ OkW hd ∧ OkW tl ∧ ((t = none ∧ st = []) ∨ (t = some tl ∧ st = [47])) ∧ ρ = [.pu (.str (S w)), .pu (.str (S hd)), .pu (.str (S st)), .pu (.str (S tl)), .un, .un, .un]) (fun E hr hE => ?_) ?_
  · simp only [dTx, pPart, dRet, dRetF, dSetX, dCallX, dRetX, noOw, dTry, dCpy, dRaise, dRetO, dSetP, dSetS, dSetF, dSeq, dIf, dNext, dCall, dCallF, dB, dBin, dCons, dNil, dTup, dLst, dV, dC, dTV, onB, dTAnd, dTOr, dTNot, dAnd, dOr, dNot, dIfE, dIsN, dNotN, isN, dSl, dSlF, dNoPart, dPart, dPar, dParS, dAsg, dgN, dgT, dgCons, dgNil, dFE, dIsi, dListF, dNeg, dRev, dFrz, dApp, dAppS, dIns, dExtend, dClear, dReverse, dPop, oIx, oI, oIC, oAddU, oSubI, oMulU, oMulI, oFd, oMd, oPw, oLt, oLe, oGt, oGe, oEq, oNe, getF, setF, Cl.d, getS, setS, purF_nil, purF_cons, purH, allF_nil, allF_cons, allH, rho0, endsOf, scalD, bLen, bAbs, bInt, bIntU, bTup, true_and, and_true, Option.some.injEq, exists_eq_left', decide_eq_true_eq, Bool.not_eq_true', decide_eq_false_iff_not, it_eQ0, it_eQ1, it_eP0, it_eP1, it_eS0, it_eS1, fits_eQ, fits_eP, fits_eS, eqv_eQ, eqv_eP, eqv_eS, eqv_int, eqv_bool, shp_int, shp_bool, shp_none, shp_eQ, shp_eP, shp_eS, dCont, dBreak, dXi, dSetG, dAppG, oIsB, oNotB, dTx, pJoin, pSplit, pPart, pStarts, bStr, bIntS, dFmt, dJs, ↓reduceIte, nsp_none, nsp_bool, nsp_int, nsp_str, nsp_list, nsp_tuple, nsp_eQ, nsp_eP, nsp_eS, dat_pu, dat_ow, seqD_l, seqD_t, not_true_eq_false, Bool.true_eq_false, Bool.not_not, List.length_cons, List.length_nil, mkP, mkS, fits_list, fits_tuple, isIntD, isBoolD, isListD, isStrD, isTupD, Bool.not_true, Bool.not_false, Bool.false_eq_true, it_l0, it_l1, it_l2, it_t0, it_t1, it_t2, shp_ps, shp_pt, shp_ss, shp_is, seqD_eQ, seqD_eP, seqD_eS, walkD_eP, walkD_eS, walkD_l, walkD_t]
    refine ⟨_, rfl, rfl, by rw [SX.S_len]; omega, ?_⟩
    have e47 : ("/" : Str) = S [47] := rfl
    cases c : TL.par [47] [] w with
    | none =>
      rw [e47, SX.partition_none (by simp) c]
      simp only [dRet, dRetF, dSetX, dCallX, dRetX, noOw, dTry, dCpy, dRaise, dRetO, dSetP, dSetS, dSetF, dSeq, dIf, dNext, dCall, dCallF, dB, dBin, dCons, dNil, dTup, dLst, dV, dC, dTV, onB, dTAnd, dTOr, dTNot, dAnd, dOr, dNot, dIfE, dIsN, dNotN, isN, dSl, dSlF, dNoPart, dPart, dPar, dParS, dAsg, dgN, dgT, dgCons, dgNil, dFE, dIsi, dListF, dNeg, dRev, dFrz, dApp, dAppS, dIns, dExtend, dClear, dReverse, dPop, oIx, oI, oIC, oAddU, oSubI, oMulU, oMulI, oFd, oMd, oPw, oLt, oLe, oGt, oGe, oEq, oNe, getF, setF, Cl.d, getS, setS, purF_nil, purF_cons, purH, allF_nil, allF_cons, allH, rho0, endsOf, scalD, bLen, bAbs, bInt, bIntU, bTup, true_and, and_true, Option.some.injEq, exists_eq_left', decide_eq_true_eq, Bool.not_eq_true', decide_eq_false_iff_not, it_eQ0, it_eQ1, it_eP0, it_eP1, it_eS0, it_eS1, fits_eQ, fits_eP, fits_eS, eqv_eQ, eqv_eP, eqv_eS, eqv_int, eqv_bool, shp_int, shp_bool, shp_none, shp_eQ, shp_eP, shp_eS, dCont, dBreak, dXi, dSetG, dAppG, oIsB, oNotB, dTx, pJoin, pSplit, pPart, pStarts, bStr, bIntS, dFmt, dJs, ↓reduceIte, nsp_none, nsp_bool, nsp_int, nsp_str, nsp_list, nsp_tuple, nsp_eQ, nsp_eP, nsp_eS, dat_pu, dat_ow, seqD_l, seqD_t, not_true_eq_false, Bool.true_eq_false, Bool.not_not, List.length_cons, List.length_nil, mkP, mkS, fits_list, fits_tuple, isIntD, isBoolD, isListD, isStrD, isTupD, Bool.not_true, Bool.not_false, Bool.false_eq_true, it_l0, it_l1, it_l2, it_t0, it_t1, it_t2, shp_ps, shp_pt, shp_ss, shp_is, seqD_eQ, seqD_eP, seqD_eS, walkD_eP, walkD_eS, walkD_l, walkD_t]
      exact hE _ ⟨w, [], [], none, by unfold numQ; rw [c], ho, OkW.nil, .inl ⟨rfl, rfl⟩, rfl⟩
    | some p =>
      obtain ⟨a, b⟩ := p
      obtain ⟨i1, i2, i3, i4⟩ := par_sub 47 w [] a b c
      rw [e47, SX.partition_some (by simp) c]
      simp only [dRet, dRetF, dSetX, dCallX, dRetX, noOw, dTry, dCpy, dRaise, dRetO, dSetP, dSetS, dSetF, dSeq, dIf, dNext, dCall, dCallF, dB, dBin, dCons, dNil, dTup, dLst, dV, dC, dTV, onB, dTAnd, dTOr, dTNot, dAnd, dOr, dNot, dIfE, dIsN, dNotN, isN, dSl, dSlF, dNoPart, dPart, dPar, dParS, dAsg, dgN, dgT, dgCons, dgNil, dFE, dIsi, dListF, dNeg, dRev, dFrz, dApp, dAppS, dIns, dExtend, dClear, dReverse, dPop, oIx, oI, oIC, oAddU, oSubI, oMulU, oMulI, oFd, oMd, oPw, oLt, oLe, oGt, oGe, oEq, oNe, getF, setF, Cl.d, getS, setS, purF_nil, purF_cons, purH, allF_nil, allF_cons, allH, rho0, endsOf, scalD, bLen, bAbs, bInt, bIntU, bTup, true_and, and_true, Option.some.injEq, exists_eq_left', decide_eq_true_eq, Bool.not_eq_true', decide_eq_false_iff_not, it_eQ0, it_eQ1, it_eP0, it_eP1, it_eS0, it_eS1, fits_eQ, fits_eP, fits_eS, eqv_eQ, eqv_eP, eqv_eS, eqv_int, eqv_bool, shp_int, shp_bool, shp_none, shp_eQ, shp_eP, shp_eS, dCont, dBreak, dXi, dSetG, dAppG, oIsB, oNotB, dTx, pJoin, pSplit, pPart, pStarts, bStr, bIntS, dFmt, dJs, ↓reduceIte, nsp_none, nsp_bool, nsp_int, nsp_str, nsp_list, nsp_tuple, nsp_eQ, nsp_eP, nsp_eS, dat_pu, dat_ow, seqD_l, seqD_t, not_true_eq_false, Bool.true_eq_false, Bool.not_not, List.length_cons, List.length_nil, mkP, mkS, fits_list, fits_tuple, isIntD, isBoolD, isListD, isStrD, isTupD, Bool.not_true, Bool.not_false, Bool.false_eq_true, it_l0, it_l1, it_l2, it_t0, it_t1, it_t2, shp_ps, shp_pt, shp_ss, shp_is, seqD_eQ, seqD_eP, seqD_eS, walkD_eP, walkD_eS, walkD_l, walkD_t]
      exact hE _ ⟨a, [47], b, some b, by unfold numQ; rw [c], ho.sub (by simpa using i1) (fun c hc => by rcases i3 c hc with z | z; cases z; exact z), ho.sub i2 i4, .inr ⟨rfl, rfl⟩, rfl⟩
  rintro _ ⟨hd, st, tl, t, en, o1, o2, hst, rfl⟩
  rw [en] at h
  clear en
  have e45 : ("-" : Str) = S [45] := rfl
  have e48 : ("0" : Str) = S [48] := rfl
  have e00 : ("" : Str) = S [] := rfl
  refine seq_cut (fun ρ => ∃ sg : Nat, ((sg = 1 ∧ hd.take 1 = [45]) ∨ (sg = 0 ∧ hd.take 1 ≠ [45])) ∧ ρ = [.pu (.str (S w)), .pu (.str (S hd)), .pu (.str (S st)), .pu (.str (S tl)), .pu (.int sg), .un, .un]) (fun E hr hE => ?_) ?_
  · have ec : cutD hd none (some 1) = hd.take 1 := cutD_to hd 1
    simp only [slD, cutSr, ec, e45, eqS, (o1.take 1).shp, (OkW.one (c := 45) (by decide)).shp, fitsD, dRet, dRetF, dSetX, dCallX, dRetX, noOw, dTry, dCpy, dRaise, dRetO, dSetP, dSetS, dSetF, dSeq, dIf, dNext, dCall, dCallF, dB, dBin, dCons, dNil, dTup, dLst, dV, dC, dTV, onB, dTAnd, dTOr, dTNot, dAnd, dOr, dNot, dIfE, dIsN, dNotN, isN, dSl, dSlF, dNoPart, dPart, dPar, dParS, dAsg, dgN, dgT, dgCons, dgNil, dFE, dIsi, dListF, dNeg, dRev, dFrz, dApp, dAppS, dIns, dExtend, dClear, dReverse, dPop, oIx, oI, oIC, oAddU, oSubI, oMulU, oMulI, oFd, oMd, oPw, oLt, oLe, oGt, oGe, oEq, oNe, getF, setF, Cl.d, getS, setS, purF_nil, purF_cons, purH, allF_nil, allF_cons, allH, rho0, endsOf, scalD, bLen, bAbs, bInt, bIntU, bTup, true_and, and_true, Option.some.injEq, exists_eq_left', decide_eq_true_eq, Bool.not_eq_true', decide_eq_false_iff_not, it_eQ0, it_eQ1, it_eP0, it_eP1, it_eS0, it_eS1, fits_eQ, fits_eP, fits_eS, eqv_eQ, eqv_eP, eqv_eS, eqv_int, eqv_bool, shp_int, shp_bool, shp_none, shp_eQ, shp_eP, shp_eS, dCont, dBreak, dXi, dSetG, dAppG, oIsB, oNotB, dTx, pJoin, pSplit, pPart, pStarts, bStr, bIntS, dFmt, dJs, ↓reduceIte, nsp_none, nsp_bool, nsp_int, nsp_str, nsp_list, nsp_tuple, nsp_eQ, nsp_eP, nsp_eS, dat_pu, dat_ow, seqD_l, seqD_t, not_true_eq_false, Bool.true_eq_false, Bool.not_not, List.length_cons, List.length_nil, mkP, mkS, fits_list, fits_tuple, isIntD, isBoolD, isListD, isStrD, isTupD, Bool.not_true, Bool.not_false, Bool.false_eq_true, it_l0, it_l1, it_l2, it_t0, it_t1, it_t2, shp_ps, shp_pt, shp_ss, shp_is, seqD_eQ, seqD_eP, seqD_eS, walkD_eP, walkD_eS, walkD_l, walkD_t]
    refine ⟨by rw [SX.S_len]; have := o1.1; omega, ?_⟩
    by_cases c : hd.take 1 = [45]
    · rw [if_pos c]
      exact hE _ ⟨1, .inl ⟨rfl, c⟩, rfl⟩
    · rw [if_neg c]
      exact hE _ ⟨0, .inr ⟨rfl, c⟩, rfl⟩
  rintro _ ⟨sg, hsg, rfl⟩
  have ed : cutD hd (some (sg : Int)) none = hd.drop sg := cutD_from hd sg
  have eh : (if hd.take 1 = [45] then hd.drop 1 else hd) = hd.drop sg := by
    rcases hsg with ⟨rfl, c⟩ | ⟨rfl, c⟩
    · rw [if_pos c]
    · rw [if_neg c]; rfl
  have es : ∀ n : Nat, (if hd.take 1 = [45] then 0 - (n : Int) else (n : Int)) = if sg = 1 then 0 - (n : Int) else n := fun n => by
    rcases hsg with ⟨rfl, c⟩ | ⟨rfl, c⟩
    · rw [if_pos c, if_pos rfl]
    · rw [if_neg c, if_neg (by decide)]
  refine seq_cut (fun ρ => ρ = [.pu (.str (S w)), .pu (.str (S hd)), .pu (.str (S st)), .pu (.str (S tl)), .pu (.int sg), .pu (oN (figs (hd.drop sg))), .un]) (fun E hr hE => ?_) ?_
  · simp only [slD, cutSr, ed, fitsD, dRet, dRetF, dSetX, dCallX, dRetX, noOw, dTry, dCpy, dRaise, dRetO, dSetP, dSetS, dSetF, dSeq, dIf, dNext, dCall, dCallF, dB, dBin, dCons, dNil, dTup, dLst, dV, dC, dTV, onB, dTAnd, dTOr, dTNot, dAnd, dOr, dNot, dIfE, dIsN, dNotN, isN, dSl, dSlF, dNoPart, dPart, dPar, dParS, dAsg, dgN, dgT, dgCons, dgNil, dFE, dIsi, dListF, dNeg, dRev, dFrz, dApp, dAppS, dIns, dExtend, dClear, dReverse, dPop, oIx, oI, oIC, oAddU, oSubI, oMulU, oMulI, oFd, oMd, oPw, oLt, oLe, oGt, oGe, oEq, oNe, getF, setF, Cl.d, getS, setS, purF_nil, purF_cons, purH, allF_nil, allF_cons, allH, rho0, endsOf, scalD, bLen, bAbs, bInt, bIntU, bTup, true_and, and_true, Option.some.injEq, exists_eq_left', decide_eq_true_eq, Bool.not_eq_true', decide_eq_false_iff_not, it_eQ0, it_eQ1, it_eP0, it_eP1, it_eS0, it_eS1, fits_eQ, fits_eP, fits_eS, eqv_eQ, eqv_eP, eqv_eS, eqv_int, eqv_bool, shp_int, shp_bool, shp_none, shp_eQ, shp_eP, shp_eS, dCont, dBreak, dXi, dSetG, dAppG, oIsB, oNotB, dTx, pJoin, pSplit, pPart, pStarts, bStr, bIntS, dFmt, dJs, ↓reduceIte, nsp_none, nsp_bool, nsp_int, nsp_str, nsp_list, nsp_tuple, nsp_eQ, nsp_eP, nsp_eS, dat_pu, dat_ow, seqD_l, seqD_t, not_true_eq_false, Bool.true_eq_false, Bool.not_not, List.length_cons, List.length_nil, mkP, mkS, fits_list, fits_tuple, isIntD, isBoolD, isListD, isStrD, isTupD, Bool.not_true, Bool.not_false, Bool.false_eq_true, it_l0, it_l1, it_l2, it_t0, it_t1, it_t2, shp_ps, shp_pt, shp_ss, shp_is, seqD_eQ, seqD_eP, seqD_eS, walkD_eP, walkD_eS, walkD_l, walkD_t]
    refine ⟨by rw [SX.S_len]; have := o1.1; omega, _, rfl, o1.drop sg, ?_⟩
    exact hE _ rfl
  rintro _ rfl
  unfold numH at h
  rw [eh] at h
  cases f : figs (hd.drop sg) with
  | none =>
    rw [f] at h
    refine seq_cut (fun ρ => False) (fun E hr hE => ?_) (fun _ z => z.elim)
    simp only [oN, isN, dRet, dRetF, dSetX, dCallX, dRetX, noOw, dTry, dCpy, dRaise, dRetO, dSetP, dSetS, dSetF, dSeq, dIf, dNext, dCall, dCallF, dB, dBin, dCons, dNil, dTup, dLst, dV, dC, dTV, onB, dTAnd, dTOr, dTNot, dAnd, dOr, dNot, dIfE, dIsN, dNotN, isN, dSl, dSlF, dNoPart, dPart, dPar, dParS, dAsg, dgN, dgT, dgCons, dgNil, dFE, dIsi, dListF, dNeg, dRev, dFrz, dApp, dAppS, dIns, dExtend, dClear, dReverse, dPop, oIx, oI, oIC, oAddU, oSubI, oMulU, oMulI, oFd, oMd, oPw, oLt, oLe, oGt, oGe, oEq, oNe, getF, setF, Cl.d, getS, setS, purF_nil, purF_cons, purH, allF_nil, allF_cons, allH, rho0, endsOf, scalD, bLen, bAbs, bInt, bIntU, bTup, true_and, and_true, Option.some.injEq, exists_eq_left', decide_eq_true_eq, Bool.not_eq_true', decide_eq_false_iff_not, it_eQ0, it_eQ1, it_eP0, it_eP1, it_eS0, it_eS1, fits_eQ, fits_eP, fits_eS, eqv_eQ, eqv_eP, eqv_eS, eqv_int, eqv_bool, shp_int, shp_bool, shp_none, shp_eQ, shp_eP, shp_eS, dCont, dBreak, dXi, dSetG, dAppG, oIsB, oNotB, dTx, pJoin, pSplit, pPart, pStarts, bStr, bIntS, dFmt, dJs, ↓reduceIte, nsp_none, nsp_bool, nsp_int, nsp_str, nsp_list, nsp_tuple, nsp_eQ, nsp_eP, nsp_eS, dat_pu, dat_ow, seqD_l, seqD_t, not_true_eq_false, Bool.true_eq_false, Bool.not_not, List.length_cons, List.length_nil, mkP, mkS, fits_list, fits_tuple, isIntD, isBoolD, isListD, isStrD, isTupD, Bool.not_true, Bool.not_false, Bool.false_eq_true, it_l0, it_l1, it_l2, it_t0, it_t1, it_t2, shp_ps, shp_pt, shp_ss, shp_is, seqD_eQ, seqD_eP, seqD_eS, walkD_eP, walkD_eS, walkD_l, walkD_t]
    rw [hr]
    exact h
  | some n =>
    rw [f] at h
    simp only [es] at h
    refine seq_cut (fun ρ => ρ = [.pu (.str (S w)), .pu (.str (S hd)), .pu (.str (S st)), .pu (.str (S tl)), .pu (.int sg), .pu (.int n), .un] ∧ ¬ (n = 0 ∧ hd ≠ [48])) (fun E hr hE => ?_) ?_
    · simp only [oN, isN, e48, eqS, o1.shp, (OkW.one (c := 48) (by decide)).shp, dRet, dRetF, dSetX, dCallX, dRetX, noOw, dTry, dCpy, dRaise, dRetO, dSetP, dSetS, dSetF, dSeq, dIf, dNext, dCall, dCallF, dB, dBin, dCons, dNil, dTup, dLst, dV, dC, dTV, onB, dTAnd, dTOr, dTNot, dAnd, dOr, dNot, dIfE, dIsN, dNotN, isN, dSl, dSlF, dNoPart, dPart, dPar, dParS, dAsg, dgN, dgT, dgCons, dgNil, dFE, dIsi, dListF, dNeg, dRev, dFrz, dApp, dAppS, dIns, dExtend, dClear, dReverse, dPop, oIx, oI, oIC, oAddU, oSubI, oMulU, oMulI, oFd, oMd, oPw, oLt, oLe, oGt, oGe, oEq, oNe, getF, setF, Cl.d, getS, setS, purF_nil, purF_cons, purH, allF_nil, allF_cons, allH, rho0, endsOf, scalD, bLen, bAbs, bInt, bIntU, bTup, true_and, and_true, Option.some.injEq, exists_eq_left', decide_eq_true_eq, Bool.not_eq_true', decide_eq_false_iff_not, it_eQ0, it_eQ1, it_eP0, it_eP1, it_eS0, it_eS1, fits_eQ, fits_eP, fits_eS, eqv_eQ, eqv_eP, eqv_eS, eqv_int, eqv_bool, shp_int, shp_bool, shp_none, shp_eQ, shp_eP, shp_eS, dCont, dBreak, dXi, dSetG, dAppG, oIsB, oNotB, dTx, pJoin, pSplit, pPart, pStarts, bStr, bIntS, dFmt, dJs, ↓reduceIte, nsp_none, nsp_bool, nsp_int, nsp_str, nsp_list, nsp_tuple, nsp_eQ, nsp_eP, nsp_eS, dat_pu, dat_ow, seqD_l, seqD_t, not_true_eq_false, Bool.true_eq_false, Bool.not_not, List.length_cons, List.length_nil, mkP, mkS, fits_list, fits_tuple, isIntD, isBoolD, isListD, isStrD, isTupD, Bool.not_true, Bool.not_false, Bool.false_eq_true, it_l0, it_l1, it_l2, it_t0, it_t1, it_t2, shp_ps, shp_pt, shp_ss, shp_is, seqD_eQ, seqD_eP, seqD_eS, walkD_eP, walkD_eS, walkD_l, walkD_t]
      by_cases c : n = 0
      · refine ite_yes (by omega) ?_
        by_cases c2 : hd = [48]
        · refine ite_no (by simpa using c2) ?_
          exact hE _ ⟨rfl, fun z => z.2 c2⟩
        · refine ite_yes (by simpa using c2) ?_
          rw [if_pos ⟨c, c2⟩] at h
          rw [hr]
          exact h
      · refine ite_no (by omega) ?_
        exact hE _ ⟨rfl, fun z => c z.1⟩
    rintro _ ⟨rfl, hn⟩
    rw [if_neg hn] at h
    refine seq_cut (fun ρ => ρ = [.pu (.str (S w)), .pu (.str (S hd)), .pu (.str (S st)), .pu (.str (S tl)), .pu (.int sg), .pu (.int (if sg = 1 then 0 - (n : Int) else n)), .un]) (fun E hr hE => ?_) ?_
    · simp only [dRet, dRetF, dSetX, dCallX, dRetX, noOw, dTry, dCpy, dRaise, dRetO, dSetP, dSetS, dSetF, dSeq, dIf, dNext, dCall, dCallF, dB, dBin, dCons, dNil, dTup, dLst, dV, dC, dTV, onB, dTAnd, dTOr, dTNot, dAnd, dOr, dNot, dIfE, dIsN, dNotN, isN, dSl, dSlF, dNoPart, dPart, dPar, dParS, dAsg, dgN, dgT, dgCons, dgNil, dFE, dIsi, dListF, dNeg, dRev, dFrz, dApp, dAppS, dIns, dExtend, dClear, dReverse, dPop, oIx, oI, oIC, oAddU, oSubI, oMulU, oMulI, oFd, oMd, oPw, oLt, oLe, oGt, oGe, oEq, oNe, getF, setF, Cl.d, getS, setS, purF_nil, purF_cons, purH, allF_nil, allF_cons, allH, rho0, endsOf, scalD, bLen, bAbs, bInt, bIntU, bTup, true_and, and_true, Option.some.injEq, exists_eq_left', decide_eq_true_eq, Bool.not_eq_true', decide_eq_false_iff_not, it_eQ0, it_eQ1, it_eP0, it_eP1, it_eS0, it_eS1, fits_eQ, fits_eP, fits_eS, eqv_eQ, eqv_eP, eqv_eS, eqv_int, eqv_bool, shp_int, shp_bool, shp_none, shp_eQ, shp_eP, shp_eS, dCont, dBreak, dXi, dSetG, dAppG, oIsB, oNotB, dTx, pJoin, pSplit, pPart, pStarts, bStr, bIntS, dFmt, dJs, ↓reduceIte, nsp_none, nsp_bool, nsp_int, nsp_str, nsp_list, nsp_tuple, nsp_eQ, nsp_eP, nsp_eS, dat_pu, dat_ow, seqD_l, seqD_t, not_true_eq_false, Bool.true_eq_false, Bool.not_not, List.length_cons, List.length_nil, mkP, mkS, fits_list, fits_tuple, isIntD, isBoolD, isListD, isStrD, isTupD, Bool.not_true, Bool.not_false, Bool.false_eq_true, it_l0, it_l1, it_l2, it_t0, it_t1, it_t2, shp_ps, shp_pt, shp_ss, shp_is, seqD_eQ, seqD_eP, seqD_eS, walkD_eP, walkD_eS, walkD_l, walkD_t]
      rcases hsg with ⟨rfl, _⟩ | ⟨rfl, _⟩
      · exact ite_yes rfl (hE _ rfl)
      · exact ite_no (by decide) (hE _ rfl)
    rintro _ rfl
    generalize (if sg = 1 then 0 - (n : Int) else (n : Int)) = tp at h ⊢
    rcases hst with ⟨rfl, rfl⟩ | ⟨rfl, rfl⟩
    · refine seq_cut (fun ρ => False) (fun E hr hE => ?_) (fun _ z => z.elim)
      simp only [e00, eqS, OkW.nil.shp, dRet, dRetF, dSetX, dCallX, dRetX, noOw, dTry, dCpy, dRaise, dRetO, dSetP, dSetS, dSetF, dSeq, dIf, dNext, dCall, dCallF, dB, dBin, dCons, dNil, dTup, dLst, dV, dC, dTV, onB, dTAnd, dTOr, dTNot, dAnd, dOr, dNot, dIfE, dIsN, dNotN, isN, dSl, dSlF, dNoPart, dPart, dPar, dParS, dAsg, dgN, dgT, dgCons, dgNil, dFE, dIsi, dListF, dNeg, dRev, dFrz, dApp, dAppS, dIns, dExtend, dClear, dReverse, dPop, oIx, oI, oIC, oAddU, oSubI, oMulU, oMulI, oFd, oMd, oPw, oLt, oLe, oGt, oGe, oEq, oNe, getF, setF, Cl.d, getS, setS, purF_nil, purF_cons, purH, allF_nil, allF_cons, allH, rho0, endsOf, scalD, bLen, bAbs, bInt, bIntU, bTup, true_and, and_true, Option.some.injEq, exists_eq_left', decide_eq_true_eq, Bool.not_eq_true', decide_eq_false_iff_not, it_eQ0, it_eQ1, it_eP0, it_eP1, it_eS0, it_eS1, fits_eQ, fits_eP, fits_eS, eqv_eQ, eqv_eP, eqv_eS, eqv_int, eqv_bool, shp_int, shp_bool, shp_none, shp_eQ, shp_eP, shp_eS, dCont, dBreak, dXi, dSetG, dAppG, oIsB, oNotB, dTx, pJoin, pSplit, pPart, pStarts, bStr, bIntS, dFmt, dJs, ↓reduceIte, nsp_none, nsp_bool, nsp_int, nsp_str, nsp_list, nsp_tuple, nsp_eQ, nsp_eP, nsp_eS, dat_pu, dat_ow, seqD_l, seqD_t, not_true_eq_false, Bool.true_eq_false, Bool.not_not, List.length_cons, List.length_nil, mkP, mkS, fits_list, fits_tuple, isIntD, isBoolD, isListD, isStrD, isTupD, Bool.not_true, Bool.not_false, Bool.false_eq_true, it_l0, it_l1, it_l2, it_t0, it_t1, it_t2, shp_ps, shp_pt, shp_ss, shp_is, seqD_eQ, seqD_eP, seqD_eS, walkD_eP, walkD_eS, walkD_l, walkD_t]
      rw [hr]
      have e : eQ ((tp : Int) : Rat) = .tuple [.int tp, .int 1] := by simp [eQ]
      rw [show oQ (some ((tp : Int) : Rat)) = eQ ((tp : Int) : Rat) from rfl, e] at h
      exact h
    · refine seq_cut (fun ρ => ρ = [.pu (.str (S w)), .pu (.str (S hd)), .pu (.str (S [47])), .pu (.str (S tl)), .pu (.int sg), .pu (.int tp), .un]) (fun E hr hE => ?_) ?_
      · simp only [e00, eqS, OkW.nil.shp, (OkW.one (c := 47) (by decide)).shp, dRet, dRetF, dSetX, dCallX, dRetX, noOw, dTry, dCpy, dRaise, dRetO, dSetP, dSetS, dSetF, dSeq, dIf, dNext, dCall, dCallF, dB, dBin, dCons, dNil, dTup, dLst, dV, dC, dTV, onB, dTAnd, dTOr, dTNot, dAnd, dOr, dNot, dIfE, dIsN, dNotN, isN, dSl, dSlF, dNoPart, dPart, dPar, dParS, dAsg, dgN, dgT, dgCons, dgNil, dFE, dIsi, dListF, dNeg, dRev, dFrz, dApp, dAppS, dIns, dExtend, dClear, dReverse, dPop, oIx, oI, oIC, oAddU, oSubI, oMulU, oMulI, oFd, oMd, oPw, oLt, oLe, oGt, oGe, oEq, oNe, getF, setF, Cl.d, getS, setS, purF_nil, purF_cons, purH, allF_nil, allF_cons, allH, rho0, endsOf, scalD, bLen, bAbs, bInt, bIntU, bTup, true_and, and_true, Option.some.injEq, exists_eq_left', decide_eq_true_eq, Bool.not_eq_true', decide_eq_false_iff_not, it_eQ0, it_eQ1, it_eP0, it_eP1, it_eS0, it_eS1, fits_eQ, fits_eP, fits_eS, eqv_eQ, eqv_eP, eqv_eS, eqv_int, eqv_bool, shp_int, shp_bool, shp_none, shp_eQ, shp_eP, shp_eS, dCont, dBreak, dXi, dSetG, dAppG, oIsB, oNotB, dTx, pJoin, pSplit, pPart, pStarts, bStr, bIntS, dFmt, dJs, ↓reduceIte, nsp_none, nsp_bool, nsp_int, nsp_str, nsp_list, nsp_tuple, nsp_eQ, nsp_eP, nsp_eS, dat_pu, dat_ow, seqD_l, seqD_t, not_true_eq_false, Bool.true_eq_false, Bool.not_not, List.length_cons, List.length_nil, mkP, mkS, fits_list, fits_tuple, isIntD, isBoolD, isListD, isStrD, isTupD, Bool.not_true, Bool.not_false, Bool.false_eq_true, it_l0, it_l1, it_l2, it_t0, it_t1, it_t2, shp_ps, shp_pt, shp_ss, shp_is, seqD_eQ, seqD_eP, seqD_eS, walkD_eP, walkD_eS, walkD_l, walkD_t]
        exact hE _ rfl
      rintro _ rfl
      refine seq_cut (fun ρ => ρ = [.pu (.str (S w)), .pu (.str (S hd)), .pu (.str (S [47])), .pu (.str (S tl)), .pu (.int sg), .pu (.int tp), .pu (oN (figs tl))]) (fun E hr hE => ?_) ?_
      · simp only [dRet, dRetF, dSetX, dCallX, dRetX, noOw, dTry, dCpy, dRaise, dRetO, dSetP, dSetS, dSetF, dSeq, dIf, dNext, dCall, dCallF, dB, dBin, dCons, dNil, dTup, dLst, dV, dC, dTV, onB, dTAnd, dTOr, dTNot, dAnd, dOr, dNot, dIfE, dIsN, dNotN, isN, dSl, dSlF, dNoPart, dPart, dPar, dParS, dAsg, dgN, dgT, dgCons, dgNil, dFE, dIsi, dListF, dNeg, dRev, dFrz, dApp, dAppS, dIns, dExtend, dClear, dReverse, dPop, oIx, oI, oIC, oAddU, oSubI, oMulU, oMulI, oFd, oMd, oPw, oLt, oLe, oGt, oGe, oEq, oNe, getF, setF, Cl.d, getS, setS, purF_nil, purF_cons, purH, allF_nil, allF_cons, allH, rho0, endsOf, scalD, bLen, bAbs, bInt, bIntU, bTup, true_and, and_true, Option.some.injEq, exists_eq_left', decide_eq_true_eq, Bool.not_eq_true', decide_eq_false_iff_not, it_eQ0, it_eQ1, it_eP0, it_eP1, it_eS0, it_eS1, fits_eQ, fits_eP, fits_eS, eqv_eQ, eqv_eP, eqv_eS, eqv_int, eqv_bool, shp_int, shp_bool, shp_none, shp_eQ, shp_eP, shp_eS, dCont, dBreak, dXi, dSetG, dAppG, oIsB, oNotB, dTx, pJoin, pSplit, pPart, pStarts, bStr, bIntS, dFmt, dJs, ↓reduceIte, nsp_none, nsp_bool, nsp_int, nsp_str, nsp_list, nsp_tuple, nsp_eQ, nsp_eP, nsp_eS, dat_pu, dat_ow, seqD_l, seqD_t, not_true_eq_false, Bool.true_eq_false, Bool.not_not, List.length_cons, List.length_nil, mkP, mkS, fits_list, fits_tuple, isIntD, isBoolD, isListD, isStrD, isTupD, Bool.not_true, Bool.not_false, Bool.false_eq_true, it_l0, it_l1, it_l2, it_t0, it_t1, it_t2, shp_ps, shp_pt, shp_ss, shp_is, seqD_eQ, seqD_eP, seqD_eS, walkD_eP, walkD_eS, walkD_l, walkD_t]
        exact ⟨_, rfl, o2, hE _ rfl⟩
      rintro _ rfl
      simp only at h
      cases f2 : figs tl with
      | none =>
        rw [f2] at h
        refine seq_cut (fun ρ => False) (fun E hr hE => ?_) (fun _ z => z.elim)
        simp only [oN, isN, dRet, dRetF, dSetX, dCallX, dRetX, noOw, dTry, dCpy, dRaise, dRetO, dSetP, dSetS, dSetF, dSeq, dIf, dNext, dCall, dCallF, dB, dBin, dCons, dNil, dTup, dLst, dV, dC, dTV, onB, dTAnd, dTOr, dTNot, dAnd, dOr, dNot, dIfE, dIsN, dNotN, isN, dSl, dSlF, dNoPart, dPart, dPar, dParS, dAsg, dgN, dgT, dgCons, dgNil, dFE, dIsi, dListF, dNeg, dRev, dFrz, dApp, dAppS, dIns, dExtend, dClear, dReverse, dPop, oIx, oI, oIC, oAddU, oSubI, oMulU, oMulI, oFd, oMd, oPw, oLt, oLe, oGt, oGe, oEq, oNe, getF, setF, Cl.d, getS, setS, purF_nil, purF_cons, purH, allF_nil, allF_cons, allH, rho0, endsOf, scalD, bLen, bAbs, bInt, bIntU, bTup, true_and, and_true, Option.some.injEq, exists_eq_left', decide_eq_true_eq, Bool.not_eq_true', decide_eq_false_iff_not, it_eQ0, it_eQ1, it_eP0, it_eP1, it_eS0, it_eS1, fits_eQ, fits_eP, fits_eS, eqv_eQ, eqv_eP, eqv_eS, eqv_int, eqv_bool, shp_int, shp_bool, shp_none, shp_eQ, shp_eP, shp_eS, dCont, dBreak, dXi, dSetG, dAppG, oIsB, oNotB, dTx, pJoin, pSplit, pPart, pStarts, bStr, bIntS, dFmt, dJs, ↓reduceIte, nsp_none, nsp_bool, nsp_int, nsp_str, nsp_list, nsp_tuple, nsp_eQ, nsp_eP, nsp_eS, dat_pu, dat_ow, seqD_l, seqD_t, not_true_eq_false, Bool.true_eq_false, Bool.not_not, List.length_cons, List.length_nil, mkP, mkS, fits_list, fits_tuple, isIntD, isBoolD, isListD, isStrD, isTupD, Bool.not_true, Bool.not_false, Bool.false_eq_true, it_l0, it_l1, it_l2, it_t0, it_t1, it_t2, shp_ps, shp_pt, shp_ss, shp_is, seqD_eQ, seqD_eP, seqD_eS, walkD_eP, walkD_eS, walkD_l, walkD_t]
        rw [hr]
        exact h
      | some b =>
        rw [f2] at h
        simp only at h
        refine seq_cut (fun ρ => ρ = [.pu (.str (S w)), .pu (.str (S hd)), .pu (.str (S [47])), .pu (.str (S tl)), .pu (.int sg), .pu (.int tp), .pu (.int b)] ∧ ¬ (b < 2 ∨ Int.gcd tp b ≠ 1)) (fun E hr hE => ?_) ?_
        · simp only [oN, isN, dRet, dRetF, dSetX, dCallX, dRetX, noOw, dTry, dCpy, dRaise, dRetO, dSetP, dSetS, dSetF, dSeq, dIf, dNext, dCall, dCallF, dB, dBin, dCons, dNil, dTup, dLst, dV, dC, dTV, onB, dTAnd, dTOr, dTNot, dAnd, dOr, dNot, dIfE, dIsN, dNotN, isN, dSl, dSlF, dNoPart, dPart, dPar, dParS, dAsg, dgN, dgT, dgCons, dgNil, dFE, dIsi, dListF, dNeg, dRev, dFrz, dApp, dAppS, dIns, dExtend, dClear, dReverse, dPop, oIx, oI, oIC, oAddU, oSubI, oMulU, oMulI, oFd, oMd, oPw, oLt, oLe, oGt, oGe, oEq, oNe, getF, setF, Cl.d, getS, setS, purF_nil, purF_cons, purH, allF_nil, allF_cons, allH, rho0, endsOf, scalD, bLen, bAbs, bInt, bIntU, bTup, true_and, and_true, Option.some.injEq, exists_eq_left', decide_eq_true_eq, Bool.not_eq_true', decide_eq_false_iff_not, it_eQ0, it_eQ1, it_eP0, it_eP1, it_eS0, it_eS1, fits_eQ, fits_eP, fits_eS, eqv_eQ, eqv_eP, eqv_eS, eqv_int, eqv_bool, shp_int, shp_bool, shp_none, shp_eQ, shp_eP, shp_eS, dCont, dBreak, dXi, dSetG, dAppG, oIsB, oNotB, dTx, pJoin, pSplit, pPart, pStarts, bStr, bIntS, dFmt, dJs, ↓reduceIte, nsp_none, nsp_bool, nsp_int, nsp_str, nsp_list, nsp_tuple, nsp_eQ, nsp_eP, nsp_eS, dat_pu, dat_ow, seqD_l, seqD_t, not_true_eq_false, Bool.true_eq_false, Bool.not_not, List.length_cons, List.length_nil, mkP, mkS, fits_list, fits_tuple, isIntD, isBoolD, isListD, isStrD, isTupD, Bool.not_true, Bool.not_false, Bool.false_eq_true, it_l0, it_l1, it_l2, it_t0, it_t1, it_t2, shp_ps, shp_pt, shp_ss, shp_is, seqD_eQ, seqD_eP, seqD_eS, walkD_eP, walkD_eS, walkD_l, walkD_t]
          by_cases c : b < 2
          · refine ite_yes (by omega) ?_
            rw [if_pos (.inl c)] at h
            rw [hr]
            exact h
          · refine ite_no (by omega) ?_
            refine ⟨tp, b, rfl, ?_⟩
            simp only [dRet, dRetF, dSetX, dCallX, dRetX, noOw, dTry, dCpy, dRaise, dRetO, dSetP, dSetS, dSetF, dSeq, dIf, dNext, dCall, dCallF, dB, dBin, dCons, dNil, dTup, dLst, dV, dC, dTV, onB, dTAnd, dTOr, dTNot, dAnd, dOr, dNot, dIfE, dIsN, dNotN, isN, dSl, dSlF, dNoPart, dPart, dPar, dParS, dAsg, dgN, dgT, dgCons, dgNil, dFE, dIsi, dListF, dNeg, dRev, dFrz, dApp, dAppS, dIns, dExtend, dClear, dReverse, dPop, oIx, oI, oIC, oAddU, oSubI, oMulU, oMulI, oFd, oMd, oPw, oLt, oLe, oGt, oGe, oEq, oNe, getF, setF, Cl.d, getS, setS, purF_nil, purF_cons, purH, allF_nil, allF_cons, allH, rho0, endsOf, scalD, bLen, bAbs, bInt, bIntU, bTup, true_and, and_true, Option.some.injEq, exists_eq_left', decide_eq_true_eq, Bool.not_eq_true', decide_eq_false_iff_not, it_eQ0, it_eQ1, it_eP0, it_eP1, it_eS0, it_eS1, fits_eQ, fits_eP, fits_eS, eqv_eQ, eqv_eP, eqv_eS, eqv_int, eqv_bool, shp_int, shp_bool, shp_none, shp_eQ, shp_eP, shp_eS, dCont, dBreak, dXi, dSetG, dAppG, oIsB, oNotB, dTx, pJoin, pSplit, pPart, pStarts, bStr, bIntS, dFmt, dJs, ↓reduceIte, nsp_none, nsp_bool, nsp_int, nsp_str, nsp_list, nsp_tuple, nsp_eQ, nsp_eP, nsp_eS, dat_pu, dat_ow, seqD_l, seqD_t, not_true_eq_false, Bool.true_eq_false, Bool.not_not, List.length_cons, List.length_nil, mkP, mkS, fits_list, fits_tuple, isIntD, isBoolD, isListD, isStrD, isTupD, Bool.not_true, Bool.not_false, Bool.false_eq_true, it_l0, it_l1, it_l2, it_t0, it_t1, it_t2, shp_ps, shp_pt, shp_ss, shp_is, seqD_eQ, seqD_eP, seqD_eS, walkD_eP, walkD_eS, walkD_l, walkD_t]
            by_cases c2 : Int.gcd tp b = 1
            · refine ite_no (by omega) ?_
              exact hE _ ⟨rfl, fun z => z.elim c (fun z => z c2)⟩
            · refine ite_yes (by omega) ?_
              rw [if_pos (.inr c2)] at h
              rw [hr]
              exact h
        rintro _ ⟨rfl, c⟩
        rw [if_neg c] at h
        have hb : 2 ≤ b := by omega
        have hg : Int.gcd tp b = 1 := by omega
        have e : eQ (Rat.divInt tp b) = .tuple [.int tp, .int b] := by
          have hn : (b : Nat) ≠ 0 := by omega
          have hc : tp.natAbs.Coprime b := by unfold Int.gcd at hg; rw [Int.natAbs_natCast] at hg; exact hg
          have : Rat.divInt tp b = ⟨tp, b, hn, hc⟩ := Rat.mk_eq_divInt.symm
          rw [this]
          rfl
        simp only [dRet, dRetF, dSetX, dCallX, dRetX, noOw, dTry, dCpy, dRaise, dRetO, dSetP, dSetS, dSetF, dSeq, dIf, dNext, dCall, dCallF, dB, dBin, dCons, dNil, dTup, dLst, dV, dC, dTV, onB, dTAnd, dTOr, dTNot, dAnd, dOr, dNot, dIfE, dIsN, dNotN, isN, dSl, dSlF, dNoPart, dPart, dPar, dParS, dAsg, dgN, dgT, dgCons, dgNil, dFE, dIsi, dListF, dNeg, dRev, dFrz, dApp, dAppS, dIns, dExtend, dClear, dReverse, dPop, oIx, oI, oIC, oAddU, oSubI, oMulU, oMulI, oFd, oMd, oPw, oLt, oLe, oGt, oGe, oEq, oNe, getF, setF, Cl.d, getS, setS, purF_nil, purF_cons, purH, allF_nil, allF_cons, allH, rho0, endsOf, scalD, bLen, bAbs, bInt, bIntU, bTup, true_and, and_true, Option.some.injEq, exists_eq_left', decide_eq_true_eq, Bool.not_eq_true', decide_eq_false_iff_not, it_eQ0, it_eQ1, it_eP0, it_eP1, it_eS0, it_eS1, fits_eQ, fits_eP, fits_eS, eqv_eQ, eqv_eP, eqv_eS, eqv_int, eqv_bool, shp_int, shp_bool, shp_none, shp_eQ, shp_eP, shp_eS, dCont, dBreak, dXi, dSetG, dAppG, oIsB, oNotB, dTx, pJoin, pSplit, pPart, pStarts, bStr, bIntS, dFmt, dJs, ↓reduceIte, nsp_none, nsp_bool, nsp_int, nsp_str, nsp_list, nsp_tuple, nsp_eQ, nsp_eP, nsp_eS, dat_pu, dat_ow, seqD_l, seqD_t, not_true_eq_false, Bool.true_eq_false, Bool.not_not, List.length_cons, List.length_nil, mkP, mkS, fits_list, fits_tuple, isIntD, isBoolD, isListD, isStrD, isTupD, Bool.not_true, Bool.not_false, Bool.false_eq_true, it_l0, it_l1, it_l2, it_t0, it_t1, it_t2, shp_ps, shp_pt, shp_ss, shp_is, seqD_eQ, seqD_eP, seqD_eS, walkD_eP, walkD_eS, walkD_l, walkD_t]
        rw [show oQ (some (Rat.divInt tp b)) = eQ (Rat.divInt tp b) from rfl, e] at h
        exact h
theorem rd_point_in_word (ds : List Dt) (Φ : Slot → Prop) (Ξ : XD → Prop) (h : sp_point_in_word ds Φ Ξ) : d_point_in_word (endsOf Φ Ξ) (rho0 N_point_in_word ds) := by
  obtain ⟨w, rfl, ho, h⟩ := h
  have hz : (200000 : Nat) < sizeLine := by decide
  have hl := ho.1
  have e00 : ("" : Str) = S [] := rfl
  show dSeq _ _ _ [.pu (.str (S w)), .un, .un, .un, .un, .un]
  refine seq_cut (fun ρ => ∃ (hd st tl : List Nat), OkW hd ∧ OkW tl ∧ ((TL.par [44] [] w = none ∧ st = []) ∨ (TL.par [44] [] w = some (hd, tl) ∧ st = [44])) ∧ ρ = [.pu (.str (S w)), .pu (.str (S hd)), .pu (.str (S st)), .pu (.str (S tl)), .un, .un]) (fun E hr hE => ?_) ?_
  · simp only [dTx, pPart, dRet, dRetF, dSetX, dCallX, dRetX, noOw, dTry, dCpy, dRaise, dRetO, dSetP, dSetS, dSetF, dSeq, dIf, dNext, dCall, dCallF, dB, dBin, dCons, dNil, dTup, dLst, dV, dC, dTV, onB, dTAnd, dTOr, dTNot, dAnd, dOr, dNot, dIfE, dIsN, dNotN, isN, dSl, dSlF, dNoPart, dPart, dPar, dParS, dAsg, dgN, dgT, dgCons, dgNil, dFE, dIsi, dListF, dNeg, dRev, dFrz, dApp, dAppS, dIns, dExtend, dClear, dReverse, dPop, oIx, oI, oIC, oAddU, oSubI, oMulU, oMulI, oFd, oMd, oPw, oLt, oLe, oGt, oGe, oEq, oNe, getF, setF, Cl.d, getS, setS, purF_nil, purF_cons, purH, allF_nil, allF_cons, allH, rho0, endsOf, scalD, bLen, bAbs, bInt, bIntU, bTup, true_and, and_true, Option.some.injEq, exists_eq_left', decide_eq_true_eq, Bool.not_eq_true', decide_eq_false_iff_not, it_eQ0, it_eQ1, it_eP0, it_eP1, it_eS0, it_eS1, fits_eQ, fits_eP, fits_eS, eqv_eQ, eqv_eP, eqv_eS, eqv_int, eqv_bool, shp_int, shp_bool, shp_none, shp_eQ, shp_eP, shp_eS, dCont, dBreak, dXi, dSetG, dAppG, oIsB, oNotB, dTx, pJoin, pSplit, pPart, pStarts, bStr, bIntS, dFmt, dJs, ↓reduceIte, nsp_none, nsp_bool, nsp_int, nsp_str, nsp_list, nsp_tuple, nsp_eQ, nsp_eP, nsp_eS, dat_pu, dat_ow, seqD_l, seqD_t, not_true_eq_false, Bool.true_eq_false, Bool.not_not, List.length_cons, List.length_nil, mkP, mkS, fits_list, fits_tuple, isIntD, isBoolD, isListD, isStrD, isTupD, Bool.not_true, Bool.not_false, Bool.false_eq_true, it_l0, it_l1, it_l2, it_t0, it_t1, it_t2, shp_ps, shp_pt, shp_ss, shp_is, seqD_eQ, seqD_eP, seqD_eS, walkD_eP, walkD_eS, walkD_l, walkD_t]
    refine ⟨_, rfl, rfl, by rw [SX.S_len]; omega, ?_⟩
    have e44 : ("," : Str) = S [44] := rfl
    cases c : TL.par [44] [] w with
    | none =>
      rw [e44, SX.partition_none (by simp) c]
      simp only [dRet, dRetF, dSetX, dCallX, dRetX, noOw, dTry, dCpy, dRaise, dRetO, dSetP, dSetS, dSetF, dSeq, dIf, dNext, dCall, dCallF, dB, dBin, dCons, dNil, dTup, dLst, dV, dC, dTV, onB, dTAnd, dTOr, dTNot, dAnd, dOr, dNot, dIfE, dIsN, dNotN, isN, dSl, dSlF, dNoPart, dPart, dPar, dParS, dAsg, dgN, dgT, dgCons, dgNil, dFE, dIsi, dListF, dNeg, dRev, dFrz, dApp, dAppS, dIns, dExtend, dClear, dReverse, dPop, oIx, oI, oIC, oAddU, oSubI, oMulU, oMulI, oFd, oMd, oPw, oLt, oLe, oGt, oGe, oEq, oNe, getF, setF, Cl.d, getS, setS, purF_nil, purF_cons, purH, allF_nil, allF_cons, allH, rho0, endsOf, scalD, bLen, bAbs, bInt, bIntU, bTup, true_and, and_true, Option.some.injEq, exists_eq_left', decide_eq_true_eq, Bool.not_eq_true', decide_eq_false_iff_not, it_eQ0, it_eQ1, it_eP0, it_eP1, it_eS0, it_eS1, fits_eQ, fits_eP, fits_eS, eqv_eQ, eqv_eP, eqv_eS, eqv_int, eqv_bool, shp_int, shp_bool, shp_none, shp_eQ, shp_eP, shp_eS, dCont, dBreak, dXi, dSetG, dAppG, oIsB, oNotB, dTx, pJoin, pSplit, pPart, pStarts, bStr, bIntS, dFmt, dJs, ↓reduceIte, nsp_none, nsp_bool, nsp_int, nsp_str, nsp_list, nsp_tuple, nsp_eQ, nsp_eP, nsp_eS, dat_pu, dat_ow, seqD_l, seqD_t, not_true_eq_false, Bool.true_eq_false, Bool.not_not, List.length_cons, List.length_nil, mkP, mkS, fits_list, fits_tuple, isIntD, isBoolD, isListD, isStrD, isTupD, Bool.not_true, Bool.not_false, Bool.false_eq_true, it_l0, it_l1, it_l2, it_t0, it_t1, it_t2, shp_ps, shp_pt, shp_ss, shp_is, seqD_eQ, seqD_eP, seqD_eS, walkD_eP, walkD_eS, walkD_l, walkD_t]
      exact hE _ ⟨w, [], [], ho, OkW.nil, .inl ⟨c, rfl⟩, rfl⟩
    | some p =>
      obtain ⟨a, b⟩ := p
      obtain ⟨i1, i2, i3, i4⟩ := par_sub 44 w [] a b c
      rw [e44, SX.partition_some (by simp) c]
      simp only [dRet, dRetF, dSetX, dCallX, dRetX, noOw, dTry, dCpy, dRaise, dRetO, dSetP, dSetS, dSetF, dSeq, dIf, dNext, dCall, dCallF, dB, dBin, dCons, dNil, dTup, dLst, dV, dC, dTV, onB, dTAnd, dTOr, dTNot, dAnd, dOr, dNot, dIfE, dIsN, dNotN, isN, dSl, dSlF, dNoPart, dPart, dPar, dParS, dAsg, dgN, dgT, dgCons, dgNil, dFE, dIsi, dListF, dNeg, dRev, dFrz, dApp, dAppS, dIns, dExtend, dClear, dReverse, dPop, oIx, oI, oIC, oAddU, oSubI, oMulU, oMulI, oFd, oMd, oPw, oLt, oLe, oGt, oGe, oEq, oNe, getF, setF, Cl.d, getS, setS, purF_nil, purF_cons, purH, allF_nil, allF_cons, allH, rho0, endsOf, scalD, bLen, bAbs, bInt, bIntU, bTup, true_and, and_true, Option.some.injEq, exists_eq_left', decide_eq_true_eq, Bool.not_eq_true', decide_eq_false_iff_not, it_eQ0, it_eQ1, it_eP0, it_eP1, it_eS0, it_eS1, fits_eQ, fits_eP, fits_eS, eqv_eQ, eqv_eP, eqv_eS, eqv_int, eqv_bool, shp_int, shp_bool, shp_none, shp_eQ, shp_eP, shp_eS, dCont, dBreak, dXi, dSetG, dAppG, oIsB, oNotB, dTx, pJoin, pSplit, pPart, pStarts, bStr, bIntS, dFmt, dJs, ↓reduceIte, nsp_none, nsp_bool, nsp_int, nsp_str, nsp_list, nsp_tuple, nsp_eQ, nsp_eP, nsp_eS, dat_pu, dat_ow, seqD_l, seqD_t, not_true_eq_false, Bool.true_eq_false, Bool.not_not, List.length_cons, List.length_nil, mkP, mkS, fits_list, fits_tuple, isIntD, isBoolD, isListD, isStrD, isTupD, Bool.not_true, Bool.not_false, Bool.false_eq_true, it_l0, it_l1, it_l2, it_t0, it_t1, it_t2, shp_ps, shp_pt, shp_ss, shp_is, seqD_eQ, seqD_eP, seqD_eS, walkD_eP, walkD_eS, walkD_l, walkD_t]
      exact hE _ ⟨a, [44], b, ho.sub (by simpa using i1) (fun c hc => by rcases i3 c hc with z | z; cases z; exact z), ho.sub i2 i4, .inr ⟨c, rfl⟩, rfl⟩
  rintro _ ⟨hd, st, tl, o1, o2, hst, rfl⟩
  refine seq_cut (fun ρ => ρ = [.pu (.str (S w)), .pu (.str (S hd)), .pu (.str (S st)), .pu (.str (S tl)), .pu (oQ (numQ hd)), .un]) (fun E hr hE => ?_) ?_
  · simp only [dRet, dRetF, dSetX, dCallX, dRetX, noOw, dTry, dCpy, dRaise, dRetO, dSetP, dSetS, dSetF, dSeq, dIf, dNext, dCall, dCallF, dB, dBin, dCons, dNil, dTup, dLst, dV, dC, dTV, onB, dTAnd, dTOr, dTNot, dAnd, dOr, dNot, dIfE, dIsN, dNotN, isN, dSl, dSlF, dNoPart, dPart, dPar, dParS, dAsg, dgN, dgT, dgCons, dgNil, dFE, dIsi, dListF, dNeg, dRev, dFrz, dApp, dAppS, dIns, dExtend, dClear, dReverse, dPop, oIx, oI, oIC, oAddU, oSubI, oMulU, oMulI, oFd, oMd, oPw, oLt, oLe, oGt, oGe, oEq, oNe, getF, setF, Cl.d, getS, setS, purF_nil, purF_cons, purH, allF_nil, allF_cons, allH, rho0, endsOf, scalD, bLen, bAbs, bInt, bIntU, bTup, true_and, and_true, Option.some.injEq, exists_eq_left', decide_eq_true_eq, Bool.not_eq_true', decide_eq_false_iff_not, it_eQ0, it_eQ1, it_eP0, it_eP1, it_eS0, it_eS1, fits_eQ, fits_eP, fits_eS, eqv_eQ, eqv_eP, eqv_eS, eqv_int, eqv_bool, shp_int, shp_bool, shp_none, shp_eQ, shp_eP, shp_eS, dCont, dBreak, dXi, dSetG, dAppG, oIsB, oNotB, dTx, pJoin, pSplit, pPart, pStarts, bStr, bIntS, dFmt, dJs, ↓reduceIte, nsp_none, nsp_bool, nsp_int, nsp_str, nsp_list, nsp_tuple, nsp_eQ, nsp_eP, nsp_eS, dat_pu, dat_ow, seqD_l, seqD_t, not_true_eq_false, Bool.true_eq_false, Bool.not_not, List.length_cons, List.length_nil, mkP, mkS, fits_list, fits_tuple, isIntD, isBoolD, isListD, isStrD, isTupD, Bool.not_true, Bool.not_false, Bool.false_eq_true, it_l0, it_l1, it_l2, it_t0, it_t1, it_t2, shp_ps, shp_pt, shp_ss, shp_is, seqD_eQ, seqD_eP, seqD_eS, walkD_eP, walkD_eS, walkD_l, walkD_t]
    exact ⟨_, rfl, o1, hE _ rfl⟩
  rintro _ rfl
  refine seq_cut (fun ρ => ρ = [.pu (.str (S w)), .pu (.str (S hd)), .pu (.str (S st)), .pu (.str (S tl)), .pu (oQ (numQ hd)), .pu (oQ (numQ tl))]) (fun E hr hE => ?_) ?_
  · simp only [dRet, dRetF, dSetX, dCallX, dRetX, noOw, dTry, dCpy, dRaise, dRetO, dSetP, dSetS, dSetF, dSeq, dIf, dNext, dCall, dCallF, dB, dBin, dCons, dNil, dTup, dLst, dV, dC, dTV, onB, dTAnd, dTOr, dTNot, dAnd, dOr, dNot, dIfE, dIsN, dNotN, isN, dSl, dSlF, dNoPart, dPart, dPar, dParS, dAsg, dgN, dgT, dgCons, dgNil, dFE, dIsi, dListF, dNeg, dRev, dFrz, dApp, dAppS, dIns, dExtend, dClear, dReverse, dPop, oIx, oI, oIC, oAddU, oSubI, oMulU, oMulI, oFd, oMd, oPw, oLt, oLe, oGt, oGe, oEq, oNe, getF, setF, Cl.d, getS, setS, purF_nil, purF_cons, purH, allF_nil, allF_cons, allH, rho0, endsOf, scalD, bLen, bAbs, bInt, bIntU, bTup, true_and, and_true, Option.some.injEq, exists_eq_left', decide_eq_true_eq, Bool.not_eq_true', decide_eq_false_iff_not, it_eQ0, it_eQ1, it_eP0, it_eP1, it_eS0, it_eS1, fits_eQ, fits_eP, fits_eS, eqv_eQ, eqv_eP, eqv_eS, eqv_int, eqv_bool, shp_int, shp_bool, shp_none, shp_eQ, shp_eP, shp_eS, dCont, dBreak, dXi, dSetG, dAppG, oIsB, oNotB, dTx, pJoin, pSplit, pPart, pStarts, bStr, bIntS, dFmt, dJs, ↓reduceIte, nsp_none, nsp_bool, nsp_int, nsp_str, nsp_list, nsp_tuple, nsp_eQ, nsp_eP, nsp_eS, dat_pu, dat_ow, seqD_l, seqD_t, not_true_eq_false, Bool.true_eq_false, Bool.not_not, List.length_cons, List.length_nil, mkP, mkS, fits_list, fits_tuple, isIntD, isBoolD, isListD, isStrD, isTupD, Bool.not_true, Bool.not_false, Bool.false_eq_true, it_l0, it_l1, it_l2, it_t0, it_t1, it_t2, shp_ps, shp_pt, shp_ss, shp_is, seqD_eQ, seqD_eP, seqD_eS, walkD_eP, walkD_eS, walkD_l, walkD_t]
    exact ⟨_, rfl, o2, hE _ rfl⟩
  rintro _ rfl
  unfold ptIn at h
  rcases hst with ⟨c, rfl⟩ | ⟨c, rfl⟩
  · rw [c] at h
    refine seq_cut (fun ρ => False) (fun E hr hE => ?_) (fun _ z => z.elim)
    simp only [e00, eqS, OkW.nil.shp, dRet, dRetF, dSetX, dCallX, dRetX, noOw, dTry, dCpy, dRaise, dRetO, dSetP, dSetS, dSetF, dSeq, dIf, dNext, dCall, dCallF, dB, dBin, dCons, dNil, dTup, dLst, dV, dC, dTV, onB, dTAnd, dTOr, dTNot, dAnd, dOr, dNot, dIfE, dIsN, dNotN, isN, dSl, dSlF, dNoPart, dPart, dPar, dParS, dAsg, dgN, dgT, dgCons, dgNil, dFE, dIsi, dListF, dNeg, dRev, dFrz, dApp, dAppS, dIns, dExtend, dClear, dReverse, dPop, oIx, oI, oIC, oAddU, oSubI, oMulU, oMulI, oFd, oMd, oPw, oLt, oLe, oGt, oGe, oEq, oNe, getF, setF, Cl.d, getS, setS, purF_nil, purF_cons, purH, allF_nil, allF_cons, allH, rho0, endsOf, scalD, bLen, bAbs, bInt, bIntU, bTup, true_and, and_true, Option.some.injEq, exists_eq_left', decide_eq_true_eq, Bool.not_eq_true', decide_eq_false_iff_not, it_eQ0, it_eQ1, it_eP0, it_eP1, it_eS0, it_eS1, fits_eQ, fits_eP, fits_eS, eqv_eQ, eqv_eP, eqv_eS, eqv_int, eqv_bool, shp_int, shp_bool, shp_none, shp_eQ, shp_eP, shp_eS, dCont, dBreak, dXi, dSetG, dAppG, oIsB, oNotB, dTx, pJoin, pSplit, pPart, pStarts, bStr, bIntS, dFmt, dJs, ↓reduceIte, nsp_none, nsp_bool, nsp_int, nsp_str, nsp_list, nsp_tuple, nsp_eQ, nsp_eP, nsp_eS, dat_pu, dat_ow, seqD_l, seqD_t, not_true_eq_false, Bool.true_eq_false, Bool.not_not, List.length_cons, List.length_nil, mkP, mkS, fits_list, fits_tuple, isIntD, isBoolD, isListD, isStrD, isTupD, Bool.not_true, Bool.not_false, Bool.false_eq_true, it_l0, it_l1, it_l2, it_t0, it_t1, it_t2, shp_ps, shp_pt, shp_ss, shp_is, seqD_eQ, seqD_eP, seqD_eS, walkD_eP, walkD_eS, walkD_l, walkD_t]
    rw [hr]
    exact h
  · rw [c] at h
    simp only at h
    have sh := (OkW.one (c := 44) (by decide)).shp
    cases q1 : numQ hd with
    | none =>
      rw [q1] at h
      refine seq_cut (fun ρ => False) (fun E hr hE => ?_) (fun _ z => z.elim)
      simp only [e00, eqS, OkW.nil.shp, sh, oQ, isN, dRet, dRetF, dSetX, dCallX, dRetX, noOw, dTry, dCpy, dRaise, dRetO, dSetP, dSetS, dSetF, dSeq, dIf, dNext, dCall, dCallF, dB, dBin, dCons, dNil, dTup, dLst, dV, dC, dTV, onB, dTAnd, dTOr, dTNot, dAnd, dOr, dNot, dIfE, dIsN, dNotN, isN, dSl, dSlF, dNoPart, dPart, dPar, dParS, dAsg, dgN, dgT, dgCons, dgNil, dFE, dIsi, dListF, dNeg, dRev, dFrz, dApp, dAppS, dIns, dExtend, dClear, dReverse, dPop, oIx, oI, oIC, oAddU, oSubI, oMulU, oMulI, oFd, oMd, oPw, oLt, oLe, oGt, oGe, oEq, oNe, getF, setF, Cl.d, getS, setS, purF_nil, purF_cons, purH, allF_nil, allF_cons, allH, rho0, endsOf, scalD, bLen, bAbs, bInt, bIntU, bTup, true_and, and_true, Option.some.injEq, exists_eq_left', decide_eq_true_eq, Bool.not_eq_true', decide_eq_false_iff_not, it_eQ0, it_eQ1, it_eP0, it_eP1, it_eS0, it_eS1, fits_eQ, fits_eP, fits_eS, eqv_eQ, eqv_eP, eqv_eS, eqv_int, eqv_bool, shp_int, shp_bool, shp_none, shp_eQ, shp_eP, shp_eS, dCont, dBreak, dXi, dSetG, dAppG, oIsB, oNotB, dTx, pJoin, pSplit, pPart, pStarts, bStr, bIntS, dFmt, dJs, ↓reduceIte, nsp_none, nsp_bool, nsp_int, nsp_str, nsp_list, nsp_tuple, nsp_eQ, nsp_eP, nsp_eS, dat_pu, dat_ow, seqD_l, seqD_t, not_true_eq_false, Bool.true_eq_false, Bool.not_not, List.length_cons, List.length_nil, mkP, mkS, fits_list, fits_tuple, isIntD, isBoolD, isListD, isStrD, isTupD, Bool.not_true, Bool.not_false, Bool.false_eq_true, it_l0, it_l1, it_l2, it_t0, it_t1, it_t2, shp_ps, shp_pt, shp_ss, shp_is, seqD_eQ, seqD_eP, seqD_eS, walkD_eP, walkD_eS, walkD_l, walkD_t]
      rw [hr]
      exact h
    | some x =>
      cases q2 : numQ tl with
      | none =>
        rw [q1, q2] at h
        refine seq_cut (fun ρ => False) (fun E hr hE => ?_) (fun _ z => z.elim)
        simp only [e00, eqS, OkW.nil.shp, sh, oQ, isN, eQ, dRet, dRetF, dSetX, dCallX, dRetX, noOw, dTry, dCpy, dRaise, dRetO, dSetP, dSetS, dSetF, dSeq, dIf, dNext, dCall, dCallF, dB, dBin, dCons, dNil, dTup, dLst, dV, dC, dTV, onB, dTAnd, dTOr, dTNot, dAnd, dOr, dNot, dIfE, dIsN, dNotN, isN, dSl, dSlF, dNoPart, dPart, dPar, dParS, dAsg, dgN, dgT, dgCons, dgNil, dFE, dIsi, dListF, dNeg, dRev, dFrz, dApp, dAppS, dIns, dExtend, dClear, dReverse, dPop, oIx, oI, oIC, oAddU, oSubI, oMulU, oMulI, oFd, oMd, oPw, oLt, oLe, oGt, oGe, oEq, oNe, getF, setF, Cl.d, getS, setS, purF_nil, purF_cons, purH, allF_nil, allF_cons, allH, rho0, endsOf, scalD, bLen, bAbs, bInt, bIntU, bTup, true_and, and_true, Option.some.injEq, exists_eq_left', decide_eq_true_eq, Bool.not_eq_true', decide_eq_false_iff_not, it_eQ0, it_eQ1, it_eP0, it_eP1, it_eS0, it_eS1, fits_eQ, fits_eP, fits_eS, eqv_eQ, eqv_eP, eqv_eS, eqv_int, eqv_bool, shp_int, shp_bool, shp_none, shp_eQ, shp_eP, shp_eS, dCont, dBreak, dXi, dSetG, dAppG, oIsB, oNotB, dTx, pJoin, pSplit, pPart, pStarts, bStr, bIntS, dFmt, dJs, ↓reduceIte, nsp_none, nsp_bool, nsp_int, nsp_str, nsp_list, nsp_tuple, nsp_eQ, nsp_eP, nsp_eS, dat_pu, dat_ow, seqD_l, seqD_t, not_true_eq_false, Bool.true_eq_false, Bool.not_not, List.length_cons, List.length_nil, mkP, mkS, fits_list, fits_tuple, isIntD, isBoolD, isListD, isStrD, isTupD, Bool.not_true, Bool.not_false, Bool.false_eq_true, it_l0, it_l1, it_l2, it_t0, it_t1, it_t2, shp_ps, shp_pt, shp_ss, shp_is, seqD_eQ, seqD_eP, seqD_eS, walkD_eP, walkD_eS, walkD_l, walkD_t]
        rw [hr]
        exact h
      | some y =>
        rw [q1, q2] at h
        refine seq_cut (fun ρ => ρ = [.pu (.str (S w)), .pu (.str (S hd)), .pu (.str (S [44])), .pu (.str (S tl)), .pu (eQ x), .pu (eQ y)]) (fun E hr hE => ?_) ?_
        · simp only [e00, eqS, OkW.nil.shp, sh, oQ, isN, eQ, dRet, dRetF, dSetX, dCallX, dRetX, noOw, dTry, dCpy, dRaise, dRetO, dSetP, dSetS, dSetF, dSeq, dIf, dNext, dCall, dCallF, dB, dBin, dCons, dNil, dTup, dLst, dV, dC, dTV, onB, dTAnd, dTOr, dTNot, dAnd, dOr, dNot, dIfE, dIsN, dNotN, isN, dSl, dSlF, dNoPart, dPart, dPar, dParS, dAsg, dgN, dgT, dgCons, dgNil, dFE, dIsi, dListF, dNeg, dRev, dFrz, dApp, dAppS, dIns, dExtend, dClear, dReverse, dPop, oIx, oI, oIC, oAddU, oSubI, oMulU, oMulI, oFd, oMd, oPw, oLt, oLe, oGt, oGe, oEq, oNe, getF, setF, Cl.d, getS, setS, purF_nil, purF_cons, purH, allF_nil, allF_cons, allH, rho0, endsOf, scalD, bLen, bAbs, bInt, bIntU, bTup, true_and, and_true, Option.some.injEq, exists_eq_left', decide_eq_true_eq, Bool.not_eq_true', decide_eq_false_iff_not, it_eQ0, it_eQ1, it_eP0, it_eP1, it_eS0, it_eS1, fits_eQ, fits_eP, fits_eS, eqv_eQ, eqv_eP, eqv_eS, eqv_int, eqv_bool, shp_int, shp_bool, shp_none, shp_eQ, shp_eP, shp_eS, dCont, dBreak, dXi, dSetG, dAppG, oIsB, oNotB, dTx, pJoin, pSplit, pPart, pStarts, bStr, bIntS, dFmt, dJs, ↓reduceIte, nsp_none, nsp_bool, nsp_int, nsp_str, nsp_list, nsp_tuple, nsp_eQ, nsp_eP, nsp_eS, dat_pu, dat_ow, seqD_l, seqD_t, not_true_eq_false, Bool.true_eq_false, Bool.not_not, List.length_cons, List.length_nil, mkP, mkS, fits_list, fits_tuple, isIntD, isBoolD, isListD, isStrD, isTupD, Bool.not_true, Bool.not_false, Bool.false_eq_true, it_l0, it_l1, it_l2, it_t0, it_t1, it_t2, shp_ps, shp_pt, shp_ss, shp_is, seqD_eQ, seqD_eP, seqD_eS, walkD_eP, walkD_eS, walkD_l, walkD_t]
          exact hE _ rfl
        rintro _ rfl
        simp only [dRet, dRetF, dSetX, dCallX, dRetX, noOw, dTry, dCpy, dRaise, dRetO, dSetP, dSetS, dSetF, dSeq, dIf, dNext, dCall, dCallF, dB, dBin, dCons, dNil, dTup, dLst, dV, dC, dTV, onB, dTAnd, dTOr, dTNot, dAnd, dOr, dNot, dIfE, dIsN, dNotN, isN, dSl, dSlF, dNoPart, dPart, dPar, dParS, dAsg, dgN, dgT, dgCons, dgNil, dFE, dIsi, dListF, dNeg, dRev, dFrz, dApp, dAppS, dIns, dExtend, dClear, dReverse, dPop, oIx, oI, oIC, oAddU, oSubI, oMulU, oMulI, oFd, oMd, oPw, oLt, oLe, oGt, oGe, oEq, oNe, getF, setF, Cl.d, getS, setS, purF_nil, purF_cons, purH, allF_nil, allF_cons, allH, rho0, endsOf, scalD, bLen, bAbs, bInt, bIntU, bTup, true_and, and_true, Option.some.injEq, exists_eq_left', decide_eq_true_eq, Bool.not_eq_true', decide_eq_false_iff_not, it_eQ0, it_eQ1, it_eP0, it_eP1, it_eS0, it_eS1, fits_eQ, fits_eP, fits_eS, eqv_eQ, eqv_eP, eqv_eS, eqv_int, eqv_bool, shp_int, shp_bool, shp_none, shp_eQ, shp_eP, shp_eS, dCont, dBreak, dXi, dSetG, dAppG, oIsB, oNotB, dTx, pJoin, pSplit, pPart, pStarts, bStr, bIntS, dFmt, dJs, ↓reduceIte, nsp_none, nsp_bool, nsp_int, nsp_str, nsp_list, nsp_tuple, nsp_eQ, nsp_eP, nsp_eS, dat_pu, dat_ow, seqD_l, seqD_t, not_true_eq_false, Bool.true_eq_false, Bool.not_not, List.length_cons, List.length_nil, mkP, mkS, fits_list, fits_tuple, isIntD, isBoolD, isListD, isStrD, isTupD, Bool.not_true, Bool.not_false, Bool.false_eq_true, it_l0, it_l1, it_l2, it_t0, it_t1, it_t2, shp_ps, shp_pt, shp_ss, shp_is, seqD_eQ, seqD_eP, seqD_eS, walkD_eP, walkD_eS, walkD_l, walkD_t]
        exact h
theorem fz_cut {i : Nat} {t : DS} {E : DEnds} {ρ : Rho} {ds : List Dt} (h : getS ρ i = .ow ds) (k : t E (setS ρ i (.pu (.list ds)))) : dFrz i t E ρ := by
  unfold dFrz
  rw [h]
  exact k
theorem sh_oP : ∀ o : Option Pt, Sh 2 (oP o)
  | none => sh_none 2
  | some p => sh_eP p
theorem eqv_oP : ∀ o : Option Pt, PyData.eqv (oP o) .none = o.isNone
  | none => rfl
  | some p => rfl
theorem rd_read_ring (ds : List Dt) (Φ : Slot → Prop) (Ξ : XD → Prop) (h : sp_read_ring ds Φ Ξ) : d_read_ring (endsOf Φ Ξ) (rho0 N_read_ring ds) := by
  obtain ⟨d, rfl, ho, h1, h2⟩ := h
  have hz : (200000 : Nat) < sizeLine := by decide
  show dSeq _ _ _ [.pu d, .un, .un]
  refine seq_cut' (fun ρ => ∃ w, d = .str (S w) ∧ OkW w ∧ ρ = [.pu (.str (S w)), .un, .un]) (fun E hr hx hE => ?_) ?_
  · cases d with
    | str z =>
      obtain ⟨w, rfl, hw⟩ := OkW.of ho
      simp only [isStrD, dRet, dRetF, dSetX, dCallX, dRetX, noOw, dTry, dCpy, dRaise, dRetO, dSetP, dSetS, dSetF, dSeq, dIf, dNext, dCall, dCallF, dB, dBin, dCons, dNil, dTup, dLst, dV, dC, dTV, onB, dTAnd, dTOr, dTNot, dAnd, dOr, dNot, dIfE, dIsN, dNotN, isN, dSl, dSlF, dNoPart, dPart, dPar, dParS, dAsg, dgN, dgT, dgCons, dgNil, dFE, dIsi, dListF, dNeg, dRev, dFrz, dApp, dAppS, dIns, dExtend, dClear, dReverse, dPop, oIx, oI, oIC, oAddU, oSubI, oMulU, oMulI, oFd, oMd, oPw, oLt, oLe, oGt, oGe, oEq, oNe, getF, setF, Cl.d, getS, setS, purF_nil, purF_cons, purH, allF_nil, allF_cons, allH, rho0, endsOf, scalD, bLen, bAbs, bInt, bIntU, bTup, true_and, and_true, Option.some.injEq, exists_eq_left', decide_eq_true_eq, Bool.not_eq_true', decide_eq_false_iff_not, it_eQ0, it_eQ1, it_eP0, it_eP1, it_eS0, it_eS1, fits_eQ, fits_eP, fits_eS, eqv_eQ, eqv_eP, eqv_eS, eqv_int, eqv_bool, shp_int, shp_bool, shp_none, shp_eQ, shp_eP, shp_eS, dCont, dBreak, dXi, dSetG, dAppG, oIsB, oNotB, dTx, pJoin, pSplit, pPart, pStarts, bStr, bIntS, dFmt, dJs, ↓reduceIte, nsp_none, nsp_bool, nsp_int, nsp_str, nsp_list, nsp_tuple, nsp_eQ, nsp_eP, nsp_eS, dat_pu, dat_ow, seqD_l, seqD_t, not_true_eq_false, Bool.true_eq_false, Bool.not_not, List.length_cons, List.length_nil, mkP, mkS, fits_list, fits_tuple, isIntD, isBoolD, isListD, isStrD, isTupD, Bool.not_true, Bool.not_false, Bool.false_eq_true, it_l0, it_l1, it_l2, it_t0, it_t1, it_t2, shp_ps, shp_pt, shp_ss, shp_is, seqD_eQ, seqD_eP, seqD_eS, walkD_eP, walkD_eS, walkD_l, walkD_t]
      exact hE _ ⟨w, rfl, hw, rfl⟩
    | dict kvs =>
      simp only [isStrD, dRet, dRetF, dSetX, dCallX, dRetX, noOw, dTry, dCpy, dRaise, dRetO, dSetP, dSetS, dSetF, dSeq, dIf, dNext, dCall, dCallF, dB, dBin, dCons, dNil, dTup, dLst, dV, dC, dTV, onB, dTAnd, dTOr, dTNot, dAnd, dOr, dNot, dIfE, dIsN, dNotN, isN, dSl, dSlF, dNoPart, dPart, dPar, dParS, dAsg, dgN, dgT, dgCons, dgNil, dFE, dIsi, dListF, dNeg, dRev, dFrz, dApp, dAppS, dIns, dExtend, dClear, dReverse, dPop, oIx, oI, oIC, oAddU, oSubI, oMulU, oMulI, oFd, oMd, oPw, oLt, oLe, oGt, oGe, oEq, oNe, getF, setF, Cl.d, getS, setS, purF_nil, purF_cons, purH, allF_nil, allF_cons, allH, rho0, endsOf, scalD, bLen, bAbs, bInt, bIntU, bTup, true_and, and_true, Option.some.injEq, exists_eq_left', decide_eq_true_eq, Bool.not_eq_true', decide_eq_false_iff_not, it_eQ0, it_eQ1, it_eP0, it_eP1, it_eS0, it_eS1, fits_eQ, fits_eP, fits_eS, eqv_eQ, eqv_eP, eqv_eS, eqv_int, eqv_bool, shp_int, shp_bool, shp_none, shp_eQ, shp_eP, shp_eS, dCont, dBreak, dXi, dSetG, dAppG, oIsB, oNotB, dTx, pJoin, pSplit, pPart, pStarts, bStr, bIntS, dFmt, dJs, ↓reduceIte, nsp_none, nsp_bool, nsp_int, nsp_str, nsp_list, nsp_tuple, nsp_eQ, nsp_eP, nsp_eS, dat_pu, dat_ow, seqD_l, seqD_t, not_true_eq_false, Bool.true_eq_false, Bool.not_not, List.length_cons, List.length_nil, mkP, mkS, fits_list, fits_tuple, isIntD, isBoolD, isListD, isStrD, isTupD, Bool.not_true, Bool.not_false, Bool.false_eq_true, it_l0, it_l1, it_l2, it_t0, it_t1, it_t2, shp_ps, shp_pt, shp_ss, shp_is, seqD_eQ, seqD_eP, seqD_eS, walkD_eP, walkD_eS, walkD_l, walkD_t]
      rw [hx]
      exact ⟨ok_spec ho, h2 rfl⟩
    | _ =>
      simp only [isStrD, dRet, dRetF, dSetX, dCallX, dRetX, noOw, dTry, dCpy, dRaise, dRetO, dSetP, dSetS, dSetF, dSeq, dIf, dNext, dCall, dCallF, dB, dBin, dCons, dNil, dTup, dLst, dV, dC, dTV, onB, dTAnd, dTOr, dTNot, dAnd, dOr, dNot, dIfE, dIsN, dNotN, isN, dSl, dSlF, dNoPart, dPart, dPar, dParS, dAsg, dgN, dgT, dgCons, dgNil, dFE, dIsi, dListF, dNeg, dRev, dFrz, dApp, dAppS, dIns, dExtend, dClear, dReverse, dPop, oIx, oI, oIC, oAddU, oSubI, oMulU, oMulI, oFd, oMd, oPw, oLt, oLe, oGt, oGe, oEq, oNe, getF, setF, Cl.d, getS, setS, purF_nil, purF_cons, purH, allF_nil, allF_cons, allH, rho0, endsOf, scalD, bLen, bAbs, bInt, bIntU, bTup, true_and, and_true, Option.some.injEq, exists_eq_left', decide_eq_true_eq, Bool.not_eq_true', decide_eq_false_iff_not, it_eQ0, it_eQ1, it_eP0, it_eP1, it_eS0, it_eS1, fits_eQ, fits_eP, fits_eS, eqv_eQ, eqv_eP, eqv_eS, eqv_int, eqv_bool, shp_int, shp_bool, shp_none, shp_eQ, shp_eP, shp_eS, dCont, dBreak, dXi, dSetG, dAppG, oIsB, oNotB, dTx, pJoin, pSplit, pPart, pStarts, bStr, bIntS, dFmt, dJs, ↓reduceIte, nsp_none, nsp_bool, nsp_int, nsp_str, nsp_list, nsp_tuple, nsp_eQ, nsp_eP, nsp_eS, dat_pu, dat_ow, seqD_l, seqD_t, not_true_eq_false, Bool.true_eq_false, Bool.not_not, List.length_cons, List.length_nil, mkP, mkS, fits_list, fits_tuple, isIntD, isBoolD, isListD, isStrD, isTupD, Bool.not_true, Bool.not_false, Bool.false_eq_true, it_l0, it_l1, it_l2, it_t0, it_t1, it_t2, shp_ps, shp_pt, shp_ss, shp_is, seqD_eQ, seqD_eP, seqD_eS, walkD_eP, walkD_eS, walkD_l, walkD_t]
      rw [hx]
      exact h2 rfl
  rintro _ ⟨w, rfl, hw, rfl⟩
  have hl := hw.1
  have e32 : (" " : Str) = S [32] := rfl
  have sn := spl_len 32 w []
  refine seq_cut (fun ρ => ∃ s : Slot, ρ = [.pu (.str (S w)), .ow ((TL.spl [32] 0 [] w).map fun v => oP (ptIn v)), s]) (fun E hr hE => ?_) ?_
  · simp only [dRet, dRetF, dSetX, dCallX, dRetX, noOw, dTry, dCpy, dRaise, dRetO, dSetP, dSetS, dSetF, dSeq, dIf, dNext, dCall, dCallF, dB, dBin, dCons, dNil, dTup, dLst, dV, dC, dTV, onB, dTAnd, dTOr, dTNot, dAnd, dOr, dNot, dIfE, dIsN, dNotN, isN, dSl, dSlF, dNoPart, dPart, dPar, dParS, dAsg, dgN, dgT, dgCons, dgNil, dFE, dIsi, dListF, dNeg, dRev, dFrz, dApp, dAppS, dIns, dExtend, dClear, dReverse, dPop, oIx, oI, oIC, oAddU, oSubI, oMulU, oMulI, oFd, oMd, oPw, oLt, oLe, oGt, oGe, oEq, oNe, getF, setF, Cl.d, getS, setS, purF_nil, purF_cons, purH, allF_nil, allF_cons, allH, rho0, endsOf, scalD, bLen, bAbs, bInt, bIntU, bTup, true_and, and_true, Option.some.injEq, exists_eq_left', decide_eq_true_eq, Bool.not_eq_true', decide_eq_false_iff_not, it_eQ0, it_eQ1, it_eP0, it_eP1, it_eS0, it_eS1, fits_eQ, fits_eP, fits_eS, eqv_eQ, eqv_eP, eqv_eS, eqv_int, eqv_bool, shp_int, shp_bool, shp_none, shp_eQ, shp_eP, shp_eS, dCont, dBreak, dXi, dSetG, dAppG, oIsB, oNotB, dTx, pJoin, pSplit, pPart, pStarts, bStr, bIntS, dFmt, dJs, ↓reduceIte, nsp_none, nsp_bool, nsp_int, nsp_str, nsp_list, nsp_tuple, nsp_eQ, nsp_eP, nsp_eS, dat_pu, dat_ow, seqD_l, seqD_t, not_true_eq_false, Bool.true_eq_false, Bool.not_not, List.length_cons, List.length_nil, mkP, mkS, fits_list, fits_tuple, isIntD, isBoolD, isListD, isStrD, isTupD, Bool.not_true, Bool.not_false, Bool.false_eq_true, it_l0, it_l1, it_l2, it_t0, it_t1, it_t2, shp_ps, shp_pt, shp_ss, shp_is, seqD_eQ, seqD_eP, seqD_eS, walkD_eP, walkD_eS, walkD_l, walkD_t]
    refine dLc_mapM (xs := TL.spl [32] 0 [] w) (e := fun v => .str (S v)) (fun Q hQ => ?_) (fun v => oP (ptIn v)) (by omega) (fun v hv Ψ hΨ => ?_) ?_
    · simp only [diSeq, dTx, pSplit, dRet, dRetF, dSetX, dCallX, dRetX, noOw, dTry, dCpy, dRaise, dRetO, dSetP, dSetS, dSetF, dSeq, dIf, dNext, dCall, dCallF, dB, dBin, dCons, dNil, dTup, dLst, dV, dC, dTV, onB, dTAnd, dTOr, dTNot, dAnd, dOr, dNot, dIfE, dIsN, dNotN, isN, dSl, dSlF, dNoPart, dPart, dPar, dParS, dAsg, dgN, dgT, dgCons, dgNil, dFE, dIsi, dListF, dNeg, dRev, dFrz, dApp, dAppS, dIns, dExtend, dClear, dReverse, dPop, oIx, oI, oIC, oAddU, oSubI, oMulU, oMulI, oFd, oMd, oPw, oLt, oLe, oGt, oGe, oEq, oNe, getF, setF, Cl.d, getS, setS, purF_nil, purF_cons, purH, allF_nil, allF_cons, allH, rho0, endsOf, scalD, bLen, bAbs, bInt, bIntU, bTup, true_and, and_true, Option.some.injEq, exists_eq_left', decide_eq_true_eq, Bool.not_eq_true', decide_eq_false_iff_not, it_eQ0, it_eQ1, it_eP0, it_eP1, it_eS0, it_eS1, fits_eQ, fits_eP, fits_eS, eqv_eQ, eqv_eP, eqv_eS, eqv_int, eqv_bool, shp_int, shp_bool, shp_none, shp_eQ, shp_eP, shp_eS, dCont, dBreak, dXi, dSetG, dAppG, oIsB, oNotB, dTx, pJoin, pSplit, pPart, pStarts, bStr, bIntS, dFmt, dJs, ↓reduceIte, nsp_none, nsp_bool, nsp_int, nsp_str, nsp_list, nsp_tuple, nsp_eQ, nsp_eP, nsp_eS, dat_pu, dat_ow, seqD_l, seqD_t, not_true_eq_false, Bool.true_eq_false, Bool.not_not, List.length_cons, List.length_nil, mkP, mkS, fits_list, fits_tuple, isIntD, isBoolD, isListD, isStrD, isTupD, Bool.not_true, Bool.not_false, Bool.false_eq_true, it_l0, it_l1, it_l2, it_t0, it_t1, it_t2, shp_ps, shp_pt, shp_ss, shp_is, seqD_eQ, seqD_eP, seqD_eS, walkD_eP, walkD_eS, walkD_l, walkD_t]
      refine ⟨_, rfl, rfl, by rw [SX.S_len]; omega, ?_⟩
      rw [e32, SX.split_S (by simp) (by decide), List.map_map]
      exact hQ
    · simp only [dcN, wipeF, noneF, dRet, dRetF, dSetX, dCallX, dRetX, noOw, dTry, dCpy, dRaise, dRetO, dSetP, dSetS, dSetF, dSeq, dIf, dNext, dCall, dCallF, dB, dBin, dCons, dNil, dTup, dLst, dV, dC, dTV, onB, dTAnd, dTOr, dTNot, dAnd, dOr, dNot, dIfE, dIsN, dNotN, isN, dSl, dSlF, dNoPart, dPart, dPar, dParS, dAsg, dgN, dgT, dgCons, dgNil, dFE, dIsi, dListF, dNeg, dRev, dFrz, dApp, dAppS, dIns, dExtend, dClear, dReverse, dPop, oIx, oI, oIC, oAddU, oSubI, oMulU, oMulI, oFd, oMd, oPw, oLt, oLe, oGt, oGe, oEq, oNe, getF, setF, Cl.d, getS, setS, purF_nil, purF_cons, purH, allF_nil, allF_cons, allH, rho0, endsOf, scalD, bLen, bAbs, bInt, bIntU, bTup, true_and, and_true, Option.some.injEq, exists_eq_left', decide_eq_true_eq, Bool.not_eq_true', decide_eq_false_iff_not, it_eQ0, it_eQ1, it_eP0, it_eP1, it_eS0, it_eS1, fits_eQ, fits_eP, fits_eS, eqv_eQ, eqv_eP, eqv_eS, eqv_int, eqv_bool, shp_int, shp_bool, shp_none, shp_eQ, shp_eP, shp_eS, dCont, dBreak, dXi, dSetG, dAppG, oIsB, oNotB, dTx, pJoin, pSplit, pPart, pStarts, bStr, bIntS, dFmt, dJs, ↓reduceIte, nsp_none, nsp_bool, nsp_int, nsp_str, nsp_list, nsp_tuple, nsp_eQ, nsp_eP, nsp_eS, dat_pu, dat_ow, seqD_l, seqD_t, not_true_eq_false, Bool.true_eq_false, Bool.not_not, List.length_cons, List.length_nil, mkP, mkS, fits_list, fits_tuple, isIntD, isBoolD, isListD, isStrD, isTupD, Bool.not_true, Bool.not_false, Bool.false_eq_true, it_l0, it_l1, it_l2, it_t0, it_t1, it_t2, shp_ps, shp_pt, shp_ss, shp_is, seqD_eQ, seqD_eP, seqD_eS, walkD_eP, walkD_eS, walkD_l, walkD_t]
      obtain ⟨i1, i2⟩ := spl_sub 32 w [] v hv
      exact ⟨v, rfl, hw.sub (by simpa using i1) (fun c hc => by rcases i2 c hc with z | z; cases z; exact z), hΨ⟩
    · exact hE _ ⟨_, rfl⟩
  rintro _ ⟨s, rfl⟩
  refine fz_cut (ds := (TL.spl [32] 0 [] w).map fun v => oP (ptIn v)) rfl ?_
  show dSeq _ _ _ [.pu (.str (S w)), .pu (.list ((TL.spl [32] 0 [] w).map fun v => oP (ptIn v))), s]
  have sh : SeqAt.shaped (.list ((TL.spl [32] 0 [] w).map fun v => oP (ptIn v))) = true := (sh_list (n := 2) fun d hd => by
    obtain ⟨v, _, rfl⟩ := List.mem_map.mp hd
    exact sh_oP _).shaped (by decide)
  have an : (((TL.spl [32] 0 [] w).map fun v => oP (ptIn v)).any fun z => PyData.eqv z .none) = decide (none ∈ (TL.spl [32] 0 [] w).map ptIn) := by
    rw [List.any_map]
    generalize TL.spl [32] 0 [] w = l
    induction l with
    | nil => rfl
    | cons v l ih =>
      rw [List.any_cons, ih]
      simp only [Function.comp, eqv_oP, List.map_cons]
      cases ptIn v <;> simp
  have rd : readD (.str (S w)) = readR w := rfl
  rw [rd] at h1 h2
  unfold readR at h1 h2
  refine seq_cut' (fun ρ => none ∉ (TL.spl [32] 0 [] w).map ptIn ∧ (TL.spl [32] 0 [] w).length ≤ 24 ∧ ρ = [.pu (.str (S w)), .pu (.list ((TL.spl [32] 0 [] w).map fun v => oP (ptIn v))), s]) (fun E hr hx hE => ?_) ?_
  · simp only [oIn, sh, shp_none, an, cv_MOST_POINTS, List.length_map, dRet, dRetF, dSetX, dCallX, dRetX, noOw, dTry, dCpy, dRaise, dRetO, dSetP, dSetS, dSetF, dSeq, dIf, dNext, dCall, dCallF, dB, dBin, dCons, dNil, dTup, dLst, dV, dC, dTV, onB, dTAnd, dTOr, dTNot, dAnd, dOr, dNot, dIfE, dIsN, dNotN, isN, dSl, dSlF, dNoPart, dPart, dPar, dParS, dAsg, dgN, dgT, dgCons, dgNil, dFE, dIsi, dListF, dNeg, dRev, dFrz, dApp, dAppS, dIns, dExtend, dClear, dReverse, dPop, oIx, oI, oIC, oAddU, oSubI, oMulU, oMulI, oFd, oMd, oPw, oLt, oLe, oGt, oGe, oEq, oNe, getF, setF, Cl.d, getS, setS, purF_nil, purF_cons, purH, allF_nil, allF_cons, allH, rho0, endsOf, scalD, bLen, bAbs, bInt, bIntU, bTup, true_and, and_true, Option.some.injEq, exists_eq_left', decide_eq_true_eq, Bool.not_eq_true', decide_eq_false_iff_not, it_eQ0, it_eQ1, it_eP0, it_eP1, it_eS0, it_eS1, fits_eQ, fits_eP, fits_eS, eqv_eQ, eqv_eP, eqv_eS, eqv_int, eqv_bool, shp_int, shp_bool, shp_none, shp_eQ, shp_eP, shp_eS, dCont, dBreak, dXi, dSetG, dAppG, oIsB, oNotB, dTx, pJoin, pSplit, pPart, pStarts, bStr, bIntS, dFmt, dJs, ↓reduceIte, nsp_none, nsp_bool, nsp_int, nsp_str, nsp_list, nsp_tuple, nsp_eQ, nsp_eP, nsp_eS, dat_pu, dat_ow, seqD_l, seqD_t, not_true_eq_false, Bool.true_eq_false, Bool.not_not, List.length_cons, List.length_nil, mkP, mkS, fits_list, fits_tuple, isIntD, isBoolD, isListD, isStrD, isTupD, Bool.not_true, Bool.not_false, Bool.false_eq_true, it_l0, it_l1, it_l2, it_t0, it_t1, it_t2, shp_ps, shp_pt, shp_ss, shp_is, seqD_eQ, seqD_eP, seqD_eS, walkD_eP, walkD_eS, walkD_l, walkD_t]
    by_cases c : none ∈ (TL.spl [32] 0 [] w).map ptIn
    · refine ite_yes c ?_
      rw [hx]
      refine h2 ?_
      split
      · exact allS_none.mpr c
      · rfl
    · refine ite_no c ?_
      by_cases c2 : (TL.spl [32] 0 [] w).length ≤ 24
      · refine ite_no (by omega) ?_
        exact hE _ ⟨c, c2, rfl⟩
      · refine ite_yes (by omega) ?_
        rw [hx]
        exact h2 (if_neg c2)
  rintro _ ⟨c, c2, rfl⟩
  rw [if_pos c2] at h1
  cases e : allS ((TL.spl [32] 0 [] w).map ptIn) with
  | none => exact absurd (allS_none.mp e) c
  | some r =>
    have k := allS_of e
    have k2 : ((TL.spl [32] 0 [] w).map fun v => oP (ptIn v)) = r.map eP := by
      have : ((TL.spl [32] 0 [] w).map fun v => oP (ptIn v)) = ((TL.spl [32] 0 [] w).map ptIn).map oP := by rw [List.map_map]; rfl
      rw [this, k, List.map_map]
      rfl
    have h3 := h1 r e
    rw [k2]
    simp only [dRet, dRetF, dSetX, dCallX, dRetX, noOw, dTry, dCpy, dRaise, dRetO, dSetP, dSetS, dSetF, dSeq, dIf, dNext, dCall, dCallF, dB, dBin, dCons, dNil, dTup, dLst, dV, dC, dTV, onB, dTAnd, dTOr, dTNot, dAnd, dOr, dNot, dIfE, dIsN, dNotN, isN, dSl, dSlF, dNoPart, dPart, dPar, dParS, dAsg, dgN, dgT, dgCons, dgNil, dFE, dIsi, dListF, dNeg, dRev, dFrz, dApp, dAppS, dIns, dExtend, dClear, dReverse, dPop, oIx, oI, oIC, oAddU, oSubI, oMulU, oMulI, oFd, oMd, oPw, oLt, oLe, oGt, oGe, oEq, oNe, getF, setF, Cl.d, getS, setS, purF_nil, purF_cons, purH, allF_nil, allF_cons, allH, rho0, endsOf, scalD, bLen, bAbs, bInt, bIntU, bTup, true_and, and_true, Option.some.injEq, exists_eq_left', decide_eq_true_eq, Bool.not_eq_true', decide_eq_false_iff_not, it_eQ0, it_eQ1, it_eP0, it_eP1, it_eS0, it_eS1, fits_eQ, fits_eP, fits_eS, eqv_eQ, eqv_eP, eqv_eS, eqv_int, eqv_bool, shp_int, shp_bool, shp_none, shp_eQ, shp_eP, shp_eS, dCont, dBreak, dXi, dSetG, dAppG, oIsB, oNotB, dTx, pJoin, pSplit, pPart, pStarts, bStr, bIntS, dFmt, dJs, ↓reduceIte, nsp_none, nsp_bool, nsp_int, nsp_str, nsp_list, nsp_tuple, nsp_eQ, nsp_eP, nsp_eS, dat_pu, dat_ow, seqD_l, seqD_t, not_true_eq_false, Bool.true_eq_false, Bool.not_not, List.length_cons, List.length_nil, mkP, mkS, fits_list, fits_tuple, isIntD, isBoolD, isListD, isStrD, isTupD, Bool.not_true, Bool.not_false, Bool.false_eq_true, it_l0, it_l1, it_l2, it_t0, it_t1, it_t2, shp_ps, shp_pt, shp_ss, shp_is, seqD_eQ, seqD_eP, seqD_eS, walkD_eP, walkD_eS, walkD_l, walkD_t]
    exact h3
end L2.D3

set_option maxHeartbeats 1000000
/-! Law k10: texts refused. -/
namespace L2.D3.K10
open PySem PySem.Spec PyProof.Rows
open SX (S)
def oR : Option (List Pt) → Dt
  | none => .none
  | some r => .tuple (r.map eP)
def Wd (w : List Nat) : Prop := w.length ≤ 40 ∧ ∀ c ∈ w, c < 1114112
def eW (w : List Nat) : Dt := .str (S w)
def sp__law_whole : DSp := sp_figures_in
def sp__law_written : DSp := sp_number_in
def sp__law_reading : DSp := fun ds Φ _ => ∃ w : List Nat, ds = [.str (S w)] ∧ OkW w ∧ Φ (.pu (oR (readR w)))
def sp__law_spoilt : DSp := fun ds Φ _ => ∃ (ws : List (List Nat)) (xs : List Int), ds = [.list (ws.map eW), .list (xs.map .int)] ∧ 1 ≤ ws.length ∧ ws.length ≤ 24 ∧ (∀ w ∈ ws, Wd w) ∧ 4 ≤ xs.length ∧ xs.length ≤ 1000 ∧ ∀ us : List (List Nat), us.length = ws.length → (∀ w ∈ us, Wd w) → Φ (.pu (.list (us.map eW)))
def sp__law_drawn : DSp := fun ds Φ _ => ∃ c : Int, ds = [.int c] ∧ ∀ w : List Nat, OkW w → Φ (.pu (.str (S w)))
def sp__law_refused : DSp := fun ds Φ _ => ∃ d : Dt, ds = [d] ∧ okD d ∧ readD d = none ∧ Φ (.pu (.bool true))
def sp_law : DSp := dspLaw 63
def tb_SheetError : List (Str × Bool) := [("SheetError", true), ("NoNumber", true), ("OnSide", true), ("NoText", true), ("NoAtlas", true), ("NoRow", true), ("NoSaying", true), ("NoFace", true), ("NoLand", true), ("NoDeed", true), ("NoDeskRow", true)]
def tb_0 : List (Str × Bool) := [("SheetError", false), ("NoNumber", true), ("OnSide", true), ("NoText", false), ("NoAtlas", true), ("NoRow", true), ("NoSaying", true), ("NoFace", true), ("NoLand", true), ("NoDeed", true), ("NoDeskRow", true)]
def tb_NoText : List (Str × Bool) := [("SheetError", false), ("NoNumber", false), ("OnSide", false), ("NoText", true), ("NoAtlas", false), ("NoRow", false), ("NoSaying", false), ("NoFace", false), ("NoLand", false), ("NoDeed", false), ("NoDeskRow", false)]
def tb_ValueError : List (Str × Bool) := [("SheetError", true), ("NoNumber", true), ("OnSide", true), ("NoText", true), ("NoAtlas", true), ("NoRow", true), ("NoSaying", true), ("NoFace", true), ("NoLand", true), ("NoDeed", true), ("NoDeskRow", true)]
abbrev N__law_whole : List Str := ["_law_word", "_law_sign"]
def d__law_whole : DS := (dSeq (dIf (dTOr (dTNot (dTV (dChn oLe oLe (dC (.int 1)) (dB bLen (dCons (dV 0) dNil)) (dC (.int 7))))) (dTNot (dTV (dB bAll (dCons (dFE (dLc [1] (diSeq (dV 0)) (dcN 1) dYes (dBin oIn (dV 1) (dC (.str "0123456789"))))) dNil))))) (dRet (dC .none)) dNext)
  (dSeq (dIf (dTAnd (dTV (dBin oEq (dBin oIx (dV 0) (dC (.int 0))) (dC (.str "0")))) (dTV (dBin oNe (dV 0) (dC (.str "0"))))) (dRet (dC .none)) dNext)
  (dRet (dB bIntS (dCons (dV 0) dNil)))))
abbrev N__law_written : List Str := ["_law_word", "_law_parts", "_law_sign", "_law_head", "_law_top", "_law_bottom"]
def d__law_written : DS := (dSeq (dSetP 1 (dTx pSplit (dV 0) (dC (.str "/"))))
  (dSeq (dIf (dTV (dBin oGt (dB bLen (dCons (dV 1) dNil)) (dC (.int 2)))) (dRet (dC .none)) dNext)
  (dSeq (dSetP 2 (dC (.int 1)))
  (dSeq (dSetP 3 (dBin oIx (dV 1) (dC (.int 0))))
  (dSeq (dIf (dTV (dBin oEq (dSl (dV 3) dNoPart (dPart (dC (.int 1)))) (dC (.str "-")))) (dSeq (dSetP 2 (dNeg (dC (.int 1))))
  (dSetP 3 (dSl (dV 3) (dPart (dC (.int 1))) dNoPart))) dNext)
  (dSeq (dSetP 4 (dCall sp__law_whole (dCons (dV 3) dNil)))
  (dSeq (dIf (dTOr (dTV (dIsN (dV 4))) (dTAnd (dTV (dBin oEq (dV 4) (dC (.int 0)))) (dTV (dBin oEq (dV 2) (dNeg (dC (.int 1))))))) (dRet (dC .none)) dNext)
  (dSeq (dIf (dTV (dBin oEq (dB bLen (dCons (dV 1) dNil)) (dC (.int 1)))) (dRet (dTup (dCons (dBin oMulU (dV 2) (dV 4)) (dCons (dC (.int 1)) dNil)))) dNext)
  (dSeq (dSetP 5 (dCall sp__law_whole (dCons (dBin oIx (dV 1) (dC (.int 1))) dNil)))
  (dSeq (dIf (dTOr (dTV (dIsN (dV 5))) (dTOr (dTV (dBin oLt (dV 5) (dC (.int 2)))) (dTV (dBin oNe (dCall sp__law_low (dCons (dV 4) (dCons (dV 5) dNil))) (dTup (dCons (dV 4) (dCons (dV 5) dNil))))))) (dRet (dC .none)) dNext)
  (dRet (dTup (dCons (dBin oMulU (dV 2) (dV 4)) (dCons (dV 5) dNil))))))))))))))
abbrev N__law_reading : List Str := ["_law_text", "_law_points", "_law_word", "_law_parts", "_law_point"]
def d__law_reading : DS := (dSeq (dSetF 1 dNil)
  (dSeq (dFor (diSeq (dTx pSplit (dV 0) (dC (.str " ")))) (dgN 2) (dSeq (dSetP 3 (dTx pSplit (dV 2) (dC (.str ","))))
  (dSeq (dIf (dTV (dBin oNe (dB bLen (dCons (dV 3) dNil)) (dC (.int 2)))) (dRet (dC .none)) dNext)
  (dSeq (dSetP 4 (dTup (dCons (dCall sp__law_written (dCons (dBin oIx (dV 3) (dC (.int 0))) dNil)) (dCons (dCall sp__law_written (dCons (dBin oIx (dV 3) (dC (.int 1))) dNil)) dNil))))
  (dSeq (dIf (dTV (dBin oIn (dC .none) (dV 4))) (dRet (dC .none)) dNext)
  (dApp 1 (dV 4)))))))
  (dSeq (dIf (dTV (dBin oGt (dB bLen (dCons (dV 1) dNil)) (dC (.int 24)))) (dRet (dC .none)) dNext)
  (dRet (dB bTup (dCons (dV 1) dNil))))))
abbrev N__law_spoilt : List Str := ["_law_words", "_law_xs", "_law_some", "_law_at", "_law_one", "_law_other", "_law_way", "_law_more"]
def d__law_spoilt : DS := (dSeq (dSetP 2 (dLst (dCons (dC (.str "0")) (dCons (dC (.str "1")) (dCons (dC (.str "-1")) (dCons (dC (.str "00")) (dCons (dC (.str "01")) (dCons (dC (.str "-0")) (dCons (dC (.str "1/2")) (dCons (dC (.str "2/4")) (dCons (dC (.str "0/2")) (dCons (dC (.str "1/1")) (dCons (dC (.str "1/0")) (dCons (dC (.str "-1/2")) (dCons (dC (.str "-2/3")) (dCons (dC (.str "--1")) (dCons (dC (.str "-")) (dCons (dC (.str "")) dNil))))))))))))))))))
  (dSeq (dSetP 2 (dBin oAddU (dV 2) (dLst (dCons (dC (.str "/2")) (dCons (dC (.str "1/")) (dCons (dC (.str "1/-2")) (dCons (dC (.str "+1")) (dCons (dC (.str "1000000")) (dCons (dC (.str "10000000")) (dCons (dC (.str "1/1000")) (dCons (dC (.str "1/10000000")) (dCons (dC (.str "1/2/3")) (dCons (dC (.str "a")) (dCons (dC (.str "1.5")) dNil))))))))))))))
  (dSeq (dSetP 2 (dBin oAddU (dV 2) (dLst (dCons (dC (.str "1/02")) (dCons (dC (.str " 1")) (dCons (dC (.str "1 ")) (dCons (dC (.str "0x1")) (dCons (dC (.str "1_0")) (dCons (dC (.str "1\n")) (dCons (dC (.str "\n1")) (dCons (dC (.str "1/9999991")) dNil)))))))))))
  (dSeq (dSetP 3 (dBin oMd (dBin oIx (dV 1) (dC (.int 0))) (dB bLen (dCons (dV 0) dNil))))
  (dSeq (dSetP 4 (dBin oIx (dV 2) (dBin oMd (dBin oIx (dV 1) (dC (.int 1))) (dC (.int 35)))))
  (dSeq (dSetP 5 (dBin oIx (dV 2) (dBin oMd (dBin oIx (dV 1) (dC (.int 2))) (dC (.int 35)))))
  (dSeq (dSetP 6 (dBin oMd (dBin oIx (dV 1) (dC (.int 3))) (dC (.int 9))))
  (dSeq (dIf (dTV (dBin oLt (dV 6) (dC (.int 4)))) (dSetP 7 (dBin oAddU (dBin oAddU (dV 4) (dC (.str ","))) (dBin oIx (dLst (dCons (dV 5) (dCons (dC (.str "1")) (dCons (dC (.str "-3/7")) (dCons (dC (.str "0")) dNil))))) (dV 6)))) (dSetP 7 (dBin oIx (dLst (dCons (dV 4) (dCons (dBin oAddU (dBin oAddU (dBin oAddU (dV 4) (dC (.str ","))) (dV 5)) (dC (.str ","))) (dCons (dC (.str "1,1 ")) (dCons (dC (.str " 1,1")) (dCons (dBin oAddU (dC (.str ",")) (dV 5)) dNil)))))) (dBin oSubI (dV 6) (dC (.int 4))))))
  (dRet (dBin oAddU (dBin oAddU (dSl (dV 0) dNoPart (dPart (dV 3))) (dLst (dCons (dV 7) dNil))) (dSl (dV 0) (dPart (dBin oAddU (dV 3) (dC (.int 1)))) dNoPart)))))))))))
abbrev N__law_drawn : List Str := ["_law_cell_here", "_law_xs", "_law_words", "_law_k", "_law_x", "_law_y", "_law_top", "_law_text"]
def d__law_drawn : DS := (dSeq (dSetP 1 (dCall sp__law_numbers (dCons (dV 0) (dCons (dC (.int 60)) dNil))))
  (dSeq (dSetF 2 dNil)
  (dSeq (dFor (diRng1 (dCons (dBin oAddU (dC (.int 1)) (dBin oMd (dBin oIx (dV 1) (dC (.int 0))) (dBin oIx (dLst (dCons (dC (.int 3)) (dCons (dC (.int 5)) (dCons (dC (.int 24)) dNil)))) (dBin oMd (dBin oIx (dV 1) (dC (.int 1))) (dC (.int 3)))))) dNil)) (dgN 3) (dSeq (dAsg (dSl (dV 1) (dPart (dBin oAddU (dC (.int 10)) (dBin oMulU (dC (.int 2)) (dV 3)))) (dPart (dBin oAddU (dC (.int 12)) (dBin oMulU (dC (.int 2)) (dV 3))))) (dgT 2 (dgCons (dgN 4) (dgCons (dgN 5) dgNil))))
  (dSeq (dSetP 6 (dB bStr (dCons (dBin oMulU (dBin oSubI (dBin oMd (dV 4) (dC (.int 19))) (dC (.int 9))) (dBin oAddU (dC (.int 1)) (dBin oMulU (dBin oMd (dBin oFd (dV 4) (dC (.int 19))) (dC (.int 2))) (dC (.int 999))))) dNil)))
  (dApp 2 (dBin oAddU (dBin oAddU (dV 6) (dC (.str ","))) (dBin oIx (dLst (dCons (dC (.str "0")) (dCons (dC (.str "-3")) (dCons (dC (.str "1/2")) (dCons (dC (.str "-7/6")) (dCons (dC (.str "1000000")) (dCons (dC (.str "-1000000/999")) dNil))))))) (dBin oMd (dV 5) (dC (.int 6)))))))))
  (dFrz 2 (dSeq (dFor (diRng1 (dCons (dBin oMd (dBin oIx (dV 1) (dC (.int 2))) (dC (.int 3))) dNil)) (dgN 3) (dSetP 2 (dCall sp__law_spoilt (dCons (dV 2) (dCons (dSl (dV 1) (dPart (dBin oAddU (dC (.int 3)) (dBin oMulU (dC (.int 2)) (dV 3)))) dNoPart) dNil)))))
  (dSeq (dIf (dTV (dBin oEq (dBin oMd (dBin oIx (dV 1) (dC (.int 7))) (dC (.int 7))) (dC (.int 3)))) (dSetP 2 (dSl (dBin oRepL (dV 2) (dC (.int 25))) dNoPart (dPart (dBin oSubI (dC (.int 25)) (dBin oMd (dBin oIx (dV 1) (dC (.int 8))) (dC (.int 2))))))) dNext)
  (dSeq (dSetP 7 (dTx pJoin (dC (.str " ")) (dV 2)))
  (dSeq (dIf (dTV (dBin oEq (dBin oMd (dBin oIx (dV 1) (dC (.int 9))) (dC (.int 9))) (dC (.int 4)))) (dSetP 7 (dBin oIx (dLst (dCons (dBin oAddU (dC (.str " ")) (dV 7)) (dCons (dBin oAddU (dV 7) (dC (.str " "))) (dCons (dRepl " " "  " (dV 7)) (dCons (dSl (dV 7) (dPart (dC (.int 1))) dNoPart) (dCons (dBin oAddU (dV 7) (dC (.str "\n"))) dNil)))))) (dBin oMd (dBin oIx (dV 1) (dC (.int 8))) (dC (.int 5))))) dNext)
  (dRet (dV 7))))))))))
abbrev N__law_refused : List Str := ["_law_thing", "_law_caught", "e"]
def d__law_refused : DS := (dSeq (dSetP 1 (dC .none))
  (dSeq (dTry tb_SheetError 2 (dCallX sp_read_ring (dCons (dV 0) dNil)) (dCpy 1 2))
  (dSeq (dIf (dTV (dIsX 1 tb_0)) (dRet (dC (.bool false))) dNext)
  (dRet (dAnd (dIsX 1 tb_NoText) (dIsX 1 tb_ValueError))))))
abbrev N_law : List Str := ["_law_script", "_law_cell_here", "_law_text", "_law_due", "_law_thing"]
def d_law : DS := (dSeq (dFor (diSeq (dBin oAddU (dLst (dCons (dCall sp__law_cell (dCons (dV 0) (dCons (dC (.int 0)) dNil))) dNil)) (dSl (dV 0) (dPart (dC (.int 1))) (dPart (dC (.int 21)))))) (dgN 1) (dSeq (dSetP 2 (dCall sp__law_drawn (dCons (dV 1) dNil)))
  (dSeq (dSetP 3 (dCall sp__law_reading (dCons (dV 2) dNil)))
  (dIf (dTV (dIsN (dV 3))) (dIf (dTNot (dTV (dCall sp__law_refused (dCons (dV 2) dNil)))) (dRet (dC (.bool false))) dNext) (dIf (dTV (dBin oNe (dCall sp_read_ring (dCons (dV 2) dNil)) (dV 3))) (dRet (dC (.bool false))) dNext)))))
  (dRet (dB bAll (dCons (dFE (dLc [4] (diSeq (dLst (dCons (dC .none) (dCons (dC (.int 7)) (dCons (dC (.bool true)) (dCons (dLst (dCons (dC (.str "0,0")) dNil)) (dCons (dTup (dCons (dTup (dCons (dTup (dCons (dC (.int 0)) (dCons (dC (.int 1)) dNil))) (dCons (dTup (dCons (dC (.int 0)) (dCons (dC (.int 1)) dNil))) dNil))) dNil)) (dCons (dC (.dict [])) dNil)))))))) (dcN 4) dYes (dCall sp__law_refused (dCons (dV 4) dNil)))) dNil))))
theorem rd__law_whole (ds : List Dt) (Φ : Slot → Prop) (Ξ : XD → Prop) (h : sp__law_whole ds Φ Ξ) : d__law_whole (endsOf Φ Ξ) (rho0 N__law_whole ds) := by
  obtain ⟨w, rfl, ho, h⟩ := h
  have hz : (200000 : Nat) < sizeLine := by decide
  have hl := ho.1
  have sl : (S w).length = w.length := SX.S_len w
  have no : ¬ figOk w → Φ (.pu .none) := fun z => by
    have e : figs w = none := if_neg z
    rw [e] at h
    exact h
  show dSeq _ _ _ [.pu (.str (S w)), .un]
  refine seq_cut (fun ρ => ∃ s : Slot, ρ = [.pu (.str (S w)), s] ∧ 1 ≤ w.length ∧ w.length ≤ 7 ∧ ∀ c ∈ w, 48 ≤ c ∧ c ≤ 57) (fun E hr hE => ?_) ?_
  · simp only [dChn, sl, dRet, dRetF, dSetX, dCallX, dRetX, noOw, dTry, dCpy, dRaise, dRetO, dSetP, dSetS, dSetF, dSeq, dIf, dNext, dCall, dCallF, dB, dBin, dCons, dNil, dTup, dLst, dV, dC, dTV, onB, dTAnd, dTOr, dTNot, dAnd, dOr, dNot, dIfE, dIsN, dNotN, isN, dSl, dSlF, dNoPart, dPart, dPar, dParS, dAsg, dgN, dgT, dgCons, dgNil, dFE, dIsi, dListF, dNeg, dRev, dFrz, dApp, dAppS, dIns, dExtend, dClear, dReverse, dPop, oIx, oI, oIC, oAddU, oSubI, oMulU, oMulI, oFd, oMd, oPw, oLt, oLe, oGt, oGe, oEq, oNe, getF, setF, Cl.d, getS, setS, purF_nil, purF_cons, purH, allF_nil, allF_cons, allH, rho0, endsOf, scalD, bLen, bAbs, bInt, bIntU, bTup, true_and, and_true, Option.some.injEq, exists_eq_left', decide_eq_true_eq, Bool.not_eq_true', decide_eq_false_iff_not, it_eQ0, it_eQ1, it_eP0, it_eP1, it_eS0, it_eS1, fits_eQ, fits_eP, fits_eS, eqv_eQ, eqv_eP, eqv_eS, eqv_int, eqv_bool, shp_int, shp_bool, shp_none, shp_eQ, shp_eP, shp_eS, dCont, dBreak, dXi, dSetG, dAppG, oIsB, oNotB, dTx, pJoin, pSplit, pPart, pStarts, bStr, bIntS, dFmt, dJs, ↓reduceIte, nsp_none, nsp_bool, nsp_int, nsp_str, nsp_list, nsp_tuple, nsp_eQ, nsp_eP, nsp_eS, dat_pu, dat_ow, seqD_l, seqD_t, not_true_eq_false, Bool.true_eq_false, Bool.not_not, List.length_cons, List.length_nil, mkP, mkS, fits_list, fits_tuple, isIntD, isBoolD, isListD, isStrD, isTupD, Bool.not_true, Bool.not_false, Bool.false_eq_true, it_l0, it_l1, it_l2, it_t0, it_t1, it_t2, shp_ps, shp_pt, shp_ss, shp_is, seqD_eQ, seqD_eP, seqD_eS, walkD_eP, walkD_eS, walkD_l, walkD_t]
    refine ⟨by omega, ?_⟩
    by_cases c1 : 1 ≤ w.length
    · have c1' : (1 : Int) ≤ w.length := by omega
      simp only [c1', dRet, dRetF, dSetX, dCallX, dRetX, noOw, dTry, dCpy, dRaise, dRetO, dSetP, dSetS, dSetF, dSeq, dIf, dNext, dCall, dCallF, dB, dBin, dCons, dNil, dTup, dLst, dV, dC, dTV, onB, dTAnd, dTOr, dTNot, dAnd, dOr, dNot, dIfE, dIsN, dNotN, isN, dSl, dSlF, dNoPart, dPart, dPar, dParS, dAsg, dgN, dgT, dgCons, dgNil, dFE, dIsi, dListF, dNeg, dRev, dFrz, dApp, dAppS, dIns, dExtend, dClear, dReverse, dPop, oIx, oI, oIC, oAddU, oSubI, oMulU, oMulI, oFd, oMd, oPw, oLt, oLe, oGt, oGe, oEq, oNe, getF, setF, Cl.d, getS, setS, purF_nil, purF_cons, purH, allF_nil, allF_cons, allH, rho0, endsOf, scalD, bLen, bAbs, bInt, bIntU, bTup, true_and, and_true, Option.some.injEq, exists_eq_left', decide_eq_true_eq, Bool.not_eq_true', decide_eq_false_iff_not, it_eQ0, it_eQ1, it_eP0, it_eP1, it_eS0, it_eS1, fits_eQ, fits_eP, fits_eS, eqv_eQ, eqv_eP, eqv_eS, eqv_int, eqv_bool, shp_int, shp_bool, shp_none, shp_eQ, shp_eP, shp_eS, dCont, dBreak, dXi, dSetG, dAppG, oIsB, oNotB, dTx, pJoin, pSplit, pPart, pStarts, bStr, bIntS, dFmt, dJs, ↓reduceIte, nsp_none, nsp_bool, nsp_int, nsp_str, nsp_list, nsp_tuple, nsp_eQ, nsp_eP, nsp_eS, dat_pu, dat_ow, seqD_l, seqD_t, not_true_eq_false, Bool.true_eq_false, Bool.not_not, List.length_cons, List.length_nil, mkP, mkS, fits_list, fits_tuple, isIntD, isBoolD, isListD, isStrD, isTupD, Bool.not_true, Bool.not_false, Bool.false_eq_true, it_l0, it_l1, it_l2, it_t0, it_t1, it_t2, shp_ps, shp_pt, shp_ss, shp_is, seqD_eQ, seqD_eP, seqD_eS, walkD_eP, walkD_eS, walkD_l, walkD_t]
      by_cases c2 : w.length ≤ 7
      · have c2' : (w.length : Int) ≤ 7 := by omega
        simp only [c2', dRet, dRetF, dSetX, dCallX, dRetX, noOw, dTry, dCpy, dRaise, dRetO, dSetP, dSetS, dSetF, dSeq, dIf, dNext, dCall, dCallF, dB, dBin, dCons, dNil, dTup, dLst, dV, dC, dTV, onB, dTAnd, dTOr, dTNot, dAnd, dOr, dNot, dIfE, dIsN, dNotN, isN, dSl, dSlF, dNoPart, dPart, dPar, dParS, dAsg, dgN, dgT, dgCons, dgNil, dFE, dIsi, dListF, dNeg, dRev, dFrz, dApp, dAppS, dIns, dExtend, dClear, dReverse, dPop, oIx, oI, oIC, oAddU, oSubI, oMulU, oMulI, oFd, oMd, oPw, oLt, oLe, oGt, oGe, oEq, oNe, getF, setF, Cl.d, getS, setS, purF_nil, purF_cons, purH, allF_nil, allF_cons, allH, rho0, endsOf, scalD, bLen, bAbs, bInt, bIntU, bTup, true_and, and_true, Option.some.injEq, exists_eq_left', decide_eq_true_eq, Bool.not_eq_true', decide_eq_false_iff_not, it_eQ0, it_eQ1, it_eP0, it_eP1, it_eS0, it_eS1, fits_eQ, fits_eP, fits_eS, eqv_eQ, eqv_eP, eqv_eS, eqv_int, eqv_bool, shp_int, shp_bool, shp_none, shp_eQ, shp_eP, shp_eS, dCont, dBreak, dXi, dSetG, dAppG, oIsB, oNotB, dTx, pJoin, pSplit, pPart, pStarts, bStr, bIntS, dFmt, dJs, ↓reduceIte, nsp_none, nsp_bool, nsp_int, nsp_str, nsp_list, nsp_tuple, nsp_eQ, nsp_eP, nsp_eS, dat_pu, dat_ow, seqD_l, seqD_t, not_true_eq_false, Bool.true_eq_false, Bool.not_not, List.length_cons, List.length_nil, mkP, mkS, fits_list, fits_tuple, isIntD, isBoolD, isListD, isStrD, isTupD, Bool.not_true, Bool.not_false, Bool.false_eq_true, it_l0, it_l1, it_l2, it_t0, it_t1, it_t2, shp_ps, shp_pt, shp_ss, shp_is, seqD_eQ, seqD_eP, seqD_eS, walkD_eP, walkD_eS, walkD_l, walkD_t]
        refine dLc_mapM (xs := w) (e := fun c => .str ⟨#[c]⟩) (fun Q hQ => ?_) (fun c => .bool (decide (48 ≤ c ∧ c ≤ 57))) (by omega) (fun c hc Ψ hΨ => ?_) ?_
        · simp only [diSeq, walkD, dRet, dRetF, dSetX, dCallX, dRetX, noOw, dTry, dCpy, dRaise, dRetO, dSetP, dSetS, dSetF, dSeq, dIf, dNext, dCall, dCallF, dB, dBin, dCons, dNil, dTup, dLst, dV, dC, dTV, onB, dTAnd, dTOr, dTNot, dAnd, dOr, dNot, dIfE, dIsN, dNotN, isN, dSl, dSlF, dNoPart, dPart, dPar, dParS, dAsg, dgN, dgT, dgCons, dgNil, dFE, dIsi, dListF, dNeg, dRev, dFrz, dApp, dAppS, dIns, dExtend, dClear, dReverse, dPop, oIx, oI, oIC, oAddU, oSubI, oMulU, oMulI, oFd, oMd, oPw, oLt, oLe, oGt, oGe, oEq, oNe, getF, setF, Cl.d, getS, setS, purF_nil, purF_cons, purH, allF_nil, allF_cons, allH, rho0, endsOf, scalD, bLen, bAbs, bInt, bIntU, bTup, true_and, and_true, Option.some.injEq, exists_eq_left', decide_eq_true_eq, Bool.not_eq_true', decide_eq_false_iff_not, it_eQ0, it_eQ1, it_eP0, it_eP1, it_eS0, it_eS1, fits_eQ, fits_eP, fits_eS, eqv_eQ, eqv_eP, eqv_eS, eqv_int, eqv_bool, shp_int, shp_bool, shp_none, shp_eQ, shp_eP, shp_eS, dCont, dBreak, dXi, dSetG, dAppG, oIsB, oNotB, dTx, pJoin, pSplit, pPart, pStarts, bStr, bIntS, dFmt, dJs, ↓reduceIte, nsp_none, nsp_bool, nsp_int, nsp_str, nsp_list, nsp_tuple, nsp_eQ, nsp_eP, nsp_eS, dat_pu, dat_ow, seqD_l, seqD_t, not_true_eq_false, Bool.true_eq_false, Bool.not_not, List.length_cons, List.length_nil, mkP, mkS, fits_list, fits_tuple, isIntD, isBoolD, isListD, isStrD, isTupD, Bool.not_true, Bool.not_false, Bool.false_eq_true, it_l0, it_l1, it_l2, it_t0, it_t1, it_t2, shp_ps, shp_pt, shp_ss, shp_is, seqD_eQ, seqD_eP, seqD_eS, walkD_eP, walkD_eS, walkD_l, walkD_t]
          exact hQ
        · have k := shp_chars ho.str c (by simpa using hc)
          simp only [dcN, wipeF, noneF, oIn, k, shp_dig, dig_eq, dRet, dRetF, dSetX, dCallX, dRetX, noOw, dTry, dCpy, dRaise, dRetO, dSetP, dSetS, dSetF, dSeq, dIf, dNext, dCall, dCallF, dB, dBin, dCons, dNil, dTup, dLst, dV, dC, dTV, onB, dTAnd, dTOr, dTNot, dAnd, dOr, dNot, dIfE, dIsN, dNotN, isN, dSl, dSlF, dNoPart, dPart, dPar, dParS, dAsg, dgN, dgT, dgCons, dgNil, dFE, dIsi, dListF, dNeg, dRev, dFrz, dApp, dAppS, dIns, dExtend, dClear, dReverse, dPop, oIx, oI, oIC, oAddU, oSubI, oMulU, oMulI, oFd, oMd, oPw, oLt, oLe, oGt, oGe, oEq, oNe, getF, setF, Cl.d, getS, setS, purF_nil, purF_cons, purH, allF_nil, allF_cons, allH, rho0, endsOf, scalD, bLen, bAbs, bInt, bIntU, bTup, true_and, and_true, Option.some.injEq, exists_eq_left', decide_eq_true_eq, Bool.not_eq_true', decide_eq_false_iff_not, it_eQ0, it_eQ1, it_eP0, it_eP1, it_eS0, it_eS1, fits_eQ, fits_eP, fits_eS, eqv_eQ, eqv_eP, eqv_eS, eqv_int, eqv_bool, shp_int, shp_bool, shp_none, shp_eQ, shp_eP, shp_eS, dCont, dBreak, dXi, dSetG, dAppG, oIsB, oNotB, dTx, pJoin, pSplit, pPart, pStarts, bStr, bIntS, dFmt, dJs, ↓reduceIte, nsp_none, nsp_bool, nsp_int, nsp_str, nsp_list, nsp_tuple, nsp_eQ, nsp_eP, nsp_eS, dat_pu, dat_ow, seqD_l, seqD_t, not_true_eq_false, Bool.true_eq_false, Bool.not_not, List.length_cons, List.length_nil, mkP, mkS, fits_list, fits_tuple, isIntD, isBoolD, isListD, isStrD, isTupD, Bool.not_true, Bool.not_false, Bool.false_eq_true, it_l0, it_l1, it_l2, it_t0, it_t1, it_t2, shp_ps, shp_pt, shp_ss, shp_is, seqD_eQ, seqD_eP, seqD_eS, walkD_eP, walkD_eS, walkD_l, walkD_t]
          refine ⟨rfl, ?_⟩
          have e : decide ((⟨#[c]⟩ : Str).cps.getD 0 0 ∈ [48, 49, 50, 51, 52, 53, 54, 55, 56, 57]) = decide (48 ≤ c ∧ c ≤ 57) := decide_eq_decide.mpr (dig_mem c)
          rw [e]
          exact hΨ
        · refine ⟨w.map fun c => decide (48 ≤ c ∧ c ≤ 57), by rw [List.map_map]; rfl, ?_⟩
          rw [List.all_map]
          cases c3 : w.all (id ∘ fun c => decide (48 ≤ c ∧ c ≤ 57)) with
          | true =>
            simp only [dRet, dRetF, dSetX, dCallX, dRetX, noOw, dTry, dCpy, dRaise, dRetO, dSetP, dSetS, dSetF, dSeq, dIf, dNext, dCall, dCallF, dB, dBin, dCons, dNil, dTup, dLst, dV, dC, dTV, onB, dTAnd, dTOr, dTNot, dAnd, dOr, dNot, dIfE, dIsN, dNotN, isN, dSl, dSlF, dNoPart, dPart, dPar, dParS, dAsg, dgN, dgT, dgCons, dgNil, dFE, dIsi, dListF, dNeg, dRev, dFrz, dApp, dAppS, dIns, dExtend, dClear, dReverse, dPop, oIx, oI, oIC, oAddU, oSubI, oMulU, oMulI, oFd, oMd, oPw, oLt, oLe, oGt, oGe, oEq, oNe, getF, setF, Cl.d, getS, setS, purF_nil, purF_cons, purH, allF_nil, allF_cons, allH, rho0, endsOf, scalD, bLen, bAbs, bInt, bIntU, bTup, true_and, and_true, Option.some.injEq, exists_eq_left', decide_eq_true_eq, Bool.not_eq_true', decide_eq_false_iff_not, it_eQ0, it_eQ1, it_eP0, it_eP1, it_eS0, it_eS1, fits_eQ, fits_eP, fits_eS, eqv_eQ, eqv_eP, eqv_eS, eqv_int, eqv_bool, shp_int, shp_bool, shp_none, shp_eQ, shp_eP, shp_eS, dCont, dBreak, dXi, dSetG, dAppG, oIsB, oNotB, dTx, pJoin, pSplit, pPart, pStarts, bStr, bIntS, dFmt, dJs, ↓reduceIte, nsp_none, nsp_bool, nsp_int, nsp_str, nsp_list, nsp_tuple, nsp_eQ, nsp_eP, nsp_eS, dat_pu, dat_ow, seqD_l, seqD_t, not_true_eq_false, Bool.true_eq_false, Bool.not_not, List.length_cons, List.length_nil, mkP, mkS, fits_list, fits_tuple, isIntD, isBoolD, isListD, isStrD, isTupD, Bool.not_true, Bool.not_false, Bool.false_eq_true, it_l0, it_l1, it_l2, it_t0, it_t1, it_t2, shp_ps, shp_pt, shp_ss, shp_is, seqD_eQ, seqD_eP, seqD_eS, walkD_eP, walkD_eS, walkD_l, walkD_t]
            exact hE _ ⟨_, rfl, c1, c2, fun c hc => of_decide_eq_true (List.all_eq_true.mp c3 c hc)⟩
          | false =>
            simp only [dRet, dRetF, dSetX, dCallX, dRetX, noOw, dTry, dCpy, dRaise, dRetO, dSetP, dSetS, dSetF, dSeq, dIf, dNext, dCall, dCallF, dB, dBin, dCons, dNil, dTup, dLst, dV, dC, dTV, onB, dTAnd, dTOr, dTNot, dAnd, dOr, dNot, dIfE, dIsN, dNotN, isN, dSl, dSlF, dNoPart, dPart, dPar, dParS, dAsg, dgN, dgT, dgCons, dgNil, dFE, dIsi, dListF, dNeg, dRev, dFrz, dApp, dAppS, dIns, dExtend, dClear, dReverse, dPop, oIx, oI, oIC, oAddU, oSubI, oMulU, oMulI, oFd, oMd, oPw, oLt, oLe, oGt, oGe, oEq, oNe, getF, setF, Cl.d, getS, setS, purF_nil, purF_cons, purH, allF_nil, allF_cons, allH, rho0, endsOf, scalD, bLen, bAbs, bInt, bIntU, bTup, true_and, and_true, Option.some.injEq, exists_eq_left', decide_eq_true_eq, Bool.not_eq_true', decide_eq_false_iff_not, it_eQ0, it_eQ1, it_eP0, it_eP1, it_eS0, it_eS1, fits_eQ, fits_eP, fits_eS, eqv_eQ, eqv_eP, eqv_eS, eqv_int, eqv_bool, shp_int, shp_bool, shp_none, shp_eQ, shp_eP, shp_eS, dCont, dBreak, dXi, dSetG, dAppG, oIsB, oNotB, dTx, pJoin, pSplit, pPart, pStarts, bStr, bIntS, dFmt, dJs, ↓reduceIte, nsp_none, nsp_bool, nsp_int, nsp_str, nsp_list, nsp_tuple, nsp_eQ, nsp_eP, nsp_eS, dat_pu, dat_ow, seqD_l, seqD_t, not_true_eq_false, Bool.true_eq_false, Bool.not_not, List.length_cons, List.length_nil, mkP, mkS, fits_list, fits_tuple, isIntD, isBoolD, isListD, isStrD, isTupD, Bool.not_true, Bool.not_false, Bool.false_eq_true, it_l0, it_l1, it_l2, it_t0, it_t1, it_t2, shp_ps, shp_pt, shp_ss, shp_is, seqD_eQ, seqD_eP, seqD_eS, walkD_eP, walkD_eS, walkD_l, walkD_t]
            rw [hr]
            refine no fun z => ?_
            have c4 : w.all (id ∘ fun c => decide (48 ≤ c ∧ c ≤ 57)) = true := List.all_eq_true.mpr fun c hc => decide_eq_true (z.2.2.1 c hc)
            rw [c4] at c3
            cases c3
      · have c2' : ¬ (w.length : Int) ≤ 7 := by omega
        simp only [c2', dRet, dRetF, dSetX, dCallX, dRetX, noOw, dTry, dCpy, dRaise, dRetO, dSetP, dSetS, dSetF, dSeq, dIf, dNext, dCall, dCallF, dB, dBin, dCons, dNil, dTup, dLst, dV, dC, dTV, onB, dTAnd, dTOr, dTNot, dAnd, dOr, dNot, dIfE, dIsN, dNotN, isN, dSl, dSlF, dNoPart, dPart, dPar, dParS, dAsg, dgN, dgT, dgCons, dgNil, dFE, dIsi, dListF, dNeg, dRev, dFrz, dApp, dAppS, dIns, dExtend, dClear, dReverse, dPop, oIx, oI, oIC, oAddU, oSubI, oMulU, oMulI, oFd, oMd, oPw, oLt, oLe, oGt, oGe, oEq, oNe, getF, setF, Cl.d, getS, setS, purF_nil, purF_cons, purH, allF_nil, allF_cons, allH, rho0, endsOf, scalD, bLen, bAbs, bInt, bIntU, bTup, true_and, and_true, Option.some.injEq, exists_eq_left', decide_eq_true_eq, Bool.not_eq_true', decide_eq_false_iff_not, it_eQ0, it_eQ1, it_eP0, it_eP1, it_eS0, it_eS1, fits_eQ, fits_eP, fits_eS, eqv_eQ, eqv_eP, eqv_eS, eqv_int, eqv_bool, shp_int, shp_bool, shp_none, shp_eQ, shp_eP, shp_eS, dCont, dBreak, dXi, dSetG, dAppG, oIsB, oNotB, dTx, pJoin, pSplit, pPart, pStarts, bStr, bIntS, dFmt, dJs, ↓reduceIte, nsp_none, nsp_bool, nsp_int, nsp_str, nsp_list, nsp_tuple, nsp_eQ, nsp_eP, nsp_eS, dat_pu, dat_ow, seqD_l, seqD_t, not_true_eq_false, Bool.true_eq_false, Bool.not_not, List.length_cons, List.length_nil, mkP, mkS, fits_list, fits_tuple, isIntD, isBoolD, isListD, isStrD, isTupD, Bool.not_true, Bool.not_false, Bool.false_eq_true, it_l0, it_l1, it_l2, it_t0, it_t1, it_t2, shp_ps, shp_pt, shp_ss, shp_is, seqD_eQ, seqD_eP, seqD_eS, walkD_eP, walkD_eS, walkD_l, walkD_t]
        rw [hr]
        exact no fun z => c2 z.2.1
    · have c1' : ¬ (1 : Int) ≤ w.length := by omega
      simp only [c1', dRet, dRetF, dSetX, dCallX, dRetX, noOw, dTry, dCpy, dRaise, dRetO, dSetP, dSetS, dSetF, dSeq, dIf, dNext, dCall, dCallF, dB, dBin, dCons, dNil, dTup, dLst, dV, dC, dTV, onB, dTAnd, dTOr, dTNot, dAnd, dOr, dNot, dIfE, dIsN, dNotN, isN, dSl, dSlF, dNoPart, dPart, dPar, dParS, dAsg, dgN, dgT, dgCons, dgNil, dFE, dIsi, dListF, dNeg, dRev, dFrz, dApp, dAppS, dIns, dExtend, dClear, dReverse, dPop, oIx, oI, oIC, oAddU, oSubI, oMulU, oMulI, oFd, oMd, oPw, oLt, oLe, oGt, oGe, oEq, oNe, getF, setF, Cl.d, getS, setS, purF_nil, purF_cons, purH, allF_nil, allF_cons, allH, rho0, endsOf, scalD, bLen, bAbs, bInt, bIntU, bTup, true_and, and_true, Option.some.injEq, exists_eq_left', decide_eq_true_eq, Bool.not_eq_true', decide_eq_false_iff_not, it_eQ0, it_eQ1, it_eP0, it_eP1, it_eS0, it_eS1, fits_eQ, fits_eP, fits_eS, eqv_eQ, eqv_eP, eqv_eS, eqv_int, eqv_bool, shp_int, shp_bool, shp_none, shp_eQ, shp_eP, shp_eS, dCont, dBreak, dXi, dSetG, dAppG, oIsB, oNotB, dTx, pJoin, pSplit, pPart, pStarts, bStr, bIntS, dFmt, dJs, ↓reduceIte, nsp_none, nsp_bool, nsp_int, nsp_str, nsp_list, nsp_tuple, nsp_eQ, nsp_eP, nsp_eS, dat_pu, dat_ow, seqD_l, seqD_t, not_true_eq_false, Bool.true_eq_false, Bool.not_not, List.length_cons, List.length_nil, mkP, mkS, fits_list, fits_tuple, isIntD, isBoolD, isListD, isStrD, isTupD, Bool.not_true, Bool.not_false, Bool.false_eq_true, it_l0, it_l1, it_l2, it_t0, it_t1, it_t2, shp_ps, shp_pt, shp_ss, shp_is, seqD_eQ, seqD_eP, seqD_eS, walkD_eP, walkD_eS, walkD_l, walkD_t]
      rw [hr]
      exact no fun z => c1 z.1
  rintro _ ⟨s, rfl, c1, c2, c3⟩
  cases w with
  | nil => simp at c1
  | cons c w =>
    have i0 : itemD (.str (S (c :: w))) 0 = some (.str ⟨#[c]⟩) := by
      show (atI (c :: w) ((0 : Nat) : Int)).map _ = _
      rw [atI_nat (xs := c :: w) (j := 0) (v := c) rfl]
      rfl
    have hc := c3 c List.mem_cons_self
    have sl2 : (S (c :: w)).length = w.length + 1 := by rw [SX.S_len]; rfl
    have sl3 : (c :: w).length = w.length + 1 := rfl
    have k := shp_chars ho.str c (by simp)
    have k0 : SeqAt.shaped (.str "0") = true := shp_str (by decide +kernel)
    have e0 : PyData.eqv (.str ⟨#[c]⟩) (.str "0") = decide (c = 48) := by
      rw [eqv_str]
      refine decide_eq_decide.mpr ⟨fun z => ?_, fun z => by rw [z]; rfl⟩
      have := SX.S_inj (a := [c]) (b := [48]) z
      simpa using this
    have last : figOk (c :: w) → (dRet (dB bIntS (dCons (dV 0) dNil))) (endsOf Φ Ξ) [.pu (.str (S (c :: w))), s] := fun z => by
      simp only [dRet, dRetF, dSetX, dCallX, dRetX, noOw, dTry, dCpy, dRaise, dRetO, dSetP, dSetS, dSetF, dSeq, dIf, dNext, dCall, dCallF, dB, dBin, dCons, dNil, dTup, dLst, dV, dC, dTV, onB, dTAnd, dTOr, dTNot, dAnd, dOr, dNot, dIfE, dIsN, dNotN, isN, dSl, dSlF, dNoPart, dPart, dPar, dParS, dAsg, dgN, dgT, dgCons, dgNil, dFE, dIsi, dListF, dNeg, dRev, dFrz, dApp, dAppS, dIns, dExtend, dClear, dReverse, dPop, oIx, oI, oIC, oAddU, oSubI, oMulU, oMulI, oFd, oMd, oPw, oLt, oLe, oGt, oGe, oEq, oNe, getF, setF, Cl.d, getS, setS, purF_nil, purF_cons, purH, allF_nil, allF_cons, allH, rho0, endsOf, scalD, bLen, bAbs, bInt, bIntU, bTup, true_and, and_true, Option.some.injEq, exists_eq_left', decide_eq_true_eq, Bool.not_eq_true', decide_eq_false_iff_not, it_eQ0, it_eQ1, it_eP0, it_eP1, it_eS0, it_eS1, fits_eQ, fits_eP, fits_eS, eqv_eQ, eqv_eP, eqv_eS, eqv_int, eqv_bool, shp_int, shp_bool, shp_none, shp_eQ, shp_eP, shp_eS, dCont, dBreak, dXi, dSetG, dAppG, oIsB, oNotB, dTx, pJoin, pSplit, pPart, pStarts, bStr, bIntS, dFmt, dJs, ↓reduceIte, nsp_none, nsp_bool, nsp_int, nsp_str, nsp_list, nsp_tuple, nsp_eQ, nsp_eP, nsp_eS, dat_pu, dat_ow, seqD_l, seqD_t, not_true_eq_false, Bool.true_eq_false, Bool.not_not, List.length_cons, List.length_nil, mkP, mkS, fits_list, fits_tuple, isIntD, isBoolD, isListD, isStrD, isTupD, Bool.not_true, Bool.not_false, Bool.false_eq_true, it_l0, it_l1, it_l2, it_t0, it_t1, it_t2, shp_ps, shp_pt, shp_ss, shp_is, seqD_eQ, seqD_eP, seqD_eS, walkD_eP, walkD_eS, walkD_l, walkD_t]
      refine ⟨_, SX.int_S (List.all_eq_true.mpr fun d hd => by have := c3 d hd; simp; omega) (by simp) (by omega), by rw [SX.S_len]; omega, ?_⟩
      have e : figs (c :: w) = some (NumText.digitsVal (c :: w)) := if_pos z
      rw [e] at h
      exact h
    have e1 : PyData.eqv (.str (S (c :: w))) (.str "0") = decide (c :: w = [48]) := eqS (c :: w) [48]
    refine seq_cut (fun ρ => ρ = [.pu (.str (S (c :: w))), s] ∧ figOk (c :: w)) (fun E hr hE => ?_) ?_
    · simp only [sl2, fitsD, i0, dRet, dRetF, dSetX, dCallX, dRetX, noOw, dTry, dCpy, dRaise, dRetO, dSetP, dSetS, dSetF, dSeq, dIf, dNext, dCall, dCallF, dB, dBin, dCons, dNil, dTup, dLst, dV, dC, dTV, onB, dTAnd, dTOr, dTNot, dAnd, dOr, dNot, dIfE, dIsN, dNotN, isN, dSl, dSlF, dNoPart, dPart, dPar, dParS, dAsg, dgN, dgT, dgCons, dgNil, dFE, dIsi, dListF, dNeg, dRev, dFrz, dApp, dAppS, dIns, dExtend, dClear, dReverse, dPop, oIx, oI, oIC, oAddU, oSubI, oMulU, oMulI, oFd, oMd, oPw, oLt, oLe, oGt, oGe, oEq, oNe, getF, setF, Cl.d, getS, setS, purF_nil, purF_cons, purH, allF_nil, allF_cons, allH, rho0, endsOf, scalD, bLen, bAbs, bInt, bIntU, bTup, true_and, and_true, Option.some.injEq, exists_eq_left', decide_eq_true_eq, Bool.not_eq_true', decide_eq_false_iff_not, it_eQ0, it_eQ1, it_eP0, it_eP1, it_eS0, it_eS1, fits_eQ, fits_eP, fits_eS, eqv_eQ, eqv_eP, eqv_eS, eqv_int, eqv_bool, shp_int, shp_bool, shp_none, shp_eQ, shp_eP, shp_eS, dCont, dBreak, dXi, dSetG, dAppG, oIsB, oNotB, dTx, pJoin, pSplit, pPart, pStarts, bStr, bIntS, dFmt, dJs, ↓reduceIte, nsp_none, nsp_bool, nsp_int, nsp_str, nsp_list, nsp_tuple, nsp_eQ, nsp_eP, nsp_eS, dat_pu, dat_ow, seqD_l, seqD_t, not_true_eq_false, Bool.true_eq_false, Bool.not_not, List.length_cons, List.length_nil, mkP, mkS, fits_list, fits_tuple, isIntD, isBoolD, isListD, isStrD, isTupD, Bool.not_true, Bool.not_false, Bool.false_eq_true, it_l0, it_l1, it_l2, it_t0, it_t1, it_t2, shp_ps, shp_pt, shp_ss, shp_is, seqD_eQ, seqD_eP, seqD_eS, walkD_eP, walkD_eS, walkD_l, walkD_t]
      refine ⟨by omega, ?_⟩
      refine ⟨k, k0, ?_⟩
      simp only [e0, dRet, dRetF, dSetX, dCallX, dRetX, noOw, dTry, dCpy, dRaise, dRetO, dSetP, dSetS, dSetF, dSeq, dIf, dNext, dCall, dCallF, dB, dBin, dCons, dNil, dTup, dLst, dV, dC, dTV, onB, dTAnd, dTOr, dTNot, dAnd, dOr, dNot, dIfE, dIsN, dNotN, isN, dSl, dSlF, dNoPart, dPart, dPar, dParS, dAsg, dgN, dgT, dgCons, dgNil, dFE, dIsi, dListF, dNeg, dRev, dFrz, dApp, dAppS, dIns, dExtend, dClear, dReverse, dPop, oIx, oI, oIC, oAddU, oSubI, oMulU, oMulI, oFd, oMd, oPw, oLt, oLe, oGt, oGe, oEq, oNe, getF, setF, Cl.d, getS, setS, purF_nil, purF_cons, purH, allF_nil, allF_cons, allH, rho0, endsOf, scalD, bLen, bAbs, bInt, bIntU, bTup, true_and, and_true, Option.some.injEq, exists_eq_left', decide_eq_true_eq, Bool.not_eq_true', decide_eq_false_iff_not, it_eQ0, it_eQ1, it_eP0, it_eP1, it_eS0, it_eS1, fits_eQ, fits_eP, fits_eS, eqv_eQ, eqv_eP, eqv_eS, eqv_int, eqv_bool, shp_int, shp_bool, shp_none, shp_eQ, shp_eP, shp_eS, dCont, dBreak, dXi, dSetG, dAppG, oIsB, oNotB, dTx, pJoin, pSplit, pPart, pStarts, bStr, bIntS, dFmt, dJs, ↓reduceIte, nsp_none, nsp_bool, nsp_int, nsp_str, nsp_list, nsp_tuple, nsp_eQ, nsp_eP, nsp_eS, dat_pu, dat_ow, seqD_l, seqD_t, not_true_eq_false, Bool.true_eq_false, Bool.not_not, List.length_cons, List.length_nil, mkP, mkS, fits_list, fits_tuple, isIntD, isBoolD, isListD, isStrD, isTupD, Bool.not_true, Bool.not_false, Bool.false_eq_true, it_l0, it_l1, it_l2, it_t0, it_t1, it_t2, shp_ps, shp_pt, shp_ss, shp_is, seqD_eQ, seqD_eP, seqD_eS, walkD_eP, walkD_eS, walkD_l, walkD_t]
      by_cases c4 : c = 48
      · refine ite_yes c4 ?_
        refine ⟨ho.shp, k0, ?_⟩
        simp only [e1, dRet, dRetF, dSetX, dCallX, dRetX, noOw, dTry, dCpy, dRaise, dRetO, dSetP, dSetS, dSetF, dSeq, dIf, dNext, dCall, dCallF, dB, dBin, dCons, dNil, dTup, dLst, dV, dC, dTV, onB, dTAnd, dTOr, dTNot, dAnd, dOr, dNot, dIfE, dIsN, dNotN, isN, dSl, dSlF, dNoPart, dPart, dPar, dParS, dAsg, dgN, dgT, dgCons, dgNil, dFE, dIsi, dListF, dNeg, dRev, dFrz, dApp, dAppS, dIns, dExtend, dClear, dReverse, dPop, oIx, oI, oIC, oAddU, oSubI, oMulU, oMulI, oFd, oMd, oPw, oLt, oLe, oGt, oGe, oEq, oNe, getF, setF, Cl.d, getS, setS, purF_nil, purF_cons, purH, allF_nil, allF_cons, allH, rho0, endsOf, scalD, bLen, bAbs, bInt, bIntU, bTup, true_and, and_true, Option.some.injEq, exists_eq_left', decide_eq_true_eq, Bool.not_eq_true', decide_eq_false_iff_not, it_eQ0, it_eQ1, it_eP0, it_eP1, it_eS0, it_eS1, fits_eQ, fits_eP, fits_eS, eqv_eQ, eqv_eP, eqv_eS, eqv_int, eqv_bool, shp_int, shp_bool, shp_none, shp_eQ, shp_eP, shp_eS, dCont, dBreak, dXi, dSetG, dAppG, oIsB, oNotB, dTx, pJoin, pSplit, pPart, pStarts, bStr, bIntS, dFmt, dJs, ↓reduceIte, nsp_none, nsp_bool, nsp_int, nsp_str, nsp_list, nsp_tuple, nsp_eQ, nsp_eP, nsp_eS, dat_pu, dat_ow, seqD_l, seqD_t, not_true_eq_false, Bool.true_eq_false, Bool.not_not, List.length_cons, List.length_nil, mkP, mkS, fits_list, fits_tuple, isIntD, isBoolD, isListD, isStrD, isTupD, Bool.not_true, Bool.not_false, Bool.false_eq_true, it_l0, it_l1, it_l2, it_t0, it_t1, it_t2, shp_ps, shp_pt, shp_ss, shp_is, seqD_eQ, seqD_eP, seqD_eS, walkD_eP, walkD_eS, walkD_l, walkD_t]
        by_cases c5 : c :: w = [48]
        · refine ite_no (by simpa using c5) ?_
          exact hE _ ⟨rfl, c1, c2, c3, fun z => by rw [c5] at z; exact absurd z.2 (by decide)⟩
        · refine ite_yes (by simpa using c5) ?_
          rw [hr]
          refine no fun z => z.2.2.2 ⟨by rw [c4]; rfl, ?_⟩
          cases w with
          | nil => exact absurd (by rw [c4]) c5
          | cons a w => simp
      · refine ite_no c4 ?_
        exact hE _ ⟨rfl, c1, c2, c3, fun z => c4 (by have := z.1; simpa using this)⟩
    rintro _ ⟨rfl, z⟩
    exact last z
/-! ### split by one sign, partition -/
theorem spl_par (s : Nat) : ∀ (l acc : List Nat), TL.spl [s] 0 acc l = match TL.par [s] acc l with
    | none => [acc ++ l]
    | some (h, t) => h :: TL.spl [s] 0 [] t
  | [], acc => by
    rw [TL.spl_nil]
    show _ = [acc ++ []]
    rw [List.append_nil]
  | c :: l, acc => by
    by_cases k : TL.pre [s] (c :: l) = true
    · rw [TL.spl_hit k, TL.par_hit k]
      rfl
    · rw [TL.spl_miss (by simpa using k), TL.par_miss (by simpa using k), spl_par s l (acc ++ [c])]
      cases TL.par [s] (acc ++ [c]) l with
      | none => simp
      | some p => rfl
theorem rd__law_refused (ds : List Dt) (Φ : Slot → Prop) (Ξ : XD → Prop) (h : sp__law_refused ds Φ Ξ) : d__law_refused (endsOf Φ Ξ) (rho0 N__law_refused ds) := by
  obtain ⟨d, rfl, ho, hn, h⟩ := h
  have e : tb_SheetError.lookup ("NoText" : Str) = some true := by decide +kernel
  simp only [d__law_refused, N__law_refused, dRet, dRetF, dSetX, dCallX, dRetX, noOw, dTry, dCpy, dRaise, dRetO, dSetP, dSetS, dSetF, dSeq, dIf, dNext, dCall, dCallF, dB, dBin, dCons, dNil, dTup, dLst, dV, dC, dTV, onB, dTAnd, dTOr, dTNot, dAnd, dOr, dNot, dIfE, dIsN, dNotN, isN, dSl, dSlF, dNoPart, dPart, dPar, dParS, dAsg, dgN, dgT, dgCons, dgNil, dFE, dIsi, dListF, dNeg, dRev, dFrz, dApp, dAppS, dIns, dExtend, dClear, dReverse, dPop, oIx, oI, oIC, oAddU, oSubI, oMulU, oMulI, oFd, oMd, oPw, oLt, oLe, oGt, oGe, oEq, oNe, getF, setF, Cl.d, getS, setS, purF_nil, purF_cons, purH, allF_nil, allF_cons, allH, rho0, endsOf, scalD, bLen, bAbs, bInt, bIntU, bTup, true_and, and_true, Option.some.injEq, exists_eq_left', decide_eq_true_eq, Bool.not_eq_true', decide_eq_false_iff_not, it_eQ0, it_eQ1, it_eP0, it_eP1, it_eS0, it_eS1, fits_eQ, fits_eP, fits_eS, eqv_eQ, eqv_eP, eqv_eS, eqv_int, eqv_bool, shp_int, shp_bool, shp_none, shp_eQ, shp_eP, shp_eS, dCont, dBreak, dXi, dSetG, dAppG, oIsB, oNotB, dTx, pJoin, pSplit, pPart, pStarts, bStr, bIntS, dFmt, dJs, ↓reduceIte, nsp_none, nsp_bool, nsp_int, nsp_str, nsp_list, nsp_tuple, nsp_eQ, nsp_eP, nsp_eS, dat_pu, dat_ow, seqD_l, seqD_t, not_true_eq_false, Bool.true_eq_false, Bool.not_not, List.length_cons, List.length_nil, mkP, mkS, fits_list, fits_tuple, isIntD, isBoolD, isListD, isStrD, isTupD, Bool.not_true, Bool.not_false, Bool.false_eq_true, it_l0, it_l1, it_l2, it_t0, it_t1, it_t2, shp_ps, shp_pt, shp_ss, shp_is, seqD_eQ, seqD_eP, seqD_eS, walkD_eP, walkD_eS, walkD_l, walkD_t]
  refine ⟨d, rfl, ho, (fun r hr => by rw [hn] at hr; cases hr), fun _ => ?_⟩
  simp only [e]
  refine ⟨⟨"NoText", []⟩, false, rfl, by decide +kernel, ?_⟩
  simp only [dRet, dRetF, dSetX, dCallX, dRetX, noOw, dTry, dCpy, dRaise, dRetO, dSetP, dSetS, dSetF, dSeq, dIf, dNext, dCall, dCallF, dB, dBin, dCons, dNil, dTup, dLst, dV, dC, dTV, onB, dTAnd, dTOr, dTNot, dAnd, dOr, dNot, dIfE, dIsN, dNotN, isN, dSl, dSlF, dNoPart, dPart, dPar, dParS, dAsg, dgN, dgT, dgCons, dgNil, dFE, dIsi, dListF, dNeg, dRev, dFrz, dApp, dAppS, dIns, dExtend, dClear, dReverse, dPop, oIx, oI, oIC, oAddU, oSubI, oMulU, oMulI, oFd, oMd, oPw, oLt, oLe, oGt, oGe, oEq, oNe, getF, setF, Cl.d, getS, setS, purF_nil, purF_cons, purH, allF_nil, allF_cons, allH, rho0, endsOf, scalD, bLen, bAbs, bInt, bIntU, bTup, true_and, and_true, Option.some.injEq, exists_eq_left', decide_eq_true_eq, Bool.not_eq_true', decide_eq_false_iff_not, it_eQ0, it_eQ1, it_eP0, it_eP1, it_eS0, it_eS1, fits_eQ, fits_eP, fits_eS, eqv_eQ, eqv_eP, eqv_eS, eqv_int, eqv_bool, shp_int, shp_bool, shp_none, shp_eQ, shp_eP, shp_eS, dCont, dBreak, dXi, dSetG, dAppG, oIsB, oNotB, dTx, pJoin, pSplit, pPart, pStarts, bStr, bIntS, dFmt, dJs, ↓reduceIte, nsp_none, nsp_bool, nsp_int, nsp_str, nsp_list, nsp_tuple, nsp_eQ, nsp_eP, nsp_eS, dat_pu, dat_ow, seqD_l, seqD_t, not_true_eq_false, Bool.true_eq_false, Bool.not_not, List.length_cons, List.length_nil, mkP, mkS, fits_list, fits_tuple, isIntD, isBoolD, isListD, isStrD, isTupD, Bool.not_true, Bool.not_false, Bool.false_eq_true, it_l0, it_l1, it_l2, it_t0, it_t1, it_t2, shp_ps, shp_pt, shp_ss, shp_is, seqD_eQ, seqD_eP, seqD_eS, walkD_eP, walkD_eS, walkD_l, walkD_t]
  refine ⟨⟨"NoText", []⟩, true, rfl, by decide +kernel, ?_⟩
  simp only [dRet, dRetF, dSetX, dCallX, dRetX, noOw, dTry, dCpy, dRaise, dRetO, dSetP, dSetS, dSetF, dSeq, dIf, dNext, dCall, dCallF, dB, dBin, dCons, dNil, dTup, dLst, dV, dC, dTV, onB, dTAnd, dTOr, dTNot, dAnd, dOr, dNot, dIfE, dIsN, dNotN, isN, dSl, dSlF, dNoPart, dPart, dPar, dParS, dAsg, dgN, dgT, dgCons, dgNil, dFE, dIsi, dListF, dNeg, dRev, dFrz, dApp, dAppS, dIns, dExtend, dClear, dReverse, dPop, oIx, oI, oIC, oAddU, oSubI, oMulU, oMulI, oFd, oMd, oPw, oLt, oLe, oGt, oGe, oEq, oNe, getF, setF, Cl.d, getS, setS, purF_nil, purF_cons, purH, allF_nil, allF_cons, allH, rho0, endsOf, scalD, bLen, bAbs, bInt, bIntU, bTup, true_and, and_true, Option.some.injEq, exists_eq_left', decide_eq_true_eq, Bool.not_eq_true', decide_eq_false_iff_not, it_eQ0, it_eQ1, it_eP0, it_eP1, it_eS0, it_eS1, fits_eQ, fits_eP, fits_eS, eqv_eQ, eqv_eP, eqv_eS, eqv_int, eqv_bool, shp_int, shp_bool, shp_none, shp_eQ, shp_eP, shp_eS, dCont, dBreak, dXi, dSetG, dAppG, oIsB, oNotB, dTx, pJoin, pSplit, pPart, pStarts, bStr, bIntS, dFmt, dJs, ↓reduceIte, nsp_none, nsp_bool, nsp_int, nsp_str, nsp_list, nsp_tuple, nsp_eQ, nsp_eP, nsp_eS, dat_pu, dat_ow, seqD_l, seqD_t, not_true_eq_false, Bool.true_eq_false, Bool.not_not, List.length_cons, List.length_nil, mkP, mkS, fits_list, fits_tuple, isIntD, isBoolD, isListD, isStrD, isTupD, Bool.not_true, Bool.not_false, Bool.false_eq_true, it_l0, it_l1, it_l2, it_t0, it_t1, it_t2, shp_ps, shp_pt, shp_ss, shp_is, seqD_eQ, seqD_eP, seqD_eS, walkD_eP, walkD_eS, walkD_l, walkD_t]
  exact ⟨⟨"NoText", []⟩, true, rfl, by decide +kernel, h⟩
theorem par_mem (s : Nat) : ∀ (l acc : List Nat) (p : List Nat × List Nat), TL.par [s] acc l = some p → s ∈ l
  | [], acc, p, e => by cases e
  | c :: l, acc, p, e => by
    by_cases k : TL.pre [s] (c :: l) = true
    · have : c = s := by simpa [TL.pre] using k
      rw [← this]
      exact List.mem_cons_self
    · rw [TL.par_miss (by simpa using k)] at e
      exact List.mem_cons_of_mem _ (par_mem s l _ p e)
theorem figs_no {w : List Nat} {c : Nat} (hc : c ∈ w) (h : ¬ (48 ≤ c ∧ c ≤ 57)) : figs w = none := if_neg fun z => h (z.2.2.1 c hc)
theorem numH_bad {h t : List Nat} (e : figs t = none) : numH h (some t) = none := by
  unfold numH
  split
  · rfl
  · split
    · rfl
    · simp only [e]
theorem figs_ok {w : List Nat} {n : Nat} (h : figs w = some n) : figOk w ∧ n = NumText.digitsVal w := by
  unfold figs at h
  split at h
  · rename_i z
    cases h
    exact ⟨z, rfl⟩
  · cases h
theorem figs_lt {w : List Nat} {n : Nat} (h : figs w = some n) : n < 10 ^ 7 := by
  obtain ⟨z, rfl⟩ := figs_ok h
  have := digitsVal_lt (w := w) (fun c hc => z.2.2.1 c hc)
  exact Nat.lt_of_lt_of_le this (Nat.pow_le_pow_right (by decide) z.2.1)
theorem fold_ge : ∀ (w : List Nat) (a : Nat), a ≤ w.foldl (fun acc c => acc * 10 + (c - 48)) a
  | [], a => Nat.le_refl _
  | c :: w, a => by
    rw [List.foldl_cons]
    exact Nat.le_trans (by omega) (fold_ge w _)
theorem figs_zero {w : List Nat} (h : figs w = some 0) : w = [48] := by
  obtain ⟨z, e⟩ := figs_ok h
  cases w with
  | nil => have := z.1; simp at this
  | cons c w =>
    have hc := z.2.2.1 c List.mem_cons_self
    by_cases c48 : c = 48
    · cases w with
      | nil => rw [c48]
      | cons d w => exact absurd ⟨by rw [c48]; rfl, by simp⟩ z.2.2.2
    · have k : 0 * 10 + (c - 48) ≤ NumText.digitsVal (c :: w) := fold_ge w _
      omega
theorem eqI (a b c d : Int) : PyData.eqv (.tuple [.int a, .int b]) (.tuple [.int c, .int d]) = decide (a = c ∧ b = d) := by
  simp [PyData.eqv, PyData.eqvAll]
  rfl
theorem low_eq {n b : Nat} (hb : 2 ≤ b) : PyData.eqv (eQ (Rat.divInt n b)) (.tuple [.int n, .int b]) = decide (Int.gcd n b = 1) := by
  show PyData.eqv (.tuple [.int _, .int _]) _ = _
  rw [eqI]
  refine decide_eq_decide.mpr ⟨fun z => ?_, fun z => ?_⟩
  · have r := (Rat.divInt n b).reduced
    have e2 : (Rat.divInt n b).den = b := by exact_mod_cast z.2
    rw [z.1, e2] at r
    exact r
  · have hn : (b : Nat) ≠ 0 := by omega
    have hc : (n : Int).natAbs.Coprime b := z
    have : Rat.divInt n b = ⟨n, b, hn, hc⟩ := Rat.mk_eq_divInt.symm
    rw [this]
    exact ⟨rfl, rfl⟩
theorem rd__law_written (ds : List Dt) (Φ : Slot → Prop) (Ξ : XD → Prop) (h : sp__law_written ds Φ Ξ) : d__law_written (endsOf Φ Ξ) (rho0 N__law_written ds) := by
  obtain ⟨w, rfl, ho, h⟩ := h
  have hz : (200000 : Nat) < sizeLine := by decide
  have hl := ho.1
  have sn := spl_len 47 w []
  have e47 : ("/" : Str) = S [47] := rfl
  have e45 : ("-" : Str) = S [45] := rfl
  show dSeq _ _ _ [.pu (.str (S w)), .un, .un, .un, .un, .un]
  refine seq_cut (fun ρ => ρ = [.pu (.str (S w)), .pu (.list ((TL.spl [47] 0 [] w).map eW)), .un, .un, .un, .un]) (fun E hr hE => ?_) ?_
  · simp only [dTx, pSplit, dRet, dRetF, dSetX, dCallX, dRetX, noOw, dTry, dCpy, dRaise, dRetO, dSetP, dSetS, dSetF, dSeq, dIf, dNext, dCall, dCallF, dB, dBin, dCons, dNil, dTup, dLst, dV, dC, dTV, onB, dTAnd, dTOr, dTNot, dAnd, dOr, dNot, dIfE, dIsN, dNotN, isN, dSl, dSlF, dNoPart, dPart, dPar, dParS, dAsg, dgN, dgT, dgCons, dgNil, dFE, dIsi, dListF, dNeg, dRev, dFrz, dApp, dAppS, dIns, dExtend, dClear, dReverse, dPop, oIx, oI, oIC, oAddU, oSubI, oMulU, oMulI, oFd, oMd, oPw, oLt, oLe, oGt, oGe, oEq, oNe, getF, setF, Cl.d, getS, setS, purF_nil, purF_cons, purH, allF_nil, allF_cons, allH, rho0, endsOf, scalD, bLen, bAbs, bInt, bIntU, bTup, true_and, and_true, Option.some.injEq, exists_eq_left', decide_eq_true_eq, Bool.not_eq_true', decide_eq_false_iff_not, it_eQ0, it_eQ1, it_eP0, it_eP1, it_eS0, it_eS1, fits_eQ, fits_eP, fits_eS, eqv_eQ, eqv_eP, eqv_eS, eqv_int, eqv_bool, shp_int, shp_bool, shp_none, shp_eQ, shp_eP, shp_eS, dCont, dBreak, dXi, dSetG, dAppG, oIsB, oNotB, dTx, pJoin, pSplit, pPart, pStarts, bStr, bIntS, dFmt, dJs, ↓reduceIte, nsp_none, nsp_bool, nsp_int, nsp_str, nsp_list, nsp_tuple, nsp_eQ, nsp_eP, nsp_eS, dat_pu, dat_ow, seqD_l, seqD_t, not_true_eq_false, Bool.true_eq_false, Bool.not_not, List.length_cons, List.length_nil, mkP, mkS, fits_list, fits_tuple, isIntD, isBoolD, isListD, isStrD, isTupD, Bool.not_true, Bool.not_false, Bool.false_eq_true, it_l0, it_l1, it_l2, it_t0, it_t1, it_t2, shp_ps, shp_pt, shp_ss, shp_is, seqD_eQ, seqD_eP, seqD_eS, walkD_eP, walkD_eS, walkD_l, walkD_t]
    refine ⟨_, rfl, rfl, by rw [SX.S_len]; omega, ?_⟩
    rw [e47, SX.split_S (by simp) (by decide), List.map_map]
    exact hE _ rfl
  rintro _ rfl
  refine seq_cut (fun ρ => ∃ (hd : List Nat) (P : List (List Nat)) (t : Option (List Nat)), numQ w = numH hd t ∧ OkW hd ∧ ((t = none ∧ P = [hd]) ∨ ∃ tl, t = some tl ∧ P = [hd, tl] ∧ OkW tl) ∧ ρ = [.pu (.str (S w)), .pu (.list (P.map eW)), .un, .un, .un, .un]) (fun E hr hE => ?_) ?_
  · simp only [List.length_map, dRet, dRetF, dSetX, dCallX, dRetX, noOw, dTry, dCpy, dRaise, dRetO, dSetP, dSetS, dSetF, dSeq, dIf, dNext, dCall, dCallF, dB, dBin, dCons, dNil, dTup, dLst, dV, dC, dTV, onB, dTAnd, dTOr, dTNot, dAnd, dOr, dNot, dIfE, dIsN, dNotN, isN, dSl, dSlF, dNoPart, dPart, dPar, dParS, dAsg, dgN, dgT, dgCons, dgNil, dFE, dIsi, dListF, dNeg, dRev, dFrz, dApp, dAppS, dIns, dExtend, dClear, dReverse, dPop, oIx, oI, oIC, oAddU, oSubI, oMulU, oMulI, oFd, oMd, oPw, oLt, oLe, oGt, oGe, oEq, oNe, getF, setF, Cl.d, getS, setS, purF_nil, purF_cons, purH, allF_nil, allF_cons, allH, rho0, endsOf, scalD, bLen, bAbs, bInt, bIntU, bTup, true_and, and_true, Option.some.injEq, exists_eq_left', decide_eq_true_eq, Bool.not_eq_true', decide_eq_false_iff_not, it_eQ0, it_eQ1, it_eP0, it_eP1, it_eS0, it_eS1, fits_eQ, fits_eP, fits_eS, eqv_eQ, eqv_eP, eqv_eS, eqv_int, eqv_bool, shp_int, shp_bool, shp_none, shp_eQ, shp_eP, shp_eS, dCont, dBreak, dXi, dSetG, dAppG, oIsB, oNotB, dTx, pJoin, pSplit, pPart, pStarts, bStr, bIntS, dFmt, dJs, ↓reduceIte, nsp_none, nsp_bool, nsp_int, nsp_str, nsp_list, nsp_tuple, nsp_eQ, nsp_eP, nsp_eS, dat_pu, dat_ow, seqD_l, seqD_t, not_true_eq_false, Bool.true_eq_false, Bool.not_not, List.length_cons, List.length_nil, mkP, mkS, fits_list, fits_tuple, isIntD, isBoolD, isListD, isStrD, isTupD, Bool.not_true, Bool.not_false, Bool.false_eq_true, it_l0, it_l1, it_l2, it_t0, it_t1, it_t2, shp_ps, shp_pt, shp_ss, shp_is, seqD_eQ, seqD_eP, seqD_eS, walkD_eP, walkD_eS, walkD_l, walkD_t]
    have sp := spl_par 47 w []
    cases c : TL.par [47] [] w with
    | none =>
      rw [c] at sp
      rw [sp]
      refine ite_no (by simp) ?_
      exact hE _ ⟨w, _, none, by unfold numQ; rw [c], ho, .inl ⟨rfl, rfl⟩, rfl⟩
    | some p =>
      obtain ⟨a, b⟩ := p
      obtain ⟨i1, i2, i3, i4⟩ := par_sub 47 w [] a b c
      have oa : OkW a := ho.sub (by simpa using i1) (fun c hc => by rcases i3 c hc with z | z; cases z; exact z)
      have ob : OkW b := ho.sub i2 i4
      rw [c] at sp
      have sp2 := spl_par 47 b []
      have en : numQ w = numH a (some b) := by unfold numQ; rw [c]
      cases c2 : TL.par [47] [] b with
      | none =>
        rw [c2] at sp2
        simp only at sp sp2
        rw [sp, sp2]
        refine ite_no (by simp) ?_
        exact hE _ ⟨a, _, some b, en, oa, .inr ⟨b, rfl, rfl, ob⟩, rfl⟩
      | some p2 =>
        obtain ⟨a2, b2⟩ := p2
        rw [c2] at sp2
        simp only at sp sp2
        have sp3 := spl_par 47 b2 []
        have l3 : 1 ≤ (TL.spl [47] 0 [] b2).length := by
          rw [sp3]
          split
          · simp
          · simp
        refine ite_yes (by rw [sp, sp2, List.length_cons, List.length_cons]; omega) ?_
        rw [hr]
        rw [en, numH_bad (figs_no (par_mem 47 b [] _ c2) (by decide))] at h
        exact h
  clear sn
  rintro _ ⟨hd, P, t, en, o1, hP, rfl⟩
  rw [en] at h
  clear en
  have P1 : 1 ≤ P.length ∧ P.length ≤ 2 := by rcases hP with ⟨_, rfl⟩ | ⟨tl, _, rfl, _⟩ <;> exact ⟨by simp, by simp⟩
  have i0 : itemD (.list (P.map eW)) 0 = some (eW hd) := by rcases hP with ⟨_, rfl⟩ | ⟨tl, _, rfl, _⟩ <;> rfl
  refine seq_cut (fun ρ => ρ = [.pu (.str (S w)), .pu (.list (P.map eW)), .pu (.int 1), .un, .un, .un]) (fun E hr hE => ?_) ?_
  · simp only [dRet, dRetF, dSetX, dCallX, dRetX, noOw, dTry, dCpy, dRaise, dRetO, dSetP, dSetS, dSetF, dSeq, dIf, dNext, dCall, dCallF, dB, dBin, dCons, dNil, dTup, dLst, dV, dC, dTV, onB, dTAnd, dTOr, dTNot, dAnd, dOr, dNot, dIfE, dIsN, dNotN, isN, dSl, dSlF, dNoPart, dPart, dPar, dParS, dAsg, dgN, dgT, dgCons, dgNil, dFE, dIsi, dListF, dNeg, dRev, dFrz, dApp, dAppS, dIns, dExtend, dClear, dReverse, dPop, oIx, oI, oIC, oAddU, oSubI, oMulU, oMulI, oFd, oMd, oPw, oLt, oLe, oGt, oGe, oEq, oNe, getF, setF, Cl.d, getS, setS, purF_nil, purF_cons, purH, allF_nil, allF_cons, allH, rho0, endsOf, scalD, bLen, bAbs, bInt, bIntU, bTup, true_and, and_true, Option.some.injEq, exists_eq_left', decide_eq_true_eq, Bool.not_eq_true', decide_eq_false_iff_not, it_eQ0, it_eQ1, it_eP0, it_eP1, it_eS0, it_eS1, fits_eQ, fits_eP, fits_eS, eqv_eQ, eqv_eP, eqv_eS, eqv_int, eqv_bool, shp_int, shp_bool, shp_none, shp_eQ, shp_eP, shp_eS, dCont, dBreak, dXi, dSetG, dAppG, oIsB, oNotB, dTx, pJoin, pSplit, pPart, pStarts, bStr, bIntS, dFmt, dJs, ↓reduceIte, nsp_none, nsp_bool, nsp_int, nsp_str, nsp_list, nsp_tuple, nsp_eQ, nsp_eP, nsp_eS, dat_pu, dat_ow, seqD_l, seqD_t, not_true_eq_false, Bool.true_eq_false, Bool.not_not, List.length_cons, List.length_nil, mkP, mkS, fits_list, fits_tuple, isIntD, isBoolD, isListD, isStrD, isTupD, Bool.not_true, Bool.not_false, Bool.false_eq_true, it_l0, it_l1, it_l2, it_t0, it_t1, it_t2, shp_ps, shp_pt, shp_ss, shp_is, seqD_eQ, seqD_eP, seqD_eS, walkD_eP, walkD_eS, walkD_l, walkD_t]
    exact hE _ rfl
  rintro _ rfl
  refine seq_cut (fun ρ => ρ = [.pu (.str (S w)), .pu (.list (P.map eW)), .pu (.int 1), .pu (.str (S hd)), .un, .un]) (fun E hr hE => ?_) ?_
  · simp only [dRet, dRetF, dSetX, dCallX, dRetX, noOw, dTry, dCpy, dRaise, dRetO, dSetP, dSetS, dSetF, dSeq, dIf, dNext, dCall, dCallF, dB, dBin, dCons, dNil, dTup, dLst, dV, dC, dTV, onB, dTAnd, dTOr, dTNot, dAnd, dOr, dNot, dIfE, dIsN, dNotN, isN, dSl, dSlF, dNoPart, dPart, dPar, dParS, dAsg, dgN, dgT, dgCons, dgNil, dFE, dIsi, dListF, dNeg, dRev, dFrz, dApp, dAppS, dIns, dExtend, dClear, dReverse, dPop, oIx, oI, oIC, oAddU, oSubI, oMulU, oMulI, oFd, oMd, oPw, oLt, oLe, oGt, oGe, oEq, oNe, getF, setF, Cl.d, getS, setS, purF_nil, purF_cons, purH, allF_nil, allF_cons, allH, rho0, endsOf, scalD, bLen, bAbs, bInt, bIntU, bTup, true_and, and_true, Option.some.injEq, exists_eq_left', decide_eq_true_eq, Bool.not_eq_true', decide_eq_false_iff_not, it_eQ0, it_eQ1, it_eP0, it_eP1, it_eS0, it_eS1, fits_eQ, fits_eP, fits_eS, eqv_eQ, eqv_eP, eqv_eS, eqv_int, eqv_bool, shp_int, shp_bool, shp_none, shp_eQ, shp_eP, shp_eS, dCont, dBreak, dXi, dSetG, dAppG, oIsB, oNotB, dTx, pJoin, pSplit, pPart, pStarts, bStr, bIntS, dFmt, dJs, ↓reduceIte, nsp_none, nsp_bool, nsp_int, nsp_str, nsp_list, nsp_tuple, nsp_eQ, nsp_eP, nsp_eS, dat_pu, dat_ow, seqD_l, seqD_t, not_true_eq_false, Bool.true_eq_false, Bool.not_not, List.length_cons, List.length_nil, mkP, mkS, fits_list, fits_tuple, isIntD, isBoolD, isListD, isStrD, isTupD, Bool.not_true, Bool.not_false, Bool.false_eq_true, it_l0, it_l1, it_l2, it_t0, it_t1, it_t2, shp_ps, shp_pt, shp_ss, shp_is, seqD_eQ, seqD_eP, seqD_eS, walkD_eP, walkD_eS, walkD_l, walkD_t]
    exact ⟨_, i0, hE _ rfl⟩
  rintro _ rfl
  refine seq_cut (fun ρ => ∃ (sg : Int) (hh : List Nat), ((sg = -1 ∧ hd.take 1 = [45] ∧ hh = hd.drop 1) ∨ (sg = 1 ∧ hd.take 1 ≠ [45] ∧ hh = hd)) ∧ ρ = [.pu (.str (S w)), .pu (.list (P.map eW)), .pu (.int sg), .pu (.str (S hh)), .un, .un]) (fun E hr hE => ?_) ?_
  · have ec : cutD hd none (some 1) = hd.take 1 := cutD_to hd 1
    have ed : cutD hd (some 1) none = hd.drop 1 := cutD_from hd 1
    simp only [slD, cutSr, ec, ed, e45, eqS, (o1.take 1).shp, (OkW.one (c := 45) (by decide)).shp, fitsD, dRet, dRetF, dSetX, dCallX, dRetX, noOw, dTry, dCpy, dRaise, dRetO, dSetP, dSetS, dSetF, dSeq, dIf, dNext, dCall, dCallF, dB, dBin, dCons, dNil, dTup, dLst, dV, dC, dTV, onB, dTAnd, dTOr, dTNot, dAnd, dOr, dNot, dIfE, dIsN, dNotN, isN, dSl, dSlF, dNoPart, dPart, dPar, dParS, dAsg, dgN, dgT, dgCons, dgNil, dFE, dIsi, dListF, dNeg, dRev, dFrz, dApp, dAppS, dIns, dExtend, dClear, dReverse, dPop, oIx, oI, oIC, oAddU, oSubI, oMulU, oMulI, oFd, oMd, oPw, oLt, oLe, oGt, oGe, oEq, oNe, getF, setF, Cl.d, getS, setS, purF_nil, purF_cons, purH, allF_nil, allF_cons, allH, rho0, endsOf, scalD, bLen, bAbs, bInt, bIntU, bTup, true_and, and_true, Option.some.injEq, exists_eq_left', decide_eq_true_eq, Bool.not_eq_true', decide_eq_false_iff_not, it_eQ0, it_eQ1, it_eP0, it_eP1, it_eS0, it_eS1, fits_eQ, fits_eP, fits_eS, eqv_eQ, eqv_eP, eqv_eS, eqv_int, eqv_bool, shp_int, shp_bool, shp_none, shp_eQ, shp_eP, shp_eS, dCont, dBreak, dXi, dSetG, dAppG, oIsB, oNotB, dTx, pJoin, pSplit, pPart, pStarts, bStr, bIntS, dFmt, dJs, ↓reduceIte, nsp_none, nsp_bool, nsp_int, nsp_str, nsp_list, nsp_tuple, nsp_eQ, nsp_eP, nsp_eS, dat_pu, dat_ow, seqD_l, seqD_t, not_true_eq_false, Bool.true_eq_false, Bool.not_not, List.length_cons, List.length_nil, mkP, mkS, fits_list, fits_tuple, isIntD, isBoolD, isListD, isStrD, isTupD, Bool.not_true, Bool.not_false, Bool.false_eq_true, it_l0, it_l1, it_l2, it_t0, it_t1, it_t2, shp_ps, shp_pt, shp_ss, shp_is, seqD_eQ, seqD_eP, seqD_eS, walkD_eP, walkD_eS, walkD_l, walkD_t]
    refine ⟨by rw [SX.S_len]; have := o1.1; omega, ?_⟩
    by_cases c : hd.take 1 = [45]
    · refine ite_yes c ?_
      refine ⟨by rw [SX.S_len]; have := o1.1; omega, ?_⟩
      exact hE _ ⟨-1, _, .inl ⟨rfl, c, rfl⟩, rfl⟩
    · refine ite_no c ?_
      exact hE _ ⟨1, _, .inr ⟨rfl, c, rfl⟩, rfl⟩
  rintro _ ⟨sg, hh, hsg, rfl⟩
  have oh : OkW hh := by rcases hsg with ⟨_, _, rfl⟩ | ⟨_, _, rfl⟩; exact o1.drop 1; exact o1
  have eh : (if hd.take 1 = [45] then hd.drop 1 else hd) = hh := by
    rcases hsg with ⟨_, c, rfl⟩ | ⟨_, c, rfl⟩
    · rw [if_pos c]
    · rw [if_neg c]
  have es : ∀ n : Nat, (if hd.take 1 = [45] then 0 - (n : Int) else (n : Int)) = sg * n := fun n => by
    rcases hsg with ⟨rfl, c, _⟩ | ⟨rfl, c, _⟩
    · rw [if_pos c]; omega
    · rw [if_neg c]; omega
  refine seq_cut (fun ρ => ρ = [.pu (.str (S w)), .pu (.list (P.map eW)), .pu (.int sg), .pu (.str (S hh)), .pu (oN (figs hh)), .un]) (fun E hr hE => ?_) ?_
  · simp only [dRet, dRetF, dSetX, dCallX, dRetX, noOw, dTry, dCpy, dRaise, dRetO, dSetP, dSetS, dSetF, dSeq, dIf, dNext, dCall, dCallF, dB, dBin, dCons, dNil, dTup, dLst, dV, dC, dTV, onB, dTAnd, dTOr, dTNot, dAnd, dOr, dNot, dIfE, dIsN, dNotN, isN, dSl, dSlF, dNoPart, dPart, dPar, dParS, dAsg, dgN, dgT, dgCons, dgNil, dFE, dIsi, dListF, dNeg, dRev, dFrz, dApp, dAppS, dIns, dExtend, dClear, dReverse, dPop, oIx, oI, oIC, oAddU, oSubI, oMulU, oMulI, oFd, oMd, oPw, oLt, oLe, oGt, oGe, oEq, oNe, getF, setF, Cl.d, getS, setS, purF_nil, purF_cons, purH, allF_nil, allF_cons, allH, rho0, endsOf, scalD, bLen, bAbs, bInt, bIntU, bTup, true_and, and_true, Option.some.injEq, exists_eq_left', decide_eq_true_eq, Bool.not_eq_true', decide_eq_false_iff_not, it_eQ0, it_eQ1, it_eP0, it_eP1, it_eS0, it_eS1, fits_eQ, fits_eP, fits_eS, eqv_eQ, eqv_eP, eqv_eS, eqv_int, eqv_bool, shp_int, shp_bool, shp_none, shp_eQ, shp_eP, shp_eS, dCont, dBreak, dXi, dSetG, dAppG, oIsB, oNotB, dTx, pJoin, pSplit, pPart, pStarts, bStr, bIntS, dFmt, dJs, ↓reduceIte, nsp_none, nsp_bool, nsp_int, nsp_str, nsp_list, nsp_tuple, nsp_eQ, nsp_eP, nsp_eS, dat_pu, dat_ow, seqD_l, seqD_t, not_true_eq_false, Bool.true_eq_false, Bool.not_not, List.length_cons, List.length_nil, mkP, mkS, fits_list, fits_tuple, isIntD, isBoolD, isListD, isStrD, isTupD, Bool.not_true, Bool.not_false, Bool.false_eq_true, it_l0, it_l1, it_l2, it_t0, it_t1, it_t2, shp_ps, shp_pt, shp_ss, shp_is, seqD_eQ, seqD_eP, seqD_eS, walkD_eP, walkD_eS, walkD_l, walkD_t]
    exact ⟨_, rfl, oh, hE _ rfl⟩
  rintro _ rfl
  unfold numH at h
  rw [eh] at h
  cases f : figs hh with
  | none =>
    rw [f] at h
    refine seq_cut (fun ρ => False) (fun E hr hE => ?_) (fun _ z => z.elim)
    simp only [oN, isN, dRet, dRetF, dSetX, dCallX, dRetX, noOw, dTry, dCpy, dRaise, dRetO, dSetP, dSetS, dSetF, dSeq, dIf, dNext, dCall, dCallF, dB, dBin, dCons, dNil, dTup, dLst, dV, dC, dTV, onB, dTAnd, dTOr, dTNot, dAnd, dOr, dNot, dIfE, dIsN, dNotN, isN, dSl, dSlF, dNoPart, dPart, dPar, dParS, dAsg, dgN, dgT, dgCons, dgNil, dFE, dIsi, dListF, dNeg, dRev, dFrz, dApp, dAppS, dIns, dExtend, dClear, dReverse, dPop, oIx, oI, oIC, oAddU, oSubI, oMulU, oMulI, oFd, oMd, oPw, oLt, oLe, oGt, oGe, oEq, oNe, getF, setF, Cl.d, getS, setS, purF_nil, purF_cons, purH, allF_nil, allF_cons, allH, rho0, endsOf, scalD, bLen, bAbs, bInt, bIntU, bTup, true_and, and_true, Option.some.injEq, exists_eq_left', decide_eq_true_eq, Bool.not_eq_true', decide_eq_false_iff_not, it_eQ0, it_eQ1, it_eP0, it_eP1, it_eS0, it_eS1, fits_eQ, fits_eP, fits_eS, eqv_eQ, eqv_eP, eqv_eS, eqv_int, eqv_bool, shp_int, shp_bool, shp_none, shp_eQ, shp_eP, shp_eS, dCont, dBreak, dXi, dSetG, dAppG, oIsB, oNotB, dTx, pJoin, pSplit, pPart, pStarts, bStr, bIntS, dFmt, dJs, ↓reduceIte, nsp_none, nsp_bool, nsp_int, nsp_str, nsp_list, nsp_tuple, nsp_eQ, nsp_eP, nsp_eS, dat_pu, dat_ow, seqD_l, seqD_t, not_true_eq_false, Bool.true_eq_false, Bool.not_not, List.length_cons, List.length_nil, mkP, mkS, fits_list, fits_tuple, isIntD, isBoolD, isListD, isStrD, isTupD, Bool.not_true, Bool.not_false, Bool.false_eq_true, it_l0, it_l1, it_l2, it_t0, it_t1, it_t2, shp_ps, shp_pt, shp_ss, shp_is, seqD_eQ, seqD_eP, seqD_eS, walkD_eP, walkD_eS, walkD_l, walkD_t]
    rw [hr]
    exact h
  | some n =>
    rw [f] at h
    simp only [es] at h
    have nlt := figs_lt f
    have iz : (n = 0 ∧ hd ≠ [48]) ↔ (n = 0 ∧ sg = -1) := by
      refine ⟨fun z => ⟨z.1, ?_⟩, fun z => ⟨z.1, fun e => ?_⟩⟩
      · rcases hsg with ⟨e, _, _⟩ | ⟨_, _, e⟩
        · exact e
        · rw [z.1, e] at f
          exact absurd (figs_zero f) z.2
      · rcases hsg with ⟨_, c, _⟩ | ⟨e2, _, _⟩
        · rw [e] at c
          exact absurd c (by decide)
        · omega
    refine seq_cut (fun ρ => ρ = [.pu (.str (S w)), .pu (.list (P.map eW)), .pu (.int sg), .pu (.str (S hh)), .pu (.int n), .un] ∧ ¬ (n = 0 ∧ hd ≠ [48])) (fun E hr hE => ?_) ?_
    · simp only [oN, isN, dRet, dRetF, dSetX, dCallX, dRetX, noOw, dTry, dCpy, dRaise, dRetO, dSetP, dSetS, dSetF, dSeq, dIf, dNext, dCall, dCallF, dB, dBin, dCons, dNil, dTup, dLst, dV, dC, dTV, onB, dTAnd, dTOr, dTNot, dAnd, dOr, dNot, dIfE, dIsN, dNotN, isN, dSl, dSlF, dNoPart, dPart, dPar, dParS, dAsg, dgN, dgT, dgCons, dgNil, dFE, dIsi, dListF, dNeg, dRev, dFrz, dApp, dAppS, dIns, dExtend, dClear, dReverse, dPop, oIx, oI, oIC, oAddU, oSubI, oMulU, oMulI, oFd, oMd, oPw, oLt, oLe, oGt, oGe, oEq, oNe, getF, setF, Cl.d, getS, setS, purF_nil, purF_cons, purH, allF_nil, allF_cons, allH, rho0, endsOf, scalD, bLen, bAbs, bInt, bIntU, bTup, true_and, and_true, Option.some.injEq, exists_eq_left', decide_eq_true_eq, Bool.not_eq_true', decide_eq_false_iff_not, it_eQ0, it_eQ1, it_eP0, it_eP1, it_eS0, it_eS1, fits_eQ, fits_eP, fits_eS, eqv_eQ, eqv_eP, eqv_eS, eqv_int, eqv_bool, shp_int, shp_bool, shp_none, shp_eQ, shp_eP, shp_eS, dCont, dBreak, dXi, dSetG, dAppG, oIsB, oNotB, dTx, pJoin, pSplit, pPart, pStarts, bStr, bIntS, dFmt, dJs, ↓reduceIte, nsp_none, nsp_bool, nsp_int, nsp_str, nsp_list, nsp_tuple, nsp_eQ, nsp_eP, nsp_eS, dat_pu, dat_ow, seqD_l, seqD_t, not_true_eq_false, Bool.true_eq_false, Bool.not_not, List.length_cons, List.length_nil, mkP, mkS, fits_list, fits_tuple, isIntD, isBoolD, isListD, isStrD, isTupD, Bool.not_true, Bool.not_false, Bool.false_eq_true, it_l0, it_l1, it_l2, it_t0, it_t1, it_t2, shp_ps, shp_pt, shp_ss, shp_is, seqD_eQ, seqD_eP, seqD_eS, walkD_eP, walkD_eS, walkD_l, walkD_t]
      by_cases c : n = 0
      · refine ite_yes (by omega) ?_
        by_cases c2 : sg = -1
        · refine ite_yes c2 ?_
          rw [if_pos (iz.mpr ⟨c, c2⟩)] at h
          rw [hr]
          exact h
        · refine ite_no c2 ?_
          exact hE _ ⟨rfl, fun z => c2 (iz.mp z).2⟩
      · refine ite_no (by omega) ?_
        exact hE _ ⟨rfl, fun z => c z.1⟩
    rintro _ ⟨rfl, hn⟩
    rw [if_neg hn] at h
    have sg1 : sg = 1 ∨ sg = -1 := by rcases hsg with ⟨e, _, _⟩ | ⟨e, _, _⟩ <;> omega
    have cm1 : CMulW sg n := cmN (by omega) (by omega)
    rcases hP with ⟨rfl, rfl⟩ | ⟨tl, rfl, rfl, o2⟩
    · refine seq_cut (fun ρ => False) (fun E hr hE => ?_) (fun _ z => z.elim)
      simp only [List.map_cons, List.map_nil, List.length_cons, List.length_nil, dRet, dRetF, dSetX, dCallX, dRetX, noOw, dTry, dCpy, dRaise, dRetO, dSetP, dSetS, dSetF, dSeq, dIf, dNext, dCall, dCallF, dB, dBin, dCons, dNil, dTup, dLst, dV, dC, dTV, onB, dTAnd, dTOr, dTNot, dAnd, dOr, dNot, dIfE, dIsN, dNotN, isN, dSl, dSlF, dNoPart, dPart, dPar, dParS, dAsg, dgN, dgT, dgCons, dgNil, dFE, dIsi, dListF, dNeg, dRev, dFrz, dApp, dAppS, dIns, dExtend, dClear, dReverse, dPop, oIx, oI, oIC, oAddU, oSubI, oMulU, oMulI, oFd, oMd, oPw, oLt, oLe, oGt, oGe, oEq, oNe, getF, setF, Cl.d, getS, setS, purF_nil, purF_cons, purH, allF_nil, allF_cons, allH, rho0, endsOf, scalD, bLen, bAbs, bInt, bIntU, bTup, true_and, and_true, Option.some.injEq, exists_eq_left', decide_eq_true_eq, Bool.not_eq_true', decide_eq_false_iff_not, it_eQ0, it_eQ1, it_eP0, it_eP1, it_eS0, it_eS1, fits_eQ, fits_eP, fits_eS, eqv_eQ, eqv_eP, eqv_eS, eqv_int, eqv_bool, shp_int, shp_bool, shp_none, shp_eQ, shp_eP, shp_eS, dCont, dBreak, dXi, dSetG, dAppG, oIsB, oNotB, dTx, pJoin, pSplit, pPart, pStarts, bStr, bIntS, dFmt, dJs, ↓reduceIte, nsp_none, nsp_bool, nsp_int, nsp_str, nsp_list, nsp_tuple, nsp_eQ, nsp_eP, nsp_eS, dat_pu, dat_ow, seqD_l, seqD_t, not_true_eq_false, Bool.true_eq_false, Bool.not_not, List.length_cons, List.length_nil, mkP, mkS, fits_list, fits_tuple, isIntD, isBoolD, isListD, isStrD, isTupD, Bool.not_true, Bool.not_false, Bool.false_eq_true, it_l0, it_l1, it_l2, it_t0, it_t1, it_t2, shp_ps, shp_pt, shp_ss, shp_is, seqD_eQ, seqD_eP, seqD_eS, walkD_eP, walkD_eS, walkD_l, walkD_t]
      refine ite_yes rfl ⟨cm1, ?_⟩
      rw [hr]
      have e : eQ ((sg * (n : Int) : Int) : Rat) = .tuple [.int (sg * n), .int 1] := rfl
      rw [show oQ (some ((sg * (n : Int) : Int) : Rat)) = eQ ((sg * (n : Int) : Int) : Rat) from rfl, e] at h
      exact h
    · refine seq_cut (fun ρ => ρ = [.pu (.str (S w)), .pu (.list ([hd, tl].map eW)), .pu (.int sg), .pu (.str (S hh)), .pu (.int n), .un]) (fun E hr hE => ?_) ?_
      · simp only [List.map_cons, List.map_nil, List.length_cons, List.length_nil, dRet, dRetF, dSetX, dCallX, dRetX, noOw, dTry, dCpy, dRaise, dRetO, dSetP, dSetS, dSetF, dSeq, dIf, dNext, dCall, dCallF, dB, dBin, dCons, dNil, dTup, dLst, dV, dC, dTV, onB, dTAnd, dTOr, dTNot, dAnd, dOr, dNot, dIfE, dIsN, dNotN, isN, dSl, dSlF, dNoPart, dPart, dPar, dParS, dAsg, dgN, dgT, dgCons, dgNil, dFE, dIsi, dListF, dNeg, dRev, dFrz, dApp, dAppS, dIns, dExtend, dClear, dReverse, dPop, oIx, oI, oIC, oAddU, oSubI, oMulU, oMulI, oFd, oMd, oPw, oLt, oLe, oGt, oGe, oEq, oNe, getF, setF, Cl.d, getS, setS, purF_nil, purF_cons, purH, allF_nil, allF_cons, allH, rho0, endsOf, scalD, bLen, bAbs, bInt, bIntU, bTup, true_and, and_true, Option.some.injEq, exists_eq_left', decide_eq_true_eq, Bool.not_eq_true', decide_eq_false_iff_not, it_eQ0, it_eQ1, it_eP0, it_eP1, it_eS0, it_eS1, fits_eQ, fits_eP, fits_eS, eqv_eQ, eqv_eP, eqv_eS, eqv_int, eqv_bool, shp_int, shp_bool, shp_none, shp_eQ, shp_eP, shp_eS, dCont, dBreak, dXi, dSetG, dAppG, oIsB, oNotB, dTx, pJoin, pSplit, pPart, pStarts, bStr, bIntS, dFmt, dJs, ↓reduceIte, nsp_none, nsp_bool, nsp_int, nsp_str, nsp_list, nsp_tuple, nsp_eQ, nsp_eP, nsp_eS, dat_pu, dat_ow, seqD_l, seqD_t, not_true_eq_false, Bool.true_eq_false, Bool.not_not, List.length_cons, List.length_nil, mkP, mkS, fits_list, fits_tuple, isIntD, isBoolD, isListD, isStrD, isTupD, Bool.not_true, Bool.not_false, Bool.false_eq_true, it_l0, it_l1, it_l2, it_t0, it_t1, it_t2, shp_ps, shp_pt, shp_ss, shp_is, seqD_eQ, seqD_eP, seqD_eS, walkD_eP, walkD_eS, walkD_l, walkD_t]
        exact hE _ rfl
      rintro _ rfl
      have i1 : itemD (.list ([hd, tl].map eW)) 1 = some (eW tl) := rfl
      refine seq_cut (fun ρ => ρ = [.pu (.str (S w)), .pu (.list ([hd, tl].map eW)), .pu (.int sg), .pu (.str (S hh)), .pu (.int n), .pu (oN (figs tl))]) (fun E hr hE => ?_) ?_
      · simp only [i1, dRet, dRetF, dSetX, dCallX, dRetX, noOw, dTry, dCpy, dRaise, dRetO, dSetP, dSetS, dSetF, dSeq, dIf, dNext, dCall, dCallF, dB, dBin, dCons, dNil, dTup, dLst, dV, dC, dTV, onB, dTAnd, dTOr, dTNot, dAnd, dOr, dNot, dIfE, dIsN, dNotN, isN, dSl, dSlF, dNoPart, dPart, dPar, dParS, dAsg, dgN, dgT, dgCons, dgNil, dFE, dIsi, dListF, dNeg, dRev, dFrz, dApp, dAppS, dIns, dExtend, dClear, dReverse, dPop, oIx, oI, oIC, oAddU, oSubI, oMulU, oMulI, oFd, oMd, oPw, oLt, oLe, oGt, oGe, oEq, oNe, getF, setF, Cl.d, getS, setS, purF_nil, purF_cons, purH, allF_nil, allF_cons, allH, rho0, endsOf, scalD, bLen, bAbs, bInt, bIntU, bTup, true_and, and_true, Option.some.injEq, exists_eq_left', decide_eq_true_eq, Bool.not_eq_true', decide_eq_false_iff_not, it_eQ0, it_eQ1, it_eP0, it_eP1, it_eS0, it_eS1, fits_eQ, fits_eP, fits_eS, eqv_eQ, eqv_eP, eqv_eS, eqv_int, eqv_bool, shp_int, shp_bool, shp_none, shp_eQ, shp_eP, shp_eS, dCont, dBreak, dXi, dSetG, dAppG, oIsB, oNotB, dTx, pJoin, pSplit, pPart, pStarts, bStr, bIntS, dFmt, dJs, ↓reduceIte, nsp_none, nsp_bool, nsp_int, nsp_str, nsp_list, nsp_tuple, nsp_eQ, nsp_eP, nsp_eS, dat_pu, dat_ow, seqD_l, seqD_t, not_true_eq_false, Bool.true_eq_false, Bool.not_not, List.length_cons, List.length_nil, mkP, mkS, fits_list, fits_tuple, isIntD, isBoolD, isListD, isStrD, isTupD, Bool.not_true, Bool.not_false, Bool.false_eq_true, it_l0, it_l1, it_l2, it_t0, it_t1, it_t2, shp_ps, shp_pt, shp_ss, shp_is, seqD_eQ, seqD_eP, seqD_eS, walkD_eP, walkD_eS, walkD_l, walkD_t]
        exact ⟨tl, rfl, o2, hE _ rfl⟩
      rintro _ rfl
      simp only at h
      cases f2 : figs tl with
      | none =>
        rw [f2] at h
        refine seq_cut (fun ρ => False) (fun E hr hE => ?_) (fun _ z => z.elim)
        simp only [oN, isN, dRet, dRetF, dSetX, dCallX, dRetX, noOw, dTry, dCpy, dRaise, dRetO, dSetP, dSetS, dSetF, dSeq, dIf, dNext, dCall, dCallF, dB, dBin, dCons, dNil, dTup, dLst, dV, dC, dTV, onB, dTAnd, dTOr, dTNot, dAnd, dOr, dNot, dIfE, dIsN, dNotN, isN, dSl, dSlF, dNoPart, dPart, dPar, dParS, dAsg, dgN, dgT, dgCons, dgNil, dFE, dIsi, dListF, dNeg, dRev, dFrz, dApp, dAppS, dIns, dExtend, dClear, dReverse, dPop, oIx, oI, oIC, oAddU, oSubI, oMulU, oMulI, oFd, oMd, oPw, oLt, oLe, oGt, oGe, oEq, oNe, getF, setF, Cl.d, getS, setS, purF_nil, purF_cons, purH, allF_nil, allF_cons, allH, rho0, endsOf, scalD, bLen, bAbs, bInt, bIntU, bTup, true_and, and_true, Option.some.injEq, exists_eq_left', decide_eq_true_eq, Bool.not_eq_true', decide_eq_false_iff_not, it_eQ0, it_eQ1, it_eP0, it_eP1, it_eS0, it_eS1, fits_eQ, fits_eP, fits_eS, eqv_eQ, eqv_eP, eqv_eS, eqv_int, eqv_bool, shp_int, shp_bool, shp_none, shp_eQ, shp_eP, shp_eS, dCont, dBreak, dXi, dSetG, dAppG, oIsB, oNotB, dTx, pJoin, pSplit, pPart, pStarts, bStr, bIntS, dFmt, dJs, ↓reduceIte, nsp_none, nsp_bool, nsp_int, nsp_str, nsp_list, nsp_tuple, nsp_eQ, nsp_eP, nsp_eS, dat_pu, dat_ow, seqD_l, seqD_t, not_true_eq_false, Bool.true_eq_false, Bool.not_not, List.length_cons, List.length_nil, mkP, mkS, fits_list, fits_tuple, isIntD, isBoolD, isListD, isStrD, isTupD, Bool.not_true, Bool.not_false, Bool.false_eq_true, it_l0, it_l1, it_l2, it_t0, it_t1, it_t2, shp_ps, shp_pt, shp_ss, shp_is, seqD_eQ, seqD_eP, seqD_eS, walkD_eP, walkD_eS, walkD_l, walkD_t]
        rw [hr]
        exact h
      | some b =>
        rw [f2] at h
        simp only at h
        have blt := figs_lt f2
        have ge : Int.gcd (sg * n) b = Int.gcd n b := by
          rcases sg1 with rfl | rfl
          · rw [Int.one_mul]
          · rw [Int.neg_one_mul, Int.neg_gcd]
        rw [ge] at h
        refine seq_cut (fun ρ => ρ = [.pu (.str (S w)), .pu (.list ([hd, tl].map eW)), .pu (.int sg), .pu (.str (S hh)), .pu (.int n), .pu (.int b)] ∧ ¬ (b < 2 ∨ Int.gcd n b ≠ 1)) (fun E hr hE => ?_) ?_
        · simp only [oN, isN, dRet, dRetF, dSetX, dCallX, dRetX, noOw, dTry, dCpy, dRaise, dRetO, dSetP, dSetS, dSetF, dSeq, dIf, dNext, dCall, dCallF, dB, dBin, dCons, dNil, dTup, dLst, dV, dC, dTV, onB, dTAnd, dTOr, dTNot, dAnd, dOr, dNot, dIfE, dIsN, dNotN, isN, dSl, dSlF, dNoPart, dPart, dPar, dParS, dAsg, dgN, dgT, dgCons, dgNil, dFE, dIsi, dListF, dNeg, dRev, dFrz, dApp, dAppS, dIns, dExtend, dClear, dReverse, dPop, oIx, oI, oIC, oAddU, oSubI, oMulU, oMulI, oFd, oMd, oPw, oLt, oLe, oGt, oGe, oEq, oNe, getF, setF, Cl.d, getS, setS, purF_nil, purF_cons, purH, allF_nil, allF_cons, allH, rho0, endsOf, scalD, bLen, bAbs, bInt, bIntU, bTup, true_and, and_true, Option.some.injEq, exists_eq_left', decide_eq_true_eq, Bool.not_eq_true', decide_eq_false_iff_not, it_eQ0, it_eQ1, it_eP0, it_eP1, it_eS0, it_eS1, fits_eQ, fits_eP, fits_eS, eqv_eQ, eqv_eP, eqv_eS, eqv_int, eqv_bool, shp_int, shp_bool, shp_none, shp_eQ, shp_eP, shp_eS, dCont, dBreak, dXi, dSetG, dAppG, oIsB, oNotB, dTx, pJoin, pSplit, pPart, pStarts, bStr, bIntS, dFmt, dJs, ↓reduceIte, nsp_none, nsp_bool, nsp_int, nsp_str, nsp_list, nsp_tuple, nsp_eQ, nsp_eP, nsp_eS, dat_pu, dat_ow, seqD_l, seqD_t, not_true_eq_false, Bool.true_eq_false, Bool.not_not, List.length_cons, List.length_nil, mkP, mkS, fits_list, fits_tuple, isIntD, isBoolD, isListD, isStrD, isTupD, Bool.not_true, Bool.not_false, Bool.false_eq_true, it_l0, it_l1, it_l2, it_t0, it_t1, it_t2, shp_ps, shp_pt, shp_ss, shp_is, seqD_eQ, seqD_eP, seqD_eS, walkD_eP, walkD_eS, walkD_l, walkD_t]
          by_cases c : b < 2
          · refine ite_yes (by omega) ?_
            rw [if_pos (.inl c)] at h
            rw [hr]
            exact h
          · refine ite_no (by omega) ?_
            refine ⟨n, b, rfl, by omega, Nat.lt_of_lt_of_le (show (b : Int).natAbs < 2 ^ 24 by rw [Int.natAbs_natCast]; omega) (Nat.pow_le_pow_right (by decide) (by decide)), ?_⟩
            have s1 := (sh_eQ (Rat.divInt n b)).shaped (by decide)
            have s2 : SeqAt.shaped (.tuple [.int (n : Int), .int (b : Int)]) = true := (sh_tuple (n := 0) fun d hd => by
              simp only [List.mem_cons, List.not_mem_nil, or_false] at hd
              rcases hd with rfl | rfl <;> exact sh_int 0 _).shaped (by decide)
            simp only [oNe, s1, s2, low_eq (n := n) (b := b) (by omega), dRet, dRetF, dSetX, dCallX, dRetX, noOw, dTry, dCpy, dRaise, dRetO, dSetP, dSetS, dSetF, dSeq, dIf, dNext, dCall, dCallF, dB, dBin, dCons, dNil, dTup, dLst, dV, dC, dTV, onB, dTAnd, dTOr, dTNot, dAnd, dOr, dNot, dIfE, dIsN, dNotN, isN, dSl, dSlF, dNoPart, dPart, dPar, dParS, dAsg, dgN, dgT, dgCons, dgNil, dFE, dIsi, dListF, dNeg, dRev, dFrz, dApp, dAppS, dIns, dExtend, dClear, dReverse, dPop, oIx, oI, oIC, oAddU, oSubI, oMulU, oMulI, oFd, oMd, oPw, oLt, oLe, oGt, oGe, oEq, oNe, getF, setF, Cl.d, getS, setS, purF_nil, purF_cons, purH, allF_nil, allF_cons, allH, rho0, endsOf, scalD, bLen, bAbs, bInt, bIntU, bTup, true_and, and_true, Option.some.injEq, exists_eq_left', decide_eq_true_eq, Bool.not_eq_true', decide_eq_false_iff_not, it_eQ0, it_eQ1, it_eP0, it_eP1, it_eS0, it_eS1, fits_eQ, fits_eP, fits_eS, eqv_eQ, eqv_eP, eqv_eS, eqv_int, eqv_bool, shp_int, shp_bool, shp_none, shp_eQ, shp_eP, shp_eS, dCont, dBreak, dXi, dSetG, dAppG, oIsB, oNotB, dTx, pJoin, pSplit, pPart, pStarts, bStr, bIntS, dFmt, dJs, ↓reduceIte, nsp_none, nsp_bool, nsp_int, nsp_str, nsp_list, nsp_tuple, nsp_eQ, nsp_eP, nsp_eS, dat_pu, dat_ow, seqD_l, seqD_t, not_true_eq_false, Bool.true_eq_false, Bool.not_not, List.length_cons, List.length_nil, mkP, mkS, fits_list, fits_tuple, isIntD, isBoolD, isListD, isStrD, isTupD, Bool.not_true, Bool.not_false, Bool.false_eq_true, it_l0, it_l1, it_l2, it_t0, it_t1, it_t2, shp_ps, shp_pt, shp_ss, shp_is, seqD_eQ, seqD_eP, seqD_eS, walkD_eP, walkD_eS, walkD_l, walkD_t]
            by_cases c2 : Int.gcd n b = 1
            · refine ite_no (by simpa using c2) ?_
              exact hE _ ⟨rfl, fun z => z.elim c (fun z => z c2)⟩
            · refine ite_yes (by simpa using c2) ?_
              rw [if_pos (.inr c2)] at h
              rw [hr]
              exact h
        rintro _ ⟨rfl, c⟩
        rw [if_neg c] at h
        have hg : Int.gcd (sg * n) b = 1 := by rw [ge]; omega
        have e : eQ (Rat.divInt (sg * n) b) = .tuple [.int (sg * n), .int b] := by
          have hn : (b : Nat) ≠ 0 := by omega
          have hc : (sg * (n : Int)).natAbs.Coprime b := by unfold Int.gcd at hg; rw [Int.natAbs_natCast] at hg; exact hg
          have : Rat.divInt (sg * n) b = ⟨sg * n, b, hn, hc⟩ := Rat.mk_eq_divInt.symm
          rw [this]
          rfl
        simp only [dRet, dRetF, dSetX, dCallX, dRetX, noOw, dTry, dCpy, dRaise, dRetO, dSetP, dSetS, dSetF, dSeq, dIf, dNext, dCall, dCallF, dB, dBin, dCons, dNil, dTup, dLst, dV, dC, dTV, onB, dTAnd, dTOr, dTNot, dAnd, dOr, dNot, dIfE, dIsN, dNotN, isN, dSl, dSlF, dNoPart, dPart, dPar, dParS, dAsg, dgN, dgT, dgCons, dgNil, dFE, dIsi, dListF, dNeg, dRev, dFrz, dApp, dAppS, dIns, dExtend, dClear, dReverse, dPop, oIx, oI, oIC, oAddU, oSubI, oMulU, oMulI, oFd, oMd, oPw, oLt, oLe, oGt, oGe, oEq, oNe, getF, setF, Cl.d, getS, setS, purF_nil, purF_cons, purH, allF_nil, allF_cons, allH, rho0, endsOf, scalD, bLen, bAbs, bInt, bIntU, bTup, true_and, and_true, Option.some.injEq, exists_eq_left', decide_eq_true_eq, Bool.not_eq_true', decide_eq_false_iff_not, it_eQ0, it_eQ1, it_eP0, it_eP1, it_eS0, it_eS1, fits_eQ, fits_eP, fits_eS, eqv_eQ, eqv_eP, eqv_eS, eqv_int, eqv_bool, shp_int, shp_bool, shp_none, shp_eQ, shp_eP, shp_eS, dCont, dBreak, dXi, dSetG, dAppG, oIsB, oNotB, dTx, pJoin, pSplit, pPart, pStarts, bStr, bIntS, dFmt, dJs, ↓reduceIte, nsp_none, nsp_bool, nsp_int, nsp_str, nsp_list, nsp_tuple, nsp_eQ, nsp_eP, nsp_eS, dat_pu, dat_ow, seqD_l, seqD_t, not_true_eq_false, Bool.true_eq_false, Bool.not_not, List.length_cons, List.length_nil, mkP, mkS, fits_list, fits_tuple, isIntD, isBoolD, isListD, isStrD, isTupD, Bool.not_true, Bool.not_false, Bool.false_eq_true, it_l0, it_l1, it_l2, it_t0, it_t1, it_t2, shp_ps, shp_pt, shp_ss, shp_is, seqD_eQ, seqD_eP, seqD_eS, walkD_eP, walkD_eS, walkD_l, walkD_t]
        rw [show oQ (some (Rat.divInt (sg * n) b)) = eQ (Rat.divInt (sg * n) b) from rfl, e] at h
        exact ⟨cm1, h⟩
/-! ### the text -/
theorem numQ_signs {w : List Nat} {c : Nat} (hc : c ∈ w) (h1 : c ≠ 45) (h2 : c ≠ 47) (h3 : ¬ (48 ≤ c ∧ c ≤ 57)) : numQ w = none := by
  have hh : ∀ h : List Nat, c ∈ h → ∀ t, numH h t = none := fun h hm t => by
    unfold numH
    have : figs (if h.take 1 = [45] then h.drop 1 else h) = none := by
      split
      · rename_i z
        refine figs_no (c := c) ?_ h3
        cases h with
        | nil => cases hm
        | cons a h =>
          simp at z
          rcases List.mem_cons.mp hm with e | e
          · omega
          · exact e
      · exact figs_no hm h3
    simp only [this]
  unfold numQ
  cases e : TL.par [47] [] w with
  | none => exact hh w hc none
  | some p =>
    obtain ⟨a, b⟩ := p
    have k : ∀ (l acc : List Nat), TL.par [47] acc l = some (a, b) → c ∈ acc ∨ c ∈ l → c ∈ a ∨ c ∈ b := fun l => by
      induction l with
      | nil => intro acc e; cases e
      | cons d l ih =>
        intro acc e hm
        by_cases k : TL.pre [47] (d :: l) = true
        · rw [TL.par_hit k] at e
          have kd : d = 47 := by simpa [TL.pre] using k
          cases e
          rcases hm with hm | hm
          · exact .inl hm
          · rcases List.mem_cons.mp hm with e | e
            · omega
            · exact .inr e
        · rw [TL.par_miss (by simpa using k)] at e
          refine ih _ e ?_
          rcases hm with hm | hm
          · exact .inl (List.mem_append_left _ hm)
          · rcases List.mem_cons.mp hm with e | e
            · exact .inl (by rw [e]; exact List.mem_append_right _ List.mem_cons_self)
            · exact .inr e
    rcases k w [] e (.inr hc) with z | z
    · exact hh a z _
    · exact numH_bad (figs_no z h3)
theorem ptIn_split (w : List Nat) : (∀ h t : List Nat, TL.spl [44] 0 [] w = [h, t] → ptIn w = match numQ h, numQ t with | some x, some y => some (x, y) | _, _ => none) ∧ ((TL.spl [44] 0 [] w).length ≠ 2 → ptIn w = none) := by
  have sp := spl_par 44 w []
  cases c : TL.par [44] [] w with
  | none =>
    rw [c] at sp
    have e : ptIn w = none := by unfold ptIn; rw [c]
    refine ⟨fun h t z => ?_, fun _ => e⟩
    rw [sp] at z
    cases z
  | some p =>
    obtain ⟨a, b⟩ := p
    rw [c] at sp
    simp only at sp
    have e : ptIn w = match numQ a, numQ b with | some x, some y => some (x, y) | _, _ => none := by
      unfold ptIn
      rw [c]
      all_goals simp only
      all_goals (cases numQ a <;> cases numQ b <;> rfl)
    have sp2 := spl_par 44 b []
    cases c2 : TL.par [44] [] b with
    | none =>
      rw [c2] at sp2
      simp only [List.nil_append] at sp2
      rw [sp2] at sp
      refine ⟨fun h t z => ?_, fun z => absurd (by rw [sp]; rfl) z⟩
      rw [sp] at z
      cases z
      exact e
    | some p2 =>
      obtain ⟨a2, b2⟩ := p2
      rw [c2] at sp2
      simp only at sp2
      have nb : numQ b = none := numQ_signs (par_mem 44 b [] _ c2) (by decide) (by decide) (by decide)
      have e2 : ptIn w = none := by
        rw [e, nb]
        cases numQ a <;> rfl
      refine ⟨fun h t z => ?_, fun _ => e2⟩
      have l3 : 1 ≤ (TL.spl [44] 0 [] b2).length := by
        rw [spl_par 44 b2 []]
        split
        · simp
        · simp
      rw [sp, sp2] at z
      have := congrArg List.length z
      simp only [List.length_cons, List.length_nil] at this
      omega
theorem eqv_oQ : ∀ o : Option Rat, PyData.eqv (oQ o) .none = o.isNone
  | none => rfl
  | some p => rfl
theorem sh_oQ : ∀ o : Option Rat, Sh 1 (oQ o)
  | none => sh_none 1
  | some p => sh_eQ p
theorem rd__law_reading (ds : List Dt) (Φ : Slot → Prop) (Ξ : XD → Prop) (h : sp__law_reading ds Φ Ξ) : d__law_reading (endsOf Φ Ξ) (rho0 N__law_reading ds) := by
  obtain ⟨w, rfl, ho, h⟩ := h
  have hz : (200000 : Nat) < sizeLine := by decide
  have hl := ho.1
  have sn := spl_len 32 w []
  have e32 : (" " : Str) = S [32] := rfl
  have e44 : ("," : Str) = S [44] := rfl
  unfold readR at h
  show dSeq _ _ _ [.pu (.str (S w)), .un, .un, .un, .un]
  refine seq_cut (fun ρ => ρ = [.pu (.str (S w)), .ow [], .un, .un, .un]) (fun E _ hE => ?_) ?_
  · simp only [dRet, dRetF, dSetX, dCallX, dRetX, noOw, dTry, dCpy, dRaise, dRetO, dSetP, dSetS, dSetF, dSeq, dIf, dNext, dCall, dCallF, dB, dBin, dCons, dNil, dTup, dLst, dV, dC, dTV, onB, dTAnd, dTOr, dTNot, dAnd, dOr, dNot, dIfE, dIsN, dNotN, isN, dSl, dSlF, dNoPart, dPart, dPar, dParS, dAsg, dgN, dgT, dgCons, dgNil, dFE, dIsi, dListF, dNeg, dRev, dFrz, dApp, dAppS, dIns, dExtend, dClear, dReverse, dPop, oIx, oI, oIC, oAddU, oSubI, oMulU, oMulI, oFd, oMd, oPw, oLt, oLe, oGt, oGe, oEq, oNe, getF, setF, Cl.d, getS, setS, purF_nil, purF_cons, purH, allF_nil, allF_cons, allH, rho0, endsOf, scalD, bLen, bAbs, bInt, bIntU, bTup, true_and, and_true, Option.some.injEq, exists_eq_left', decide_eq_true_eq, Bool.not_eq_true', decide_eq_false_iff_not, it_eQ0, it_eQ1, it_eP0, it_eP1, it_eS0, it_eS1, fits_eQ, fits_eP, fits_eS, eqv_eQ, eqv_eP, eqv_eS, eqv_int, eqv_bool, shp_int, shp_bool, shp_none, shp_eQ, shp_eP, shp_eS, dCont, dBreak, dXi, dSetG, dAppG, oIsB, oNotB, dTx, pJoin, pSplit, pPart, pStarts, bStr, bIntS, dFmt, dJs, ↓reduceIte, nsp_none, nsp_bool, nsp_int, nsp_str, nsp_list, nsp_tuple, nsp_eQ, nsp_eP, nsp_eS, dat_pu, dat_ow, seqD_l, seqD_t, not_true_eq_false, Bool.true_eq_false, Bool.not_not, List.length_cons, List.length_nil, mkP, mkS, fits_list, fits_tuple, isIntD, isBoolD, isListD, isStrD, isTupD, Bool.not_true, Bool.not_false, Bool.false_eq_true, it_l0, it_l1, it_l2, it_t0, it_t1, it_t2, shp_ps, shp_pt, shp_ss, shp_is, seqD_eQ, seqD_eP, seqD_eS, walkD_eP, walkD_eS, walkD_l, walkD_t]
    exact hE _ rfl
  rintro _ rfl
  generalize hW : TL.spl [32] 0 [] w = W at h
  have oW : ∀ v ∈ W, OkW v := fun v hv => by
    rw [← hW] at hv
    obtain ⟨i1, i2⟩ := spl_sub 32 w [] v hv
    exact ho.sub (by simpa using i1) (fun c hc => by rcases i2 c hc with z | z; cases z; exact z)
  have lW : W.length ≤ 100001 := by rw [← hW]; omega
  have bad : none ∈ W.map ptIn → Φ (.pu .none) := fun z => by
    split at h
    · rw [allS_none.mpr z] at h
      exact h
    · exact h
  refine seq_for (ds := W.map eW) (fun Q hQ => ?_) (fun k ρ => ∃ (ps : List Pt) (s t u : Slot), (W.take k).map ptIn = ps.map some ∧ ps.length = k ∧ ρ = [.pu (.str (S w)), .ow (ps.map eP), s, t, u]) ⟨[], _, _, _, rfl, rfl, rfl⟩ ?_ ?_
  · simp only [diSeq, dTx, pSplit, dRet, dRetF, dSetX, dCallX, dRetX, noOw, dTry, dCpy, dRaise, dRetO, dSetP, dSetS, dSetF, dSeq, dIf, dNext, dCall, dCallF, dB, dBin, dCons, dNil, dTup, dLst, dV, dC, dTV, onB, dTAnd, dTOr, dTNot, dAnd, dOr, dNot, dIfE, dIsN, dNotN, isN, dSl, dSlF, dNoPart, dPart, dPar, dParS, dAsg, dgN, dgT, dgCons, dgNil, dFE, dIsi, dListF, dNeg, dRev, dFrz, dApp, dAppS, dIns, dExtend, dClear, dReverse, dPop, oIx, oI, oIC, oAddU, oSubI, oMulU, oMulI, oFd, oMd, oPw, oLt, oLe, oGt, oGe, oEq, oNe, getF, setF, Cl.d, getS, setS, purF_nil, purF_cons, purH, allF_nil, allF_cons, allH, rho0, endsOf, scalD, bLen, bAbs, bInt, bIntU, bTup, true_and, and_true, Option.some.injEq, exists_eq_left', decide_eq_true_eq, Bool.not_eq_true', decide_eq_false_iff_not, it_eQ0, it_eQ1, it_eP0, it_eP1, it_eS0, it_eS1, fits_eQ, fits_eP, fits_eS, eqv_eQ, eqv_eP, eqv_eS, eqv_int, eqv_bool, shp_int, shp_bool, shp_none, shp_eQ, shp_eP, shp_eS, dCont, dBreak, dXi, dSetG, dAppG, oIsB, oNotB, dTx, pJoin, pSplit, pPart, pStarts, bStr, bIntS, dFmt, dJs, ↓reduceIte, nsp_none, nsp_bool, nsp_int, nsp_str, nsp_list, nsp_tuple, nsp_eQ, nsp_eP, nsp_eS, dat_pu, dat_ow, seqD_l, seqD_t, not_true_eq_false, Bool.true_eq_false, Bool.not_not, List.length_cons, List.length_nil, mkP, mkS, fits_list, fits_tuple, isIntD, isBoolD, isListD, isStrD, isTupD, Bool.not_true, Bool.not_false, Bool.false_eq_true, it_l0, it_l1, it_l2, it_t0, it_t1, it_t2, shp_ps, shp_pt, shp_ss, shp_is, seqD_eQ, seqD_eP, seqD_eS, walkD_eP, walkD_eS, walkD_l, walkD_t]
    refine ⟨_, rfl, rfl, by rw [SX.S_len]; omega, ?_⟩
    rw [e32, SX.split_S (by simp) (by decide), List.map_map, hW]
    exact hQ
  · rintro k d ρ' hk ⟨ps, s, t, u, hps, hlen, rfl⟩
    obtain ⟨v, hv, rfl⟩ := map_get hk
    have vm : v ∈ W := List.mem_of_getElem? hv
    have ov := oW v vm
    have sv := spl_len 44 v []
    obtain ⟨pt1, pt2⟩ := ptIn_split v
    show dSeq _ _ _ [.pu (.str (S w)), .ow (ps.map eP), .pu (.str (S v)), t, u]
    refine seq_cut (fun ρ => ρ = [.pu (.str (S w)), .ow (ps.map eP), .pu (.str (S v)), .pu (.list ((TL.spl [44] 0 [] v).map eW)), u]) (fun E _ hE => ?_) ?_
    · simp only [dTx, pSplit, dRet, dRetF, dSetX, dCallX, dRetX, noOw, dTry, dCpy, dRaise, dRetO, dSetP, dSetS, dSetF, dSeq, dIf, dNext, dCall, dCallF, dB, dBin, dCons, dNil, dTup, dLst, dV, dC, dTV, onB, dTAnd, dTOr, dTNot, dAnd, dOr, dNot, dIfE, dIsN, dNotN, isN, dSl, dSlF, dNoPart, dPart, dPar, dParS, dAsg, dgN, dgT, dgCons, dgNil, dFE, dIsi, dListF, dNeg, dRev, dFrz, dApp, dAppS, dIns, dExtend, dClear, dReverse, dPop, oIx, oI, oIC, oAddU, oSubI, oMulU, oMulI, oFd, oMd, oPw, oLt, oLe, oGt, oGe, oEq, oNe, getF, setF, Cl.d, getS, setS, purF_nil, purF_cons, purH, allF_nil, allF_cons, allH, rho0, endsOf, scalD, bLen, bAbs, bInt, bIntU, bTup, true_and, and_true, Option.some.injEq, exists_eq_left', decide_eq_true_eq, Bool.not_eq_true', decide_eq_false_iff_not, it_eQ0, it_eQ1, it_eP0, it_eP1, it_eS0, it_eS1, fits_eQ, fits_eP, fits_eS, eqv_eQ, eqv_eP, eqv_eS, eqv_int, eqv_bool, shp_int, shp_bool, shp_none, shp_eQ, shp_eP, shp_eS, dCont, dBreak, dXi, dSetG, dAppG, oIsB, oNotB, dTx, pJoin, pSplit, pPart, pStarts, bStr, bIntS, dFmt, dJs, ↓reduceIte, nsp_none, nsp_bool, nsp_int, nsp_str, nsp_list, nsp_tuple, nsp_eQ, nsp_eP, nsp_eS, dat_pu, dat_ow, seqD_l, seqD_t, not_true_eq_false, Bool.true_eq_false, Bool.not_not, List.length_cons, List.length_nil, mkP, mkS, fits_list, fits_tuple, isIntD, isBoolD, isListD, isStrD, isTupD, Bool.not_true, Bool.not_false, Bool.false_eq_true, it_l0, it_l1, it_l2, it_t0, it_t1, it_t2, shp_ps, shp_pt, shp_ss, shp_is, seqD_eQ, seqD_eP, seqD_eS, walkD_eP, walkD_eS, walkD_l, walkD_t]
      refine ⟨_, rfl, rfl, by rw [SX.S_len]; have := ov.1; omega, ?_⟩
      rw [e44, SX.split_S (by simp) (by decide), List.map_map]
      exact hE _ rfl
    rintro _ rfl
    refine seq_cut (fun ρ => ∃ a b : List Nat, TL.spl [44] 0 [] v = [a, b] ∧ OkW a ∧ OkW b ∧ ρ = [.pu (.str (S w)), .ow (ps.map eP), .pu (.str (S v)), .pu (.list ([a, b].map eW)), u]) (fun E hr hE => ?_) ?_
    · simp only [List.length_map, dRet, dRetF, dSetX, dCallX, dRetX, noOw, dTry, dCpy, dRaise, dRetO, dSetP, dSetS, dSetF, dSeq, dIf, dNext, dCall, dCallF, dB, dBin, dCons, dNil, dTup, dLst, dV, dC, dTV, onB, dTAnd, dTOr, dTNot, dAnd, dOr, dNot, dIfE, dIsN, dNotN, isN, dSl, dSlF, dNoPart, dPart, dPar, dParS, dAsg, dgN, dgT, dgCons, dgNil, dFE, dIsi, dListF, dNeg, dRev, dFrz, dApp, dAppS, dIns, dExtend, dClear, dReverse, dPop, oIx, oI, oIC, oAddU, oSubI, oMulU, oMulI, oFd, oMd, oPw, oLt, oLe, oGt, oGe, oEq, oNe, getF, setF, Cl.d, getS, setS, purF_nil, purF_cons, purH, allF_nil, allF_cons, allH, rho0, endsOf, scalD, bLen, bAbs, bInt, bIntU, bTup, true_and, and_true, Option.some.injEq, exists_eq_left', decide_eq_true_eq, Bool.not_eq_true', decide_eq_false_iff_not, it_eQ0, it_eQ1, it_eP0, it_eP1, it_eS0, it_eS1, fits_eQ, fits_eP, fits_eS, eqv_eQ, eqv_eP, eqv_eS, eqv_int, eqv_bool, shp_int, shp_bool, shp_none, shp_eQ, shp_eP, shp_eS, dCont, dBreak, dXi, dSetG, dAppG, oIsB, oNotB, dTx, pJoin, pSplit, pPart, pStarts, bStr, bIntS, dFmt, dJs, ↓reduceIte, nsp_none, nsp_bool, nsp_int, nsp_str, nsp_list, nsp_tuple, nsp_eQ, nsp_eP, nsp_eS, dat_pu, dat_ow, seqD_l, seqD_t, not_true_eq_false, Bool.true_eq_false, Bool.not_not, List.length_cons, List.length_nil, mkP, mkS, fits_list, fits_tuple, isIntD, isBoolD, isListD, isStrD, isTupD, Bool.not_true, Bool.not_false, Bool.false_eq_true, it_l0, it_l1, it_l2, it_t0, it_t1, it_t2, shp_ps, shp_pt, shp_ss, shp_is, seqD_eQ, seqD_eP, seqD_eS, walkD_eP, walkD_eS, walkD_l, walkD_t]
      by_cases c : (TL.spl [44] 0 [] v).length = 2
      · refine ite_no (by omega) ?_
        obtain ⟨a, b, e⟩ : ∃ a b, TL.spl [44] 0 [] v = [a, b] := by
          match TL.spl [44] 0 [] v, c with
          | [a, b], _ => exact ⟨a, b, rfl⟩
        have oo : ∀ x ∈ TL.spl [44] 0 [] v, OkW x := fun x hx => by
          obtain ⟨i1, i2⟩ := spl_sub 44 v [] x hx
          exact ov.sub (by simpa using i1) (fun c hc => by rcases i2 c hc with z | z; cases z; exact z)
        rw [e] at oo
        rw [e]
        exact hE _ ⟨a, b, e, oo a (by simp), oo b (by simp), rfl⟩
      · refine ite_yes (by omega) ?_
        rw [hr]
        refine bad ?_
        rw [← pt2 c]
        exact List.mem_map_of_mem vm
    rintro _ ⟨a, b, e, oa, ob, rfl⟩
    have pe := pt1 a b e
    refine seq_cut (fun ρ => ρ = [.pu (.str (S w)), .ow (ps.map eP), .pu (.str (S v)), .pu (.list ([a, b].map eW)), .pu (.tuple [oQ (numQ a), oQ (numQ b)])]) (fun E _ hE => ?_) ?_
    · simp only [dRet, dRetF, dSetX, dCallX, dRetX, noOw, dTry, dCpy, dRaise, dRetO, dSetP, dSetS, dSetF, dSeq, dIf, dNext, dCall, dCallF, dB, dBin, dCons, dNil, dTup, dLst, dV, dC, dTV, onB, dTAnd, dTOr, dTNot, dAnd, dOr, dNot, dIfE, dIsN, dNotN, isN, dSl, dSlF, dNoPart, dPart, dPar, dParS, dAsg, dgN, dgT, dgCons, dgNil, dFE, dIsi, dListF, dNeg, dRev, dFrz, dApp, dAppS, dIns, dExtend, dClear, dReverse, dPop, oIx, oI, oIC, oAddU, oSubI, oMulU, oMulI, oFd, oMd, oPw, oLt, oLe, oGt, oGe, oEq, oNe, getF, setF, Cl.d, getS, setS, purF_nil, purF_cons, purH, allF_nil, allF_cons, allH, rho0, endsOf, scalD, bLen, bAbs, bInt, bIntU, bTup, true_and, and_true, Option.some.injEq, exists_eq_left', decide_eq_true_eq, Bool.not_eq_true', decide_eq_false_iff_not, it_eQ0, it_eQ1, it_eP0, it_eP1, it_eS0, it_eS1, fits_eQ, fits_eP, fits_eS, eqv_eQ, eqv_eP, eqv_eS, eqv_int, eqv_bool, shp_int, shp_bool, shp_none, shp_eQ, shp_eP, shp_eS, dCont, dBreak, dXi, dSetG, dAppG, oIsB, oNotB, dTx, pJoin, pSplit, pPart, pStarts, bStr, bIntS, dFmt, dJs, ↓reduceIte, nsp_none, nsp_bool, nsp_int, nsp_str, nsp_list, nsp_tuple, nsp_eQ, nsp_eP, nsp_eS, dat_pu, dat_ow, seqD_l, seqD_t, not_true_eq_false, Bool.true_eq_false, Bool.not_not, List.length_cons, List.length_nil, mkP, mkS, fits_list, fits_tuple, isIntD, isBoolD, isListD, isStrD, isTupD, Bool.not_true, Bool.not_false, Bool.false_eq_true, it_l0, it_l1, it_l2, it_t0, it_t1, it_t2, shp_ps, shp_pt, shp_ss, shp_is, seqD_eQ, seqD_eP, seqD_eS, walkD_eP, walkD_eS, walkD_l, walkD_t]
      refine ⟨_, rfl, a, rfl, oa, ?_⟩
      simp only [dRet, dRetF, dSetX, dCallX, dRetX, noOw, dTry, dCpy, dRaise, dRetO, dSetP, dSetS, dSetF, dSeq, dIf, dNext, dCall, dCallF, dB, dBin, dCons, dNil, dTup, dLst, dV, dC, dTV, onB, dTAnd, dTOr, dTNot, dAnd, dOr, dNot, dIfE, dIsN, dNotN, isN, dSl, dSlF, dNoPart, dPart, dPar, dParS, dAsg, dgN, dgT, dgCons, dgNil, dFE, dIsi, dListF, dNeg, dRev, dFrz, dApp, dAppS, dIns, dExtend, dClear, dReverse, dPop, oIx, oI, oIC, oAddU, oSubI, oMulU, oMulI, oFd, oMd, oPw, oLt, oLe, oGt, oGe, oEq, oNe, getF, setF, Cl.d, getS, setS, purF_nil, purF_cons, purH, allF_nil, allF_cons, allH, rho0, endsOf, scalD, bLen, bAbs, bInt, bIntU, bTup, true_and, and_true, Option.some.injEq, exists_eq_left', decide_eq_true_eq, Bool.not_eq_true', decide_eq_false_iff_not, it_eQ0, it_eQ1, it_eP0, it_eP1, it_eS0, it_eS1, fits_eQ, fits_eP, fits_eS, eqv_eQ, eqv_eP, eqv_eS, eqv_int, eqv_bool, shp_int, shp_bool, shp_none, shp_eQ, shp_eP, shp_eS, dCont, dBreak, dXi, dSetG, dAppG, oIsB, oNotB, dTx, pJoin, pSplit, pPart, pStarts, bStr, bIntS, dFmt, dJs, ↓reduceIte, nsp_none, nsp_bool, nsp_int, nsp_str, nsp_list, nsp_tuple, nsp_eQ, nsp_eP, nsp_eS, dat_pu, dat_ow, seqD_l, seqD_t, not_true_eq_false, Bool.true_eq_false, Bool.not_not, List.length_cons, List.length_nil, mkP, mkS, fits_list, fits_tuple, isIntD, isBoolD, isListD, isStrD, isTupD, Bool.not_true, Bool.not_false, Bool.false_eq_true, it_l0, it_l1, it_l2, it_t0, it_t1, it_t2, shp_ps, shp_pt, shp_ss, shp_is, seqD_eQ, seqD_eP, seqD_eS, walkD_eP, walkD_eS, walkD_l, walkD_t]
      refine ⟨_, rfl, b, rfl, ob, ?_⟩
      simp only [dRet, dRetF, dSetX, dCallX, dRetX, noOw, dTry, dCpy, dRaise, dRetO, dSetP, dSetS, dSetF, dSeq, dIf, dNext, dCall, dCallF, dB, dBin, dCons, dNil, dTup, dLst, dV, dC, dTV, onB, dTAnd, dTOr, dTNot, dAnd, dOr, dNot, dIfE, dIsN, dNotN, isN, dSl, dSlF, dNoPart, dPart, dPar, dParS, dAsg, dgN, dgT, dgCons, dgNil, dFE, dIsi, dListF, dNeg, dRev, dFrz, dApp, dAppS, dIns, dExtend, dClear, dReverse, dPop, oIx, oI, oIC, oAddU, oSubI, oMulU, oMulI, oFd, oMd, oPw, oLt, oLe, oGt, oGe, oEq, oNe, getF, setF, Cl.d, getS, setS, purF_nil, purF_cons, purH, allF_nil, allF_cons, allH, rho0, endsOf, scalD, bLen, bAbs, bInt, bIntU, bTup, true_and, and_true, Option.some.injEq, exists_eq_left', decide_eq_true_eq, Bool.not_eq_true', decide_eq_false_iff_not, it_eQ0, it_eQ1, it_eP0, it_eP1, it_eS0, it_eS1, fits_eQ, fits_eP, fits_eS, eqv_eQ, eqv_eP, eqv_eS, eqv_int, eqv_bool, shp_int, shp_bool, shp_none, shp_eQ, shp_eP, shp_eS, dCont, dBreak, dXi, dSetG, dAppG, oIsB, oNotB, dTx, pJoin, pSplit, pPart, pStarts, bStr, bIntS, dFmt, dJs, ↓reduceIte, nsp_none, nsp_bool, nsp_int, nsp_str, nsp_list, nsp_tuple, nsp_eQ, nsp_eP, nsp_eS, dat_pu, dat_ow, seqD_l, seqD_t, not_true_eq_false, Bool.true_eq_false, Bool.not_not, List.length_cons, List.length_nil, mkP, mkS, fits_list, fits_tuple, isIntD, isBoolD, isListD, isStrD, isTupD, Bool.not_true, Bool.not_false, Bool.false_eq_true, it_l0, it_l1, it_l2, it_t0, it_t1, it_t2, shp_ps, shp_pt, shp_ss, shp_is, seqD_eQ, seqD_eP, seqD_eS, walkD_eP, walkD_eS, walkD_l, walkD_t]
      exact hE _ rfl
    rintro _ rfl
    have sh : SeqAt.shaped (.tuple [oQ (numQ a), oQ (numQ b)]) = true := (sh_tuple (n := 1) fun d hd => by
      simp only [List.mem_cons, List.not_mem_nil, or_false] at hd
      rcases hd with rfl | rfl <;> exact sh_oQ _).shaped (by decide)
    have nn : ptIn v = none → Φ (.pu .none) := fun z => bad (by rw [← z]; exact List.mem_map_of_mem vm)
    refine seq_cut (fun ρ => ∃ x y : Rat, ptIn v = some (x, y) ∧ ρ = [.pu (.str (S w)), .ow (ps.map eP), .pu (.str (S v)), .pu (.list ([a, b].map eW)), .pu (eP (x, y))]) (fun E hr hE => ?_) ?_
    · simp only [oIn, sh, shp_none, List.any_cons, List.any_nil, eqv_oQ, dRet, dRetF, dSetX, dCallX, dRetX, noOw, dTry, dCpy, dRaise, dRetO, dSetP, dSetS, dSetF, dSeq, dIf, dNext, dCall, dCallF, dB, dBin, dCons, dNil, dTup, dLst, dV, dC, dTV, onB, dTAnd, dTOr, dTNot, dAnd, dOr, dNot, dIfE, dIsN, dNotN, isN, dSl, dSlF, dNoPart, dPart, dPar, dParS, dAsg, dgN, dgT, dgCons, dgNil, dFE, dIsi, dListF, dNeg, dRev, dFrz, dApp, dAppS, dIns, dExtend, dClear, dReverse, dPop, oIx, oI, oIC, oAddU, oSubI, oMulU, oMulI, oFd, oMd, oPw, oLt, oLe, oGt, oGe, oEq, oNe, getF, setF, Cl.d, getS, setS, purF_nil, purF_cons, purH, allF_nil, allF_cons, allH, rho0, endsOf, scalD, bLen, bAbs, bInt, bIntU, bTup, true_and, and_true, Option.some.injEq, exists_eq_left', decide_eq_true_eq, Bool.not_eq_true', decide_eq_false_iff_not, it_eQ0, it_eQ1, it_eP0, it_eP1, it_eS0, it_eS1, fits_eQ, fits_eP, fits_eS, eqv_eQ, eqv_eP, eqv_eS, eqv_int, eqv_bool, shp_int, shp_bool, shp_none, shp_eQ, shp_eP, shp_eS, dCont, dBreak, dXi, dSetG, dAppG, oIsB, oNotB, dTx, pJoin, pSplit, pPart, pStarts, bStr, bIntS, dFmt, dJs, ↓reduceIte, nsp_none, nsp_bool, nsp_int, nsp_str, nsp_list, nsp_tuple, nsp_eQ, nsp_eP, nsp_eS, dat_pu, dat_ow, seqD_l, seqD_t, not_true_eq_false, Bool.true_eq_false, Bool.not_not, List.length_cons, List.length_nil, mkP, mkS, fits_list, fits_tuple, isIntD, isBoolD, isListD, isStrD, isTupD, Bool.not_true, Bool.not_false, Bool.false_eq_true, it_l0, it_l1, it_l2, it_t0, it_t1, it_t2, shp_ps, shp_pt, shp_ss, shp_is, seqD_eQ, seqD_eP, seqD_eS, walkD_eP, walkD_eS, walkD_l, walkD_t]
      cases q1 : numQ a with
      | none =>
        simp only [Option.isNone, dRet, dRetF, dSetX, dCallX, dRetX, noOw, dTry, dCpy, dRaise, dRetO, dSetP, dSetS, dSetF, dSeq, dIf, dNext, dCall, dCallF, dB, dBin, dCons, dNil, dTup, dLst, dV, dC, dTV, onB, dTAnd, dTOr, dTNot, dAnd, dOr, dNot, dIfE, dIsN, dNotN, isN, dSl, dSlF, dNoPart, dPart, dPar, dParS, dAsg, dgN, dgT, dgCons, dgNil, dFE, dIsi, dListF, dNeg, dRev, dFrz, dApp, dAppS, dIns, dExtend, dClear, dReverse, dPop, oIx, oI, oIC, oAddU, oSubI, oMulU, oMulI, oFd, oMd, oPw, oLt, oLe, oGt, oGe, oEq, oNe, getF, setF, Cl.d, getS, setS, purF_nil, purF_cons, purH, allF_nil, allF_cons, allH, rho0, endsOf, scalD, bLen, bAbs, bInt, bIntU, bTup, true_and, and_true, Option.some.injEq, exists_eq_left', decide_eq_true_eq, Bool.not_eq_true', decide_eq_false_iff_not, it_eQ0, it_eQ1, it_eP0, it_eP1, it_eS0, it_eS1, fits_eQ, fits_eP, fits_eS, eqv_eQ, eqv_eP, eqv_eS, eqv_int, eqv_bool, shp_int, shp_bool, shp_none, shp_eQ, shp_eP, shp_eS, dCont, dBreak, dXi, dSetG, dAppG, oIsB, oNotB, dTx, pJoin, pSplit, pPart, pStarts, bStr, bIntS, dFmt, dJs, ↓reduceIte, nsp_none, nsp_bool, nsp_int, nsp_str, nsp_list, nsp_tuple, nsp_eQ, nsp_eP, nsp_eS, dat_pu, dat_ow, seqD_l, seqD_t, not_true_eq_false, Bool.true_eq_false, Bool.not_not, List.length_cons, List.length_nil, mkP, mkS, fits_list, fits_tuple, isIntD, isBoolD, isListD, isStrD, isTupD, Bool.not_true, Bool.not_false, Bool.false_eq_true, it_l0, it_l1, it_l2, it_t0, it_t1, it_t2, shp_ps, shp_pt, shp_ss, shp_is, seqD_eQ, seqD_eP, seqD_eS, walkD_eP, walkD_eS, walkD_l, walkD_t]
        rw [hr]
        exact nn (by rw [pe, q1])
      | some x =>
        cases q2 : numQ b with
        | none =>
          simp only [Option.isNone, dRet, dRetF, dSetX, dCallX, dRetX, noOw, dTry, dCpy, dRaise, dRetO, dSetP, dSetS, dSetF, dSeq, dIf, dNext, dCall, dCallF, dB, dBin, dCons, dNil, dTup, dLst, dV, dC, dTV, onB, dTAnd, dTOr, dTNot, dAnd, dOr, dNot, dIfE, dIsN, dNotN, isN, dSl, dSlF, dNoPart, dPart, dPar, dParS, dAsg, dgN, dgT, dgCons, dgNil, dFE, dIsi, dListF, dNeg, dRev, dFrz, dApp, dAppS, dIns, dExtend, dClear, dReverse, dPop, oIx, oI, oIC, oAddU, oSubI, oMulU, oMulI, oFd, oMd, oPw, oLt, oLe, oGt, oGe, oEq, oNe, getF, setF, Cl.d, getS, setS, purF_nil, purF_cons, purH, allF_nil, allF_cons, allH, rho0, endsOf, scalD, bLen, bAbs, bInt, bIntU, bTup, true_and, and_true, Option.some.injEq, exists_eq_left', decide_eq_true_eq, Bool.not_eq_true', decide_eq_false_iff_not, it_eQ0, it_eQ1, it_eP0, it_eP1, it_eS0, it_eS1, fits_eQ, fits_eP, fits_eS, eqv_eQ, eqv_eP, eqv_eS, eqv_int, eqv_bool, shp_int, shp_bool, shp_none, shp_eQ, shp_eP, shp_eS, dCont, dBreak, dXi, dSetG, dAppG, oIsB, oNotB, dTx, pJoin, pSplit, pPart, pStarts, bStr, bIntS, dFmt, dJs, ↓reduceIte, nsp_none, nsp_bool, nsp_int, nsp_str, nsp_list, nsp_tuple, nsp_eQ, nsp_eP, nsp_eS, dat_pu, dat_ow, seqD_l, seqD_t, not_true_eq_false, Bool.true_eq_false, Bool.not_not, List.length_cons, List.length_nil, mkP, mkS, fits_list, fits_tuple, isIntD, isBoolD, isListD, isStrD, isTupD, Bool.not_true, Bool.not_false, Bool.false_eq_true, it_l0, it_l1, it_l2, it_t0, it_t1, it_t2, shp_ps, shp_pt, shp_ss, shp_is, seqD_eQ, seqD_eP, seqD_eS, walkD_eP, walkD_eS, walkD_l, walkD_t]
          rw [hr]
          exact nn (by rw [pe, q1, q2])
        | some y =>
          simp only [Option.isNone, dRet, dRetF, dSetX, dCallX, dRetX, noOw, dTry, dCpy, dRaise, dRetO, dSetP, dSetS, dSetF, dSeq, dIf, dNext, dCall, dCallF, dB, dBin, dCons, dNil, dTup, dLst, dV, dC, dTV, onB, dTAnd, dTOr, dTNot, dAnd, dOr, dNot, dIfE, dIsN, dNotN, isN, dSl, dSlF, dNoPart, dPart, dPar, dParS, dAsg, dgN, dgT, dgCons, dgNil, dFE, dIsi, dListF, dNeg, dRev, dFrz, dApp, dAppS, dIns, dExtend, dClear, dReverse, dPop, oIx, oI, oIC, oAddU, oSubI, oMulU, oMulI, oFd, oMd, oPw, oLt, oLe, oGt, oGe, oEq, oNe, getF, setF, Cl.d, getS, setS, purF_nil, purF_cons, purH, allF_nil, allF_cons, allH, rho0, endsOf, scalD, bLen, bAbs, bInt, bIntU, bTup, true_and, and_true, Option.some.injEq, exists_eq_left', decide_eq_true_eq, Bool.not_eq_true', decide_eq_false_iff_not, it_eQ0, it_eQ1, it_eP0, it_eP1, it_eS0, it_eS1, fits_eQ, fits_eP, fits_eS, eqv_eQ, eqv_eP, eqv_eS, eqv_int, eqv_bool, shp_int, shp_bool, shp_none, shp_eQ, shp_eP, shp_eS, dCont, dBreak, dXi, dSetG, dAppG, oIsB, oNotB, dTx, pJoin, pSplit, pPart, pStarts, bStr, bIntS, dFmt, dJs, ↓reduceIte, nsp_none, nsp_bool, nsp_int, nsp_str, nsp_list, nsp_tuple, nsp_eQ, nsp_eP, nsp_eS, dat_pu, dat_ow, seqD_l, seqD_t, not_true_eq_false, Bool.true_eq_false, Bool.not_not, List.length_cons, List.length_nil, mkP, mkS, fits_list, fits_tuple, isIntD, isBoolD, isListD, isStrD, isTupD, Bool.not_true, Bool.not_false, Bool.false_eq_true, it_l0, it_l1, it_l2, it_t0, it_t1, it_t2, shp_ps, shp_pt, shp_ss, shp_is, seqD_eQ, seqD_eP, seqD_eS, walkD_eP, walkD_eS, walkD_l, walkD_t]
          exact hE _ ⟨x, y, by rw [pe, q1, q2], rfl⟩
    rintro _ ⟨x, y, ev, rfl⟩
    simp only [dRet, dRetF, dSetX, dCallX, dRetX, noOw, dTry, dCpy, dRaise, dRetO, dSetP, dSetS, dSetF, dSeq, dIf, dNext, dCall, dCallF, dB, dBin, dCons, dNil, dTup, dLst, dV, dC, dTV, onB, dTAnd, dTOr, dTNot, dAnd, dOr, dNot, dIfE, dIsN, dNotN, isN, dSl, dSlF, dNoPart, dPart, dPar, dParS, dAsg, dgN, dgT, dgCons, dgNil, dFE, dIsi, dListF, dNeg, dRev, dFrz, dApp, dAppS, dIns, dExtend, dClear, dReverse, dPop, oIx, oI, oIC, oAddU, oSubI, oMulU, oMulI, oFd, oMd, oPw, oLt, oLe, oGt, oGe, oEq, oNe, getF, setF, Cl.d, getS, setS, purF_nil, purF_cons, purH, allF_nil, allF_cons, allH, rho0, endsOf, scalD, bLen, bAbs, bInt, bIntU, bTup, true_and, and_true, Option.some.injEq, exists_eq_left', decide_eq_true_eq, Bool.not_eq_true', decide_eq_false_iff_not, it_eQ0, it_eQ1, it_eP0, it_eP1, it_eS0, it_eS1, fits_eQ, fits_eP, fits_eS, eqv_eQ, eqv_eP, eqv_eS, eqv_int, eqv_bool, shp_int, shp_bool, shp_none, shp_eQ, shp_eP, shp_eS, dCont, dBreak, dXi, dSetG, dAppG, oIsB, oNotB, dTx, pJoin, pSplit, pPart, pStarts, bStr, bIntS, dFmt, dJs, ↓reduceIte, nsp_none, nsp_bool, nsp_int, nsp_str, nsp_list, nsp_tuple, nsp_eQ, nsp_eP, nsp_eS, dat_pu, dat_ow, seqD_l, seqD_t, not_true_eq_false, Bool.true_eq_false, Bool.not_not, List.length_cons, List.length_nil, mkP, mkS, fits_list, fits_tuple, isIntD, isBoolD, isListD, isStrD, isTupD, Bool.not_true, Bool.not_false, Bool.false_eq_true, it_l0, it_l1, it_l2, it_t0, it_t1, it_t2, shp_ps, shp_pt, shp_ss, shp_is, seqD_eQ, seqD_eP, seqD_eS, walkD_eP, walkD_eS, walkD_l, walkD_t]
    have tk : W.take (k + 1) = W.take k ++ [v] := by rw [List.take_add_one, hv]; rfl
    have hk2 : k < W.length := by
      have := List.getElem?_eq_some_iff.mp hv
      exact this.1
    refine ⟨by rw [List.length_map]; omega, ps ++ [(x, y)], _, _, _, ?_, by rw [List.length_append, hlen]; rfl, by rw [List.map_append]; rfl⟩
    rw [tk, List.map_append, hps, List.map_append, List.map_cons, List.map_nil, ev]
    rfl
  · rintro ρ' ⟨ps, s, t, u, hps, hlen, rfl⟩
    rw [List.length_map] at hps hlen
    rw [List.take_length] at hps
    refine seq_cut (fun ρ => W.length ≤ 24 ∧ ρ = [.pu (.str (S w)), .ow (ps.map eP), s, t, u]) (fun E hr hE => ?_) ?_
    · simp only [List.length_map, hlen, dRet, dRetF, dSetX, dCallX, dRetX, noOw, dTry, dCpy, dRaise, dRetO, dSetP, dSetS, dSetF, dSeq, dIf, dNext, dCall, dCallF, dB, dBin, dCons, dNil, dTup, dLst, dV, dC, dTV, onB, dTAnd, dTOr, dTNot, dAnd, dOr, dNot, dIfE, dIsN, dNotN, isN, dSl, dSlF, dNoPart, dPart, dPar, dParS, dAsg, dgN, dgT, dgCons, dgNil, dFE, dIsi, dListF, dNeg, dRev, dFrz, dApp, dAppS, dIns, dExtend, dClear, dReverse, dPop, oIx, oI, oIC, oAddU, oSubI, oMulU, oMulI, oFd, oMd, oPw, oLt, oLe, oGt, oGe, oEq, oNe, getF, setF, Cl.d, getS, setS, purF_nil, purF_cons, purH, allF_nil, allF_cons, allH, rho0, endsOf, scalD, bLen, bAbs, bInt, bIntU, bTup, true_and, and_true, Option.some.injEq, exists_eq_left', decide_eq_true_eq, Bool.not_eq_true', decide_eq_false_iff_not, it_eQ0, it_eQ1, it_eP0, it_eP1, it_eS0, it_eS1, fits_eQ, fits_eP, fits_eS, eqv_eQ, eqv_eP, eqv_eS, eqv_int, eqv_bool, shp_int, shp_bool, shp_none, shp_eQ, shp_eP, shp_eS, dCont, dBreak, dXi, dSetG, dAppG, oIsB, oNotB, dTx, pJoin, pSplit, pPart, pStarts, bStr, bIntS, dFmt, dJs, ↓reduceIte, nsp_none, nsp_bool, nsp_int, nsp_str, nsp_list, nsp_tuple, nsp_eQ, nsp_eP, nsp_eS, dat_pu, dat_ow, seqD_l, seqD_t, not_true_eq_false, Bool.true_eq_false, Bool.not_not, List.length_cons, List.length_nil, mkP, mkS, fits_list, fits_tuple, isIntD, isBoolD, isListD, isStrD, isTupD, Bool.not_true, Bool.not_false, Bool.false_eq_true, it_l0, it_l1, it_l2, it_t0, it_t1, it_t2, shp_ps, shp_pt, shp_ss, shp_is, seqD_eQ, seqD_eP, seqD_eS, walkD_eP, walkD_eS, walkD_l, walkD_t]
      by_cases c : W.length ≤ 24
      · refine ite_no (by omega) ?_
        exact hE _ ⟨c, rfl⟩
      · refine ite_yes (by omega) ?_
        rw [hr]
        rw [if_neg c] at h
        exact h
    rintro _ ⟨c, rfl⟩
    rw [if_pos c, allS_some hps] at h
    simp only [dRet, dRetF, dSetX, dCallX, dRetX, noOw, dTry, dCpy, dRaise, dRetO, dSetP, dSetS, dSetF, dSeq, dIf, dNext, dCall, dCallF, dB, dBin, dCons, dNil, dTup, dLst, dV, dC, dTV, onB, dTAnd, dTOr, dTNot, dAnd, dOr, dNot, dIfE, dIsN, dNotN, isN, dSl, dSlF, dNoPart, dPart, dPar, dParS, dAsg, dgN, dgT, dgCons, dgNil, dFE, dIsi, dListF, dNeg, dRev, dFrz, dApp, dAppS, dIns, dExtend, dClear, dReverse, dPop, oIx, oI, oIC, oAddU, oSubI, oMulU, oMulI, oFd, oMd, oPw, oLt, oLe, oGt, oGe, oEq, oNe, getF, setF, Cl.d, getS, setS, purF_nil, purF_cons, purH, allF_nil, allF_cons, allH, rho0, endsOf, scalD, bLen, bAbs, bInt, bIntU, bTup, true_and, and_true, Option.some.injEq, exists_eq_left', decide_eq_true_eq, Bool.not_eq_true', decide_eq_false_iff_not, it_eQ0, it_eQ1, it_eP0, it_eP1, it_eS0, it_eS1, fits_eQ, fits_eP, fits_eS, eqv_eQ, eqv_eP, eqv_eS, eqv_int, eqv_bool, shp_int, shp_bool, shp_none, shp_eQ, shp_eP, shp_eS, dCont, dBreak, dXi, dSetG, dAppG, oIsB, oNotB, dTx, pJoin, pSplit, pPart, pStarts, bStr, bIntS, dFmt, dJs, ↓reduceIte, nsp_none, nsp_bool, nsp_int, nsp_str, nsp_list, nsp_tuple, nsp_eQ, nsp_eP, nsp_eS, dat_pu, dat_ow, seqD_l, seqD_t, not_true_eq_false, Bool.true_eq_false, Bool.not_not, List.length_cons, List.length_nil, mkP, mkS, fits_list, fits_tuple, isIntD, isBoolD, isListD, isStrD, isTupD, Bool.not_true, Bool.not_false, Bool.false_eq_true, it_l0, it_l1, it_l2, it_t0, it_t1, it_t2, shp_ps, shp_pt, shp_ss, shp_is, seqD_eQ, seqD_eP, seqD_eS, walkD_eP, walkD_eS, walkD_l, walkD_t]
    exact h
theorem eqv_ring (r : List Pt) : PyData.eqv (.tuple (r.map eP)) (.tuple (r.map eP)) = true := by rw [eqv_tuple eqv_eP]; exact decide_eq_true rfl
theorem shp_ring (r : List Pt) : SeqAt.shaped (.tuple (r.map eP)) = true := (sh_tuple (sh_map sh_eP r)).shaped (by decide)
def ODD : List Dt := [.none, .int 7, .bool true, .list [.str "0,0"], .tuple [.tuple [.tuple [.int 0, .int 1], .tuple [.int 0, .int 1]]], .dict []]
theorem odd_ok : ∀ d ∈ ODD, okD d ∧ readD d = none := fun d hd => by
  simp only [ODD, List.mem_cons, List.not_mem_nil, or_false] at hd
  have i7 : ∀ k : Int, k.natAbs < 2 ^ 4 → k.natAbs < 2 ^ 8000 := fun k h => Nat.lt_of_lt_of_le h (Nat.pow_le_pow_right (by decide) (by decide))
  rcases hd with rfl | rfl | rfl | rfl | rfl | rfl
  · exact ⟨by simp [okD], rfl⟩
  · exact ⟨by simp only [okD]; exact i7 7 (by decide), rfl⟩
  · exact ⟨by simp [okD], rfl⟩
  · refine ⟨?_, rfl⟩
    have o := (OkW.ok (w := [48, 44, 48]) ⟨by decide, by decide⟩)
    have e : S [48, 44, 48] = ("0,0" : Str) := rfl
    rw [e] at o
    simp only [okD, okAll] at o ⊢
    exact ⟨by simp, o, trivial⟩
  · refine ⟨?_, rfl⟩
    simp only [okD, okAll]
    have a0 := i7 0 (by decide)
    have a1 := i7 1 (by decide)
    exact ⟨by simp, ⟨by simp, ⟨by simp, a0, a1, trivial⟩, ⟨by simp, a0, a1, trivial⟩, trivial⟩, trivial⟩
  · exact ⟨by simp [okD], rfl⟩
theorem rd_law (ds : List Dt) (Φ : Slot → Prop) (Ξ : XD → Prop) (h : sp_law ds Φ Ξ) : d_law (endsOf Φ Ξ) (rho0 N_law ds) := by
  obtain ⟨ns, hl, rfl, h⟩ := h
  have hz : (1000 : Nat) < sizeLine := by decide
  show dSeq _ _ _ [.pu (.list (ns.map .int)), .un, .un, .un, .un]
  refine seq_forA (fun ds => ∃ cs : List Int, ds = cs.map .int) (fun Q hQ => ?_) (fun k ρ => ∃ (x y z u : Slot), ρ = [.pu (.list (ns.map .int)), x, y, z, u]) ⟨_, _, _, _, rfl⟩ ?_ ?_
  · simp only [diSeq, slD, cutD_map, dRet, dRetF, dSetX, dCallX, dRetX, noOw, dTry, dCpy, dRaise, dRetO, dSetP, dSetS, dSetF, dSeq, dIf, dNext, dCall, dCallF, dB, dBin, dCons, dNil, dTup, dLst, dV, dC, dTV, onB, dTAnd, dTOr, dTNot, dAnd, dOr, dNot, dIfE, dIsN, dNotN, isN, dSl, dSlF, dNoPart, dPart, dPar, dParS, dAsg, dgN, dgT, dgCons, dgNil, dFE, dIsi, dListF, dNeg, dRev, dFrz, dApp, dAppS, dIns, dExtend, dClear, dReverse, dPop, oIx, oI, oIC, oAddU, oSubI, oMulU, oMulI, oFd, oMd, oPw, oLt, oLe, oGt, oGe, oEq, oNe, getF, setF, Cl.d, getS, setS, purF_nil, purF_cons, purH, allF_nil, allF_cons, allH, rho0, endsOf, scalD, bLen, bAbs, bInt, bIntU, bTup, true_and, and_true, Option.some.injEq, exists_eq_left', decide_eq_true_eq, Bool.not_eq_true', decide_eq_false_iff_not, it_eQ0, it_eQ1, it_eP0, it_eP1, it_eS0, it_eS1, fits_eQ, fits_eP, fits_eS, eqv_eQ, eqv_eP, eqv_eS, eqv_int, eqv_bool, shp_int, shp_bool, shp_none, shp_eQ, shp_eP, shp_eS, dCont, dBreak, dXi, dSetG, dAppG, oIsB, oNotB, dTx, pJoin, pSplit, pPart, pStarts, bStr, bIntS, dFmt, dJs, ↓reduceIte, nsp_none, nsp_bool, nsp_int, nsp_str, nsp_list, nsp_tuple, nsp_eQ, nsp_eP, nsp_eS, dat_pu, dat_ow, seqD_l, seqD_t, not_true_eq_false, Bool.true_eq_false, Bool.not_not, List.length_cons, List.length_nil, mkP, mkS, fits_list, fits_tuple, isIntD, isBoolD, isListD, isStrD, isTupD, Bool.not_true, Bool.not_false, Bool.false_eq_true, it_l0, it_l1, it_l2, it_t0, it_t1, it_t2, shp_ps, shp_pt, shp_ss, shp_is, seqD_eQ, seqD_eP, seqD_eS, walkD_eP, walkD_eS, walkD_l, walkD_t]
    refine ⟨ns, 0, rfl, hl, by decide, by decide, fun c => ?_⟩
    simp only [dRet, dRetF, dSetX, dCallX, dRetX, noOw, dTry, dCpy, dRaise, dRetO, dSetP, dSetS, dSetF, dSeq, dIf, dNext, dCall, dCallF, dB, dBin, dCons, dNil, dTup, dLst, dV, dC, dTV, onB, dTAnd, dTOr, dTNot, dAnd, dOr, dNot, dIfE, dIsN, dNotN, isN, dSl, dSlF, dNoPart, dPart, dPar, dParS, dAsg, dgN, dgT, dgCons, dgNil, dFE, dIsi, dListF, dNeg, dRev, dFrz, dApp, dAppS, dIns, dExtend, dClear, dReverse, dPop, oIx, oI, oIC, oAddU, oSubI, oMulU, oMulI, oFd, oMd, oPw, oLt, oLe, oGt, oGe, oEq, oNe, getF, setF, Cl.d, getS, setS, purF_nil, purF_cons, purH, allF_nil, allF_cons, allH, rho0, endsOf, scalD, bLen, bAbs, bInt, bIntU, bTup, true_and, and_true, Option.some.injEq, exists_eq_left', decide_eq_true_eq, Bool.not_eq_true', decide_eq_false_iff_not, it_eQ0, it_eQ1, it_eP0, it_eP1, it_eS0, it_eS1, fits_eQ, fits_eP, fits_eS, eqv_eQ, eqv_eP, eqv_eS, eqv_int, eqv_bool, shp_int, shp_bool, shp_none, shp_eQ, shp_eP, shp_eS, dCont, dBreak, dXi, dSetG, dAppG, oIsB, oNotB, dTx, pJoin, pSplit, pPart, pStarts, bStr, bIntS, dFmt, dJs, ↓reduceIte, nsp_none, nsp_bool, nsp_int, nsp_str, nsp_list, nsp_tuple, nsp_eQ, nsp_eP, nsp_eS, dat_pu, dat_ow, seqD_l, seqD_t, not_true_eq_false, Bool.true_eq_false, Bool.not_not, List.length_cons, List.length_nil, mkP, mkS, fits_list, fits_tuple, isIntD, isBoolD, isListD, isStrD, isTupD, Bool.not_true, Bool.not_false, Bool.false_eq_true, it_l0, it_l1, it_l2, it_t0, it_t1, it_t2, shp_ps, shp_pt, shp_ss, shp_is, seqD_eQ, seqD_eP, seqD_eS, walkD_eP, walkD_eS, walkD_l, walkD_t, slD, cutD_map, List.length_map]
    have l2 := cutD_len ns (some 1) (some 21)
    exact ⟨by omega, hQ _ ⟨c :: cutD ns (some 1) (some 21), rfl⟩⟩
  · rintro _ ⟨cs, rfl⟩ k d ρ' hk ⟨x, y, z, u, rfl⟩
    obtain ⟨c, hc, rfl⟩ := map_get hk
    show dSeq _ _ _ [.pu (.list (ns.map .int)), .pu (.int c), y, z, u]
    refine seq_cut (fun ρ => ∃ w, OkW w ∧ ρ = [.pu (.list (ns.map .int)), .pu (.int c), .pu (.str (S w)), z, u]) (fun E _ hE => ?_) ?_
    · simp only [dRet, dRetF, dSetX, dCallX, dRetX, noOw, dTry, dCpy, dRaise, dRetO, dSetP, dSetS, dSetF, dSeq, dIf, dNext, dCall, dCallF, dB, dBin, dCons, dNil, dTup, dLst, dV, dC, dTV, onB, dTAnd, dTOr, dTNot, dAnd, dOr, dNot, dIfE, dIsN, dNotN, isN, dSl, dSlF, dNoPart, dPart, dPar, dParS, dAsg, dgN, dgT, dgCons, dgNil, dFE, dIsi, dListF, dNeg, dRev, dFrz, dApp, dAppS, dIns, dExtend, dClear, dReverse, dPop, oIx, oI, oIC, oAddU, oSubI, oMulU, oMulI, oFd, oMd, oPw, oLt, oLe, oGt, oGe, oEq, oNe, getF, setF, Cl.d, getS, setS, purF_nil, purF_cons, purH, allF_nil, allF_cons, allH, rho0, endsOf, scalD, bLen, bAbs, bInt, bIntU, bTup, true_and, and_true, Option.some.injEq, exists_eq_left', decide_eq_true_eq, Bool.not_eq_true', decide_eq_false_iff_not, it_eQ0, it_eQ1, it_eP0, it_eP1, it_eS0, it_eS1, fits_eQ, fits_eP, fits_eS, eqv_eQ, eqv_eP, eqv_eS, eqv_int, eqv_bool, shp_int, shp_bool, shp_none, shp_eQ, shp_eP, shp_eS, dCont, dBreak, dXi, dSetG, dAppG, oIsB, oNotB, dTx, pJoin, pSplit, pPart, pStarts, bStr, bIntS, dFmt, dJs, ↓reduceIte, nsp_none, nsp_bool, nsp_int, nsp_str, nsp_list, nsp_tuple, nsp_eQ, nsp_eP, nsp_eS, dat_pu, dat_ow, seqD_l, seqD_t, not_true_eq_false, Bool.true_eq_false, Bool.not_not, List.length_cons, List.length_nil, mkP, mkS, fits_list, fits_tuple, isIntD, isBoolD, isListD, isStrD, isTupD, Bool.not_true, Bool.not_false, Bool.false_eq_true, it_l0, it_l1, it_l2, it_t0, it_t1, it_t2, shp_ps, shp_pt, shp_ss, shp_is, seqD_eQ, seqD_eP, seqD_eS, walkD_eP, walkD_eS, walkD_l, walkD_t]
      exact ⟨c, rfl, fun w hw => hE _ ⟨w, hw, rfl⟩⟩
    rintro _ ⟨w, ow, rfl⟩
    refine seq_cut (fun ρ => ρ = [.pu (.list (ns.map .int)), .pu (.int c), .pu (.str (S w)), .pu (oR (readR w)), u]) (fun E _ hE => ?_) ?_
    · simp only [dRet, dRetF, dSetX, dCallX, dRetX, noOw, dTry, dCpy, dRaise, dRetO, dSetP, dSetS, dSetF, dSeq, dIf, dNext, dCall, dCallF, dB, dBin, dCons, dNil, dTup, dLst, dV, dC, dTV, onB, dTAnd, dTOr, dTNot, dAnd, dOr, dNot, dIfE, dIsN, dNotN, isN, dSl, dSlF, dNoPart, dPart, dPar, dParS, dAsg, dgN, dgT, dgCons, dgNil, dFE, dIsi, dListF, dNeg, dRev, dFrz, dApp, dAppS, dIns, dExtend, dClear, dReverse, dPop, oIx, oI, oIC, oAddU, oSubI, oMulU, oMulI, oFd, oMd, oPw, oLt, oLe, oGt, oGe, oEq, oNe, getF, setF, Cl.d, getS, setS, purF_nil, purF_cons, purH, allF_nil, allF_cons, allH, rho0, endsOf, scalD, bLen, bAbs, bInt, bIntU, bTup, true_and, and_true, Option.some.injEq, exists_eq_left', decide_eq_true_eq, Bool.not_eq_true', decide_eq_false_iff_not, it_eQ0, it_eQ1, it_eP0, it_eP1, it_eS0, it_eS1, fits_eQ, fits_eP, fits_eS, eqv_eQ, eqv_eP, eqv_eS, eqv_int, eqv_bool, shp_int, shp_bool, shp_none, shp_eQ, shp_eP, shp_eS, dCont, dBreak, dXi, dSetG, dAppG, oIsB, oNotB, dTx, pJoin, pSplit, pPart, pStarts, bStr, bIntS, dFmt, dJs, ↓reduceIte, nsp_none, nsp_bool, nsp_int, nsp_str, nsp_list, nsp_tuple, nsp_eQ, nsp_eP, nsp_eS, dat_pu, dat_ow, seqD_l, seqD_t, not_true_eq_false, Bool.true_eq_false, Bool.not_not, List.length_cons, List.length_nil, mkP, mkS, fits_list, fits_tuple, isIntD, isBoolD, isListD, isStrD, isTupD, Bool.not_true, Bool.not_false, Bool.false_eq_true, it_l0, it_l1, it_l2, it_t0, it_t1, it_t2, shp_ps, shp_pt, shp_ss, shp_is, seqD_eQ, seqD_eP, seqD_eS, walkD_eP, walkD_eS, walkD_l, walkD_t]
      exact ⟨w, rfl, ow, hE _ rfl⟩
    rintro _ rfl
    cases e : readR w with
    | none =>
      simp only [oR, isN, dRet, dRetF, dSetX, dCallX, dRetX, noOw, dTry, dCpy, dRaise, dRetO, dSetP, dSetS, dSetF, dSeq, dIf, dNext, dCall, dCallF, dB, dBin, dCons, dNil, dTup, dLst, dV, dC, dTV, onB, dTAnd, dTOr, dTNot, dAnd, dOr, dNot, dIfE, dIsN, dNotN, isN, dSl, dSlF, dNoPart, dPart, dPar, dParS, dAsg, dgN, dgT, dgCons, dgNil, dFE, dIsi, dListF, dNeg, dRev, dFrz, dApp, dAppS, dIns, dExtend, dClear, dReverse, dPop, oIx, oI, oIC, oAddU, oSubI, oMulU, oMulI, oFd, oMd, oPw, oLt, oLe, oGt, oGe, oEq, oNe, getF, setF, Cl.d, getS, setS, purF_nil, purF_cons, purH, allF_nil, allF_cons, allH, rho0, endsOf, scalD, bLen, bAbs, bInt, bIntU, bTup, true_and, and_true, Option.some.injEq, exists_eq_left', decide_eq_true_eq, Bool.not_eq_true', decide_eq_false_iff_not, it_eQ0, it_eQ1, it_eP0, it_eP1, it_eS0, it_eS1, fits_eQ, fits_eP, fits_eS, eqv_eQ, eqv_eP, eqv_eS, eqv_int, eqv_bool, shp_int, shp_bool, shp_none, shp_eQ, shp_eP, shp_eS, dCont, dBreak, dXi, dSetG, dAppG, oIsB, oNotB, dTx, pJoin, pSplit, pPart, pStarts, bStr, bIntS, dFmt, dJs, ↓reduceIte, nsp_none, nsp_bool, nsp_int, nsp_str, nsp_list, nsp_tuple, nsp_eQ, nsp_eP, nsp_eS, dat_pu, dat_ow, seqD_l, seqD_t, not_true_eq_false, Bool.true_eq_false, Bool.not_not, List.length_cons, List.length_nil, mkP, mkS, fits_list, fits_tuple, isIntD, isBoolD, isListD, isStrD, isTupD, Bool.not_true, Bool.not_false, Bool.false_eq_true, it_l0, it_l1, it_l2, it_t0, it_t1, it_t2, shp_ps, shp_pt, shp_ss, shp_is, seqD_eQ, seqD_eP, seqD_eS, walkD_eP, walkD_eS, walkD_l, walkD_t]
      refine ⟨_, rfl, ow.ok, e, ?_⟩
      simp only [dRet, dRetF, dSetX, dCallX, dRetX, noOw, dTry, dCpy, dRaise, dRetO, dSetP, dSetS, dSetF, dSeq, dIf, dNext, dCall, dCallF, dB, dBin, dCons, dNil, dTup, dLst, dV, dC, dTV, onB, dTAnd, dTOr, dTNot, dAnd, dOr, dNot, dIfE, dIsN, dNotN, isN, dSl, dSlF, dNoPart, dPart, dPar, dParS, dAsg, dgN, dgT, dgCons, dgNil, dFE, dIsi, dListF, dNeg, dRev, dFrz, dApp, dAppS, dIns, dExtend, dClear, dReverse, dPop, oIx, oI, oIC, oAddU, oSubI, oMulU, oMulI, oFd, oMd, oPw, oLt, oLe, oGt, oGe, oEq, oNe, getF, setF, Cl.d, getS, setS, purF_nil, purF_cons, purH, allF_nil, allF_cons, allH, rho0, endsOf, scalD, bLen, bAbs, bInt, bIntU, bTup, true_and, and_true, Option.some.injEq, exists_eq_left', decide_eq_true_eq, Bool.not_eq_true', decide_eq_false_iff_not, it_eQ0, it_eQ1, it_eP0, it_eP1, it_eS0, it_eS1, fits_eQ, fits_eP, fits_eS, eqv_eQ, eqv_eP, eqv_eS, eqv_int, eqv_bool, shp_int, shp_bool, shp_none, shp_eQ, shp_eP, shp_eS, dCont, dBreak, dXi, dSetG, dAppG, oIsB, oNotB, dTx, pJoin, pSplit, pPart, pStarts, bStr, bIntS, dFmt, dJs, ↓reduceIte, nsp_none, nsp_bool, nsp_int, nsp_str, nsp_list, nsp_tuple, nsp_eQ, nsp_eP, nsp_eS, dat_pu, dat_ow, seqD_l, seqD_t, not_true_eq_false, Bool.true_eq_false, Bool.not_not, List.length_cons, List.length_nil, mkP, mkS, fits_list, fits_tuple, isIntD, isBoolD, isListD, isStrD, isTupD, Bool.not_true, Bool.not_false, Bool.false_eq_true, it_l0, it_l1, it_l2, it_t0, it_t1, it_t2, shp_ps, shp_pt, shp_ss, shp_is, seqD_eQ, seqD_eP, seqD_eS, walkD_eP, walkD_eS, walkD_l, walkD_t]
      exact ⟨_, _, _, _, rfl⟩
    | some r =>
      simp only [oR, isN, dRet, dRetF, dSetX, dCallX, dRetX, noOw, dTry, dCpy, dRaise, dRetO, dSetP, dSetS, dSetF, dSeq, dIf, dNext, dCall, dCallF, dB, dBin, dCons, dNil, dTup, dLst, dV, dC, dTV, onB, dTAnd, dTOr, dTNot, dAnd, dOr, dNot, dIfE, dIsN, dNotN, isN, dSl, dSlF, dNoPart, dPart, dPar, dParS, dAsg, dgN, dgT, dgCons, dgNil, dFE, dIsi, dListF, dNeg, dRev, dFrz, dApp, dAppS, dIns, dExtend, dClear, dReverse, dPop, oIx, oI, oIC, oAddU, oSubI, oMulU, oMulI, oFd, oMd, oPw, oLt, oLe, oGt, oGe, oEq, oNe, getF, setF, Cl.d, getS, setS, purF_nil, purF_cons, purH, allF_nil, allF_cons, allH, rho0, endsOf, scalD, bLen, bAbs, bInt, bIntU, bTup, true_and, and_true, Option.some.injEq, exists_eq_left', decide_eq_true_eq, Bool.not_eq_true', decide_eq_false_iff_not, it_eQ0, it_eQ1, it_eP0, it_eP1, it_eS0, it_eS1, fits_eQ, fits_eP, fits_eS, eqv_eQ, eqv_eP, eqv_eS, eqv_int, eqv_bool, shp_int, shp_bool, shp_none, shp_eQ, shp_eP, shp_eS, dCont, dBreak, dXi, dSetG, dAppG, oIsB, oNotB, dTx, pJoin, pSplit, pPart, pStarts, bStr, bIntS, dFmt, dJs, ↓reduceIte, nsp_none, nsp_bool, nsp_int, nsp_str, nsp_list, nsp_tuple, nsp_eQ, nsp_eP, nsp_eS, dat_pu, dat_ow, seqD_l, seqD_t, not_true_eq_false, Bool.true_eq_false, Bool.not_not, List.length_cons, List.length_nil, mkP, mkS, fits_list, fits_tuple, isIntD, isBoolD, isListD, isStrD, isTupD, Bool.not_true, Bool.not_false, Bool.false_eq_true, it_l0, it_l1, it_l2, it_t0, it_t1, it_t2, shp_ps, shp_pt, shp_ss, shp_is, seqD_eQ, seqD_eP, seqD_eS, walkD_eP, walkD_eS, walkD_l, walkD_t]
      refine ⟨_, rfl, ow.ok, fun r' hr' => ?_, fun hn => ?_⟩
      · have e2 : readR w = some r' := hr'
        rw [e] at e2
        cases e2
        simp only [shp_ring, eqv_ring, dRet, dRetF, dSetX, dCallX, dRetX, noOw, dTry, dCpy, dRaise, dRetO, dSetP, dSetS, dSetF, dSeq, dIf, dNext, dCall, dCallF, dB, dBin, dCons, dNil, dTup, dLst, dV, dC, dTV, onB, dTAnd, dTOr, dTNot, dAnd, dOr, dNot, dIfE, dIsN, dNotN, isN, dSl, dSlF, dNoPart, dPart, dPar, dParS, dAsg, dgN, dgT, dgCons, dgNil, dFE, dIsi, dListF, dNeg, dRev, dFrz, dApp, dAppS, dIns, dExtend, dClear, dReverse, dPop, oIx, oI, oIC, oAddU, oSubI, oMulU, oMulI, oFd, oMd, oPw, oLt, oLe, oGt, oGe, oEq, oNe, getF, setF, Cl.d, getS, setS, purF_nil, purF_cons, purH, allF_nil, allF_cons, allH, rho0, endsOf, scalD, bLen, bAbs, bInt, bIntU, bTup, true_and, and_true, Option.some.injEq, exists_eq_left', decide_eq_true_eq, Bool.not_eq_true', decide_eq_false_iff_not, it_eQ0, it_eQ1, it_eP0, it_eP1, it_eS0, it_eS1, fits_eQ, fits_eP, fits_eS, eqv_eQ, eqv_eP, eqv_eS, eqv_int, eqv_bool, shp_int, shp_bool, shp_none, shp_eQ, shp_eP, shp_eS, dCont, dBreak, dXi, dSetG, dAppG, oIsB, oNotB, dTx, pJoin, pSplit, pPart, pStarts, bStr, bIntS, dFmt, dJs, ↓reduceIte, nsp_none, nsp_bool, nsp_int, nsp_str, nsp_list, nsp_tuple, nsp_eQ, nsp_eP, nsp_eS, dat_pu, dat_ow, seqD_l, seqD_t, not_true_eq_false, Bool.true_eq_false, Bool.not_not, List.length_cons, List.length_nil, mkP, mkS, fits_list, fits_tuple, isIntD, isBoolD, isListD, isStrD, isTupD, Bool.not_true, Bool.not_false, Bool.false_eq_true, it_l0, it_l1, it_l2, it_t0, it_t1, it_t2, shp_ps, shp_pt, shp_ss, shp_is, seqD_eQ, seqD_eP, seqD_eS, walkD_eP, walkD_eS, walkD_l, walkD_t]
        exact ⟨_, _, _, _, rfl⟩
      · have e2 : readR w = none := hn
        rw [e] at e2
        cases e2
  · rintro _ ⟨cs, rfl⟩ ρ' ⟨x, y, z, u, rfl⟩
    simp only [dRet, dRetF, dSetX, dCallX, dRetX, noOw, dTry, dCpy, dRaise, dRetO, dSetP, dSetS, dSetF, dSeq, dIf, dNext, dCall, dCallF, dB, dBin, dCons, dNil, dTup, dLst, dV, dC, dTV, onB, dTAnd, dTOr, dTNot, dAnd, dOr, dNot, dIfE, dIsN, dNotN, isN, dSl, dSlF, dNoPart, dPart, dPar, dParS, dAsg, dgN, dgT, dgCons, dgNil, dFE, dIsi, dListF, dNeg, dRev, dFrz, dApp, dAppS, dIns, dExtend, dClear, dReverse, dPop, oIx, oI, oIC, oAddU, oSubI, oMulU, oMulI, oFd, oMd, oPw, oLt, oLe, oGt, oGe, oEq, oNe, getF, setF, Cl.d, getS, setS, purF_nil, purF_cons, purH, allF_nil, allF_cons, allH, rho0, endsOf, scalD, bLen, bAbs, bInt, bIntU, bTup, true_and, and_true, Option.some.injEq, exists_eq_left', decide_eq_true_eq, Bool.not_eq_true', decide_eq_false_iff_not, it_eQ0, it_eQ1, it_eP0, it_eP1, it_eS0, it_eS1, fits_eQ, fits_eP, fits_eS, eqv_eQ, eqv_eP, eqv_eS, eqv_int, eqv_bool, shp_int, shp_bool, shp_none, shp_eQ, shp_eP, shp_eS, dCont, dBreak, dXi, dSetG, dAppG, oIsB, oNotB, dTx, pJoin, pSplit, pPart, pStarts, bStr, bIntS, dFmt, dJs, ↓reduceIte, nsp_none, nsp_bool, nsp_int, nsp_str, nsp_list, nsp_tuple, nsp_eQ, nsp_eP, nsp_eS, dat_pu, dat_ow, seqD_l, seqD_t, not_true_eq_false, Bool.true_eq_false, Bool.not_not, List.length_cons, List.length_nil, mkP, mkS, fits_list, fits_tuple, isIntD, isBoolD, isListD, isStrD, isTupD, Bool.not_true, Bool.not_false, Bool.false_eq_true, it_l0, it_l1, it_l2, it_t0, it_t1, it_t2, shp_ps, shp_pt, shp_ss, shp_is, seqD_eQ, seqD_eP, seqD_eS, walkD_eP, walkD_eS, walkD_l, walkD_t]
    refine dLc_mapM (xs := ODD) (e := id) (fun Q hQ => ?_) (fun d => .bool true) (by show 6 ≤ _; omega) (fun d hd Ψ hΨ => ?_) ?_
    · simp only [diSeq, dRet, dRetF, dSetX, dCallX, dRetX, noOw, dTry, dCpy, dRaise, dRetO, dSetP, dSetS, dSetF, dSeq, dIf, dNext, dCall, dCallF, dB, dBin, dCons, dNil, dTup, dLst, dV, dC, dTV, onB, dTAnd, dTOr, dTNot, dAnd, dOr, dNot, dIfE, dIsN, dNotN, isN, dSl, dSlF, dNoPart, dPart, dPar, dParS, dAsg, dgN, dgT, dgCons, dgNil, dFE, dIsi, dListF, dNeg, dRev, dFrz, dApp, dAppS, dIns, dExtend, dClear, dReverse, dPop, oIx, oI, oIC, oAddU, oSubI, oMulU, oMulI, oFd, oMd, oPw, oLt, oLe, oGt, oGe, oEq, oNe, getF, setF, Cl.d, getS, setS, purF_nil, purF_cons, purH, allF_nil, allF_cons, allH, rho0, endsOf, scalD, bLen, bAbs, bInt, bIntU, bTup, true_and, and_true, Option.some.injEq, exists_eq_left', decide_eq_true_eq, Bool.not_eq_true', decide_eq_false_iff_not, it_eQ0, it_eQ1, it_eP0, it_eP1, it_eS0, it_eS1, fits_eQ, fits_eP, fits_eS, eqv_eQ, eqv_eP, eqv_eS, eqv_int, eqv_bool, shp_int, shp_bool, shp_none, shp_eQ, shp_eP, shp_eS, dCont, dBreak, dXi, dSetG, dAppG, oIsB, oNotB, dTx, pJoin, pSplit, pPart, pStarts, bStr, bIntS, dFmt, dJs, ↓reduceIte, nsp_none, nsp_bool, nsp_int, nsp_str, nsp_list, nsp_tuple, nsp_eQ, nsp_eP, nsp_eS, dat_pu, dat_ow, seqD_l, seqD_t, not_true_eq_false, Bool.true_eq_false, Bool.not_not, List.length_cons, List.length_nil, mkP, mkS, fits_list, fits_tuple, isIntD, isBoolD, isListD, isStrD, isTupD, Bool.not_true, Bool.not_false, Bool.false_eq_true, it_l0, it_l1, it_l2, it_t0, it_t1, it_t2, shp_ps, shp_pt, shp_ss, shp_is, seqD_eQ, seqD_eP, seqD_eS, walkD_eP, walkD_eS, walkD_l, walkD_t]
      exact hQ
    · simp only [dcN, wipeF, noneF, dRet, dRetF, dSetX, dCallX, dRetX, noOw, dTry, dCpy, dRaise, dRetO, dSetP, dSetS, dSetF, dSeq, dIf, dNext, dCall, dCallF, dB, dBin, dCons, dNil, dTup, dLst, dV, dC, dTV, onB, dTAnd, dTOr, dTNot, dAnd, dOr, dNot, dIfE, dIsN, dNotN, isN, dSl, dSlF, dNoPart, dPart, dPar, dParS, dAsg, dgN, dgT, dgCons, dgNil, dFE, dIsi, dListF, dNeg, dRev, dFrz, dApp, dAppS, dIns, dExtend, dClear, dReverse, dPop, oIx, oI, oIC, oAddU, oSubI, oMulU, oMulI, oFd, oMd, oPw, oLt, oLe, oGt, oGe, oEq, oNe, getF, setF, Cl.d, getS, setS, purF_nil, purF_cons, purH, allF_nil, allF_cons, allH, rho0, endsOf, scalD, bLen, bAbs, bInt, bIntU, bTup, true_and, and_true, Option.some.injEq, exists_eq_left', decide_eq_true_eq, Bool.not_eq_true', decide_eq_false_iff_not, it_eQ0, it_eQ1, it_eP0, it_eP1, it_eS0, it_eS1, fits_eQ, fits_eP, fits_eS, eqv_eQ, eqv_eP, eqv_eS, eqv_int, eqv_bool, shp_int, shp_bool, shp_none, shp_eQ, shp_eP, shp_eS, dCont, dBreak, dXi, dSetG, dAppG, oIsB, oNotB, dTx, pJoin, pSplit, pPart, pStarts, bStr, bIntS, dFmt, dJs, ↓reduceIte, nsp_none, nsp_bool, nsp_int, nsp_str, nsp_list, nsp_tuple, nsp_eQ, nsp_eP, nsp_eS, dat_pu, dat_ow, seqD_l, seqD_t, not_true_eq_false, Bool.true_eq_false, Bool.not_not, List.length_cons, List.length_nil, mkP, mkS, fits_list, fits_tuple, isIntD, isBoolD, isListD, isStrD, isTupD, Bool.not_true, Bool.not_false, Bool.false_eq_true, it_l0, it_l1, it_l2, it_t0, it_t1, it_t2, shp_ps, shp_pt, shp_ss, shp_is, seqD_eQ, seqD_eP, seqD_eS, walkD_eP, walkD_eS, walkD_l, walkD_t]
      obtain ⟨o1, o2⟩ := odd_ok d hd
      exact ⟨d, rfl, o1, o2, hΨ⟩
    · refine ⟨[true, true, true, true, true, true], rfl, ?_⟩
      exact h
/-! ### drawn texts -/
def SM1 : List (List Nat) := [[48], [49], [45, 49], [48, 48], [48, 49], [45, 48], [49, 47, 50], [50, 47, 52], [48, 47, 50], [49, 47, 49], [49, 47, 48], [45, 49, 47, 50], [45, 50, 47, 51], [45, 45, 49], [45], []]
def SM2 : List (List Nat) := [[47, 50], [49, 47], [49, 47, 45, 50], [43, 49], [49, 48, 48, 48, 48, 48, 48], [49, 48, 48, 48, 48, 48, 48, 48], [49, 47, 49, 48, 48, 48], [49, 47, 49, 48, 48, 48, 48, 48, 48, 48], [49, 47, 50, 47, 51], [97], [49, 46, 53]]
def SM3 : List (List Nat) := [[49, 47, 48, 50], [32, 49], [49, 32], [48, 120, 49], [49, 95, 48], [49, 10], [10, 49], [49, 47, 57, 57, 57, 57, 57, 57, 49]]
def SM : List (List Nat) := SM1 ++ SM2 ++ SM3
theorem sm_ok : ∀ v ∈ SM, v.length ≤ 10 ∧ ∀ c ∈ v, c < 1114112 := by decide
def W10 (v : List Nat) : Prop := v.length ≤ 10 ∧ ∀ c ∈ v, c < 1114112
theorem catW (a b : List Nat) : S a ++ S b = S (a ++ b) := SX.S_cat a b
theorem rd__law_spoilt (ds : List Dt) (Φ : Slot → Prop) (Ξ : XD → Prop) (h : sp__law_spoilt ds Φ Ξ) : d__law_spoilt (endsOf Φ Ξ) (rho0 N__law_spoilt ds) := by
  obtain ⟨ws, xs, rfl, w1, w2, hw, x1, x2, h⟩ := h
  have hz : (200000 : Nat) < sizeLine := by decide
  have pk : ∀ {k : Nat}, k < xs.length → itemD (.list (xs.map .int)) (k : Int) = some (.int (xs.getD k default)) := fun {k} hk => it_map (xs := xs) (f := .int) (i := (k : Int)) (by omega) (by omega)
  show dSeq _ _ _ [.pu (.list (ws.map eW)), .pu (.list (xs.map .int)), .un, .un, .un, .un, .un, .un]
  refine seq_cut (fun ρ => ρ = [.pu (.list (ws.map eW)), .pu (.list (xs.map .int)), .pu (.list (SM1.map eW)), .un, .un, .un, .un, .un]) (fun E _ hE => ?_) ?_
  · simp only [dRet, dRetF, dSetX, dCallX, dRetX, noOw, dTry, dCpy, dRaise, dRetO, dSetP, dSetS, dSetF, dSeq, dIf, dNext, dCall, dCallF, dB, dBin, dCons, dNil, dTup, dLst, dV, dC, dTV, onB, dTAnd, dTOr, dTNot, dAnd, dOr, dNot, dIfE, dIsN, dNotN, isN, dSl, dSlF, dNoPart, dPart, dPar, dParS, dAsg, dgN, dgT, dgCons, dgNil, dFE, dIsi, dListF, dNeg, dRev, dFrz, dApp, dAppS, dIns, dExtend, dClear, dReverse, dPop, oIx, oI, oIC, oAddU, oSubI, oMulU, oMulI, oFd, oMd, oPw, oLt, oLe, oGt, oGe, oEq, oNe, getF, setF, Cl.d, getS, setS, purF_nil, purF_cons, purH, allF_nil, allF_cons, allH, rho0, endsOf, scalD, bLen, bAbs, bInt, bIntU, bTup, true_and, and_true, Option.some.injEq, exists_eq_left', decide_eq_true_eq, Bool.not_eq_true', decide_eq_false_iff_not, it_eQ0, it_eQ1, it_eP0, it_eP1, it_eS0, it_eS1, fits_eQ, fits_eP, fits_eS, eqv_eQ, eqv_eP, eqv_eS, eqv_int, eqv_bool, shp_int, shp_bool, shp_none, shp_eQ, shp_eP, shp_eS, dCont, dBreak, dXi, dSetG, dAppG, oIsB, oNotB, dTx, pJoin, pSplit, pPart, pStarts, bStr, bIntS, dFmt, dJs, ↓reduceIte, nsp_none, nsp_bool, nsp_int, nsp_str, nsp_list, nsp_tuple, nsp_eQ, nsp_eP, nsp_eS, dat_pu, dat_ow, seqD_l, seqD_t, not_true_eq_false, Bool.true_eq_false, Bool.not_not, List.length_cons, List.length_nil, mkP, mkS, fits_list, fits_tuple, isIntD, isBoolD, isListD, isStrD, isTupD, Bool.not_true, Bool.not_false, Bool.false_eq_true, it_l0, it_l1, it_l2, it_t0, it_t1, it_t2, shp_ps, shp_pt, shp_ss, shp_is, seqD_eQ, seqD_eP, seqD_eS, walkD_eP, walkD_eS, walkD_l, walkD_t]
    exact hE _ rfl
  rintro _ rfl
  refine seq_cut (fun ρ => ρ = [.pu (.list (ws.map eW)), .pu (.list (xs.map .int)), .pu (.list ((SM1 ++ SM2).map eW)), .un, .un, .un, .un, .un]) (fun E _ hE => ?_) ?_
  · simp only [dRet, dRetF, dSetX, dCallX, dRetX, noOw, dTry, dCpy, dRaise, dRetO, dSetP, dSetS, dSetF, dSeq, dIf, dNext, dCall, dCallF, dB, dBin, dCons, dNil, dTup, dLst, dV, dC, dTV, onB, dTAnd, dTOr, dTNot, dAnd, dOr, dNot, dIfE, dIsN, dNotN, isN, dSl, dSlF, dNoPart, dPart, dPar, dParS, dAsg, dgN, dgT, dgCons, dgNil, dFE, dIsi, dListF, dNeg, dRev, dFrz, dApp, dAppS, dIns, dExtend, dClear, dReverse, dPop, oIx, oI, oIC, oAddU, oSubI, oMulU, oMulI, oFd, oMd, oPw, oLt, oLe, oGt, oGe, oEq, oNe, getF, setF, Cl.d, getS, setS, purF_nil, purF_cons, purH, allF_nil, allF_cons, allH, rho0, endsOf, scalD, bLen, bAbs, bInt, bIntU, bTup, true_and, and_true, Option.some.injEq, exists_eq_left', decide_eq_true_eq, Bool.not_eq_true', decide_eq_false_iff_not, it_eQ0, it_eQ1, it_eP0, it_eP1, it_eS0, it_eS1, fits_eQ, fits_eP, fits_eS, eqv_eQ, eqv_eP, eqv_eS, eqv_int, eqv_bool, shp_int, shp_bool, shp_none, shp_eQ, shp_eP, shp_eS, dCont, dBreak, dXi, dSetG, dAppG, oIsB, oNotB, dTx, pJoin, pSplit, pPart, pStarts, bStr, bIntS, dFmt, dJs, ↓reduceIte, nsp_none, nsp_bool, nsp_int, nsp_str, nsp_list, nsp_tuple, nsp_eQ, nsp_eP, nsp_eS, dat_pu, dat_ow, seqD_l, seqD_t, not_true_eq_false, Bool.true_eq_false, Bool.not_not, List.length_cons, List.length_nil, mkP, mkS, fits_list, fits_tuple, isIntD, isBoolD, isListD, isStrD, isTupD, Bool.not_true, Bool.not_false, Bool.false_eq_true, it_l0, it_l1, it_l2, it_t0, it_t1, it_t2, shp_ps, shp_pt, shp_ss, shp_is, seqD_eQ, seqD_eP, seqD_eS, walkD_eP, walkD_eS, walkD_l, walkD_t]
    exact ⟨by show _ ≤ sizeLine; exact Nat.le_trans (by decide : 27 ≤ 200000) (Nat.le_of_lt hz), hE _ (by rw [List.map_append]; rfl)⟩
  rintro _ rfl
  refine seq_cut (fun ρ => ρ = [.pu (.list (ws.map eW)), .pu (.list (xs.map .int)), .pu (.list (SM.map eW)), .un, .un, .un, .un, .un]) (fun E _ hE => ?_) ?_
  · simp only [dRet, dRetF, dSetX, dCallX, dRetX, noOw, dTry, dCpy, dRaise, dRetO, dSetP, dSetS, dSetF, dSeq, dIf, dNext, dCall, dCallF, dB, dBin, dCons, dNil, dTup, dLst, dV, dC, dTV, onB, dTAnd, dTOr, dTNot, dAnd, dOr, dNot, dIfE, dIsN, dNotN, isN, dSl, dSlF, dNoPart, dPart, dPar, dParS, dAsg, dgN, dgT, dgCons, dgNil, dFE, dIsi, dListF, dNeg, dRev, dFrz, dApp, dAppS, dIns, dExtend, dClear, dReverse, dPop, oIx, oI, oIC, oAddU, oSubI, oMulU, oMulI, oFd, oMd, oPw, oLt, oLe, oGt, oGe, oEq, oNe, getF, setF, Cl.d, getS, setS, purF_nil, purF_cons, purH, allF_nil, allF_cons, allH, rho0, endsOf, scalD, bLen, bAbs, bInt, bIntU, bTup, true_and, and_true, Option.some.injEq, exists_eq_left', decide_eq_true_eq, Bool.not_eq_true', decide_eq_false_iff_not, it_eQ0, it_eQ1, it_eP0, it_eP1, it_eS0, it_eS1, fits_eQ, fits_eP, fits_eS, eqv_eQ, eqv_eP, eqv_eS, eqv_int, eqv_bool, shp_int, shp_bool, shp_none, shp_eQ, shp_eP, shp_eS, dCont, dBreak, dXi, dSetG, dAppG, oIsB, oNotB, dTx, pJoin, pSplit, pPart, pStarts, bStr, bIntS, dFmt, dJs, ↓reduceIte, nsp_none, nsp_bool, nsp_int, nsp_str, nsp_list, nsp_tuple, nsp_eQ, nsp_eP, nsp_eS, dat_pu, dat_ow, seqD_l, seqD_t, not_true_eq_false, Bool.true_eq_false, Bool.not_not, List.length_cons, List.length_nil, mkP, mkS, fits_list, fits_tuple, isIntD, isBoolD, isListD, isStrD, isTupD, Bool.not_true, Bool.not_false, Bool.false_eq_true, it_l0, it_l1, it_l2, it_t0, it_t1, it_t2, shp_ps, shp_pt, shp_ss, shp_is, seqD_eQ, seqD_eP, seqD_eS, walkD_eP, walkD_eS, walkD_l, walkD_t]
    exact ⟨by show _ ≤ sizeLine; exact Nat.le_trans (by decide : 35 ≤ 200000) (Nat.le_of_lt hz), hE _ (by unfold SM; rw [List.map_append (l₁ := SM1 ++ SM2)]; rfl)⟩
  rintro _ rfl
  refine seq_cut (fun ρ => ∃ a : Nat, a < ws.length ∧ ρ = [.pu (.list (ws.map eW)), .pu (.list (xs.map .int)), .pu (.list (SM.map eW)), .pu (.int a), .un, .un, .un, .un]) (fun E _ hE => ?_) ?_
  · simp only [List.length_map, dRet, dRetF, dSetX, dCallX, dRetX, noOw, dTry, dCpy, dRaise, dRetO, dSetP, dSetS, dSetF, dSeq, dIf, dNext, dCall, dCallF, dB, dBin, dCons, dNil, dTup, dLst, dV, dC, dTV, onB, dTAnd, dTOr, dTNot, dAnd, dOr, dNot, dIfE, dIsN, dNotN, isN, dSl, dSlF, dNoPart, dPart, dPar, dParS, dAsg, dgN, dgT, dgCons, dgNil, dFE, dIsi, dListF, dNeg, dRev, dFrz, dApp, dAppS, dIns, dExtend, dClear, dReverse, dPop, oIx, oI, oIC, oAddU, oSubI, oMulU, oMulI, oFd, oMd, oPw, oLt, oLe, oGt, oGe, oEq, oNe, getF, setF, Cl.d, getS, setS, purF_nil, purF_cons, purH, allF_nil, allF_cons, allH, rho0, endsOf, scalD, bLen, bAbs, bInt, bIntU, bTup, true_and, and_true, Option.some.injEq, exists_eq_left', decide_eq_true_eq, Bool.not_eq_true', decide_eq_false_iff_not, it_eQ0, it_eQ1, it_eP0, it_eP1, it_eS0, it_eS1, fits_eQ, fits_eP, fits_eS, eqv_eQ, eqv_eP, eqv_eS, eqv_int, eqv_bool, shp_int, shp_bool, shp_none, shp_eQ, shp_eP, shp_eS, dCont, dBreak, dXi, dSetG, dAppG, oIsB, oNotB, dTx, pJoin, pSplit, pPart, pStarts, bStr, bIntS, dFmt, dJs, ↓reduceIte, nsp_none, nsp_bool, nsp_int, nsp_str, nsp_list, nsp_tuple, nsp_eQ, nsp_eP, nsp_eS, dat_pu, dat_ow, seqD_l, seqD_t, not_true_eq_false, Bool.true_eq_false, Bool.not_not, List.length_cons, List.length_nil, mkP, mkS, fits_list, fits_tuple, isIntD, isBoolD, isListD, isStrD, isTupD, Bool.not_true, Bool.not_false, Bool.false_eq_true, it_l0, it_l1, it_l2, it_t0, it_t1, it_t2, shp_ps, shp_pt, shp_ss, shp_is, seqD_eQ, seqD_eP, seqD_eS, walkD_eP, walkD_eS, walkD_l, walkD_t]
    have f := fmod_b (x := xs.getD 0 default) (m := (ws.length : Int)) (by omega)
    refine ⟨_, pk (k := 0) (by omega), by omega, hE _ ⟨((xs.getD 0 default).fmod ws.length).toNat, by omega, ?_⟩⟩
    rw [Int.toNat_of_nonneg f.1]
  rintro _ ⟨a, ha, rfl⟩
  have some_ : ∀ k : Nat, k < xs.length → ∀ Ψ : Dt → Prop, (∀ v, W10 v → Ψ (eW v)) → ∃ d, itemD (.list (SM.map eW)) ((xs.getD k default).fmod 35) = some d ∧ Ψ d := fun k hk Ψ hΨ => by
    have f := fmod_b (x := xs.getD k default) (m := 35) (by decide)
    have l35 : SM.length = 35 := by decide
    have i1 := it_map (xs := SM) (f := eW) (i := (xs.getD k default).fmod 35) f.1 (by rw [l35]; exact f.2)
    exact ⟨_, i1, hΨ _ (sm_ok _ (getD_mem (by rw [l35]; omega)))⟩
  refine seq_cut (fun ρ => ∃ v1, W10 v1 ∧ ρ = [.pu (.list (ws.map eW)), .pu (.list (xs.map .int)), .pu (.list (SM.map eW)), .pu (.int a), .pu (eW v1), .un, .un, .un]) (fun E _ hE => ?_) ?_
  · simp only [dRet, dRetF, dSetX, dCallX, dRetX, noOw, dTry, dCpy, dRaise, dRetO, dSetP, dSetS, dSetF, dSeq, dIf, dNext, dCall, dCallF, dB, dBin, dCons, dNil, dTup, dLst, dV, dC, dTV, onB, dTAnd, dTOr, dTNot, dAnd, dOr, dNot, dIfE, dIsN, dNotN, isN, dSl, dSlF, dNoPart, dPart, dPar, dParS, dAsg, dgN, dgT, dgCons, dgNil, dFE, dIsi, dListF, dNeg, dRev, dFrz, dApp, dAppS, dIns, dExtend, dClear, dReverse, dPop, oIx, oI, oIC, oAddU, oSubI, oMulU, oMulI, oFd, oMd, oPw, oLt, oLe, oGt, oGe, oEq, oNe, getF, setF, Cl.d, getS, setS, purF_nil, purF_cons, purH, allF_nil, allF_cons, allH, rho0, endsOf, scalD, bLen, bAbs, bInt, bIntU, bTup, true_and, and_true, Option.some.injEq, exists_eq_left', decide_eq_true_eq, Bool.not_eq_true', decide_eq_false_iff_not, it_eQ0, it_eQ1, it_eP0, it_eP1, it_eS0, it_eS1, fits_eQ, fits_eP, fits_eS, eqv_eQ, eqv_eP, eqv_eS, eqv_int, eqv_bool, shp_int, shp_bool, shp_none, shp_eQ, shp_eP, shp_eS, dCont, dBreak, dXi, dSetG, dAppG, oIsB, oNotB, dTx, pJoin, pSplit, pPart, pStarts, bStr, bIntS, dFmt, dJs, ↓reduceIte, nsp_none, nsp_bool, nsp_int, nsp_str, nsp_list, nsp_tuple, nsp_eQ, nsp_eP, nsp_eS, dat_pu, dat_ow, seqD_l, seqD_t, not_true_eq_false, Bool.true_eq_false, Bool.not_not, List.length_cons, List.length_nil, mkP, mkS, fits_list, fits_tuple, isIntD, isBoolD, isListD, isStrD, isTupD, Bool.not_true, Bool.not_false, Bool.false_eq_true, it_l0, it_l1, it_l2, it_t0, it_t1, it_t2, shp_ps, shp_pt, shp_ss, shp_is, seqD_eQ, seqD_eP, seqD_eS, walkD_eP, walkD_eS, walkD_l, walkD_t]
    exact ⟨_, pk (k := 1) (by omega), by decide, some_ 1 (by omega) _ fun v hv => hE _ ⟨v, hv, rfl⟩⟩
  rintro _ ⟨v1, o1, rfl⟩
  refine seq_cut (fun ρ => ∃ v2, W10 v2 ∧ ρ = [.pu (.list (ws.map eW)), .pu (.list (xs.map .int)), .pu (.list (SM.map eW)), .pu (.int a), .pu (eW v1), .pu (eW v2), .un, .un]) (fun E _ hE => ?_) ?_
  · simp only [dRet, dRetF, dSetX, dCallX, dRetX, noOw, dTry, dCpy, dRaise, dRetO, dSetP, dSetS, dSetF, dSeq, dIf, dNext, dCall, dCallF, dB, dBin, dCons, dNil, dTup, dLst, dV, dC, dTV, onB, dTAnd, dTOr, dTNot, dAnd, dOr, dNot, dIfE, dIsN, dNotN, isN, dSl, dSlF, dNoPart, dPart, dPar, dParS, dAsg, dgN, dgT, dgCons, dgNil, dFE, dIsi, dListF, dNeg, dRev, dFrz, dApp, dAppS, dIns, dExtend, dClear, dReverse, dPop, oIx, oI, oIC, oAddU, oSubI, oMulU, oMulI, oFd, oMd, oPw, oLt, oLe, oGt, oGe, oEq, oNe, getF, setF, Cl.d, getS, setS, purF_nil, purF_cons, purH, allF_nil, allF_cons, allH, rho0, endsOf, scalD, bLen, bAbs, bInt, bIntU, bTup, true_and, and_true, Option.some.injEq, exists_eq_left', decide_eq_true_eq, Bool.not_eq_true', decide_eq_false_iff_not, it_eQ0, it_eQ1, it_eP0, it_eP1, it_eS0, it_eS1, fits_eQ, fits_eP, fits_eS, eqv_eQ, eqv_eP, eqv_eS, eqv_int, eqv_bool, shp_int, shp_bool, shp_none, shp_eQ, shp_eP, shp_eS, dCont, dBreak, dXi, dSetG, dAppG, oIsB, oNotB, dTx, pJoin, pSplit, pPart, pStarts, bStr, bIntS, dFmt, dJs, ↓reduceIte, nsp_none, nsp_bool, nsp_int, nsp_str, nsp_list, nsp_tuple, nsp_eQ, nsp_eP, nsp_eS, dat_pu, dat_ow, seqD_l, seqD_t, not_true_eq_false, Bool.true_eq_false, Bool.not_not, List.length_cons, List.length_nil, mkP, mkS, fits_list, fits_tuple, isIntD, isBoolD, isListD, isStrD, isTupD, Bool.not_true, Bool.not_false, Bool.false_eq_true, it_l0, it_l1, it_l2, it_t0, it_t1, it_t2, shp_ps, shp_pt, shp_ss, shp_is, seqD_eQ, seqD_eP, seqD_eS, walkD_eP, walkD_eS, walkD_l, walkD_t]
    exact ⟨_, pk (k := 2) (by omega), by decide, some_ 2 (by omega) _ fun v hv => hE _ ⟨v, hv, rfl⟩⟩
  rintro _ ⟨v2, o2, rfl⟩
  refine seq_cut (fun ρ => ∃ m : Int, 0 ≤ m ∧ m < 9 ∧ ρ = [.pu (.list (ws.map eW)), .pu (.list (xs.map .int)), .pu (.list (SM.map eW)), .pu (.int a), .pu (eW v1), .pu (eW v2), .pu (.int m), .un]) (fun E _ hE => ?_) ?_
  · simp only [dRet, dRetF, dSetX, dCallX, dRetX, noOw, dTry, dCpy, dRaise, dRetO, dSetP, dSetS, dSetF, dSeq, dIf, dNext, dCall, dCallF, dB, dBin, dCons, dNil, dTup, dLst, dV, dC, dTV, onB, dTAnd, dTOr, dTNot, dAnd, dOr, dNot, dIfE, dIsN, dNotN, isN, dSl, dSlF, dNoPart, dPart, dPar, dParS, dAsg, dgN, dgT, dgCons, dgNil, dFE, dIsi, dListF, dNeg, dRev, dFrz, dApp, dAppS, dIns, dExtend, dClear, dReverse, dPop, oIx, oI, oIC, oAddU, oSubI, oMulU, oMulI, oFd, oMd, oPw, oLt, oLe, oGt, oGe, oEq, oNe, getF, setF, Cl.d, getS, setS, purF_nil, purF_cons, purH, allF_nil, allF_cons, allH, rho0, endsOf, scalD, bLen, bAbs, bInt, bIntU, bTup, true_and, and_true, Option.some.injEq, exists_eq_left', decide_eq_true_eq, Bool.not_eq_true', decide_eq_false_iff_not, it_eQ0, it_eQ1, it_eP0, it_eP1, it_eS0, it_eS1, fits_eQ, fits_eP, fits_eS, eqv_eQ, eqv_eP, eqv_eS, eqv_int, eqv_bool, shp_int, shp_bool, shp_none, shp_eQ, shp_eP, shp_eS, dCont, dBreak, dXi, dSetG, dAppG, oIsB, oNotB, dTx, pJoin, pSplit, pPart, pStarts, bStr, bIntS, dFmt, dJs, ↓reduceIte, nsp_none, nsp_bool, nsp_int, nsp_str, nsp_list, nsp_tuple, nsp_eQ, nsp_eP, nsp_eS, dat_pu, dat_ow, seqD_l, seqD_t, not_true_eq_false, Bool.true_eq_false, Bool.not_not, List.length_cons, List.length_nil, mkP, mkS, fits_list, fits_tuple, isIntD, isBoolD, isListD, isStrD, isTupD, Bool.not_true, Bool.not_false, Bool.false_eq_true, it_l0, it_l1, it_l2, it_t0, it_t1, it_t2, shp_ps, shp_pt, shp_ss, shp_is, seqD_eQ, seqD_eP, seqD_eS, walkD_eP, walkD_eS, walkD_l, walkD_t]
    have f := fmod_b (x := xs.getD 3 default) (m := 9) (by decide)
    exact ⟨_, pk (k := 3) (by omega), by decide, hE _ ⟨_, f.1, f.2, rfl⟩⟩
  rintro _ ⟨m, m0, m9, rfl⟩
  refine seq_cut (fun ρ => ∃ u, Wd u ∧ ρ = [.pu (.list (ws.map eW)), .pu (.list (xs.map .int)), .pu (.list (SM.map eW)), .pu (.int a), .pu (eW v1), .pu (eW v2), .pu (.int m), .pu (eW u)]) (fun E _ hE => ?_) ?_
  · simp only [eW, dRet, dRetF, dSetX, dCallX, dRetX, noOw, dTry, dCpy, dRaise, dRetO, dSetP, dSetS, dSetF, dSeq, dIf, dNext, dCall, dCallF, dB, dBin, dCons, dNil, dTup, dLst, dV, dC, dTV, onB, dTAnd, dTOr, dTNot, dAnd, dOr, dNot, dIfE, dIsN, dNotN, isN, dSl, dSlF, dNoPart, dPart, dPar, dParS, dAsg, dgN, dgT, dgCons, dgNil, dFE, dIsi, dListF, dNeg, dRev, dFrz, dApp, dAppS, dIns, dExtend, dClear, dReverse, dPop, oIx, oI, oIC, oAddU, oSubI, oMulU, oMulI, oFd, oMd, oPw, oLt, oLe, oGt, oGe, oEq, oNe, getF, setF, Cl.d, getS, setS, purF_nil, purF_cons, purH, allF_nil, allF_cons, allH, rho0, endsOf, scalD, bLen, bAbs, bInt, bIntU, bTup, true_and, and_true, Option.some.injEq, exists_eq_left', decide_eq_true_eq, Bool.not_eq_true', decide_eq_false_iff_not, it_eQ0, it_eQ1, it_eP0, it_eP1, it_eS0, it_eS1, fits_eQ, fits_eP, fits_eS, eqv_eQ, eqv_eP, eqv_eS, eqv_int, eqv_bool, shp_int, shp_bool, shp_none, shp_eQ, shp_eP, shp_eS, dCont, dBreak, dXi, dSetG, dAppG, oIsB, oNotB, dTx, pJoin, pSplit, pPart, pStarts, bStr, bIntS, dFmt, dJs, ↓reduceIte, nsp_none, nsp_bool, nsp_int, nsp_str, nsp_list, nsp_tuple, nsp_eQ, nsp_eP, nsp_eS, dat_pu, dat_ow, seqD_l, seqD_t, not_true_eq_false, Bool.true_eq_false, Bool.not_not, List.length_cons, List.length_nil, mkP, mkS, fits_list, fits_tuple, isIntD, isBoolD, isListD, isStrD, isTupD, Bool.not_true, Bool.not_false, Bool.false_eq_true, it_l0, it_l1, it_l2, it_t0, it_t1, it_t2, shp_ps, shp_pt, shp_ss, shp_is, seqD_eQ, seqD_eP, seqD_eS, walkD_eP, walkD_eS, walkD_l, walkD_t]
    have ec : S v1 ++ ("," : Str) = S (v1 ++ [44]) := SX.S_cat _ [44]
    have el : (("," : Str)).length = 1 := rfl
    have l1 : (S v1).length = v1.length := SX.S_len v1
    have l2 : (S v2).length = v2.length := SX.S_len v2
    have n1 := o1.1
    have n2 := o2.1
    have wd : ∀ u : List Nat, u.length ≤ 40 → (∀ c ∈ u, c ∈ v1 ∨ c ∈ v2 ∨ c < 1114112) → Wd u := fun u h1 h2 => ⟨h1, fun c hc => by
      rcases h2 c hc with z | z | z
      · exact o1.2 c z
      · exact o2.2 c z
      · exact z⟩
    by_cases c : m < 4
    · refine ite_yes c ⟨by rw [l1, el]; omega, ?_⟩
      rw [ec]
      have fin : ∀ u2 : List Nat, u2.length ≤ 10 → (∀ c ∈ u2, c ∈ v2 ∨ c < 1114112) → (S (v1 ++ [44])).length + (S u2).length ≤ sizeLine ∧ E.nx [.pu (.list (ws.map eW)), .pu (.list (xs.map .int)), .pu (.list (SM.map eW)), .pu (.int a), .pu (.str (S v1)), .pu (.str (S v2)), .pu (.int m), .pu (.str (S (v1 ++ [44]) ++ S u2))] := fun u2 k1 k2 => by
        refine ⟨by rw [SX.S_len, SX.S_len, List.length_append, List.length_singleton]; omega, ?_⟩
        rw [catW]
        refine hE _ ⟨_, wd _ (by simp only [List.length_append, List.length_singleton]; omega) (fun c hc => ?_), rfl⟩
        rcases List.mem_append.mp hc with z | z
        · rcases List.mem_append.mp z with z | z
          · exact .inl z
          · rw [List.mem_singleton.mp z]; exact .inr (.inr (by decide))
        · exact .inr (k2 c z)
      have m4 : m = 0 ∨ m = 1 ∨ m = 2 ∨ m = 3 := by omega
      rcases m4 with rfl | rfl | rfl | rfl
      · exact ⟨_, rfl, fin v2 n2 fun c hc => .inl hc⟩
      · exact ⟨_, rfl, fin [49] (by decide) fun c hc => .inr (by revert c; decide)⟩
      · exact ⟨_, rfl, fin [45, 51, 47, 55] (by decide) fun c hc => .inr (by revert c; decide)⟩
      · exact ⟨_, rfl, fin [48] (by decide) fun c hc => .inr (by revert c; decide)⟩
    · refine ite_no c ?_
      have e2 : S (v1 ++ [44]) ++ S v2 = S (v1 ++ [44] ++ v2) := SX.S_cat _ _
      have e3 : S (v1 ++ [44] ++ v2) ++ ("," : Str) = S (v1 ++ [44] ++ v2 ++ [44]) := SX.S_cat _ [44]
      have e4 : ("," : Str) ++ S v2 = S ([44] ++ v2) := SX.S_cat [44] _
      rw [ec, e2, e3, e4]
      refine ⟨by rw [l1, el]; omega, by rw [SX.S_len, l2, List.length_append, List.length_singleton]; omega, by rw [SX.S_len, el]; simp only [List.length_append, List.length_singleton]; omega, by rw [l2, el]; omega, ?_⟩
      have m5 : m = 4 ∨ m = 5 ∨ m = 6 ∨ m = 7 ∨ m = 8 := by omega
      rcases m5 with rfl | rfl | rfl | rfl | rfl
      · exact ⟨_, rfl, hE _ ⟨v1, wd _ (by omega) (fun c hc => .inl hc), rfl⟩⟩
      · refine ⟨_, rfl, hE _ ⟨v1 ++ [44] ++ v2 ++ [44], wd _ (by simp only [List.length_append, List.length_singleton]; omega) (fun c hc => ?_), rfl⟩⟩
        simp only [List.mem_append, List.mem_singleton] at hc
        rcases hc with ((z | z) | z) | z
        · exact .inl z
        · rw [z]; exact .inr (.inr (by decide))
        · exact .inr (.inl z)
        · rw [z]; exact .inr (.inr (by decide))
      · exact ⟨_, rfl, hE _ ⟨[49, 44, 49, 32], wd _ (by decide) (fun c hc => .inr (.inr (by revert c; decide))), rfl⟩⟩
      · exact ⟨_, rfl, hE _ ⟨[32, 49, 44, 49], wd _ (by decide) (fun c hc => .inr (.inr (by revert c; decide))), rfl⟩⟩
      · refine ⟨_, rfl, hE _ ⟨[44] ++ v2, wd _ (by simp only [List.length_append, List.length_singleton]; omega) (fun c hc => ?_), rfl⟩⟩
        simp only [List.mem_append, List.mem_singleton] at hc
        rcases hc with z | z
        · rw [z]; exact .inr (.inr (by decide))
        · exact .inr (.inl z)
  rintro _ ⟨u, ou, rfl⟩
  have e1 : cutD ws none (some (a : Int)) = ws.take a := cutD_to ws a
  have e2 : cutD ws (some ((a : Int) + 1)) none = ws.drop (a + 1) := cutD_from ws (a + 1)
  simp only [slD, cutD_map, e1, e2, dRet, dRetF, dSetX, dCallX, dRetX, noOw, dTry, dCpy, dRaise, dRetO, dSetP, dSetS, dSetF, dSeq, dIf, dNext, dCall, dCallF, dB, dBin, dCons, dNil, dTup, dLst, dV, dC, dTV, onB, dTAnd, dTOr, dTNot, dAnd, dOr, dNot, dIfE, dIsN, dNotN, isN, dSl, dSlF, dNoPart, dPart, dPar, dParS, dAsg, dgN, dgT, dgCons, dgNil, dFE, dIsi, dListF, dNeg, dRev, dFrz, dApp, dAppS, dIns, dExtend, dClear, dReverse, dPop, oIx, oI, oIC, oAddU, oSubI, oMulU, oMulI, oFd, oMd, oPw, oLt, oLe, oGt, oGe, oEq, oNe, getF, setF, Cl.d, getS, setS, purF_nil, purF_cons, purH, allF_nil, allF_cons, allH, rho0, endsOf, scalD, bLen, bAbs, bInt, bIntU, bTup, true_and, and_true, Option.some.injEq, exists_eq_left', decide_eq_true_eq, Bool.not_eq_true', decide_eq_false_iff_not, it_eQ0, it_eQ1, it_eP0, it_eP1, it_eS0, it_eS1, fits_eQ, fits_eP, fits_eS, eqv_eQ, eqv_eP, eqv_eS, eqv_int, eqv_bool, shp_int, shp_bool, shp_none, shp_eQ, shp_eP, shp_eS, dCont, dBreak, dXi, dSetG, dAppG, oIsB, oNotB, dTx, pJoin, pSplit, pPart, pStarts, bStr, bIntS, dFmt, dJs, ↓reduceIte, nsp_none, nsp_bool, nsp_int, nsp_str, nsp_list, nsp_tuple, nsp_eQ, nsp_eP, nsp_eS, dat_pu, dat_ow, seqD_l, seqD_t, not_true_eq_false, Bool.true_eq_false, Bool.not_not, List.length_cons, List.length_nil, mkP, mkS, fits_list, fits_tuple, isIntD, isBoolD, isListD, isStrD, isTupD, Bool.not_true, Bool.not_false, Bool.false_eq_true, it_l0, it_l1, it_l2, it_t0, it_t1, it_t2, shp_ps, shp_pt, shp_ss, shp_is, seqD_eQ, seqD_eP, seqD_eS, walkD_eP, walkD_eS, walkD_l, walkD_t]
  refine ⟨by rw [List.length_map, List.length_take]; omega, by rw [List.length_append, List.length_map, List.length_map, List.length_take, List.length_drop, List.length_singleton]; omega, ?_⟩
  rw [show (ws.take a).map eW ++ [eW u] ++ (ws.drop (a + 1)).map eW = (ws.take a ++ [u] ++ ws.drop (a + 1)).map eW by rw [List.map_append, List.map_append]; rfl]
  refine h _ (by simp only [List.length_append, List.length_singleton, List.length_take, List.length_drop]; omega) fun v hv => ?_
  rcases List.mem_append.mp hv with z | z
  · rcases List.mem_append.mp z with z | z
    · exact hw v (List.mem_of_mem_take z)
    · rw [List.mem_singleton.mp z]; exact ou
  · exact hw v (List.mem_of_mem_drop z)
theorem dbl_mem {k : Nat} : ∀ {l : List Nat} {c : Nat}, c ∈ PySem.StrLaws.dbl k l → c ∈ l
  | [], c, h => h
  | a :: l, c, h => by
    unfold PySem.StrLaws.dbl at h
    split at h
    · rcases List.mem_cons.mp h with z | z
      · rw [z]; exact List.mem_cons_self
      · rcases List.mem_cons.mp z with z | z
        · rw [z]; exact List.mem_cons_self
        · exact List.mem_cons_of_mem _ (dbl_mem z)
    · rcases List.mem_cons.mp h with z | z
      · rw [z]; exact List.mem_cons_self
      · exact List.mem_cons_of_mem _ (dbl_mem z)
theorem dbl_len {k : Nat} : ∀ l : List Nat, (PySem.StrLaws.dbl k l).length ≤ 2 * l.length
  | [] => Nat.le_refl _
  | a :: l => by
    have := dbl_len (k := k) l
    unfold PySem.StrLaws.dbl
    split
    · simp only [List.length_cons]; omega
    · simp only [List.length_cons]; omega
theorem repl_S (w : List Nat) : Txt.replace (S w) (" " : Str) ("  " : Str) = S (PySem.StrLaws.dbl 32 w) := by
  have e := PySem.StrLaws.replace_double (S w) 32
  have e2 : (Txt.replace (S w) (" " : Str) ("  " : Str)).cps.toList = PySem.StrLaws.dbl 32 w := e
  exact TL.ext_tl e2
theorem join_ok : ∀ {ws : List (List Nat)}, (∀ w ∈ ws, Wd w) → (TL.joinL [32] ws).length ≤ ws.length * 41 ∧ ∀ c ∈ TL.joinL [32] ws, c < 1114112
  | [], _ => ⟨Nat.le_refl _, fun c hc => by cases hc⟩
  | [w], h => ⟨by have := (h w (by simp)).1; show w.length ≤ _; simp; omega, (h w (by simp)).2⟩
  | w :: v :: ws, h => by
    obtain ⟨i1, i2⟩ := join_ok (ws := v :: ws) fun u hu => h u (List.mem_cons_of_mem _ hu)
    have hw := h w (by simp)
    have e : TL.joinL [32] (w :: v :: ws) = w ++ ([32] ++ TL.joinL [32] (v :: ws)) := rfl
    rw [e]
    refine ⟨?_, fun c hc => ?_⟩
    · have := hw.1
      simp only [List.length_append, List.length_cons, List.length_nil] at i1 ⊢
      omega
    · rcases List.mem_append.mp hc with z | z
      · exact hw.2 c z
      · rcases List.mem_append.mp z with z | z
        · rw [List.mem_singleton.mp z]; decide
        · exact i2 c z
theorem rd__law_drawn (ds : List Dt) (Φ : Slot → Prop) (Ξ : XD → Prop) (h : sp__law_drawn ds Φ Ξ) : d__law_drawn (endsOf Φ Ξ) (rho0 N__law_drawn ds) := by
  obtain ⟨c, rfl, h⟩ := h
  have hz : (200000 : Nat) < sizeLine := by decide
  show dSeq _ _ _ [.pu (.int c), .un, .un, .un, .un, .un, .un, .un]
  refine seq_cut (fun ρ => ∃ xs : List Int, xs.length = 60 ∧ (∀ x ∈ xs, Drw x) ∧ ρ = [.pu (.int c), .pu (.list (xs.map .int)), .un, .un, .un, .un, .un, .un]) (fun E _ hE => ?_) ?_
  · simp only [dRet, dRetF, dSetX, dCallX, dRetX, noOw, dTry, dCpy, dRaise, dRetO, dSetP, dSetS, dSetF, dSeq, dIf, dNext, dCall, dCallF, dB, dBin, dCons, dNil, dTup, dLst, dV, dC, dTV, onB, dTAnd, dTOr, dTNot, dAnd, dOr, dNot, dIfE, dIsN, dNotN, isN, dSl, dSlF, dNoPart, dPart, dPar, dParS, dAsg, dgN, dgT, dgCons, dgNil, dFE, dIsi, dListF, dNeg, dRev, dFrz, dApp, dAppS, dIns, dExtend, dClear, dReverse, dPop, oIx, oI, oIC, oAddU, oSubI, oMulU, oMulI, oFd, oMd, oPw, oLt, oLe, oGt, oGe, oEq, oNe, getF, setF, Cl.d, getS, setS, purF_nil, purF_cons, purH, allF_nil, allF_cons, allH, rho0, endsOf, scalD, bLen, bAbs, bInt, bIntU, bTup, true_and, and_true, Option.some.injEq, exists_eq_left', decide_eq_true_eq, Bool.not_eq_true', decide_eq_false_iff_not, it_eQ0, it_eQ1, it_eP0, it_eP1, it_eS0, it_eS1, fits_eQ, fits_eP, fits_eS, eqv_eQ, eqv_eP, eqv_eS, eqv_int, eqv_bool, shp_int, shp_bool, shp_none, shp_eQ, shp_eP, shp_eS, dCont, dBreak, dXi, dSetG, dAppG, oIsB, oNotB, dTx, pJoin, pSplit, pPart, pStarts, bStr, bIntS, dFmt, dJs, ↓reduceIte, nsp_none, nsp_bool, nsp_int, nsp_str, nsp_list, nsp_tuple, nsp_eQ, nsp_eP, nsp_eS, dat_pu, dat_ow, seqD_l, seqD_t, not_true_eq_false, Bool.true_eq_false, Bool.not_not, List.length_cons, List.length_nil, mkP, mkS, fits_list, fits_tuple, isIntD, isBoolD, isListD, isStrD, isTupD, Bool.not_true, Bool.not_false, Bool.false_eq_true, it_l0, it_l1, it_l2, it_t0, it_t1, it_t2, shp_ps, shp_pt, shp_ss, shp_is, seqD_eQ, seqD_eP, seqD_eS, walkD_eP, walkD_eS, walkD_l, walkD_t]
    exact ⟨c, 60, rfl, by decide, fun xs hx hd => hE _ ⟨xs, hx, hd, rfl⟩⟩
  rintro _ ⟨xs, hx, hd, rfl⟩
  refine seq_cut (fun ρ => ρ = [.pu (.int c), .pu (.list (xs.map .int)), .ow [], .un, .un, .un, .un, .un]) (fun E _ hE => ?_) ?_
  · simp only [dRet, dRetF, dSetX, dCallX, dRetX, noOw, dTry, dCpy, dRaise, dRetO, dSetP, dSetS, dSetF, dSeq, dIf, dNext, dCall, dCallF, dB, dBin, dCons, dNil, dTup, dLst, dV, dC, dTV, onB, dTAnd, dTOr, dTNot, dAnd, dOr, dNot, dIfE, dIsN, dNotN, isN, dSl, dSlF, dNoPart, dPart, dPar, dParS, dAsg, dgN, dgT, dgCons, dgNil, dFE, dIsi, dListF, dNeg, dRev, dFrz, dApp, dAppS, dIns, dExtend, dClear, dReverse, dPop, oIx, oI, oIC, oAddU, oSubI, oMulU, oMulI, oFd, oMd, oPw, oLt, oLe, oGt, oGe, oEq, oNe, getF, setF, Cl.d, getS, setS, purF_nil, purF_cons, purH, allF_nil, allF_cons, allH, rho0, endsOf, scalD, bLen, bAbs, bInt, bIntU, bTup, true_and, and_true, Option.some.injEq, exists_eq_left', decide_eq_true_eq, Bool.not_eq_true', decide_eq_false_iff_not, it_eQ0, it_eQ1, it_eP0, it_eP1, it_eS0, it_eS1, fits_eQ, fits_eP, fits_eS, eqv_eQ, eqv_eP, eqv_eS, eqv_int, eqv_bool, shp_int, shp_bool, shp_none, shp_eQ, shp_eP, shp_eS, dCont, dBreak, dXi, dSetG, dAppG, oIsB, oNotB, dTx, pJoin, pSplit, pPart, pStarts, bStr, bIntS, dFmt, dJs, ↓reduceIte, nsp_none, nsp_bool, nsp_int, nsp_str, nsp_list, nsp_tuple, nsp_eQ, nsp_eP, nsp_eS, dat_pu, dat_ow, seqD_l, seqD_t, not_true_eq_false, Bool.true_eq_false, Bool.not_not, List.length_cons, List.length_nil, mkP, mkS, fits_list, fits_tuple, isIntD, isBoolD, isListD, isStrD, isTupD, Bool.not_true, Bool.not_false, Bool.false_eq_true, it_l0, it_l1, it_l2, it_t0, it_t1, it_t2, shp_ps, shp_pt, shp_ss, shp_is, seqD_eQ, seqD_eP, seqD_eS, walkD_eP, walkD_eS, walkD_l, walkD_t]
    exact hE _ rfl
  rintro _ rfl
  refine seq_forA (fun ds => ∃ n : Nat, 1 ≤ n ∧ n ≤ 24 ∧ ds = (List.range n).map fun (k : Nat) => PyData.int k) (fun Q hQ => ?_) (fun k ρ => ∃ (ws : List (List Nat)) (p q r s : Slot), ws.length = k ∧ (∀ w ∈ ws, Wd w) ∧ ρ = [.pu (.int c), .pu (.list (xs.map .int)), .ow (ws.map eW), p, q, r, s, .un]) ⟨[], _, _, _, _, rfl, (fun p hp => by cases hp), rfl⟩ ?_ ?_
  · simp only [diRng1, dRet, dRetF, dSetX, dCallX, dRetX, noOw, dTry, dCpy, dRaise, dRetO, dSetP, dSetS, dSetF, dSeq, dIf, dNext, dCall, dCallF, dB, dBin, dCons, dNil, dTup, dLst, dV, dC, dTV, onB, dTAnd, dTOr, dTNot, dAnd, dOr, dNot, dIfE, dIsN, dNotN, isN, dSl, dSlF, dNoPart, dPart, dPar, dParS, dAsg, dgN, dgT, dgCons, dgNil, dFE, dIsi, dListF, dNeg, dRev, dFrz, dApp, dAppS, dIns, dExtend, dClear, dReverse, dPop, oIx, oI, oIC, oAddU, oSubI, oMulU, oMulI, oFd, oMd, oPw, oLt, oLe, oGt, oGe, oEq, oNe, getF, setF, Cl.d, getS, setS, purF_nil, purF_cons, purH, allF_nil, allF_cons, allH, rho0, endsOf, scalD, bLen, bAbs, bInt, bIntU, bTup, true_and, and_true, Option.some.injEq, exists_eq_left', decide_eq_true_eq, Bool.not_eq_true', decide_eq_false_iff_not, it_eQ0, it_eQ1, it_eP0, it_eP1, it_eS0, it_eS1, fits_eQ, fits_eP, fits_eS, eqv_eQ, eqv_eP, eqv_eS, eqv_int, eqv_bool, shp_int, shp_bool, shp_none, shp_eQ, shp_eP, shp_eS, dCont, dBreak, dXi, dSetG, dAppG, oIsB, oNotB, dTx, pJoin, pSplit, pPart, pStarts, bStr, bIntS, dFmt, dJs, ↓reduceIte, nsp_none, nsp_bool, nsp_int, nsp_str, nsp_list, nsp_tuple, nsp_eQ, nsp_eP, nsp_eS, dat_pu, dat_ow, seqD_l, seqD_t, not_true_eq_false, Bool.true_eq_false, Bool.not_not, List.length_cons, List.length_nil, mkP, mkS, fits_list, fits_tuple, isIntD, isBoolD, isListD, isStrD, isTupD, Bool.not_true, Bool.not_false, Bool.false_eq_true, it_l0, it_l1, it_l2, it_t0, it_t1, it_t2, shp_ps, shp_pt, shp_ss, shp_is, seqD_eQ, seqD_eP, seqD_eS, walkD_eP, walkD_eS, walkD_l, walkD_t]
    refine ⟨_, it_drw 0 (by omega), _, it_drw 1 (by omega), by decide, ?_⟩
    have fin : ∀ g : Int, 1 ≤ g → g ≤ 24 → g ≠ 0 ∧ -2 ^ 62 ≤ 1 + (xs.getD 0 default).fmod g ∧ 1 + (xs.getD 0 default).fmod g < 2 ^ 62 ∧ Q ((List.range (1 + (xs.getD 0 default).fmod g).toNat).map fun (k : Nat) => PyData.int k) := fun g g0 g1 => by
      obtain ⟨z0, z1⟩ := fmod_b (x := xs.getD 0 default) (m := g) (by omega)
      exact ⟨by omega, by omega, by omega, hQ _ ⟨_, by omega, by omega, rfl⟩⟩
    have f := fmod_b (x := xs.getD 1 default) (m := 3) (by decide)
    have f012 : (xs.getD 1 default).fmod 3 = 0 ∨ (xs.getD 1 default).fmod 3 = 1 ∨ (xs.getD 1 default).fmod 3 = 2 := by omega
    rcases f012 with z | z | z
    · rw [z]; simp only [dRet, dRetF, dSetX, dCallX, dRetX, noOw, dTry, dCpy, dRaise, dRetO, dSetP, dSetS, dSetF, dSeq, dIf, dNext, dCall, dCallF, dB, dBin, dCons, dNil, dTup, dLst, dV, dC, dTV, onB, dTAnd, dTOr, dTNot, dAnd, dOr, dNot, dIfE, dIsN, dNotN, isN, dSl, dSlF, dNoPart, dPart, dPar, dParS, dAsg, dgN, dgT, dgCons, dgNil, dFE, dIsi, dListF, dNeg, dRev, dFrz, dApp, dAppS, dIns, dExtend, dClear, dReverse, dPop, oIx, oI, oIC, oAddU, oSubI, oMulU, oMulI, oFd, oMd, oPw, oLt, oLe, oGt, oGe, oEq, oNe, getF, setF, Cl.d, getS, setS, purF_nil, purF_cons, purH, allF_nil, allF_cons, allH, rho0, endsOf, scalD, bLen, bAbs, bInt, bIntU, bTup, true_and, and_true, Option.some.injEq, exists_eq_left', decide_eq_true_eq, Bool.not_eq_true', decide_eq_false_iff_not, it_eQ0, it_eQ1, it_eP0, it_eP1, it_eS0, it_eS1, fits_eQ, fits_eP, fits_eS, eqv_eQ, eqv_eP, eqv_eS, eqv_int, eqv_bool, shp_int, shp_bool, shp_none, shp_eQ, shp_eP, shp_eS, dCont, dBreak, dXi, dSetG, dAppG, oIsB, oNotB, dTx, pJoin, pSplit, pPart, pStarts, bStr, bIntS, dFmt, dJs, ↓reduceIte, nsp_none, nsp_bool, nsp_int, nsp_str, nsp_list, nsp_tuple, nsp_eQ, nsp_eP, nsp_eS, dat_pu, dat_ow, seqD_l, seqD_t, not_true_eq_false, Bool.true_eq_false, Bool.not_not, List.length_cons, List.length_nil, mkP, mkS, fits_list, fits_tuple, isIntD, isBoolD, isListD, isStrD, isTupD, Bool.not_true, Bool.not_false, Bool.false_eq_true, it_l0, it_l1, it_l2, it_t0, it_t1, it_t2, shp_ps, shp_pt, shp_ss, shp_is, seqD_eQ, seqD_eP, seqD_eS, walkD_eP, walkD_eS, walkD_l, walkD_t]; exact fin 3 (by decide) (by decide)
    · rw [z]; simp only [dRet, dRetF, dSetX, dCallX, dRetX, noOw, dTry, dCpy, dRaise, dRetO, dSetP, dSetS, dSetF, dSeq, dIf, dNext, dCall, dCallF, dB, dBin, dCons, dNil, dTup, dLst, dV, dC, dTV, onB, dTAnd, dTOr, dTNot, dAnd, dOr, dNot, dIfE, dIsN, dNotN, isN, dSl, dSlF, dNoPart, dPart, dPar, dParS, dAsg, dgN, dgT, dgCons, dgNil, dFE, dIsi, dListF, dNeg, dRev, dFrz, dApp, dAppS, dIns, dExtend, dClear, dReverse, dPop, oIx, oI, oIC, oAddU, oSubI, oMulU, oMulI, oFd, oMd, oPw, oLt, oLe, oGt, oGe, oEq, oNe, getF, setF, Cl.d, getS, setS, purF_nil, purF_cons, purH, allF_nil, allF_cons, allH, rho0, endsOf, scalD, bLen, bAbs, bInt, bIntU, bTup, true_and, and_true, Option.some.injEq, exists_eq_left', decide_eq_true_eq, Bool.not_eq_true', decide_eq_false_iff_not, it_eQ0, it_eQ1, it_eP0, it_eP1, it_eS0, it_eS1, fits_eQ, fits_eP, fits_eS, eqv_eQ, eqv_eP, eqv_eS, eqv_int, eqv_bool, shp_int, shp_bool, shp_none, shp_eQ, shp_eP, shp_eS, dCont, dBreak, dXi, dSetG, dAppG, oIsB, oNotB, dTx, pJoin, pSplit, pPart, pStarts, bStr, bIntS, dFmt, dJs, ↓reduceIte, nsp_none, nsp_bool, nsp_int, nsp_str, nsp_list, nsp_tuple, nsp_eQ, nsp_eP, nsp_eS, dat_pu, dat_ow, seqD_l, seqD_t, not_true_eq_false, Bool.true_eq_false, Bool.not_not, List.length_cons, List.length_nil, mkP, mkS, fits_list, fits_tuple, isIntD, isBoolD, isListD, isStrD, isTupD, Bool.not_true, Bool.not_false, Bool.false_eq_true, it_l0, it_l1, it_l2, it_t0, it_t1, it_t2, shp_ps, shp_pt, shp_ss, shp_is, seqD_eQ, seqD_eP, seqD_eS, walkD_eP, walkD_eS, walkD_l, walkD_t]; exact fin 5 (by decide) (by decide)
    · rw [z]; simp only [dRet, dRetF, dSetX, dCallX, dRetX, noOw, dTry, dCpy, dRaise, dRetO, dSetP, dSetS, dSetF, dSeq, dIf, dNext, dCall, dCallF, dB, dBin, dCons, dNil, dTup, dLst, dV, dC, dTV, onB, dTAnd, dTOr, dTNot, dAnd, dOr, dNot, dIfE, dIsN, dNotN, isN, dSl, dSlF, dNoPart, dPart, dPar, dParS, dAsg, dgN, dgT, dgCons, dgNil, dFE, dIsi, dListF, dNeg, dRev, dFrz, dApp, dAppS, dIns, dExtend, dClear, dReverse, dPop, oIx, oI, oIC, oAddU, oSubI, oMulU, oMulI, oFd, oMd, oPw, oLt, oLe, oGt, oGe, oEq, oNe, getF, setF, Cl.d, getS, setS, purF_nil, purF_cons, purH, allF_nil, allF_cons, allH, rho0, endsOf, scalD, bLen, bAbs, bInt, bIntU, bTup, true_and, and_true, Option.some.injEq, exists_eq_left', decide_eq_true_eq, Bool.not_eq_true', decide_eq_false_iff_not, it_eQ0, it_eQ1, it_eP0, it_eP1, it_eS0, it_eS1, fits_eQ, fits_eP, fits_eS, eqv_eQ, eqv_eP, eqv_eS, eqv_int, eqv_bool, shp_int, shp_bool, shp_none, shp_eQ, shp_eP, shp_eS, dCont, dBreak, dXi, dSetG, dAppG, oIsB, oNotB, dTx, pJoin, pSplit, pPart, pStarts, bStr, bIntS, dFmt, dJs, ↓reduceIte, nsp_none, nsp_bool, nsp_int, nsp_str, nsp_list, nsp_tuple, nsp_eQ, nsp_eP, nsp_eS, dat_pu, dat_ow, seqD_l, seqD_t, not_true_eq_false, Bool.true_eq_false, Bool.not_not, List.length_cons, List.length_nil, mkP, mkS, fits_list, fits_tuple, isIntD, isBoolD, isListD, isStrD, isTupD, Bool.not_true, Bool.not_false, Bool.false_eq_true, it_l0, it_l1, it_l2, it_t0, it_t1, it_t2, shp_ps, shp_pt, shp_ss, shp_is, seqD_eQ, seqD_eP, seqD_eS, walkD_eP, walkD_eS, walkD_l, walkD_t]; exact fin 24 (by decide) (by decide)
  · rintro _ ⟨n, n0, n1, rfl⟩ k d' ρ' hk ⟨ws, p, q, r, s, hws, hw, rfl⟩
    obtain ⟨hkl, rfl⟩ := rng_get hk
    simp only [dRet, dRetF, dSetX, dCallX, dRetX, noOw, dTry, dCpy, dRaise, dRetO, dSetP, dSetS, dSetF, dSeq, dIf, dNext, dCall, dCallF, dB, dBin, dCons, dNil, dTup, dLst, dV, dC, dTV, onB, dTAnd, dTOr, dTNot, dAnd, dOr, dNot, dIfE, dIsN, dNotN, isN, dSl, dSlF, dNoPart, dPart, dPar, dParS, dAsg, dgN, dgT, dgCons, dgNil, dFE, dIsi, dListF, dNeg, dRev, dFrz, dApp, dAppS, dIns, dExtend, dClear, dReverse, dPop, oIx, oI, oIC, oAddU, oSubI, oMulU, oMulI, oFd, oMd, oPw, oLt, oLe, oGt, oGe, oEq, oNe, getF, setF, Cl.d, getS, setS, purF_nil, purF_cons, purH, allF_nil, allF_cons, allH, rho0, endsOf, scalD, bLen, bAbs, bInt, bIntU, bTup, true_and, and_true, Option.some.injEq, exists_eq_left', decide_eq_true_eq, Bool.not_eq_true', decide_eq_false_iff_not, it_eQ0, it_eQ1, it_eP0, it_eP1, it_eS0, it_eS1, fits_eQ, fits_eP, fits_eS, eqv_eQ, eqv_eP, eqv_eS, eqv_int, eqv_bool, shp_int, shp_bool, shp_none, shp_eQ, shp_eP, shp_eS, dCont, dBreak, dXi, dSetG, dAppG, oIsB, oNotB, dTx, pJoin, pSplit, pPart, pStarts, bStr, bIntS, dFmt, dJs, ↓reduceIte, nsp_none, nsp_bool, nsp_int, nsp_str, nsp_list, nsp_tuple, nsp_eQ, nsp_eP, nsp_eS, dat_pu, dat_ow, seqD_l, seqD_t, not_true_eq_false, Bool.true_eq_false, Bool.not_not, List.length_cons, List.length_nil, mkP, mkS, fits_list, fits_tuple, isIntD, isBoolD, isListD, isStrD, isTupD, Bool.not_true, Bool.not_false, Bool.false_eq_true, it_l0, it_l1, it_l2, it_t0, it_t1, it_t2, shp_ps, shp_pt, shp_ss, shp_is, seqD_eQ, seqD_eP, seqD_eS, walkD_eP, walkD_eS, walkD_l, walkD_t, slD, cutD_map]
    have ec : cutD xs (some (10 + 2 * (k : Int))) (some (12 + 2 * (k : Int))) = [xs.getD (10 + 2 * k) default, xs.getD (10 + 2 * k + 1) default] := by
      unfold cutD
      rw [show (some (10 + 2 * (k : Int))) = some ((10 + 2 * k : Nat) : Int) by rw [Int.natCast_add, Int.natCast_mul]; rfl, show (some (12 + 2 * (k : Int))) = some ((12 + 2 * k : Nat) : Int) by rw [Int.natCast_add, Int.natCast_mul]; rfl, HT.sIx_nat, HT.sIx_nat]
      rw [Nat.min_eq_left (by omega), Nat.min_eq_left (by omega)]
      refine List.ext_getElem? fun i => ?_
      rw [List.getElem?_take]
      by_cases ci : i < 2
      · rw [if_pos (by omega), List.getElem?_drop, List.getElem?_eq_getElem (by omega)]
        have : i = 0 ∨ i = 1 := by omega
        rcases this with rfl | rfl <;> simp only [List.getElem?_cons_zero, List.getElem?_cons_succ, List.getD_eq_getElem?_getD] <;> (rw [List.getElem?_eq_getElem (by omega)]; rfl)
      · rw [if_neg (by omega), List.getElem?_eq_none (by show 2 ≤ i; omega)]
    rw [ec]
    obtain ⟨dx0, dx1⟩ := drw_at hd (i := 10 + 2 * k) (by omega)
    generalize xs.getD (10 + 2 * k) default = x at dx0 dx1
    generalize xs.getD (10 + 2 * k + 1) default = y
    refine ⟨cmN (by decide) (by omega), cmN (by decide) (by omega), rfl, ?_⟩
    simp only [List.map_cons, List.map_nil, dRet, dRetF, dSetX, dCallX, dRetX, noOw, dTry, dCpy, dRaise, dRetO, dSetP, dSetS, dSetF, dSeq, dIf, dNext, dCall, dCallF, dB, dBin, dCons, dNil, dTup, dLst, dV, dC, dTV, onB, dTAnd, dTOr, dTNot, dAnd, dOr, dNot, dIfE, dIsN, dNotN, isN, dSl, dSlF, dNoPart, dPart, dPar, dParS, dAsg, dgN, dgT, dgCons, dgNil, dFE, dIsi, dListF, dNeg, dRev, dFrz, dApp, dAppS, dIns, dExtend, dClear, dReverse, dPop, oIx, oI, oIC, oAddU, oSubI, oMulU, oMulI, oFd, oMd, oPw, oLt, oLe, oGt, oGe, oEq, oNe, getF, setF, Cl.d, getS, setS, purF_nil, purF_cons, purH, allF_nil, allF_cons, allH, rho0, endsOf, scalD, bLen, bAbs, bInt, bIntU, bTup, true_and, and_true, Option.some.injEq, exists_eq_left', decide_eq_true_eq, Bool.not_eq_true', decide_eq_false_iff_not, it_eQ0, it_eQ1, it_eP0, it_eP1, it_eS0, it_eS1, fits_eQ, fits_eP, fits_eS, eqv_eQ, eqv_eP, eqv_eS, eqv_int, eqv_bool, shp_int, shp_bool, shp_none, shp_eQ, shp_eP, shp_eS, dCont, dBreak, dXi, dSetG, dAppG, oIsB, oNotB, dTx, pJoin, pSplit, pPart, pStarts, bStr, bIntS, dFmt, dJs, ↓reduceIte, nsp_none, nsp_bool, nsp_int, nsp_str, nsp_list, nsp_tuple, nsp_eQ, nsp_eP, nsp_eS, dat_pu, dat_ow, seqD_l, seqD_t, not_true_eq_false, Bool.true_eq_false, Bool.not_not, List.length_cons, List.length_nil, mkP, mkS, fits_list, fits_tuple, isIntD, isBoolD, isListD, isStrD, isTupD, Bool.not_true, Bool.not_false, Bool.false_eq_true, it_l0, it_l1, it_l2, it_t0, it_t1, it_t2, shp_ps, shp_pt, shp_ss, shp_is, seqD_eQ, seqD_eP, seqD_eS, walkD_eP, walkD_eS, walkD_l, walkD_t]
    have f1 := fmod_b (x := x) (m := 19) (by decide)
    have f2 := fmod_b (x := x.fdiv 19) (m := 2) (by decide)
    have f3 := fmod_b (x := y) (m := 6) (by decide)
    have hf2 : (x.fdiv 19).fmod 2 = 0 ∨ (x.fdiv 19).fmod 2 = 1 := by omega
    generalize hi : (x.fmod 19 - 9) * (1 + (x.fdiv 19).fmod 2 * 999) = i
    have bi : i.natAbs < 10 ^ 5 := by
      rw [← hi]
      rcases hf2 with z | z <;> rw [z] <;> omega
    have li : i.natAbs.log2 < 1920 := log_ok (Nat.lt_of_lt_of_le bi (Nat.le_trans (by decide : 10 ^ 5 ≤ 2 ^ 17) (Nat.pow_le_pow_right (by decide) (by decide))))
    have si : (shI i).length ≤ 6 := by
      have := TL.numL_len (n := i.natAbs) (k := 5) (by decide) bi
      unfold shI
      split
      · rw [List.length_cons]; omega
      · omega
    refine ⟨by decide, cfdN (by decide) (by decide), by decide, cmN (by omega) (by decide), cmN (by omega) (by omega), li, ?_⟩
    have e1 : S (shI i) ++ ("," : Str) = S (shI i ++ [44]) := SX.S_cat _ [44]
    rw [str_int, e1]
    have el : (("," : Str)).length = 1 := rfl
    refine ⟨by rw [SX.S_len, el]; omega, by decide, ?_⟩
    have fin : ∀ v : List Nat, v.length ≤ 12 → (∀ c ∈ v, c < 1114112) → (S (shI i ++ [44])).length + (S v).length ≤ sizeLine ∧ (ws.map eW).length < sizeLine ∧ ∃ (us : List (List Nat)) (p q r s : Slot), us.length = k + 1 ∧ (∀ w ∈ us, Wd w) ∧ [Slot.pu (.int c), .pu (.list (xs.map .int)), .ow (ws.map eW ++ [.str (S (shI i ++ [44]) ++ S v)]), .pu (.int k), .pu (.int x), .pu (.int y), .pu (.str (S (shI i))), .un] = [.pu (.int c), .pu (.list (xs.map .int)), .ow (us.map eW), p, q, r, s, .un] := fun v v1 v2 => by
      refine ⟨by rw [SX.S_len, SX.S_len, List.length_append, List.length_singleton]; omega, by rw [List.length_map]; omega, ws ++ [shI i ++ [44] ++ v], .pu (.int k), .pu (.int x), .pu (.int y), .pu (.str (S (shI i))), by rw [List.length_append, hws]; rfl, fun w hwm => ?_, ?_⟩
      · rcases List.mem_append.mp hwm with z | z
        · exact hw w z
        · rw [List.mem_singleton.mp z]
          refine ⟨by simp only [List.length_append, List.length_singleton]; omega, fun c hc => ?_⟩
          rcases List.mem_append.mp hc with z | z
          · rcases List.mem_append.mp z with z | z
            · rcases shI_signs z with z | z <;> omega
            · rw [List.mem_singleton.mp z]; decide
          · exact v2 c z
      · rw [catW, List.map_append]
        rfl
    have y6 : y.fmod 6 = 0 ∨ y.fmod 6 = 1 ∨ y.fmod 6 = 2 ∨ y.fmod 6 = 3 ∨ y.fmod 6 = 4 ∨ y.fmod 6 = 5 := by omega
    rcases y6 with z | z | z | z | z | z <;> rw [z]
    · exact ⟨_, rfl, fin [48] (by decide) (by decide)⟩
    · exact ⟨_, rfl, fin [45, 51] (by decide) (by decide)⟩
    · exact ⟨_, rfl, fin [49, 47, 50] (by decide) (by decide)⟩
    · exact ⟨_, rfl, fin [45, 55, 47, 54] (by decide) (by decide)⟩
    · exact ⟨_, rfl, fin [49, 48, 48, 48, 48, 48, 48] (by decide) (by decide)⟩
    · exact ⟨_, rfl, fin [45, 49, 48, 48, 48, 48, 48, 48, 47, 57, 57, 57] (by decide) (by decide)⟩
  · rintro _ ⟨n, n0, n1, rfl⟩ ρ' ⟨ws, p, q, r, s, hws, hw, rfl⟩
    rw [rng_len] at hws
    refine fz_cut (ds := ws.map eW) rfl ?_
    show dSeq _ _ _ [.pu (.int c), .pu (.list (xs.map .int)), .pu (.list (ws.map eW)), p, q, r, s, .un]
    refine seq_forA (fun ds => ∃ m : Nat, m ≤ 2 ∧ ds = (List.range m).map fun (k : Nat) => PyData.int k) (fun Q hQ => ?_) (fun k ρ => ∃ (us : List (List Nat)) (p : Slot), us.length = n ∧ (∀ w ∈ us, Wd w) ∧ ρ = [.pu (.int c), .pu (.list (xs.map .int)), .pu (.list (us.map eW)), p, q, r, s, .un]) ⟨ws, _, hws, hw, rfl⟩ ?_ ?_
    · simp only [diRng1, dRet, dRetF, dSetX, dCallX, dRetX, noOw, dTry, dCpy, dRaise, dRetO, dSetP, dSetS, dSetF, dSeq, dIf, dNext, dCall, dCallF, dB, dBin, dCons, dNil, dTup, dLst, dV, dC, dTV, onB, dTAnd, dTOr, dTNot, dAnd, dOr, dNot, dIfE, dIsN, dNotN, isN, dSl, dSlF, dNoPart, dPart, dPar, dParS, dAsg, dgN, dgT, dgCons, dgNil, dFE, dIsi, dListF, dNeg, dRev, dFrz, dApp, dAppS, dIns, dExtend, dClear, dReverse, dPop, oIx, oI, oIC, oAddU, oSubI, oMulU, oMulI, oFd, oMd, oPw, oLt, oLe, oGt, oGe, oEq, oNe, getF, setF, Cl.d, getS, setS, purF_nil, purF_cons, purH, allF_nil, allF_cons, allH, rho0, endsOf, scalD, bLen, bAbs, bInt, bIntU, bTup, true_and, and_true, Option.some.injEq, exists_eq_left', decide_eq_true_eq, Bool.not_eq_true', decide_eq_false_iff_not, it_eQ0, it_eQ1, it_eP0, it_eP1, it_eS0, it_eS1, fits_eQ, fits_eP, fits_eS, eqv_eQ, eqv_eP, eqv_eS, eqv_int, eqv_bool, shp_int, shp_bool, shp_none, shp_eQ, shp_eP, shp_eS, dCont, dBreak, dXi, dSetG, dAppG, oIsB, oNotB, dTx, pJoin, pSplit, pPart, pStarts, bStr, bIntS, dFmt, dJs, ↓reduceIte, nsp_none, nsp_bool, nsp_int, nsp_str, nsp_list, nsp_tuple, nsp_eQ, nsp_eP, nsp_eS, dat_pu, dat_ow, seqD_l, seqD_t, not_true_eq_false, Bool.true_eq_false, Bool.not_not, List.length_cons, List.length_nil, mkP, mkS, fits_list, fits_tuple, isIntD, isBoolD, isListD, isStrD, isTupD, Bool.not_true, Bool.not_false, Bool.false_eq_true, it_l0, it_l1, it_l2, it_t0, it_t1, it_t2, shp_ps, shp_pt, shp_ss, shp_is, seqD_eQ, seqD_eP, seqD_eS, walkD_eP, walkD_eS, walkD_l, walkD_t]
      have f := fmod_b (x := xs.getD 2 default) (m := 3) (by decide)
      exact ⟨_, it_drw 2 (by omega), by decide, by omega, by omega, hQ _ ⟨_, by omega, rfl⟩⟩
    · rintro _ ⟨m, hm, rfl⟩ k d' ρ' hk ⟨us, p, hus, hu, rfl⟩
      obtain ⟨hkl, rfl⟩ := rng_get hk
      simp only [dRet, dRetF, dSetX, dCallX, dRetX, noOw, dTry, dCpy, dRaise, dRetO, dSetP, dSetS, dSetF, dSeq, dIf, dNext, dCall, dCallF, dB, dBin, dCons, dNil, dTup, dLst, dV, dC, dTV, onB, dTAnd, dTOr, dTNot, dAnd, dOr, dNot, dIfE, dIsN, dNotN, isN, dSl, dSlF, dNoPart, dPart, dPar, dParS, dAsg, dgN, dgT, dgCons, dgNil, dFE, dIsi, dListF, dNeg, dRev, dFrz, dApp, dAppS, dIns, dExtend, dClear, dReverse, dPop, oIx, oI, oIC, oAddU, oSubI, oMulU, oMulI, oFd, oMd, oPw, oLt, oLe, oGt, oGe, oEq, oNe, getF, setF, Cl.d, getS, setS, purF_nil, purF_cons, purH, allF_nil, allF_cons, allH, rho0, endsOf, scalD, bLen, bAbs, bInt, bIntU, bTup, true_and, and_true, Option.some.injEq, exists_eq_left', decide_eq_true_eq, Bool.not_eq_true', decide_eq_false_iff_not, it_eQ0, it_eQ1, it_eP0, it_eP1, it_eS0, it_eS1, fits_eQ, fits_eP, fits_eS, eqv_eQ, eqv_eP, eqv_eS, eqv_int, eqv_bool, shp_int, shp_bool, shp_none, shp_eQ, shp_eP, shp_eS, dCont, dBreak, dXi, dSetG, dAppG, oIsB, oNotB, dTx, pJoin, pSplit, pPart, pStarts, bStr, bIntS, dFmt, dJs, ↓reduceIte, nsp_none, nsp_bool, nsp_int, nsp_str, nsp_list, nsp_tuple, nsp_eQ, nsp_eP, nsp_eS, dat_pu, dat_ow, seqD_l, seqD_t, not_true_eq_false, Bool.true_eq_false, Bool.not_not, List.length_cons, List.length_nil, mkP, mkS, fits_list, fits_tuple, isIntD, isBoolD, isListD, isStrD, isTupD, Bool.not_true, Bool.not_false, Bool.false_eq_true, it_l0, it_l1, it_l2, it_t0, it_t1, it_t2, shp_ps, shp_pt, shp_ss, shp_is, seqD_eQ, seqD_eP, seqD_eS, walkD_eP, walkD_eS, walkD_l, walkD_t, slD, cutD_map]
      have ed : cutD xs (some (3 + 2 * (k : Int))) none = xs.drop (3 + 2 * k) := by
        rw [show (some (3 + 2 * (k : Int))) = some ((3 + 2 * k : Nat) : Int) by rw [Int.natCast_add, Int.natCast_mul]; rfl]
        exact cutD_from xs _
      rw [ed]
      refine ⟨cmN (by decide) (by omega), us, xs.drop (3 + 2 * k), rfl, by omega, by omega, hu, by rw [List.length_drop]; omega, by rw [List.length_drop]; omega, fun vs hvs hv => ?_⟩
      exact ⟨vs, _, by omega, hv, rfl⟩
    · rintro _ ⟨m, hm, rfl⟩ ρ' ⟨us, p, hus, hu, rfl⟩
      refine seq_cut (fun ρ => ∃ vs : List (List Nat), vs.length ≤ 25 ∧ (∀ w ∈ vs, Wd w) ∧ ρ = [.pu (.int c), .pu (.list (xs.map .int)), .pu (.list (vs.map eW)), p, q, r, s, .un]) (fun E _ hE => ?_) ?_
      · simp only [oRepL, slD, List.length_map, dRet, dRetF, dSetX, dCallX, dRetX, noOw, dTry, dCpy, dRaise, dRetO, dSetP, dSetS, dSetF, dSeq, dIf, dNext, dCall, dCallF, dB, dBin, dCons, dNil, dTup, dLst, dV, dC, dTV, onB, dTAnd, dTOr, dTNot, dAnd, dOr, dNot, dIfE, dIsN, dNotN, isN, dSl, dSlF, dNoPart, dPart, dPar, dParS, dAsg, dgN, dgT, dgCons, dgNil, dFE, dIsi, dListF, dNeg, dRev, dFrz, dApp, dAppS, dIns, dExtend, dClear, dReverse, dPop, oIx, oI, oIC, oAddU, oSubI, oMulU, oMulI, oFd, oMd, oPw, oLt, oLe, oGt, oGe, oEq, oNe, getF, setF, Cl.d, getS, setS, purF_nil, purF_cons, purH, allF_nil, allF_cons, allH, rho0, endsOf, scalD, bLen, bAbs, bInt, bIntU, bTup, true_and, and_true, Option.some.injEq, exists_eq_left', decide_eq_true_eq, Bool.not_eq_true', decide_eq_false_iff_not, it_eQ0, it_eQ1, it_eP0, it_eP1, it_eS0, it_eS1, fits_eQ, fits_eP, fits_eS, eqv_eQ, eqv_eP, eqv_eS, eqv_int, eqv_bool, shp_int, shp_bool, shp_none, shp_eQ, shp_eP, shp_eS, dCont, dBreak, dXi, dSetG, dAppG, oIsB, oNotB, dTx, pJoin, pSplit, pPart, pStarts, bStr, bIntS, dFmt, dJs, ↓reduceIte, nsp_none, nsp_bool, nsp_int, nsp_str, nsp_list, nsp_tuple, nsp_eQ, nsp_eP, nsp_eS, dat_pu, dat_ow, seqD_l, seqD_t, not_true_eq_false, Bool.true_eq_false, Bool.not_not, List.length_cons, List.length_nil, mkP, mkS, fits_list, fits_tuple, isIntD, isBoolD, isListD, isStrD, isTupD, Bool.not_true, Bool.not_false, Bool.false_eq_true, it_l0, it_l1, it_l2, it_t0, it_t1, it_t2, shp_ps, shp_pt, shp_ss, shp_is, seqD_eQ, seqD_eP, seqD_eS, walkD_eP, walkD_eS, walkD_l, walkD_t]
        refine ⟨_, it_drw 7 (by omega), by decide, ?_⟩
        by_cases c7 : (xs.getD 7 default).fmod 7 = 3
        · refine ite_yes c7 ?_
          refine ⟨by decide, by decide, by omega, _, it_drw 8 (by omega), by decide, ?_⟩
          have f := fmod_b (x := xs.getD 8 default) (m := 2) (by decide)
          have er : (List.replicate (25 : Int).toNat (us.map eW)).flatten = ((List.replicate 25 us).flatten).map eW := by
            rw [List.map_flatten, List.map_replicate]
            rfl
          have e25 : (25 - (xs.getD 8 default).fmod 2 : Int) = ((25 - (xs.getD 8 default).fmod 2).toNat : Int) := by rw [Int.toNat_of_nonneg (by omega)]
          rw [er, e25, cutD_map, cutD_to]
          refine hE _ ⟨_, by rw [List.length_take]; omega, fun v hvm => ?_, rfl⟩
          obtain ⟨l, hl, hvl⟩ := List.mem_flatten.mp (List.mem_of_mem_take hvm)
          rw [List.eq_of_mem_replicate hl] at hvl
          exact hu v hvl
        · refine ite_no c7 ?_
          exact hE _ ⟨us, by omega, hu, rfl⟩
      rintro _ ⟨vs, hvs, hv, rfl⟩
      obtain ⟨j1, j2⟩ := join_ok hv
      refine seq_cut (fun ρ => ∃ w : List Nat, w.length ≤ 2000 ∧ (∀ c ∈ w, c < 1114112) ∧ ρ = [.pu (.int c), .pu (.list (xs.map .int)), .pu (.list (vs.map eW)), p, q, r, s, .pu (.str (S w))]) (fun E _ hE => ?_) ?_
      · simp only [dTx, pJoin, dRet, dRetF, dSetX, dCallX, dRetX, noOw, dTry, dCpy, dRaise, dRetO, dSetP, dSetS, dSetF, dSeq, dIf, dNext, dCall, dCallF, dB, dBin, dCons, dNil, dTup, dLst, dV, dC, dTV, onB, dTAnd, dTOr, dTNot, dAnd, dOr, dNot, dIfE, dIsN, dNotN, isN, dSl, dSlF, dNoPart, dPart, dPar, dParS, dAsg, dgN, dgT, dgCons, dgNil, dFE, dIsi, dListF, dNeg, dRev, dFrz, dApp, dAppS, dIns, dExtend, dClear, dReverse, dPop, oIx, oI, oIC, oAddU, oSubI, oMulU, oMulI, oFd, oMd, oPw, oLt, oLe, oGt, oGe, oEq, oNe, getF, setF, Cl.d, getS, setS, purF_nil, purF_cons, purH, allF_nil, allF_cons, allH, rho0, endsOf, scalD, bLen, bAbs, bInt, bIntU, bTup, true_and, and_true, Option.some.injEq, exists_eq_left', decide_eq_true_eq, Bool.not_eq_true', decide_eq_false_iff_not, it_eQ0, it_eQ1, it_eP0, it_eP1, it_eS0, it_eS1, fits_eQ, fits_eP, fits_eS, eqv_eQ, eqv_eP, eqv_eS, eqv_int, eqv_bool, shp_int, shp_bool, shp_none, shp_eQ, shp_eP, shp_eS, dCont, dBreak, dXi, dSetG, dAppG, oIsB, oNotB, dTx, pJoin, pSplit, pPart, pStarts, bStr, bIntS, dFmt, dJs, ↓reduceIte, nsp_none, nsp_bool, nsp_int, nsp_str, nsp_list, nsp_tuple, nsp_eQ, nsp_eP, nsp_eS, dat_pu, dat_ow, seqD_l, seqD_t, not_true_eq_false, Bool.true_eq_false, Bool.not_not, List.length_cons, List.length_nil, mkP, mkS, fits_list, fits_tuple, isIntD, isBoolD, isListD, isStrD, isTupD, Bool.not_true, Bool.not_false, Bool.false_eq_true, it_l0, it_l1, it_l2, it_t0, it_t1, it_t2, shp_ps, shp_pt, shp_ss, shp_is, seqD_eQ, seqD_eP, seqD_eS, walkD_eP, walkD_eS, walkD_l, walkD_t]
        refine ⟨vs.map S, .inl (by rw [List.map_map]; rfl), ?_, ?_⟩
        · have g : ∀ vs : List (List Nat), (∀ w ∈ vs, Wd w) → ((vs.map S).map (·.length)).sum ≤ vs.length * 40 := fun vs => by
            induction vs with
            | nil => intro _; exact Nat.le_refl _
            | cons v vs ih =>
              intro k
              have k1 := (k v List.mem_cons_self).1
              have k2 := ih fun q hq => k q (List.mem_cons_of_mem _ hq)
              have k3 : (S v).length = v.length := SX.S_len v
              simp only [List.map_cons, List.sum_cons, List.length_cons] at k2 ⊢
              omega
          have := g vs hv
          have l1 : ((" " : Str)).length = 1 := rfl
          rw [l1, List.length_map]
          omega
        · have e := SX.join_S [32] vs
          have e2 : (" " : Str) = S [32] := rfl
          rw [e2, e]
          exact hE _ ⟨_, by omega, j2, rfl⟩
      rintro _ ⟨w, w1, w2, rfl⟩
      refine seq_cut (fun ρ => ∃ w : List Nat, OkW w ∧ ρ = [.pu (.int c), .pu (.list (xs.map .int)), .pu (.list (vs.map eW)), p, q, r, s, .pu (.str (S w))]) (fun E _ hE => ?_) ?_
      · have e1 : (" " : Str) ++ S w = S ([32] ++ w) := SX.S_cat [32] _
        have e2 : S w ++ (" " : Str) = S (w ++ [32]) := SX.S_cat _ [32]
        have e3 : S w ++ ("\n" : Str) = S (w ++ [10]) := SX.S_cat _ [10]
        have e4 : cutD w (some 1) none = w.drop 1 := cutD_from w 1
        have lw : (S w).length = w.length := SX.S_len w
        simp only [dRepl, slD, cutSr, e4, fitsD, e1, e2, e3, repl_S, lw, dRet, dRetF, dSetX, dCallX, dRetX, noOw, dTry, dCpy, dRaise, dRetO, dSetP, dSetS, dSetF, dSeq, dIf, dNext, dCall, dCallF, dB, dBin, dCons, dNil, dTup, dLst, dV, dC, dTV, onB, dTAnd, dTOr, dTNot, dAnd, dOr, dNot, dIfE, dIsN, dNotN, isN, dSl, dSlF, dNoPart, dPart, dPar, dParS, dAsg, dgN, dgT, dgCons, dgNil, dFE, dIsi, dListF, dNeg, dRev, dFrz, dApp, dAppS, dIns, dExtend, dClear, dReverse, dPop, oIx, oI, oIC, oAddU, oSubI, oMulU, oMulI, oFd, oMd, oPw, oLt, oLe, oGt, oGe, oEq, oNe, getF, setF, Cl.d, getS, setS, purF_nil, purF_cons, purH, allF_nil, allF_cons, allH, rho0, endsOf, scalD, bLen, bAbs, bInt, bIntU, bTup, true_and, and_true, Option.some.injEq, exists_eq_left', decide_eq_true_eq, Bool.not_eq_true', decide_eq_false_iff_not, it_eQ0, it_eQ1, it_eP0, it_eP1, it_eS0, it_eS1, fits_eQ, fits_eP, fits_eS, eqv_eQ, eqv_eP, eqv_eS, eqv_int, eqv_bool, shp_int, shp_bool, shp_none, shp_eQ, shp_eP, shp_eS, dCont, dBreak, dXi, dSetG, dAppG, oIsB, oNotB, dTx, pJoin, pSplit, pPart, pStarts, bStr, bIntS, dFmt, dJs, ↓reduceIte, nsp_none, nsp_bool, nsp_int, nsp_str, nsp_list, nsp_tuple, nsp_eQ, nsp_eP, nsp_eS, dat_pu, dat_ow, seqD_l, seqD_t, not_true_eq_false, Bool.true_eq_false, Bool.not_not, List.length_cons, List.length_nil, mkP, mkS, fits_list, fits_tuple, isIntD, isBoolD, isListD, isStrD, isTupD, Bool.not_true, Bool.not_false, Bool.false_eq_true, it_l0, it_l1, it_l2, it_t0, it_t1, it_t2, shp_ps, shp_pt, shp_ss, shp_is, seqD_eQ, seqD_eP, seqD_eS, walkD_eP, walkD_eS, walkD_l, walkD_t]
        refine ⟨_, it_drw 9 (by omega), by decide, ?_⟩
        by_cases c9 : (xs.getD 9 default).fmod 9 = 4
        · refine ite_yes c9 ?_
          have a1 : ((" " : Str)).length = 1 := rfl
          have a2 : (("  " : Str)).length = 2 := rfl
          have a3 : (("\n" : Str)).length = 1 := rfl
          refine ⟨by rw [a1]; omega, by rw [a1]; omega, by rw [a2]; omega, by omega, by rw [a3]; omega, _, it_drw 8 (by omega), by decide, ?_⟩
          have f := fmod_b (x := xs.getD 8 default) (m := 5) (by decide)
          have f5 : (xs.getD 8 default).fmod 5 = 0 ∨ (xs.getD 8 default).fmod 5 = 1 ∨ (xs.getD 8 default).fmod 5 = 2 ∨ (xs.getD 8 default).fmod 5 = 3 ∨ (xs.getD 8 default).fmod 5 = 4 := by omega
          rcases f5 with z | z | z | z | z <;> rw [z]
          · refine ⟨_, rfl, hE _ ⟨_, ⟨by simp; omega, fun c hc => ?_⟩, rfl⟩⟩
            rcases List.mem_append.mp hc with z | z
            · rw [List.mem_singleton.mp z]; decide
            · exact w2 c z
          · refine ⟨_, rfl, hE _ ⟨_, ⟨by simp; omega, fun c hc => ?_⟩, rfl⟩⟩
            rcases List.mem_append.mp hc with z | z
            · exact w2 c z
            · rw [List.mem_singleton.mp z]; decide
          · exact ⟨_, rfl, hE _ ⟨_, ⟨by have := dbl_len (k := 32) w; omega, fun c hc => w2 c (dbl_mem hc)⟩, rfl⟩⟩
          · exact ⟨_, rfl, hE _ ⟨_, ⟨by rw [List.length_drop]; omega, fun c hc => w2 c (List.mem_of_mem_drop hc)⟩, rfl⟩⟩
          · refine ⟨_, rfl, hE _ ⟨_, ⟨by simp; omega, fun c hc => ?_⟩, rfl⟩⟩
            rcases List.mem_append.mp hc with z | z
            · exact w2 c z
            · rw [List.mem_singleton.mp z]; decide
        · refine ite_no c9 ?_
          exact hE _ ⟨w, ⟨by omega, w2⟩, rfl⟩
      rintro _ ⟨w, ow, rfl⟩
      simp only [dRet, dRetF, dSetX, dCallX, dRetX, noOw, dTry, dCpy, dRaise, dRetO, dSetP, dSetS, dSetF, dSeq, dIf, dNext, dCall, dCallF, dB, dBin, dCons, dNil, dTup, dLst, dV, dC, dTV, onB, dTAnd, dTOr, dTNot, dAnd, dOr, dNot, dIfE, dIsN, dNotN, isN, dSl, dSlF, dNoPart, dPart, dPar, dParS, dAsg, dgN, dgT, dgCons, dgNil, dFE, dIsi, dListF, dNeg, dRev, dFrz, dApp, dAppS, dIns, dExtend, dClear, dReverse, dPop, oIx, oI, oIC, oAddU, oSubI, oMulU, oMulI, oFd, oMd, oPw, oLt, oLe, oGt, oGe, oEq, oNe, getF, setF, Cl.d, getS, setS, purF_nil, purF_cons, purH, allF_nil, allF_cons, allH, rho0, endsOf, scalD, bLen, bAbs, bInt, bIntU, bTup, true_and, and_true, Option.some.injEq, exists_eq_left', decide_eq_true_eq, Bool.not_eq_true', decide_eq_false_iff_not, it_eQ0, it_eQ1, it_eP0, it_eP1, it_eS0, it_eS1, fits_eQ, fits_eP, fits_eS, eqv_eQ, eqv_eP, eqv_eS, eqv_int, eqv_bool, shp_int, shp_bool, shp_none, shp_eQ, shp_eP, shp_eS, dCont, dBreak, dXi, dSetG, dAppG, oIsB, oNotB, dTx, pJoin, pSplit, pPart, pStarts, bStr, bIntS, dFmt, dJs, ↓reduceIte, nsp_none, nsp_bool, nsp_int, nsp_str, nsp_list, nsp_tuple, nsp_eQ, nsp_eP, nsp_eS, dat_pu, dat_ow, seqD_l, seqD_t, not_true_eq_false, Bool.true_eq_false, Bool.not_not, List.length_cons, List.length_nil, mkP, mkS, fits_list, fits_tuple, isIntD, isBoolD, isListD, isStrD, isTupD, Bool.not_true, Bool.not_false, Bool.false_eq_true, it_l0, it_l1, it_l2, it_t0, it_t1, it_t2, shp_ps, shp_pt, shp_ss, shp_is, seqD_eQ, seqD_eP, seqD_eS, walkD_eP, walkD_eS, walkD_l, walkD_t]
      exact h w ow
end L2.D3.K10

set_option maxHeartbeats 0
namespace L2.D3.K10
open PySem PySem.Spec PyProof.Rows L2.D3
def top (i : Nat) : Stmt := PySem.Challenge.pw_landsheets_k10_texts_refused.main.body.getD i (.Pass ⟨0, 0, 0, 0⟩)
abbrev s_great_part : Stmt := top 13
abbrev s_figures_in : Stmt := top 18
abbrev s_number_in : Stmt := top 19
abbrev s_point_in_word : Stmt := top 20
abbrev s_read_ring : Stmt := top 21
abbrev s__law_cell : Stmt := top 23
abbrev s__law_numbers : Stmt := top 24
abbrev s__law_low : Stmt := top 25
abbrev s__law_whole : Stmt := top 26
abbrev s__law_written : Stmt := top 27
abbrev s__law_reading : Stmt := top 28
abbrev s__law_spoilt : Stmt := top 29
abbrev s__law_drawn : Stmt := top 30
abbrev s__law_refused : Stmt := top 31
abbrev s_law : Stmt := top 32
abbrev M_great_part : List Str := ["one", "other", "high", "low"]
abbrev M_figures_in : List Str := ["word", "sign"]
abbrev M_number_in : List Str := ["word", "head", "stroke", "tail", "sign", "top", "bottom"]
abbrev M_point_in_word : List Str := ["word", "head", "comma", "tail", "x", "y"]
abbrev M_read_ring : List Str := ["text", "points", "word"]
abbrev M__law_cell : List Str := ["_law_script", "_law_k", "_law_state", "_law_cell_here"]
abbrev M__law_numbers : List Str := ["_law_cell_here", "_law_many", "_law_found", "_law_state", "_law_digits", "_law_k"]
abbrev M__law_low : List Str := ["_law_top", "_law_bottom", "_law_high", "_law_low_here"]
abbrev M__law_whole : List Str := ["_law_word", "_law_sign"]
abbrev M__law_written : List Str := ["_law_word", "_law_parts", "_law_sign", "_law_head", "_law_top", "_law_bottom"]
abbrev M__law_reading : List Str := ["_law_text", "_law_points", "_law_word", "_law_parts", "_law_point"]
abbrev M__law_spoilt : List Str := ["_law_words", "_law_xs", "_law_some", "_law_at", "_law_one", "_law_other", "_law_way", "_law_more"]
abbrev M__law_drawn : List Str := ["_law_cell_here", "_law_xs", "_law_words", "_law_k", "_law_x", "_law_y", "_law_top", "_law_text"]
abbrev M__law_refused : List Str := ["_law_thing", "_law_caught", "e"]
abbrev M_law : List Str := ["_law_script", "_law_cell_here", "_law_text", "_law_due", "_law_thing"]
theorem sc_great_part : FnScope M_great_part ["one", "other"] (defScope s_great_part) := ⟨rfl, rfl, rfl, by decide +kernel, rfl, by decide +kernel, by decide +kernel⟩
theorem sc_figures_in : FnScope M_figures_in ["word"] (defScope s_figures_in) := ⟨rfl, rfl, rfl, by decide +kernel, rfl, by decide +kernel, by decide +kernel⟩
theorem sc_number_in : FnScope M_number_in ["word"] (defScope s_number_in) := ⟨rfl, rfl, rfl, by decide +kernel, rfl, by decide +kernel, by decide +kernel⟩
theorem sc_point_in_word : FnScope M_point_in_word ["word"] (defScope s_point_in_word) := ⟨rfl, rfl, rfl, by decide +kernel, rfl, by decide +kernel, by decide +kernel⟩
theorem sc_read_ring : FnScope M_read_ring ["text"] (defScope s_read_ring) := ⟨rfl, rfl, rfl, by decide +kernel, rfl, by decide +kernel, by decide +kernel⟩
theorem sc__law_cell : FnScope M__law_cell ["_law_script", "_law_k"] (defScope s__law_cell) := ⟨rfl, rfl, rfl, by decide +kernel, rfl, by decide +kernel, by decide +kernel⟩
theorem sc__law_numbers : FnScope M__law_numbers ["_law_cell_here", "_law_many"] (defScope s__law_numbers) := ⟨rfl, rfl, rfl, by decide +kernel, rfl, by decide +kernel, by decide +kernel⟩
theorem sc__law_low : FnScope M__law_low ["_law_top", "_law_bottom"] (defScope s__law_low) := ⟨rfl, rfl, rfl, by decide +kernel, rfl, by decide +kernel, by decide +kernel⟩
theorem sc__law_whole : FnScope M__law_whole ["_law_word"] (defScope s__law_whole) := ⟨rfl, rfl, rfl, by decide +kernel, rfl, by decide +kernel, by decide +kernel⟩
theorem sc__law_written : FnScope M__law_written ["_law_word"] (defScope s__law_written) := ⟨rfl, rfl, rfl, by decide +kernel, rfl, by decide +kernel, by decide +kernel⟩
theorem sc__law_reading : FnScope M__law_reading ["_law_text"] (defScope s__law_reading) := ⟨rfl, rfl, rfl, by decide +kernel, rfl, by decide +kernel, by decide +kernel⟩
theorem sc__law_spoilt : FnScope M__law_spoilt ["_law_words", "_law_xs"] (defScope s__law_spoilt) := ⟨rfl, rfl, rfl, by decide +kernel, rfl, by decide +kernel, by decide +kernel⟩
theorem sc__law_drawn : FnScope M__law_drawn ["_law_cell_here"] (defScope s__law_drawn) := ⟨rfl, rfl, rfl, by decide +kernel, rfl, by decide +kernel, by decide +kernel⟩
theorem sc__law_refused : FnScope M__law_refused ["_law_thing"] (defScope s__law_refused) := ⟨rfl, rfl, rfl, by decide +kernel, rfl, by decide +kernel, by decide +kernel⟩
theorem sc_law : FnScope M_law ["_law_script"] (defScope s_law) := ⟨rfl, rfl, rfl, by decide +kernel, rfl, by decide +kernel, by decide +kernel⟩
section
variable {P : Program} {w : World} {K : PySem.W.Frag} {mg : Str → Option Value} {base : Heap}
theorem der_great_part {f : Addr} {cdv : Value} {A : Around} {outer : List Env} {s : Shared} {H : Hp} {E : XK} (b_abs : mg "abs" = none) (hr : Room 0 (A.deeper (envOfC "great_part" (defScope s_great_part) s.heap.objs.size f cdv))) :
    GSs (cxOf (L2.CX P w) P w K mg base M_great_part "great_part" (defScope s_great_part) f cdv A outer s H E) (fun cls d _ H => E cls d H) (defBody s_great_part) d_great_part :=
  (s_cons (s_par (i := 2) (j := 3) rfl sc_great_part.nd rfl rfl (by decide) rfl rfl (a_cons (g_callB c_abs b_abs (by decide +kernel) (a_cons (gv 0) a_nil)) (a_cons (g_callB c_abs b_abs (by decide +kernel) (a_cons (gv 1) a_nil)) a_nil)) rfl)
    (s_cons (s_while (passes_of rfl) (t_cmp o_gt (gv 3) g_int) (s_one (s_par (i := 2) (j := 3) rfl sc_great_part.nd rfl rfl (by decide) rfl rfl (a_cons (gv 3) (a_cons (g_op o_md (gv 2) (gv 3)) a_nil)) rfl)))
    (s_one (s_ret (gv 2)))))
theorem der_figures_in {f : Addr} {cdv : Value} {A : Around} {outer : List Env} {s : Shared} {H : Hp} {E : XK} (b_len : mg "len" = none) (b_all : mg "all" = none) (b_int : mg "int" = none) (c_MOST_FIGURES : Glo K mg "MOST_FIGURES" cv_MOST_FIGURES) (c_FIGURES : Glo K mg "FIGURES" cv_FIGURES) (hr : Room 0 (A.deeper (envOfC "figures_in" (defScope s_figures_in) s.heap.objs.size f cdv))) :
    GSs (cxOf (L2.CX P w) P w K mg base M_figures_in "figures_in" (defScope s_figures_in) f cdv A outer s H E) (fun cls d _ H => E cls d H) (defBody s_figures_in) d_figures_in :=
  (s_cons (s_if (GW.t (w_or (t_not (t_chain o_le o_le g_int (g_callB c_len b_len (by decide +kernel) (a_cons (gv 0) a_nil)) (g_glob c_MOST_FIGURES))) (w_or1 (t_not (t_val (g_callB (c_all rfl) b_all (by decide +kernel) (a_cons (GF.g (f_lc [("sign", 1)] rfl sc_figures_in.nd (gi_seq (gv 0)) (blkOk_by (N := M_figures_in) (sc := defScope s_figures_in) (by decide +kernel)) (fun _ _ _ _ _ => pg_name (i := 1) sc_figures_in.nd rfl (Or.inl rfl)) (sgc_name (i := 1) (by decide)) (fun _ _ _ _ _ => ts_nil) (fun _ _ _ _ _ => (g_cmp (o_in hr) (gv 1) (g_glob c_FIGURES))))) a_nil))))))) (s_one (s_ret g_non)) s_nil)
    (s_cons (s_if (GW.t (w_and (t_cmp (o_eq hr) (g_ix (gv 0) g_int) g_str) (w_and1 (t_cmp o_gt (g_callB c_len b_len (by decide +kernel) (a_cons (gv 0) a_nil)) g_int)))) (s_one (s_ret g_non)) s_nil)
    (s_one (s_ret (g_callT c_intS b_int (by decide +kernel) (a_cons (gv 0) a_nil))))))
theorem der_number_in {f : Addr} {cdv : Value} {A : Around} {outer : List Env} {s : Shared} {H : Hp} {E : XK} (n_figures_in : FN P w K mg base "figures_in" 1 sp_figures_in) (n_great_part : FN P w K mg base "great_part" 1 sp_great_part) (b_int : mg "int" = none) (hr : Room 1 (A.deeper (envOfC "number_in" (defScope s_number_in) s.heap.objs.size f cdv))) :
    GSs (cxOf (L2.CX P w) P w K mg base M_number_in "number_in" (defScope s_number_in) f cdv A outer s H E) (fun cls d _ H => E cls d H) (defBody s_number_in) d_number_in :=
  (s_cons (s_asg (g_partition (gv 0) g_str) (gg_tup (n := 3) rfl (ggs_cons (gg_name 1 sc_number_in.nd) (ggs_cons (gg_name 2 sc_number_in.nd) (ggs_cons (gg_name 3 sc_number_in.nd) ggs_nil)))))
    (s_cons (s_setP (i := 4) sc_number_in.nd rfl (g_callT c_intU b_int (by decide +kernel) (a_cons (g_cmp (o_eq hr) (g_slice (gv 1) go_none (go_some g_int)) g_str) a_nil)))
    (s_cons (s_setP (i := 5) sc_number_in.nd rfl (g_call n_figures_in (hr.mono (by decide)) (a_cons (g_slice (gv 1) (go_some (gv 4)) go_none) a_nil)))
    (s_cons (s_if (GW.t (w_or (t_isN (gv 5)) (w_or1 (GW.t (w_and (t_cmp (o_eq hr) (gv 5) g_int) (w_and1 (t_cmp (o_ne hr) (gv 1) g_str))))))) (s_one (s_ret g_non)) s_nil)
    (s_cons (s_if (t_cmp (o_eq hr) (gv 4) g_int) (s_one (s_setP (i := 5) sc_number_in.nd rfl (g_op o_sub g_int (gv 5)))) s_nil)
    (s_cons (s_if (t_cmp (o_eq hr) (gv 2) g_str) (s_one (s_ret (g_tup (a_cons (gv 5) (a_cons g_int a_nil))))) s_nil)
    (s_cons (s_setP (i := 6) sc_number_in.nd rfl (g_call n_figures_in (hr.mono (by decide)) (a_cons (gv 3) a_nil)))
    (s_cons (s_if (GW.t (w_or (t_isN (gv 6)) (w_or (t_cmp o_lt (gv 6) g_int) (w_or1 (t_cmp (o_ne hr) (g_call n_great_part (hr.mono (by decide)) (a_cons (gv 5) (a_cons (gv 6) a_nil))) g_int))))) (s_one (s_ret g_non)) s_nil)
    (s_one (s_ret (g_tup (a_cons (gv 5) (a_cons (gv 6) a_nil)))))))))))))
theorem der_point_in_word {f : Addr} {cdv : Value} {A : Around} {outer : List Env} {s : Shared} {H : Hp} {E : XK} (n_number_in : FN P w K mg base "number_in" 2 sp_number_in) (hr : Room 2 (A.deeper (envOfC "point_in_word" (defScope s_point_in_word) s.heap.objs.size f cdv))) :
    GSs (cxOf (L2.CX P w) P w K mg base M_point_in_word "point_in_word" (defScope s_point_in_word) f cdv A outer s H E) (fun cls d _ H => E cls d H) (defBody s_point_in_word) d_point_in_word :=
  (s_cons (s_asg (g_partition (gv 0) g_str) (gg_tup (n := 3) rfl (ggs_cons (gg_name 1 sc_point_in_word.nd) (ggs_cons (gg_name 2 sc_point_in_word.nd) (ggs_cons (gg_name 3 sc_point_in_word.nd) ggs_nil)))))
    (s_cons (s_setP (i := 4) sc_point_in_word.nd rfl (g_call n_number_in (hr.mono (by decide)) (a_cons (gv 1) a_nil)))
    (s_cons (s_setP (i := 5) sc_point_in_word.nd rfl (g_call n_number_in (hr.mono (by decide)) (a_cons (gv 3) a_nil)))
    (s_cons (s_if (GW.t (w_or (t_cmp (o_eq hr) (gv 2) g_str) (w_or (t_isN (gv 4)) (w_or1 (t_isN (gv 5)))))) (s_one (s_ret g_non)) s_nil)
    (s_one (s_ret (g_tup (a_cons (gv 4) (a_cons (gv 5) a_nil)))))))))
theorem der_read_ring {f : Addr} {cdv : Value} {A : Around} {outer : List Env} {s : Shared} {H : Hp} {E : XK} (n_point_in_word : FN P w K mg base "point_in_word" 3 sp_point_in_word) (b_isinstance : mg "isinstance" = none) (b_str : mg "str" = none) (b_len : mg "len" = none) (b_tuple : mg "tuple" = none) (c_MOST_POINTS : Glo K mg "MOST_POINTS" cv_MOST_POINTS) (x_f_NoText : ExF K "NoText") (x_k_NoText : mg "NoText" = some (.ref (He.ga K "NoText"))) (hr : Room 3 (A.deeper (envOfC "read_ring" (defScope s_read_ring) s.heap.objs.size f cdv))) :
    GSs (cxOf (L2.CX P w) P w K mg base M_read_ring "read_ring" (defScope s_read_ring) f cdv A outer s H E) (fun cls d _ H => E cls d H) (defBody s_read_ring) d_read_ring :=
  (s_cons (s_if (t_not (t_val (g_isi b_isinstance b_str (by decide +kernel) ty_str (gv 0)))) (s_one (s_raise rfl (takes_of rfl rfl rfl rfl) x_f_NoText x_k_NoText)) s_nil)
    (s_cons (s_setLc (i := 1) [("word", 2)] rfl sc_read_ring.nd rfl rfl (sw_true rfl rfl rfl (by decide +kernel)) (gi_seq (g_split (gv 0) g_str)) (blkOk_by (N := M_read_ring) (sc := defScope s_read_ring) (by decide +kernel)) (fun _ _ _ _ _ => pg_name (i := 2) sc_read_ring.nd rfl (Or.inl rfl)) (sgc_name (i := 2) (by decide)) (fun _ _ _ _ _ => ts_nil) (fun _ _ _ _ _ => (g_call n_point_in_word (hr.mono (by decide)) (a_cons (gv 2) a_nil))))
    (s_frz 1 (s_cons (s_if (GW.t (w_or (t_cmp (o_in hr) g_non (gv 1)) (w_or1 (t_cmp o_gt (g_callB c_len b_len (by decide +kernel) (a_cons (gv 1) a_nil)) (g_glob c_MOST_POINTS))))) (s_one (s_raise rfl (takes_of rfl rfl rfl rfl) x_f_NoText x_k_NoText)) s_nil)
    (s_one (s_ret (g_callT c_tuple b_tuple (by decide +kernel) (a_cons (gv 1) a_nil))))))))
theorem der__law_cell {f : Addr} {cdv : Value} {A : Around} {outer : List Env} {s : Shared} {H : Hp} {E : XK} (b_len : mg "len" = none) (hr : Room 0 (A.deeper (envOfC "_law_cell" (defScope s__law_cell) s.heap.objs.size f cdv))) :
    GSs (cxOf (L2.CX P w) P w K mg base M__law_cell "_law_cell" (defScope s__law_cell) f cdv A outer s H E) (fun cls d _ H => E cls d H) (defBody s__law_cell) d__law_cell :=
  (s_cons (s_if (t_cmp o_lt (gv 1) (g_callB c_len b_len (by decide +kernel) (a_cons (gv 0) a_nil))) (s_one (s_ret (g_ix (gv 0) (gv 1)))) s_nil)
    (s_cons (s_setP (i := 2) sc__law_cell.nd rfl (g_op o_md (g_op o_mulU g_int (g_op o_addU (g_op o_addU (g_op o_mulU (gv 1) (gv 1)) (g_op o_mulU g_int (gv 1))) g_int)) g_int))
    (s_cons (s_for (passes_of rfl) rfl (gi_seq (g_slice (gv 0) go_none (go_some g_int))) (gg_name 3 sc__law_cell.nd) (s_one (s_setP (i := 2) sc__law_cell.nd rfl (g_op o_md (g_op o_addU (g_op o_mulU (gv 2) g_int) (gv 3)) g_int))))
    (s_one (s_ret (gv 2))))))
theorem der__law_numbers {f : Addr} {cdv : Value} {A : Around} {outer : List Env} {s : Shared} {H : Hp} {E : XK} (b_abs : mg "abs" = none) (b_range : mg "range" = none) (b_int : mg "int" = none) (hr : Room 0 (A.deeper (envOfC "_law_numbers" (defScope s__law_numbers) s.heap.objs.size f cdv))) :
    GSs (cxOf (L2.CX P w) P w K mg base M__law_numbers "_law_numbers" (defScope s__law_numbers) f cdv A outer s H E) (fun cls d _ H => E cls d H) (defBody s__law_numbers) d__law_numbers :=
  (s_cons (s_setF (i := 2) sc__law_numbers.nd rfl (f_lst a_nil))
    (s_cons (s_setP (i := 3) sc__law_numbers.nd rfl (g_op o_md (g_op o_mulU (g_op o_addU (g_op o_md (gv 0) g_int) g_int) g_int) g_int))
    (s_cons (s_setP (i := 4) sc__law_numbers.nd rfl g_int)
    (s_cons (s_if (GW.t (w_or (t_cmp o_lt (gv 0) g_int) (w_or1 (t_cmp o_ge (gv 0) (g_op o_pw g_int g_int))))) (s_one (s_setP (i := 4) sc__law_numbers.nd rfl (g_callB c_abs b_abs (by decide +kernel) (a_cons (gv 0) a_nil)))) s_nil)
    (s_cons (s_for (passes_of rfl) rfl (gi_rng1 b_range (a_cons (gv 1) a_nil)) (gg_name 5 sc__law_numbers.nd) (s_cons (s_setP (i := 3) sc__law_numbers.nd rfl (g_op o_md (g_op o_addU (g_op o_addU (g_op o_mulU (gv 3) (g_op o_addU (g_op o_md (gv 3) g_int) g_int)) (g_op o_mulU g_int (gv 5))) g_int) g_int))
    (s_cons (s_app (i := 2) (g_ix (g_lst (a_cons (gv 3) (a_cons (g_op o_md (gv 4) g_int) a_nil))) (g_callT c_intU b_int (by decide +kernel) (a_cons (g_cmp o_gt (gv 4) g_int) a_nil))))
    (s_one (s_setP (i := 4) sc__law_numbers.nd rfl (g_op o_fd (gv 4) g_int))))))
    (s_one (s_retO 2)))))))
theorem der__law_low {f : Addr} {cdv : Value} {A : Around} {outer : List Env} {s : Shared} {H : Hp} {E : XK} (b_abs : mg "abs" = none) (hr : Room 0 (A.deeper (envOfC "_law_low" (defScope s__law_low) s.heap.objs.size f cdv))) :
    GSs (cxOf (L2.CX P w) P w K mg base M__law_low "_law_low" (defScope s__law_low) f cdv A outer s H E) (fun cls d _ H => E cls d H) (defBody s__law_low) d__law_low :=
  (s_cons (s_par (i := 2) (j := 3) rfl sc__law_low.nd rfl rfl (by decide) rfl rfl (a_cons (g_callB c_abs b_abs (by decide +kernel) (a_cons (gv 0) a_nil)) (a_cons (g_callB c_abs b_abs (by decide +kernel) (a_cons (gv 1) a_nil)) a_nil)) rfl)
    (s_cons (s_while (passes_of rfl) (t_cmp o_gt (gv 3) g_int) (s_one (s_par (i := 2) (j := 3) rfl sc__law_low.nd rfl rfl (by decide) rfl rfl (a_cons (gv 3) (a_cons (g_op o_md (gv 2) (gv 3)) a_nil)) rfl)))
    (s_cons (s_if (t_cmp o_lt (gv 1) g_int) (s_one (s_setP (i := 2) sc__law_low.nd rfl (g_op o_sub g_int (gv 2)))) s_nil)
    (s_one (s_ret (g_tup (a_cons (g_op o_fd (gv 0) (gv 2)) (a_cons (g_op o_fd (gv 1) (gv 2)) a_nil))))))))
theorem der__law_whole {f : Addr} {cdv : Value} {A : Around} {outer : List Env} {s : Shared} {H : Hp} {E : XK} (b_len : mg "len" = none) (b_all : mg "all" = none) (b_int : mg "int" = none) (hr : Room 0 (A.deeper (envOfC "_law_whole" (defScope s__law_whole) s.heap.objs.size f cdv))) :
    GSs (cxOf (L2.CX P w) P w K mg base M__law_whole "_law_whole" (defScope s__law_whole) f cdv A outer s H E) (fun cls d _ H => E cls d H) (defBody s__law_whole) d__law_whole :=
  (s_cons (s_if (GW.t (w_or (t_not (t_chain o_le o_le g_int (g_callB c_len b_len (by decide +kernel) (a_cons (gv 0) a_nil)) g_int)) (w_or1 (t_not (t_val (g_callB (c_all rfl) b_all (by decide +kernel) (a_cons (GF.g (f_lc [("_law_sign", 1)] rfl sc__law_whole.nd (gi_seq (gv 0)) (blkOk_by (N := M__law_whole) (sc := defScope s__law_whole) (by decide +kernel)) (fun _ _ _ _ _ => pg_name (i := 1) sc__law_whole.nd rfl (Or.inl rfl)) (sgc_name (i := 1) (by decide)) (fun _ _ _ _ _ => ts_nil) (fun _ _ _ _ _ => (g_cmp (o_in hr) (gv 1) g_str)))) a_nil))))))) (s_one (s_ret g_non)) s_nil)
    (s_cons (s_if (GW.t (w_and (t_cmp (o_eq hr) (g_ix (gv 0) g_int) g_str) (w_and1 (t_cmp (o_ne hr) (gv 0) g_str)))) (s_one (s_ret g_non)) s_nil)
    (s_one (s_ret (g_callT c_intS b_int (by decide +kernel) (a_cons (gv 0) a_nil))))))
theorem der__law_written {f : Addr} {cdv : Value} {A : Around} {outer : List Env} {s : Shared} {H : Hp} {E : XK} (n__law_whole : FN P w K mg base "_law_whole" 1 sp__law_whole) (n__law_low : FN P w K mg base "_law_low" 1 sp__law_low) (b_len : mg "len" = none) (hr : Room 1 (A.deeper (envOfC "_law_written" (defScope s__law_written) s.heap.objs.size f cdv))) :
    GSs (cxOf (L2.CX P w) P w K mg base M__law_written "_law_written" (defScope s__law_written) f cdv A outer s H E) (fun cls d _ H => E cls d H) (defBody s__law_written) d__law_written :=
  (s_cons (s_setP (i := 1) sc__law_written.nd rfl (g_split (gv 0) g_str))
    (s_cons (s_if (t_cmp o_gt (g_callB c_len b_len (by decide +kernel) (a_cons (gv 1) a_nil)) g_int) (s_one (s_ret g_non)) s_nil)
    (s_cons (s_setP (i := 2) sc__law_written.nd rfl g_int)
    (s_cons (s_setP (i := 3) sc__law_written.nd rfl (g_ix (gv 1) g_int))
    (s_cons (s_if (t_cmp (o_eq hr) (g_slice (gv 3) go_none (go_some g_int)) g_str) (s_cons (s_setP (i := 2) sc__law_written.nd rfl (g_neg g_int))
    (s_one (s_setP (i := 3) sc__law_written.nd rfl (g_slice (gv 3) (go_some g_int) go_none)))) s_nil)
    (s_cons (s_setP (i := 4) sc__law_written.nd rfl (g_call n__law_whole (hr.mono (by decide)) (a_cons (gv 3) a_nil)))
    (s_cons (s_if (GW.t (w_or (t_isN (gv 4)) (w_or1 (GW.t (w_and (t_cmp (o_eq hr) (gv 4) g_int) (w_and1 (t_cmp (o_eq hr) (gv 2) (g_neg g_int)))))))) (s_one (s_ret g_non)) s_nil)
    (s_cons (s_if (t_cmp (o_eq hr) (g_callB c_len b_len (by decide +kernel) (a_cons (gv 1) a_nil)) g_int) (s_one (s_ret (g_tup (a_cons (g_op o_mulU (gv 2) (gv 4)) (a_cons g_int a_nil))))) s_nil)
    (s_cons (s_setP (i := 5) sc__law_written.nd rfl (g_call n__law_whole (hr.mono (by decide)) (a_cons (g_ix (gv 1) g_int) a_nil)))
    (s_cons (s_if (GW.t (w_or (t_isN (gv 5)) (w_or (t_cmp o_lt (gv 5) g_int) (w_or1 (t_cmp (o_ne hr) (g_call n__law_low (hr.mono (by decide)) (a_cons (gv 4) (a_cons (gv 5) a_nil))) (g_tup (a_cons (gv 4) (a_cons (gv 5) a_nil)))))))) (s_one (s_ret g_non)) s_nil)
    (s_one (s_ret (g_tup (a_cons (g_op o_mulU (gv 2) (gv 4)) (a_cons (gv 5) a_nil)))))))))))))))
theorem der__law_reading {f : Addr} {cdv : Value} {A : Around} {outer : List Env} {s : Shared} {H : Hp} {E : XK} (n__law_written : FN P w K mg base "_law_written" 2 sp__law_written) (b_len : mg "len" = none) (b_tuple : mg "tuple" = none) (hr : Room 2 (A.deeper (envOfC "_law_reading" (defScope s__law_reading) s.heap.objs.size f cdv))) :
    GSs (cxOf (L2.CX P w) P w K mg base M__law_reading "_law_reading" (defScope s__law_reading) f cdv A outer s H E) (fun cls d _ H => E cls d H) (defBody s__law_reading) d__law_reading :=
  (s_cons (s_setF (i := 1) sc__law_reading.nd rfl (f_lst a_nil))
    (s_cons (s_for (passes_of rfl) rfl (gi_seq (g_split (gv 0) g_str)) (gg_name 2 sc__law_reading.nd) (s_cons (s_setP (i := 3) sc__law_reading.nd rfl (g_split (gv 2) g_str))
    (s_cons (s_if (t_cmp (o_ne hr) (g_callB c_len b_len (by decide +kernel) (a_cons (gv 3) a_nil)) g_int) (s_one (s_ret g_non)) s_nil)
    (s_cons (s_setP (i := 4) sc__law_reading.nd rfl (g_tup (a_cons (g_call n__law_written (hr.mono (by decide)) (a_cons (g_ix (gv 3) g_int) a_nil)) (a_cons (g_call n__law_written (hr.mono (by decide)) (a_cons (g_ix (gv 3) g_int) a_nil)) a_nil))))
    (s_cons (s_if (t_cmp (o_in hr) g_non (gv 4)) (s_one (s_ret g_non)) s_nil)
    (s_one (s_app (i := 1) (gv 4))))))))
    (s_cons (s_if (t_cmp o_gt (g_callB c_len b_len (by decide +kernel) (a_cons (gv 1) a_nil)) g_int) (s_one (s_ret g_non)) s_nil)
    (s_one (s_ret (g_callT c_tuple b_tuple (by decide +kernel) (a_cons (gv 1) a_nil)))))))
theorem der__law_spoilt {f : Addr} {cdv : Value} {A : Around} {outer : List Env} {s : Shared} {H : Hp} {E : XK} (b_len : mg "len" = none) (hr : Room 0 (A.deeper (envOfC "_law_spoilt" (defScope s__law_spoilt) s.heap.objs.size f cdv))) :
    GSs (cxOf (L2.CX P w) P w K mg base M__law_spoilt "_law_spoilt" (defScope s__law_spoilt) f cdv A outer s H E) (fun cls d _ H => E cls d H) (defBody s__law_spoilt) d__law_spoilt :=
  (s_cons (s_setP (i := 2) sc__law_spoilt.nd rfl (g_lst (a_cons g_str (a_cons g_str (a_cons g_str (a_cons g_str (a_cons g_str (a_cons g_str (a_cons g_str (a_cons g_str (a_cons g_str (a_cons g_str (a_cons g_str (a_cons g_str (a_cons g_str (a_cons g_str (a_cons g_str (a_cons g_str a_nil))))))))))))))))))
    (s_cons (s_setP (i := 2) sc__law_spoilt.nd rfl (g_op o_addU (gv 2) (g_lst (a_cons g_str (a_cons g_str (a_cons g_str (a_cons g_str (a_cons g_str (a_cons g_str (a_cons g_str (a_cons g_str (a_cons g_str (a_cons g_str (a_cons g_str a_nil))))))))))))))
    (s_cons (s_setP (i := 2) sc__law_spoilt.nd rfl (g_op o_addU (gv 2) (g_lst (a_cons g_str (a_cons g_str (a_cons g_str (a_cons g_str (a_cons g_str (a_cons g_str (a_cons g_str (a_cons g_str a_nil)))))))))))
    (s_cons (s_setP (i := 3) sc__law_spoilt.nd rfl (g_op o_md (g_ix (gv 1) g_int) (g_callB c_len b_len (by decide +kernel) (a_cons (gv 0) a_nil))))
    (s_cons (s_setP (i := 4) sc__law_spoilt.nd rfl (g_ix (gv 2) (g_op o_md (g_ix (gv 1) g_int) g_int)))
    (s_cons (s_setP (i := 5) sc__law_spoilt.nd rfl (g_ix (gv 2) (g_op o_md (g_ix (gv 1) g_int) g_int)))
    (s_cons (s_setP (i := 6) sc__law_spoilt.nd rfl (g_op o_md (g_ix (gv 1) g_int) g_int))
    (s_cons (s_if (t_cmp o_lt (gv 6) g_int) (s_one (s_setP (i := 7) sc__law_spoilt.nd rfl (g_op o_addU (g_op o_addU (gv 4) g_str) (g_ix (g_lst (a_cons (gv 5) (a_cons g_str (a_cons g_str (a_cons g_str a_nil))))) (gv 6))))) (s_one (s_setP (i := 7) sc__law_spoilt.nd rfl (g_ix (g_lst (a_cons (gv 4) (a_cons (g_op o_addU (g_op o_addU (g_op o_addU (gv 4) g_str) (gv 5)) g_str) (a_cons g_str (a_cons g_str (a_cons (g_op o_addU g_str (gv 5)) a_nil)))))) (g_op o_sub (gv 6) g_int)))))
    (s_one (s_ret (g_op o_addU (g_op o_addU (g_slice (gv 0) go_none (go_some (gv 3))) (g_lst (a_cons (gv 7) a_nil))) (g_slice (gv 0) (go_some (g_op o_addU (gv 3) g_int)) go_none))))))))))))
theorem der__law_drawn {f : Addr} {cdv : Value} {A : Around} {outer : List Env} {s : Shared} {H : Hp} {E : XK} (n__law_numbers : FN P w K mg base "_law_numbers" 1 sp__law_numbers) (n__law_spoilt : FN P w K mg base "_law_spoilt" 1 sp__law_spoilt) (b_range : mg "range" = none) (b_str : mg "str" = none) (hr : Room 1 (A.deeper (envOfC "_law_drawn" (defScope s__law_drawn) s.heap.objs.size f cdv))) :
    GSs (cxOf (L2.CX P w) P w K mg base M__law_drawn "_law_drawn" (defScope s__law_drawn) f cdv A outer s H E) (fun cls d _ H => E cls d H) (defBody s__law_drawn) d__law_drawn :=
  (s_cons (s_setP (i := 1) sc__law_drawn.nd rfl (g_call n__law_numbers (hr.mono (by decide)) (a_cons (gv 0) (a_cons g_int a_nil))))
    (s_cons (s_setF (i := 2) sc__law_drawn.nd rfl (f_lst a_nil))
    (s_cons (s_for (passes_of rfl) rfl (gi_rng1 b_range (a_cons (g_op o_addU g_int (g_op o_md (g_ix (gv 1) g_int) (g_ix (g_lst (a_cons g_int (a_cons g_int (a_cons g_int a_nil)))) (g_op o_md (g_ix (gv 1) g_int) g_int)))) a_nil)) (gg_name 3 sc__law_drawn.nd) (s_cons (s_asg (g_slice (gv 1) (go_some (g_op o_addU g_int (g_op o_mulU g_int (gv 3)))) (go_some (g_op o_addU g_int (g_op o_mulU g_int (gv 3))))) (gg_tup (n := 2) rfl (ggs_cons (gg_name 4 sc__law_drawn.nd) (ggs_cons (gg_name 5 sc__law_drawn.nd) ggs_nil))))
    (s_cons (s_setP (i := 6) sc__law_drawn.nd rfl (g_callT c_str b_str (by decide +kernel) (a_cons (g_op o_mulU (g_op o_sub (g_op o_md (gv 4) g_int) g_int) (g_op o_addU g_int (g_op o_mulU (g_op o_md (g_op o_fd (gv 4) g_int) g_int) g_int))) a_nil)))
    (s_one (s_app (i := 2) (g_op o_addU (g_op o_addU (gv 6) g_str) (g_ix (g_lst (a_cons g_str (a_cons g_str (a_cons g_str (a_cons g_str (a_cons g_str (a_cons g_str a_nil))))))) (g_op o_md (gv 5) g_int))))))))
    (s_frz 2 (s_cons (s_for (passes_of rfl) rfl (gi_rng1 b_range (a_cons (g_op o_md (g_ix (gv 1) g_int) g_int) a_nil)) (gg_name 3 sc__law_drawn.nd) (s_one (s_setP (i := 2) sc__law_drawn.nd rfl (g_call n__law_spoilt (hr.mono (by decide)) (a_cons (gv 2) (a_cons (g_slice (gv 1) (go_some (g_op o_addU g_int (g_op o_mulU g_int (gv 3)))) go_none) a_nil))))))
    (s_cons (s_if (t_cmp (o_eq hr) (g_op o_md (g_ix (gv 1) g_int) g_int) g_int) (s_one (s_setP (i := 2) sc__law_drawn.nd rfl (g_slice (g_op o_repL (gv 2) g_int) go_none (go_some (g_op o_sub g_int (g_op o_md (g_ix (gv 1) g_int) g_int)))))) s_nil)
    (s_cons (s_setP (i := 7) sc__law_drawn.nd rfl (g_join g_str (gv 2)))
    (s_cons (s_if (t_cmp (o_eq hr) (g_op o_md (g_ix (gv 1) g_int) g_int) g_int) (s_one (s_setP (i := 7) sc__law_drawn.nd rfl (g_ix (g_lst (ar_cons (gr_addS o_addU (gv 7)) (at_cons (GET.of (g_op o_addU (gv 7) g_str)) (at_cons (gt_repl (gv 7)) (at_cons (GET.of (g_slice (gv 7) (go_some g_int) go_none)) (at_cons (GET.of (g_op o_addU (gv 7) g_str)) at_nil)))))) (g_op o_md (g_ix (gv 1) g_int) g_int)))) s_nil)
    (s_one (s_ret (gv 7)))))))))))
theorem der__law_refused {f : Addr} {cdv : Value} {A : Around} {outer : List Env} {s : Shared} {H : Hp} {E : XK} (n_read_ring : FN P w K mg base "read_ring" 4 sp_read_ring) (b_isinstance : mg "isinstance" = none) (b_ValueError : mg "ValueError" = none) (x_k_SheetError : mg "SheetError" = some (.ref (He.ga K "SheetError"))) (x_t_SheetError : TryT K tb_SheetError "SheetError") (x_i_0 : IsT K tb_0 [.own "NoAtlas", .own "NoDeed", .own "NoDeskRow", .own "NoFace", .own "NoLand", .own "NoNumber", .own "NoRow", .own "NoSaying", .own "OnSide"]) (x_k_OnSide : mg "OnSide" = some (.ref (He.ga K "OnSide"))) (x_k_NoSaying : mg "NoSaying" = some (.ref (He.ga K "NoSaying"))) (x_k_NoRow : mg "NoRow" = some (.ref (He.ga K "NoRow"))) (x_k_NoNumber : mg "NoNumber" = some (.ref (He.ga K "NoNumber"))) (x_k_NoLand : mg "NoLand" = some (.ref (He.ga K "NoLand"))) (x_k_NoFace : mg "NoFace" = some (.ref (He.ga K "NoFace"))) (x_k_NoDeskRow : mg "NoDeskRow" = some (.ref (He.ga K "NoDeskRow"))) (x_k_NoDeed : mg "NoDeed" = some (.ref (He.ga K "NoDeed"))) (x_k_NoAtlas : mg "NoAtlas" = some (.ref (He.ga K "NoAtlas"))) (x_i_NoText : IsT K tb_NoText [.own "NoText"]) (x_k_NoText : mg "NoText" = some (.ref (He.ga K "NoText"))) (x_i_ValueError : IsT K tb_ValueError [.ty "ValueError"]) (hr : Room 4 (A.deeper (envOfC "_law_refused" (defScope s__law_refused) s.heap.objs.size f cdv))) :
    GSs (cxOf (L2.CX P w) P w K mg base M__law_refused "_law_refused" (defScope s__law_refused) f cdv A outer s H E) (fun cls d _ H => E cls d H) (defBody s__law_refused) d__law_refused :=
  (s_cons (s_setP (i := 1) sc__law_refused.nd rfl g_non)
    (s_cons (s_try (i := 2) rfl rfl rfl sc__law_refused.nd rfl rfl (takes_of rfl rfl rfl rfl) x_k_SheetError x_t_SheetError (fun W2 pn xe tk => (s_one (s_callX n_read_ring (hr.mono (by decide)) tk (a_cons (gv 0) a_nil)))) (fun a pn => (s_one (s_cpy (i := 1) (j := 2) sc__law_refused.nd rfl))))
    (s_cons (s_if (t_val (g_isXT (i := 1) (cs := ["NoAtlas", "NoDeed", "NoDeskRow", "NoFace", "NoLand", "NoNumber", "NoRow", "NoSaying", "OnSide"]) b_isinstance x_i_0 (pc_own x_k_NoAtlas (pc_own x_k_NoDeed (pc_own x_k_NoDeskRow (pc_own x_k_NoFace (pc_own x_k_NoLand (pc_own x_k_NoNumber (pc_own x_k_NoRow (pc_own x_k_NoSaying (pc_own x_k_OnSide pc_nil))))))))))) (s_one (s_ret g_bl)) s_nil)
    (s_one (s_ret (g_and (g_isX (i := 1) b_isinstance x_k_NoText x_i_NoText) (g_one (g_isXB (i := 1) b_isinstance b_ValueError (by decide +kernel) x_i_ValueError))))))))
theorem der_law {f : Addr} {cdv : Value} {A : Around} {outer : List Env} {s : Shared} {H : Hp} {E : XK} (n__law_cell : FN P w K mg base "_law_cell" 1 sp__law_cell) (n__law_drawn : FN P w K mg base "_law_drawn" 2 sp__law_drawn) (n__law_reading : FN P w K mg base "_law_reading" 3 sp__law_reading) (n__law_refused : FN P w K mg base "_law_refused" 5 sp__law_refused) (n_read_ring : FN P w K mg base "read_ring" 4 sp_read_ring) (b_all : mg "all" = none) (hr : Room 5 (A.deeper (envOfC "law" (defScope s_law) s.heap.objs.size f cdv))) :
    GSs (cxOf (L2.CX P w) P w K mg base M_law "law" (defScope s_law) f cdv A outer s H E) (fun cls d _ H => E cls d H) (defBody s_law) d_law :=
  (s_cons (s_for (passes_of rfl) rfl (gi_seq (g_op o_addU (g_lst (a_cons (g_call n__law_cell (hr.mono (by decide)) (a_cons (gv 0) (a_cons g_int a_nil))) a_nil)) (g_slice (gv 0) (go_some g_int) (go_some g_int)))) (gg_name 1 sc_law.nd) (s_cons (s_setP (i := 2) sc_law.nd rfl (g_call n__law_drawn (hr.mono (by decide)) (a_cons (gv 1) a_nil)))
    (s_cons (s_setP (i := 3) sc_law.nd rfl (g_call n__law_reading (hr.mono (by decide)) (a_cons (gv 2) a_nil)))
    (s_one (s_if (t_isN (gv 3)) (s_one (s_if (t_not (t_val (g_call n__law_refused (hr.mono (by decide)) (a_cons (gv 2) a_nil)))) (s_one (s_ret g_bl)) s_nil)) (s_one (s_if (t_cmp (o_ne hr) (g_call n_read_ring (hr.mono (by decide)) (a_cons (gv 2) a_nil)) (gv 3)) (s_one (s_ret g_bl)) s_nil)))))))
    (s_one (s_ret (g_callB (c_all rfl) b_all (by decide +kernel) (a_cons (GF.g (f_lc [("_law_thing", 4)] rfl sc_law.nd (gi_seq (g_lst (a_cons g_non (a_cons g_int (a_cons g_bl (a_cons (g_lst (a_cons g_str a_nil)) (a_cons (g_tup (a_cons (g_tup (a_cons (g_tup (a_cons g_int (a_cons g_int a_nil))) (a_cons (g_tup (a_cons g_int (a_cons g_int a_nil))) a_nil))) a_nil)) (a_cons g_emp a_nil)))))))) (blkOk_by (N := M_law) (sc := defScope s_law) (by decide +kernel)) (fun _ _ _ _ _ => pg_name (i := 4) sc_law.nd rfl (Or.inl rfl)) (sgc_name (i := 4) (by decide)) (fun _ _ _ _ _ => ts_nil) (fun _ _ _ _ _ => (g_call n__law_refused (hr.mono (by decide)) (a_cons (gv 4) a_nil))))) a_nil)))))
end
theorem len_great_part (ds : List Dt) (Φ : Slot → Prop) (Ξ : XD → Prop) (h : sp_great_part ds Φ Ξ) : ds.length = 2 := by
  first | (obtain ⟨rfl, _⟩ := h; rfl) | (obtain ⟨_, rfl, _⟩ := h; rfl) | (obtain ⟨_, _, rfl, _⟩ := h; rfl) | (obtain ⟨_, _, _, rfl, _⟩ := h; rfl) | (obtain ⟨_, _, _, _, rfl, _⟩ := h; rfl) | (obtain ⟨_, _, _, _, _, rfl, _⟩ := h; rfl) | (obtain ⟨_, _, _, _, _, _, rfl, _⟩ := h; rfl) | (obtain ⟨_, _, _, _, _, _, _, rfl, _⟩ := h; rfl) | (obtain ⟨_, _, _, _, _, _, _, _, rfl, _⟩ := h; rfl) | (obtain ⟨_, _, _, _, _, _, _, _, _, rfl, _⟩ := h; rfl) | (obtain ⟨_, rfl | rfl, _⟩ := h <;> rfl) | (obtain ⟨_, _, rfl | rfl, _⟩ := h <;> rfl) | (obtain ⟨_, _, _, rfl | rfl, _⟩ := h <;> rfl) | (obtain ⟨_, _, _, _, rfl | rfl, _⟩ := h <;> rfl)
theorem len_figures_in (ds : List Dt) (Φ : Slot → Prop) (Ξ : XD → Prop) (h : sp_figures_in ds Φ Ξ) : ds.length = 1 := by
  first | (obtain ⟨rfl, _⟩ := h; rfl) | (obtain ⟨_, rfl, _⟩ := h; rfl) | (obtain ⟨_, _, rfl, _⟩ := h; rfl) | (obtain ⟨_, _, _, rfl, _⟩ := h; rfl) | (obtain ⟨_, _, _, _, rfl, _⟩ := h; rfl) | (obtain ⟨_, _, _, _, _, rfl, _⟩ := h; rfl) | (obtain ⟨_, _, _, _, _, _, rfl, _⟩ := h; rfl) | (obtain ⟨_, _, _, _, _, _, _, rfl, _⟩ := h; rfl) | (obtain ⟨_, _, _, _, _, _, _, _, rfl, _⟩ := h; rfl) | (obtain ⟨_, _, _, _, _, _, _, _, _, rfl, _⟩ := h; rfl) | (obtain ⟨_, rfl | rfl, _⟩ := h <;> rfl) | (obtain ⟨_, _, rfl | rfl, _⟩ := h <;> rfl) | (obtain ⟨_, _, _, rfl | rfl, _⟩ := h <;> rfl) | (obtain ⟨_, _, _, _, rfl | rfl, _⟩ := h <;> rfl)
theorem len_number_in (ds : List Dt) (Φ : Slot → Prop) (Ξ : XD → Prop) (h : sp_number_in ds Φ Ξ) : ds.length = 1 := by
  first | (obtain ⟨rfl, _⟩ := h; rfl) | (obtain ⟨_, rfl, _⟩ := h; rfl) | (obtain ⟨_, _, rfl, _⟩ := h; rfl) | (obtain ⟨_, _, _, rfl, _⟩ := h; rfl) | (obtain ⟨_, _, _, _, rfl, _⟩ := h; rfl) | (obtain ⟨_, _, _, _, _, rfl, _⟩ := h; rfl) | (obtain ⟨_, _, _, _, _, _, rfl, _⟩ := h; rfl) | (obtain ⟨_, _, _, _, _, _, _, rfl, _⟩ := h; rfl) | (obtain ⟨_, _, _, _, _, _, _, _, rfl, _⟩ := h; rfl) | (obtain ⟨_, _, _, _, _, _, _, _, _, rfl, _⟩ := h; rfl) | (obtain ⟨_, rfl | rfl, _⟩ := h <;> rfl) | (obtain ⟨_, _, rfl | rfl, _⟩ := h <;> rfl) | (obtain ⟨_, _, _, rfl | rfl, _⟩ := h <;> rfl) | (obtain ⟨_, _, _, _, rfl | rfl, _⟩ := h <;> rfl)
theorem len_point_in_word (ds : List Dt) (Φ : Slot → Prop) (Ξ : XD → Prop) (h : sp_point_in_word ds Φ Ξ) : ds.length = 1 := by
  first | (obtain ⟨rfl, _⟩ := h; rfl) | (obtain ⟨_, rfl, _⟩ := h; rfl) | (obtain ⟨_, _, rfl, _⟩ := h; rfl) | (obtain ⟨_, _, _, rfl, _⟩ := h; rfl) | (obtain ⟨_, _, _, _, rfl, _⟩ := h; rfl) | (obtain ⟨_, _, _, _, _, rfl, _⟩ := h; rfl) | (obtain ⟨_, _, _, _, _, _, rfl, _⟩ := h; rfl) | (obtain ⟨_, _, _, _, _, _, _, rfl, _⟩ := h; rfl) | (obtain ⟨_, _, _, _, _, _, _, _, rfl, _⟩ := h; rfl) | (obtain ⟨_, _, _, _, _, _, _, _, _, rfl, _⟩ := h; rfl) | (obtain ⟨_, rfl | rfl, _⟩ := h <;> rfl) | (obtain ⟨_, _, rfl | rfl, _⟩ := h <;> rfl) | (obtain ⟨_, _, _, rfl | rfl, _⟩ := h <;> rfl) | (obtain ⟨_, _, _, _, rfl | rfl, _⟩ := h <;> rfl)
theorem len_read_ring (ds : List Dt) (Φ : Slot → Prop) (Ξ : XD → Prop) (h : sp_read_ring ds Φ Ξ) : ds.length = 1 := by
  first | (obtain ⟨rfl, _⟩ := h; rfl) | (obtain ⟨_, rfl, _⟩ := h; rfl) | (obtain ⟨_, _, rfl, _⟩ := h; rfl) | (obtain ⟨_, _, _, rfl, _⟩ := h; rfl) | (obtain ⟨_, _, _, _, rfl, _⟩ := h; rfl) | (obtain ⟨_, _, _, _, _, rfl, _⟩ := h; rfl) | (obtain ⟨_, _, _, _, _, _, rfl, _⟩ := h; rfl) | (obtain ⟨_, _, _, _, _, _, _, rfl, _⟩ := h; rfl) | (obtain ⟨_, _, _, _, _, _, _, _, rfl, _⟩ := h; rfl) | (obtain ⟨_, _, _, _, _, _, _, _, _, rfl, _⟩ := h; rfl) | (obtain ⟨_, rfl | rfl, _⟩ := h <;> rfl) | (obtain ⟨_, _, rfl | rfl, _⟩ := h <;> rfl) | (obtain ⟨_, _, _, rfl | rfl, _⟩ := h <;> rfl) | (obtain ⟨_, _, _, _, rfl | rfl, _⟩ := h <;> rfl)
theorem len__law_cell (ds : List Dt) (Φ : Slot → Prop) (Ξ : XD → Prop) (h : sp__law_cell ds Φ Ξ) : ds.length = 2 := by
  first | (obtain ⟨rfl, _⟩ := h; rfl) | (obtain ⟨_, rfl, _⟩ := h; rfl) | (obtain ⟨_, _, rfl, _⟩ := h; rfl) | (obtain ⟨_, _, _, rfl, _⟩ := h; rfl) | (obtain ⟨_, _, _, _, rfl, _⟩ := h; rfl) | (obtain ⟨_, _, _, _, _, rfl, _⟩ := h; rfl) | (obtain ⟨_, _, _, _, _, _, rfl, _⟩ := h; rfl) | (obtain ⟨_, _, _, _, _, _, _, rfl, _⟩ := h; rfl) | (obtain ⟨_, _, _, _, _, _, _, _, rfl, _⟩ := h; rfl) | (obtain ⟨_, _, _, _, _, _, _, _, _, rfl, _⟩ := h; rfl) | (obtain ⟨_, rfl | rfl, _⟩ := h <;> rfl) | (obtain ⟨_, _, rfl | rfl, _⟩ := h <;> rfl) | (obtain ⟨_, _, _, rfl | rfl, _⟩ := h <;> rfl) | (obtain ⟨_, _, _, _, rfl | rfl, _⟩ := h <;> rfl)
theorem len__law_numbers (ds : List Dt) (Φ : Slot → Prop) (Ξ : XD → Prop) (h : sp__law_numbers ds Φ Ξ) : ds.length = 2 := by
  first | (obtain ⟨rfl, _⟩ := h; rfl) | (obtain ⟨_, rfl, _⟩ := h; rfl) | (obtain ⟨_, _, rfl, _⟩ := h; rfl) | (obtain ⟨_, _, _, rfl, _⟩ := h; rfl) | (obtain ⟨_, _, _, _, rfl, _⟩ := h; rfl) | (obtain ⟨_, _, _, _, _, rfl, _⟩ := h; rfl) | (obtain ⟨_, _, _, _, _, _, rfl, _⟩ := h; rfl) | (obtain ⟨_, _, _, _, _, _, _, rfl, _⟩ := h; rfl) | (obtain ⟨_, _, _, _, _, _, _, _, rfl, _⟩ := h; rfl) | (obtain ⟨_, _, _, _, _, _, _, _, _, rfl, _⟩ := h; rfl) | (obtain ⟨_, rfl | rfl, _⟩ := h <;> rfl) | (obtain ⟨_, _, rfl | rfl, _⟩ := h <;> rfl) | (obtain ⟨_, _, _, rfl | rfl, _⟩ := h <;> rfl) | (obtain ⟨_, _, _, _, rfl | rfl, _⟩ := h <;> rfl)
theorem len__law_low (ds : List Dt) (Φ : Slot → Prop) (Ξ : XD → Prop) (h : sp__law_low ds Φ Ξ) : ds.length = 2 := by
  first | (obtain ⟨rfl, _⟩ := h; rfl) | (obtain ⟨_, rfl, _⟩ := h; rfl) | (obtain ⟨_, _, rfl, _⟩ := h; rfl) | (obtain ⟨_, _, _, rfl, _⟩ := h; rfl) | (obtain ⟨_, _, _, _, rfl, _⟩ := h; rfl) | (obtain ⟨_, _, _, _, _, rfl, _⟩ := h; rfl) | (obtain ⟨_, _, _, _, _, _, rfl, _⟩ := h; rfl) | (obtain ⟨_, _, _, _, _, _, _, rfl, _⟩ := h; rfl) | (obtain ⟨_, _, _, _, _, _, _, _, rfl, _⟩ := h; rfl) | (obtain ⟨_, _, _, _, _, _, _, _, _, rfl, _⟩ := h; rfl) | (obtain ⟨_, rfl | rfl, _⟩ := h <;> rfl) | (obtain ⟨_, _, rfl | rfl, _⟩ := h <;> rfl) | (obtain ⟨_, _, _, rfl | rfl, _⟩ := h <;> rfl) | (obtain ⟨_, _, _, _, rfl | rfl, _⟩ := h <;> rfl)
theorem len__law_whole (ds : List Dt) (Φ : Slot → Prop) (Ξ : XD → Prop) (h : sp__law_whole ds Φ Ξ) : ds.length = 1 := by
  first | (obtain ⟨rfl, _⟩ := h; rfl) | (obtain ⟨_, rfl, _⟩ := h; rfl) | (obtain ⟨_, _, rfl, _⟩ := h; rfl) | (obtain ⟨_, _, _, rfl, _⟩ := h; rfl) | (obtain ⟨_, _, _, _, rfl, _⟩ := h; rfl) | (obtain ⟨_, _, _, _, _, rfl, _⟩ := h; rfl) | (obtain ⟨_, _, _, _, _, _, rfl, _⟩ := h; rfl) | (obtain ⟨_, _, _, _, _, _, _, rfl, _⟩ := h; rfl) | (obtain ⟨_, _, _, _, _, _, _, _, rfl, _⟩ := h; rfl) | (obtain ⟨_, _, _, _, _, _, _, _, _, rfl, _⟩ := h; rfl) | (obtain ⟨_, rfl | rfl, _⟩ := h <;> rfl) | (obtain ⟨_, _, rfl | rfl, _⟩ := h <;> rfl) | (obtain ⟨_, _, _, rfl | rfl, _⟩ := h <;> rfl) | (obtain ⟨_, _, _, _, rfl | rfl, _⟩ := h <;> rfl)
theorem len__law_written (ds : List Dt) (Φ : Slot → Prop) (Ξ : XD → Prop) (h : sp__law_written ds Φ Ξ) : ds.length = 1 := by
  first | (obtain ⟨rfl, _⟩ := h; rfl) | (obtain ⟨_, rfl, _⟩ := h; rfl) | (obtain ⟨_, _, rfl, _⟩ := h; rfl) | (obtain ⟨_, _, _, rfl, _⟩ := h; rfl) | (obtain ⟨_, _, _, _, rfl, _⟩ := h; rfl) | (obtain ⟨_, _, _, _, _, rfl, _⟩ := h; rfl) | (obtain ⟨_, _, _, _, _, _, rfl, _⟩ := h; rfl) | (obtain ⟨_, _, _, _, _, _, _, rfl, _⟩ := h; rfl) | (obtain ⟨_, _, _, _, _, _, _, _, rfl, _⟩ := h; rfl) | (obtain ⟨_, _, _, _, _, _, _, _, _, rfl, _⟩ := h; rfl) | (obtain ⟨_, rfl | rfl, _⟩ := h <;> rfl) | (obtain ⟨_, _, rfl | rfl, _⟩ := h <;> rfl) | (obtain ⟨_, _, _, rfl | rfl, _⟩ := h <;> rfl) | (obtain ⟨_, _, _, _, rfl | rfl, _⟩ := h <;> rfl)
theorem len__law_reading (ds : List Dt) (Φ : Slot → Prop) (Ξ : XD → Prop) (h : sp__law_reading ds Φ Ξ) : ds.length = 1 := by
  first | (obtain ⟨rfl, _⟩ := h; rfl) | (obtain ⟨_, rfl, _⟩ := h; rfl) | (obtain ⟨_, _, rfl, _⟩ := h; rfl) | (obtain ⟨_, _, _, rfl, _⟩ := h; rfl) | (obtain ⟨_, _, _, _, rfl, _⟩ := h; rfl) | (obtain ⟨_, _, _, _, _, rfl, _⟩ := h; rfl) | (obtain ⟨_, _, _, _, _, _, rfl, _⟩ := h; rfl) | (obtain ⟨_, _, _, _, _, _, _, rfl, _⟩ := h; rfl) | (obtain ⟨_, _, _, _, _, _, _, _, rfl, _⟩ := h; rfl) | (obtain ⟨_, _, _, _, _, _, _, _, _, rfl, _⟩ := h; rfl) | (obtain ⟨_, rfl | rfl, _⟩ := h <;> rfl) | (obtain ⟨_, _, rfl | rfl, _⟩ := h <;> rfl) | (obtain ⟨_, _, _, rfl | rfl, _⟩ := h <;> rfl) | (obtain ⟨_, _, _, _, rfl | rfl, _⟩ := h <;> rfl)
theorem len__law_spoilt (ds : List Dt) (Φ : Slot → Prop) (Ξ : XD → Prop) (h : sp__law_spoilt ds Φ Ξ) : ds.length = 2 := by
  first | (obtain ⟨rfl, _⟩ := h; rfl) | (obtain ⟨_, rfl, _⟩ := h; rfl) | (obtain ⟨_, _, rfl, _⟩ := h; rfl) | (obtain ⟨_, _, _, rfl, _⟩ := h; rfl) | (obtain ⟨_, _, _, _, rfl, _⟩ := h; rfl) | (obtain ⟨_, _, _, _, _, rfl, _⟩ := h; rfl) | (obtain ⟨_, _, _, _, _, _, rfl, _⟩ := h; rfl) | (obtain ⟨_, _, _, _, _, _, _, rfl, _⟩ := h; rfl) | (obtain ⟨_, _, _, _, _, _, _, _, rfl, _⟩ := h; rfl) | (obtain ⟨_, _, _, _, _, _, _, _, _, rfl, _⟩ := h; rfl) | (obtain ⟨_, rfl | rfl, _⟩ := h <;> rfl) | (obtain ⟨_, _, rfl | rfl, _⟩ := h <;> rfl) | (obtain ⟨_, _, _, rfl | rfl, _⟩ := h <;> rfl) | (obtain ⟨_, _, _, _, rfl | rfl, _⟩ := h <;> rfl)
theorem len__law_drawn (ds : List Dt) (Φ : Slot → Prop) (Ξ : XD → Prop) (h : sp__law_drawn ds Φ Ξ) : ds.length = 1 := by
  first | (obtain ⟨rfl, _⟩ := h; rfl) | (obtain ⟨_, rfl, _⟩ := h; rfl) | (obtain ⟨_, _, rfl, _⟩ := h; rfl) | (obtain ⟨_, _, _, rfl, _⟩ := h; rfl) | (obtain ⟨_, _, _, _, rfl, _⟩ := h; rfl) | (obtain ⟨_, _, _, _, _, rfl, _⟩ := h; rfl) | (obtain ⟨_, _, _, _, _, _, rfl, _⟩ := h; rfl) | (obtain ⟨_, _, _, _, _, _, _, rfl, _⟩ := h; rfl) | (obtain ⟨_, _, _, _, _, _, _, _, rfl, _⟩ := h; rfl) | (obtain ⟨_, _, _, _, _, _, _, _, _, rfl, _⟩ := h; rfl) | (obtain ⟨_, rfl | rfl, _⟩ := h <;> rfl) | (obtain ⟨_, _, rfl | rfl, _⟩ := h <;> rfl) | (obtain ⟨_, _, _, rfl | rfl, _⟩ := h <;> rfl) | (obtain ⟨_, _, _, _, rfl | rfl, _⟩ := h <;> rfl)
theorem len__law_refused (ds : List Dt) (Φ : Slot → Prop) (Ξ : XD → Prop) (h : sp__law_refused ds Φ Ξ) : ds.length = 1 := by
  first | (obtain ⟨rfl, _⟩ := h; rfl) | (obtain ⟨_, rfl, _⟩ := h; rfl) | (obtain ⟨_, _, rfl, _⟩ := h; rfl) | (obtain ⟨_, _, _, rfl, _⟩ := h; rfl) | (obtain ⟨_, _, _, _, rfl, _⟩ := h; rfl) | (obtain ⟨_, _, _, _, _, rfl, _⟩ := h; rfl) | (obtain ⟨_, _, _, _, _, _, rfl, _⟩ := h; rfl) | (obtain ⟨_, _, _, _, _, _, _, rfl, _⟩ := h; rfl) | (obtain ⟨_, _, _, _, _, _, _, _, rfl, _⟩ := h; rfl) | (obtain ⟨_, _, _, _, _, _, _, _, _, rfl, _⟩ := h; rfl) | (obtain ⟨_, rfl | rfl, _⟩ := h <;> rfl) | (obtain ⟨_, _, rfl | rfl, _⟩ := h <;> rfl) | (obtain ⟨_, _, _, rfl | rfl, _⟩ := h <;> rfl) | (obtain ⟨_, _, _, _, rfl | rfl, _⟩ := h <;> rfl)
theorem len_law (ds : List Dt) (Φ : Slot → Prop) (Ξ : XD → Prop) (h : sp_law ds Φ Ξ) : ds.length = 1 := by
  first | (obtain ⟨rfl, _⟩ := h; rfl) | (obtain ⟨_, rfl, _⟩ := h; rfl) | (obtain ⟨_, _, rfl, _⟩ := h; rfl) | (obtain ⟨_, _, _, rfl, _⟩ := h; rfl) | (obtain ⟨_, _, _, _, rfl, _⟩ := h; rfl) | (obtain ⟨_, _, _, _, _, rfl, _⟩ := h; rfl) | (obtain ⟨_, _, _, _, _, _, rfl, _⟩ := h; rfl) | (obtain ⟨_, _, _, _, _, _, _, rfl, _⟩ := h; rfl) | (obtain ⟨_, _, _, _, _, _, _, _, rfl, _⟩ := h; rfl) | (obtain ⟨_, _, _, _, _, _, _, _, _, rfl, _⟩ := h; rfl) | (obtain ⟨_, rfl | rfl, _⟩ := h <;> rfl) | (obtain ⟨_, _, rfl | rfl, _⟩ := h <;> rfl) | (obtain ⟨_, _, _, rfl | rfl, _⟩ := h <;> rfl) | (obtain ⟨_, _, _, _, rfl | rfl, _⟩ := h <;> rfl)
section
variable {P : Program} {w : World} {K : PySem.W.Frag} {mg : Str → Option Value} {base : Heap}
theorem ok_great_part {f : Addr} {fd : FuncData} (F : FnP K "great_part" s_great_part f fd) (b_abs : mg "abs" = none) : FnOk P w K mg base (L2.CX P w) 1 f fd ["one", "other"] (lift K sp_great_part) :=
  fn_ok F sc_great_part (by decide) len_great_part (fun cdv A outer s H E hr => ⟨d_great_part, der_great_part b_abs hr, fun ds Φ Ξ h => by rw [rho0_len_eq (N := M_great_part) (M := N_great_part) rfl]; exact rd_great_part ds Φ Ξ h⟩)
theorem ok_figures_in {f : Addr} {fd : FuncData} (F : FnP K "figures_in" s_figures_in f fd) (b_len : mg "len" = none) (b_all : mg "all" = none) (b_int : mg "int" = none) (c_MOST_FIGURES : Glo K mg "MOST_FIGURES" cv_MOST_FIGURES) (c_FIGURES : Glo K mg "FIGURES" cv_FIGURES) : FnOk P w K mg base (L2.CX P w) 1 f fd ["word"] (lift K sp_figures_in) :=
  fn_ok F sc_figures_in (by decide) len_figures_in (fun cdv A outer s H E hr => ⟨d_figures_in, der_figures_in b_len b_all b_int c_MOST_FIGURES c_FIGURES hr, fun ds Φ Ξ h => by rw [rho0_len_eq (N := M_figures_in) (M := N_figures_in) rfl]; exact rd_figures_in ds Φ Ξ h⟩)
theorem ok_number_in {f : Addr} {fd : FuncData} (F : FnP K "number_in" s_number_in f fd) (n_figures_in : FN P w K mg base "figures_in" 1 sp_figures_in) (n_great_part : FN P w K mg base "great_part" 1 sp_great_part) (b_int : mg "int" = none) : FnOk P w K mg base (L2.CX P w) 2 f fd ["word"] (lift K sp_number_in) :=
  fn_ok F sc_number_in (by decide) len_number_in (fun cdv A outer s H E hr => ⟨d_number_in, der_number_in n_figures_in n_great_part b_int hr, fun ds Φ Ξ h => by rw [rho0_len_eq (N := M_number_in) (M := N_number_in) rfl]; exact rd_number_in ds Φ Ξ h⟩)
theorem ok_point_in_word {f : Addr} {fd : FuncData} (F : FnP K "point_in_word" s_point_in_word f fd) (n_number_in : FN P w K mg base "number_in" 2 sp_number_in) : FnOk P w K mg base (L2.CX P w) 3 f fd ["word"] (lift K sp_point_in_word) :=
  fn_ok F sc_point_in_word (by decide) len_point_in_word (fun cdv A outer s H E hr => ⟨d_point_in_word, der_point_in_word n_number_in hr, fun ds Φ Ξ h => by rw [rho0_len_eq (N := M_point_in_word) (M := N_point_in_word) rfl]; exact rd_point_in_word ds Φ Ξ h⟩)
theorem ok_read_ring {f : Addr} {fd : FuncData} (F : FnP K "read_ring" s_read_ring f fd) (n_point_in_word : FN P w K mg base "point_in_word" 3 sp_point_in_word) (b_isinstance : mg "isinstance" = none) (b_str : mg "str" = none) (b_len : mg "len" = none) (b_tuple : mg "tuple" = none) (c_MOST_POINTS : Glo K mg "MOST_POINTS" cv_MOST_POINTS) (x_f_NoText : ExF K "NoText") (x_k_NoText : mg "NoText" = some (.ref (He.ga K "NoText"))) : FnOk P w K mg base (L2.CX P w) 4 f fd ["text"] (lift K sp_read_ring) :=
  fn_ok F sc_read_ring (by decide) len_read_ring (fun cdv A outer s H E hr => ⟨d_read_ring, der_read_ring n_point_in_word b_isinstance b_str b_len b_tuple c_MOST_POINTS x_f_NoText x_k_NoText hr, fun ds Φ Ξ h => by rw [rho0_len_eq (N := M_read_ring) (M := N_read_ring) rfl]; exact rd_read_ring ds Φ Ξ h⟩)
theorem ok__law_cell {f : Addr} {fd : FuncData} (F : FnP K "_law_cell" s__law_cell f fd) (b_len : mg "len" = none) : FnOk P w K mg base (L2.CX P w) 1 f fd ["_law_script", "_law_k"] (lift K sp__law_cell) :=
  fn_ok F sc__law_cell (by decide) len__law_cell (fun cdv A outer s H E hr => ⟨d__law_cell, der__law_cell b_len hr, fun ds Φ Ξ h => by rw [rho0_len_eq (N := M__law_cell) (M := N__law_cell) rfl]; exact rd__law_cell ds Φ Ξ h⟩)
theorem ok__law_numbers {f : Addr} {fd : FuncData} (F : FnP K "_law_numbers" s__law_numbers f fd) (b_abs : mg "abs" = none) (b_range : mg "range" = none) (b_int : mg "int" = none) : FnOk P w K mg base (L2.CX P w) 1 f fd ["_law_cell_here", "_law_many"] (lift K sp__law_numbers) :=
  fn_ok F sc__law_numbers (by decide) len__law_numbers (fun cdv A outer s H E hr => ⟨d__law_numbers, der__law_numbers b_abs b_range b_int hr, fun ds Φ Ξ h => by rw [rho0_len_eq (N := M__law_numbers) (M := N__law_numbers) rfl]; exact rd__law_numbers ds Φ Ξ h⟩)
theorem ok__law_low {f : Addr} {fd : FuncData} (F : FnP K "_law_low" s__law_low f fd) (b_abs : mg "abs" = none) : FnOk P w K mg base (L2.CX P w) 1 f fd ["_law_top", "_law_bottom"] (lift K sp__law_low) :=
  fn_ok F sc__law_low (by decide) len__law_low (fun cdv A outer s H E hr => ⟨d__law_low, der__law_low b_abs hr, fun ds Φ Ξ h => by rw [rho0_len_eq (N := M__law_low) (M := N__law_low) rfl]; exact rd__law_low ds Φ Ξ h⟩)
theorem ok__law_whole {f : Addr} {fd : FuncData} (F : FnP K "_law_whole" s__law_whole f fd) (b_len : mg "len" = none) (b_all : mg "all" = none) (b_int : mg "int" = none) : FnOk P w K mg base (L2.CX P w) 1 f fd ["_law_word"] (lift K sp__law_whole) :=
  fn_ok F sc__law_whole (by decide) len__law_whole (fun cdv A outer s H E hr => ⟨d__law_whole, der__law_whole b_len b_all b_int hr, fun ds Φ Ξ h => by rw [rho0_len_eq (N := M__law_whole) (M := N__law_whole) rfl]; exact rd__law_whole ds Φ Ξ h⟩)
theorem ok__law_written {f : Addr} {fd : FuncData} (F : FnP K "_law_written" s__law_written f fd) (n__law_whole : FN P w K mg base "_law_whole" 1 sp__law_whole) (n__law_low : FN P w K mg base "_law_low" 1 sp__law_low) (b_len : mg "len" = none) : FnOk P w K mg base (L2.CX P w) 2 f fd ["_law_word"] (lift K sp__law_written) :=
  fn_ok F sc__law_written (by decide) len__law_written (fun cdv A outer s H E hr => ⟨d__law_written, der__law_written n__law_whole n__law_low b_len hr, fun ds Φ Ξ h => by rw [rho0_len_eq (N := M__law_written) (M := N__law_written) rfl]; exact rd__law_written ds Φ Ξ h⟩)
theorem ok__law_reading {f : Addr} {fd : FuncData} (F : FnP K "_law_reading" s__law_reading f fd) (n__law_written : FN P w K mg base "_law_written" 2 sp__law_written) (b_len : mg "len" = none) (b_tuple : mg "tuple" = none) : FnOk P w K mg base (L2.CX P w) 3 f fd ["_law_text"] (lift K sp__law_reading) :=
  fn_ok F sc__law_reading (by decide) len__law_reading (fun cdv A outer s H E hr => ⟨d__law_reading, der__law_reading n__law_written b_len b_tuple hr, fun ds Φ Ξ h => by rw [rho0_len_eq (N := M__law_reading) (M := N__law_reading) rfl]; exact rd__law_reading ds Φ Ξ h⟩)
theorem ok__law_spoilt {f : Addr} {fd : FuncData} (F : FnP K "_law_spoilt" s__law_spoilt f fd) (b_len : mg "len" = none) : FnOk P w K mg base (L2.CX P w) 1 f fd ["_law_words", "_law_xs"] (lift K sp__law_spoilt) :=
  fn_ok F sc__law_spoilt (by decide) len__law_spoilt (fun cdv A outer s H E hr => ⟨d__law_spoilt, der__law_spoilt b_len hr, fun ds Φ Ξ h => by rw [rho0_len_eq (N := M__law_spoilt) (M := N__law_spoilt) rfl]; exact rd__law_spoilt ds Φ Ξ h⟩)
theorem ok__law_drawn {f : Addr} {fd : FuncData} (F : FnP K "_law_drawn" s__law_drawn f fd) (n__law_numbers : FN P w K mg base "_law_numbers" 1 sp__law_numbers) (n__law_spoilt : FN P w K mg base "_law_spoilt" 1 sp__law_spoilt) (b_range : mg "range" = none) (b_str : mg "str" = none) : FnOk P w K mg base (L2.CX P w) 2 f fd ["_law_cell_here"] (lift K sp__law_drawn) :=
  fn_ok F sc__law_drawn (by decide) len__law_drawn (fun cdv A outer s H E hr => ⟨d__law_drawn, der__law_drawn n__law_numbers n__law_spoilt b_range b_str hr, fun ds Φ Ξ h => by rw [rho0_len_eq (N := M__law_drawn) (M := N__law_drawn) rfl]; exact rd__law_drawn ds Φ Ξ h⟩)
theorem ok__law_refused {f : Addr} {fd : FuncData} (F : FnP K "_law_refused" s__law_refused f fd) (n_read_ring : FN P w K mg base "read_ring" 4 sp_read_ring) (b_isinstance : mg "isinstance" = none) (b_ValueError : mg "ValueError" = none) (x_k_SheetError : mg "SheetError" = some (.ref (He.ga K "SheetError"))) (x_t_SheetError : TryT K tb_SheetError "SheetError") (x_i_0 : IsT K tb_0 [.own "NoAtlas", .own "NoDeed", .own "NoDeskRow", .own "NoFace", .own "NoLand", .own "NoNumber", .own "NoRow", .own "NoSaying", .own "OnSide"]) (x_k_OnSide : mg "OnSide" = some (.ref (He.ga K "OnSide"))) (x_k_NoSaying : mg "NoSaying" = some (.ref (He.ga K "NoSaying"))) (x_k_NoRow : mg "NoRow" = some (.ref (He.ga K "NoRow"))) (x_k_NoNumber : mg "NoNumber" = some (.ref (He.ga K "NoNumber"))) (x_k_NoLand : mg "NoLand" = some (.ref (He.ga K "NoLand"))) (x_k_NoFace : mg "NoFace" = some (.ref (He.ga K "NoFace"))) (x_k_NoDeskRow : mg "NoDeskRow" = some (.ref (He.ga K "NoDeskRow"))) (x_k_NoDeed : mg "NoDeed" = some (.ref (He.ga K "NoDeed"))) (x_k_NoAtlas : mg "NoAtlas" = some (.ref (He.ga K "NoAtlas"))) (x_i_NoText : IsT K tb_NoText [.own "NoText"]) (x_k_NoText : mg "NoText" = some (.ref (He.ga K "NoText"))) (x_i_ValueError : IsT K tb_ValueError [.ty "ValueError"]) : FnOk P w K mg base (L2.CX P w) 5 f fd ["_law_thing"] (lift K sp__law_refused) :=
  fn_ok F sc__law_refused (by decide) len__law_refused (fun cdv A outer s H E hr => ⟨d__law_refused, der__law_refused n_read_ring b_isinstance b_ValueError x_k_SheetError x_t_SheetError x_i_0 x_k_OnSide x_k_NoSaying x_k_NoRow x_k_NoNumber x_k_NoLand x_k_NoFace x_k_NoDeskRow x_k_NoDeed x_k_NoAtlas x_i_NoText x_k_NoText x_i_ValueError hr, fun ds Φ Ξ h => by rw [rho0_len_eq (N := M__law_refused) (M := N__law_refused) rfl]; exact rd__law_refused ds Φ Ξ h⟩)
theorem ok_law {f : Addr} {fd : FuncData} (F : FnP K "law" s_law f fd) (n__law_cell : FN P w K mg base "_law_cell" 1 sp__law_cell) (n__law_drawn : FN P w K mg base "_law_drawn" 2 sp__law_drawn) (n__law_reading : FN P w K mg base "_law_reading" 3 sp__law_reading) (n__law_refused : FN P w K mg base "_law_refused" 5 sp__law_refused) (n_read_ring : FN P w K mg base "read_ring" 4 sp_read_ring) (b_all : mg "all" = none) : FnOk P w K mg base (L2.CX P w) 6 f fd ["_law_script"] (lift K sp_law) :=
  fn_ok F sc_law (by decide) len_law (fun cdv A outer s H E hr => ⟨d_law, der_law n__law_cell n__law_drawn n__law_reading n__law_refused n_read_ring b_all hr, fun ds Φ Ξ h => by rw [rho0_len_eq (N := M_law) (M := N_law) rfl]; exact rd_law ds Φ Ξ h⟩)
end
def D_great_part : He.DefD := ⟨("great_part", none), "great_part", "great_part", defArgs s_great_part, defBody s_great_part, defScope s_great_part, [], []⟩
def D_figures_in : He.DefD := ⟨("figures_in", none), "figures_in", "figures_in", defArgs s_figures_in, defBody s_figures_in, defScope s_figures_in, [], []⟩
def D_number_in : He.DefD := ⟨("number_in", none), "number_in", "number_in", defArgs s_number_in, defBody s_number_in, defScope s_number_in, [], []⟩
def D_point_in_word : He.DefD := ⟨("point_in_word", none), "point_in_word", "point_in_word", defArgs s_point_in_word, defBody s_point_in_word, defScope s_point_in_word, [], []⟩
def D_read_ring : He.DefD := ⟨("read_ring", none), "read_ring", "read_ring", defArgs s_read_ring, defBody s_read_ring, defScope s_read_ring, [], []⟩
def D__law_cell : He.DefD := ⟨("_law_cell", none), "_law_cell", "_law_cell", defArgs s__law_cell, defBody s__law_cell, defScope s__law_cell, [], []⟩
def D__law_numbers : He.DefD := ⟨("_law_numbers", none), "_law_numbers", "_law_numbers", defArgs s__law_numbers, defBody s__law_numbers, defScope s__law_numbers, [], []⟩
def D__law_low : He.DefD := ⟨("_law_low", none), "_law_low", "_law_low", defArgs s__law_low, defBody s__law_low, defScope s__law_low, [], []⟩
def D__law_whole : He.DefD := ⟨("_law_whole", none), "_law_whole", "_law_whole", defArgs s__law_whole, defBody s__law_whole, defScope s__law_whole, [], []⟩
def D__law_written : He.DefD := ⟨("_law_written", none), "_law_written", "_law_written", defArgs s__law_written, defBody s__law_written, defScope s__law_written, [], []⟩
def D__law_reading : He.DefD := ⟨("_law_reading", none), "_law_reading", "_law_reading", defArgs s__law_reading, defBody s__law_reading, defScope s__law_reading, [], []⟩
def D__law_spoilt : He.DefD := ⟨("_law_spoilt", none), "_law_spoilt", "_law_spoilt", defArgs s__law_spoilt, defBody s__law_spoilt, defScope s__law_spoilt, [], []⟩
def D__law_drawn : He.DefD := ⟨("_law_drawn", none), "_law_drawn", "_law_drawn", defArgs s__law_drawn, defBody s__law_drawn, defScope s__law_drawn, [], []⟩
def D__law_refused : He.DefD := ⟨("_law_refused", none), "_law_refused", "_law_refused", defArgs s__law_refused, defBody s__law_refused, defScope s__law_refused, [], []⟩
def D_law : He.DefD := ⟨("law", none), "law", "law", defArgs s_law, defBody s_law, defScope s_law, [], []⟩
def fn : List He.DefD := [D_great_part, D_figures_in, D_number_in, D_point_in_word, D_read_ring, D__law_cell, D__law_numbers, D__law_low, D__law_whole, D__law_written, D__law_reading, D__law_spoilt, D__law_drawn, D__law_refused, D_law]
def fa : List He.Fa := [.glo "great_part", .glo "figures_in", .glo "number_in", .glo "point_in_word", .glo "read_ring", .glo "_law_cell", .glo "_law_numbers", .glo "_law_low", .glo "_law_whole", .glo "_law_written", .glo "_law_reading", .glo "_law_spoilt", .glo "_law_drawn", .glo "_law_refused", .glo "law", .free "abs", .free "len", .free "all", .free "int", .free "isinstance", .free "str", .free "tuple", .free "range", .free "ValueError", .glo "NoText", .glo "SheetError", .glo "OnSide", .glo "NoSaying", .glo "NoRow", .glo "NoNumber", .glo "NoLand", .glo "NoFace", .glo "NoDeskRow", .glo "NoDeed", .glo "NoAtlas", .exc "NoText", .int "MOST_FIGURES" 7, .str "FIGURES" "0123456789", .int "MOST_POINTS" 24]
abbrev R : PySem.W.OpenRow := PySem.W.OpenLaw.row PySem.Challenge.rw_landsheets_k10_texts_refused
def xt (K : PySem.W.Frag) : Bool := noLB K && (tryB K tb_SheetError "SheetError" && (isB K tb_0 [.own "NoAtlas", .own "NoDeed", .own "NoDeskRow", .own "NoFace", .own "NoLand", .own "NoNumber", .own "NoRow", .own "NoSaying", .own "OnSide"] && (isB K tb_NoText [.own "NoText"] && (isB K tb_ValueError [.ty "ValueError"]))))
abbrev hk : PySem.W.Hook := hookX 4 fa fn xt
def ob (s : PySem.W.SharedT) : Bool × He.AlD := obsX 4 fa fn xt (HandSHeadRun.getT s)
theorem ob_eq (s : PySem.W.SharedT) : ob s = hk.obs s.abs := obsX_eq (HandSHeadRun.getT_eq s)
def loose : List Str := (["SheetError", "NoNumber", "OnSide", "NoText", "NoAtlas", "NoRow", "NoSaying", "NoFace", "NoLand", "NoDeed", "NoDeskRow", "great_part", "FIGURES", "MOST_FIGURES", "MOST_POINTS", "figures_in", "number_in", "point_in_word", "read_ring", "_law_cell", "_law_numbers", "_law_low", "_law_whole", "_law_written", "_law_reading", "_law_spoilt", "_law_drawn", "_law_refused"] : List Str)
theorem run (w : World) : HandSHeadRun.RunEq R (PySem.W.view R.prog [32]) hk ob 20000 loose w := by
  intro os
  kernel_rfl
theorem facts {P : Program} {w : World} {K : PySem.W.Frag} {h : Heap} {mg : Str → Option Value} {f : Addr} (X : K.In h) (G : h.Ns mainGlobals mg) (hfa : mg ("law" : Str) = some (.ref f)) (c : He.SaysD fa fn K) (cx : xt K = true) :
    ∃ fd : FuncData, (∀ (s : Shared) (v : Value), BindsTo s fd ⟨[v], []⟩ [("_law_script", v)]) ∧ ∀ base : Heap, K.In base → base.Ns mainGlobals mg → FnOk P w K mg base (L2.CX P w) 6 f fd ["_law_script"] (lift K sp_law) := by
  obtain ⟨z0, y0⟩ := He.ba cx
  have x_noL : NoL K := noL_of z0
  obtain ⟨z1, y1⟩ := He.ba y0
  have x_t_SheetError : TryT K tb_SheetError "SheetError" := tryT_of z1
  obtain ⟨z2, y2⟩ := He.ba y1
  have x_i_0 : IsT K tb_0 [.own "NoAtlas", .own "NoDeed", .own "NoDeskRow", .own "NoFace", .own "NoLand", .own "NoNumber", .own "NoRow", .own "NoSaying", .own "OnSide"] := isT_of z2
  obtain ⟨z3, y3⟩ := He.ba y2
  have x_i_NoText : IsT K tb_NoText [.own "NoText"] := isT_of z3
  have x_i_ValueError : IsT K tb_ValueError [.ty "ValueError"] := isT_of y3
  have c_MOST_FIGURES : Glo K mg "MOST_FIGURES" cv_MOST_FIGURES := glo_int (He.int_ok X G (c.fact 36 (f := .int "MOST_FIGURES" 7) rfl))
  have c_FIGURES : Glo K mg "FIGURES" cv_FIGURES := glo_str (He.str_ok X G (c.fact 37 (f := .str "FIGURES" "0123456789") rfl))
  have c_MOST_POINTS : Glo K mg "MOST_POINTS" cv_MOST_POINTS := glo_int (He.int_ok X G (c.fact 38 (f := .int "MOST_POINTS" 24) rfl))
  have x_k_NoText : mg "NoText" = some (.ref (He.ga K "NoText")) := He.glo_ok X G (c.fact 24 (f := .glo "NoText") rfl)
  have x_k_SheetError : mg "SheetError" = some (.ref (He.ga K "SheetError")) := He.glo_ok X G (c.fact 25 (f := .glo "SheetError") rfl)
  have x_k_OnSide : mg "OnSide" = some (.ref (He.ga K "OnSide")) := He.glo_ok X G (c.fact 26 (f := .glo "OnSide") rfl)
  have x_k_NoSaying : mg "NoSaying" = some (.ref (He.ga K "NoSaying")) := He.glo_ok X G (c.fact 27 (f := .glo "NoSaying") rfl)
  have x_k_NoRow : mg "NoRow" = some (.ref (He.ga K "NoRow")) := He.glo_ok X G (c.fact 28 (f := .glo "NoRow") rfl)
  have x_k_NoNumber : mg "NoNumber" = some (.ref (He.ga K "NoNumber")) := He.glo_ok X G (c.fact 29 (f := .glo "NoNumber") rfl)
  have x_k_NoLand : mg "NoLand" = some (.ref (He.ga K "NoLand")) := He.glo_ok X G (c.fact 30 (f := .glo "NoLand") rfl)
  have x_k_NoFace : mg "NoFace" = some (.ref (He.ga K "NoFace")) := He.glo_ok X G (c.fact 31 (f := .glo "NoFace") rfl)
  have x_k_NoDeskRow : mg "NoDeskRow" = some (.ref (He.ga K "NoDeskRow")) := He.glo_ok X G (c.fact 32 (f := .glo "NoDeskRow") rfl)
  have x_k_NoDeed : mg "NoDeed" = some (.ref (He.ga K "NoDeed")) := He.glo_ok X G (c.fact 33 (f := .glo "NoDeed") rfl)
  have x_k_NoAtlas : mg "NoAtlas" = some (.ref (He.ga K "NoAtlas")) := He.glo_ok X G (c.fact 34 (f := .glo "NoAtlas") rfl)
  have x_f_NoText : ExF K "NoText" := exF_of (c.fact 35 (f := .exc "NoText") rfl)
  have b_abs : mg "abs" = none := He.free_ok X G (c.fact 15 (f := .free "abs") rfl)
  have b_len : mg "len" = none := He.free_ok X G (c.fact 16 (f := .free "len") rfl)
  have b_all : mg "all" = none := He.free_ok X G (c.fact 17 (f := .free "all") rfl)
  have b_int : mg "int" = none := He.free_ok X G (c.fact 18 (f := .free "int") rfl)
  have b_isinstance : mg "isinstance" = none := He.free_ok X G (c.fact 19 (f := .free "isinstance") rfl)
  have b_str : mg "str" = none := He.free_ok X G (c.fact 20 (f := .free "str") rfl)
  have b_tuple : mg "tuple" = none := He.free_ok X G (c.fact 21 (f := .free "tuple") rfl)
  have b_range : mg "range" = none := He.free_ok X G (c.fact 22 (f := .free "range") rfl)
  have b_ValueError : mg "ValueError" = none := He.free_ok X G (c.fact 23 (f := .free "ValueError") rfl)
  obtain ⟨fd_great_part, F_great_part⟩ := c.def_ 0 (d := D_great_part) rfl
  have g_great_part := He.glo_ok X G (c.fact 0 (f := .glo "great_part") rfl)
  have bi_great_part : Binds K fd_great_part ["one", "other"] [] := F_great_part.bindsN fun _ _ _ _ _ _ us hl => match us, hl with | [_, _], _ => rfl
  obtain ⟨fd_figures_in, F_figures_in⟩ := c.def_ 1 (d := D_figures_in) rfl
  have g_figures_in := He.glo_ok X G (c.fact 1 (f := .glo "figures_in") rfl)
  have bi_figures_in : Binds K fd_figures_in ["word"] [] := F_figures_in.bindsN fun _ _ _ _ _ _ us hl => match us, hl with | [_], _ => rfl
  obtain ⟨fd_number_in, F_number_in⟩ := c.def_ 2 (d := D_number_in) rfl
  have g_number_in := He.glo_ok X G (c.fact 2 (f := .glo "number_in") rfl)
  have bi_number_in : Binds K fd_number_in ["word"] [] := F_number_in.bindsN fun _ _ _ _ _ _ us hl => match us, hl with | [_], _ => rfl
  obtain ⟨fd_point_in_word, F_point_in_word⟩ := c.def_ 3 (d := D_point_in_word) rfl
  have g_point_in_word := He.glo_ok X G (c.fact 3 (f := .glo "point_in_word") rfl)
  have bi_point_in_word : Binds K fd_point_in_word ["word"] [] := F_point_in_word.bindsN fun _ _ _ _ _ _ us hl => match us, hl with | [_], _ => rfl
  obtain ⟨fd_read_ring, F_read_ring⟩ := c.def_ 4 (d := D_read_ring) rfl
  have g_read_ring := He.glo_ok X G (c.fact 4 (f := .glo "read_ring") rfl)
  have bi_read_ring : Binds K fd_read_ring ["text"] [] := F_read_ring.bindsN fun _ _ _ _ _ _ us hl => match us, hl with | [_], _ => rfl
  obtain ⟨fd__law_cell, F__law_cell⟩ := c.def_ 5 (d := D__law_cell) rfl
  have g__law_cell := He.glo_ok X G (c.fact 5 (f := .glo "_law_cell") rfl)
  have bi__law_cell : Binds K fd__law_cell ["_law_script", "_law_k"] [] := F__law_cell.bindsN fun _ _ _ _ _ _ us hl => match us, hl with | [_, _], _ => rfl
  obtain ⟨fd__law_numbers, F__law_numbers⟩ := c.def_ 6 (d := D__law_numbers) rfl
  have g__law_numbers := He.glo_ok X G (c.fact 6 (f := .glo "_law_numbers") rfl)
  have bi__law_numbers : Binds K fd__law_numbers ["_law_cell_here", "_law_many"] [] := F__law_numbers.bindsN fun _ _ _ _ _ _ us hl => match us, hl with | [_, _], _ => rfl
  obtain ⟨fd__law_low, F__law_low⟩ := c.def_ 7 (d := D__law_low) rfl
  have g__law_low := He.glo_ok X G (c.fact 7 (f := .glo "_law_low") rfl)
  have bi__law_low : Binds K fd__law_low ["_law_top", "_law_bottom"] [] := F__law_low.bindsN fun _ _ _ _ _ _ us hl => match us, hl with | [_, _], _ => rfl
  obtain ⟨fd__law_whole, F__law_whole⟩ := c.def_ 8 (d := D__law_whole) rfl
  have g__law_whole := He.glo_ok X G (c.fact 8 (f := .glo "_law_whole") rfl)
  have bi__law_whole : Binds K fd__law_whole ["_law_word"] [] := F__law_whole.bindsN fun _ _ _ _ _ _ us hl => match us, hl with | [_], _ => rfl
  obtain ⟨fd__law_written, F__law_written⟩ := c.def_ 9 (d := D__law_written) rfl
  have g__law_written := He.glo_ok X G (c.fact 9 (f := .glo "_law_written") rfl)
  have bi__law_written : Binds K fd__law_written ["_law_word"] [] := F__law_written.bindsN fun _ _ _ _ _ _ us hl => match us, hl with | [_], _ => rfl
  obtain ⟨fd__law_reading, F__law_reading⟩ := c.def_ 10 (d := D__law_reading) rfl
  have g__law_reading := He.glo_ok X G (c.fact 10 (f := .glo "_law_reading") rfl)
  have bi__law_reading : Binds K fd__law_reading ["_law_text"] [] := F__law_reading.bindsN fun _ _ _ _ _ _ us hl => match us, hl with | [_], _ => rfl
  obtain ⟨fd__law_spoilt, F__law_spoilt⟩ := c.def_ 11 (d := D__law_spoilt) rfl
  have g__law_spoilt := He.glo_ok X G (c.fact 11 (f := .glo "_law_spoilt") rfl)
  have bi__law_spoilt : Binds K fd__law_spoilt ["_law_words", "_law_xs"] [] := F__law_spoilt.bindsN fun _ _ _ _ _ _ us hl => match us, hl with | [_, _], _ => rfl
  obtain ⟨fd__law_drawn, F__law_drawn⟩ := c.def_ 12 (d := D__law_drawn) rfl
  have g__law_drawn := He.glo_ok X G (c.fact 12 (f := .glo "_law_drawn") rfl)
  have bi__law_drawn : Binds K fd__law_drawn ["_law_cell_here"] [] := F__law_drawn.bindsN fun _ _ _ _ _ _ us hl => match us, hl with | [_], _ => rfl
  obtain ⟨fd__law_refused, F__law_refused⟩ := c.def_ 13 (d := D__law_refused) rfl
  have g__law_refused := He.glo_ok X G (c.fact 13 (f := .glo "_law_refused") rfl)
  have bi__law_refused : Binds K fd__law_refused ["_law_thing"] [] := F__law_refused.bindsN fun _ _ _ _ _ _ us hl => match us, hl with | [_], _ => rfl
  obtain ⟨fd_law, F_law⟩ := c.def_ 14 (d := D_law) rfl
  have g_law := He.glo_ok X G (c.fact 14 (f := .glo "law") rfl)
  have e := hfa.symm.trans g_law
  cases e
  have b := FunD.bindsA (ps := ["_law_script"]) F_law fun _ _ _ _ _ _ us hl => match us, hl with | [_], _ => rfl
  refine ⟨fd_law, fun s v => b s [v] rfl, fun base _ _ => ?_⟩
  have n_great_part : FN P w K mg base "great_part" 1 sp_great_part := mkFN F_great_part g_great_part (ok_great_part F_great_part b_abs) bi_great_part
  have n_figures_in : FN P w K mg base "figures_in" 1 sp_figures_in := mkFN F_figures_in g_figures_in (ok_figures_in F_figures_in b_len b_all b_int c_MOST_FIGURES c_FIGURES) bi_figures_in
  have n_number_in : FN P w K mg base "number_in" 2 sp_number_in := mkFN F_number_in g_number_in (ok_number_in F_number_in n_figures_in n_great_part b_int) bi_number_in
  have n_point_in_word : FN P w K mg base "point_in_word" 3 sp_point_in_word := mkFN F_point_in_word g_point_in_word (ok_point_in_word F_point_in_word n_number_in) bi_point_in_word
  have n_read_ring : FN P w K mg base "read_ring" 4 sp_read_ring := mkFN F_read_ring g_read_ring (ok_read_ring F_read_ring n_point_in_word b_isinstance b_str b_len b_tuple c_MOST_POINTS x_f_NoText x_k_NoText) bi_read_ring
  have n__law_cell : FN P w K mg base "_law_cell" 1 sp__law_cell := mkFN F__law_cell g__law_cell (ok__law_cell F__law_cell b_len) bi__law_cell
  have n__law_numbers : FN P w K mg base "_law_numbers" 1 sp__law_numbers := mkFN F__law_numbers g__law_numbers (ok__law_numbers F__law_numbers b_abs b_range b_int) bi__law_numbers
  have n__law_low : FN P w K mg base "_law_low" 1 sp__law_low := mkFN F__law_low g__law_low (ok__law_low F__law_low b_abs) bi__law_low
  have n__law_whole : FN P w K mg base "_law_whole" 1 sp__law_whole := mkFN F__law_whole g__law_whole (ok__law_whole F__law_whole b_len b_all b_int) bi__law_whole
  have n__law_written : FN P w K mg base "_law_written" 2 sp__law_written := mkFN F__law_written g__law_written (ok__law_written F__law_written n__law_whole n__law_low b_len) bi__law_written
  have n__law_reading : FN P w K mg base "_law_reading" 3 sp__law_reading := mkFN F__law_reading g__law_reading (ok__law_reading F__law_reading n__law_written b_len b_tuple) bi__law_reading
  have n__law_spoilt : FN P w K mg base "_law_spoilt" 1 sp__law_spoilt := mkFN F__law_spoilt g__law_spoilt (ok__law_spoilt F__law_spoilt b_len) bi__law_spoilt
  have n__law_drawn : FN P w K mg base "_law_drawn" 2 sp__law_drawn := mkFN F__law_drawn g__law_drawn (ok__law_drawn F__law_drawn n__law_numbers n__law_spoilt b_range b_str) bi__law_drawn
  have n__law_refused : FN P w K mg base "_law_refused" 5 sp__law_refused := mkFN F__law_refused g__law_refused (ok__law_refused F__law_refused n_read_ring b_isinstance b_ValueError x_k_SheetError x_t_SheetError x_i_0 x_k_OnSide x_k_NoSaying x_k_NoRow x_k_NoNumber x_k_NoLand x_k_NoFace x_k_NoDeskRow x_k_NoDeed x_k_NoAtlas x_i_NoText x_k_NoText x_i_ValueError) bi__law_refused
  exact ok_law F_law n__law_cell n__law_drawn n__law_reading n__law_refused n_read_ring b_all
end L2.D3.K10
open PySem PySem.W PySem.Calls PyProof.Rows
theorem PySem.Challenge.cw_landsheets_k10_texts_refused_holds : PySem.Challenge.rw_landsheets_k10_texts_refused.Holds := by
  w_on; o_law
  refine HandSHeadRun.head_any (r := OpenLaw.row PySem.Challenge.rw_landsheets_k10_texts_refused) (q := view (OpenLaw.row PySem.Challenge.rw_landsheets_k10_texts_refused).prog [32]) (H := L2.D3.K10.hk) (ob := L2.D3.K10.ob) (M := 20000) (loose := L2.D3.K10.loose) (d := HandSHeadRun.topDef (OpenLaw.row PySem.Challenge.rw_landsheets_k10_texts_refused).prog 32) (kwd := []) L2.D3.K10.ob_eq
    (by kernel_rfl) (fun s => by kernel_rfl) L2.D3.K10.run (by kernel_rfl) (by kernel_rfl) (by kernel_rfl) (by rfl) (by first | assumption | decide +kernel) (by decide +kernel) ⟨rfl, rfl, rfl, rfl, rfl, by decide +kernel⟩ ?hw ?hc
  case hw => w_witness2
  case hc =>
    refine L2.D3.walk_ofW (lw := PySem.Challenge.rw_landsheets_k10_texts_refused) (m := 63) (k := 6) (x := "_law_script") (C := fun w => L2.CX (PySem.Challenge.rw_landsheets_k10_texts_refused).prog w) rfl (by decide) (by kernel_rfl) ⟨rfl, by decide, by decide⟩ ?F (fun w H s e s2 z => L2.D3.cx_no H s e s2 z)
    intro w mg fa h Y G hmg0
    obtain ⟨K, KX, c, cx⟩ := Y
    have hmg : mg ("law" : PySem.Str) = some (.ref fa) := by
      have e : (HandSHeadRun.topDef (OpenLaw.row PySem.Challenge.rw_landsheets_k10_texts_refused).prog 32).name = ("law" : PySem.Str) := by kernel_rfl
      rw [← e]
      exact hmg0
    obtain ⟨fd, hb, hF⟩ := L2.D3.K10.facts (P := (PySem.Challenge.rw_landsheets_k10_texts_refused).prog) (w := w) KX G hmg c cx
    exact ⟨K, fd, L2.D3.lift K L2.D3.K10.sp_law, KX, hb, fun H a ns hl _ hS => L2.D3.lift_law hl hS, hF⟩

