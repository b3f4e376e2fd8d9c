import PyProof.Rows.All
import Wide.All
import OpenK.AllK
import Wide.FinOn
import KE.KStateDown
import HandS.ForMost
import HandS.Exc
import HandS.Defaults
import HandS.Deep
import HandS.Wide
import HandS.EndTab
import HandS.AnyAll
import HandS.TupAny
import HandS.TupLe
import HandS.Style
import HandS.IsInst
import KE.KStar
import HandS.More
import HandS.Star
import KE.SortData
import KE.SortLaws
import KE.OsSortAny
import HandS.GenList
import HandS.GenOver
import HandS.HeadHook4
import HandS.HeadWalk
import KE.KNestM
import HandS.Head0
import HandS.Head1
import HandS.Head2
import HandS.HeadEnd
import HandS.HeadHook1
import HandS.HeadHook2
import HandS.HeadHook3
import PySem.Challenge.RW_foescome_k47_across_special_gatherings
set_option Elab.async false
set_option linter.all false
set_option maxRecDepth 100000
set_option maxHeartbeats 0
namespace Fo
open PySem PySem.Spec PyProof.Rows L2
/-- the state of the draws: the script, the place, the mixer, the cell's rest -/
structure Dr where
  sc : List Int
  i : Int
  s : Int
  c : Int
abbrev M := StateT Dr Option
inductive En where
  | va (d : PyData)
  | ow (d : PyData)
  | dr
abbrev Rho := List (Option En)
open Classical in
noncomputable def mask (O : Addr → Prop) (H : Hp) : Hp := fun a => if O a then none else H a
theorem mask_some {O : Addr → Prop} {H : Hp} {a : Addr} {o : HO} : mask O H a = some o ↔ ¬ O a ∧ H a = some o := by
  unfold mask
  by_cases h : O a
  · simp [h]
  · simp [h]
def notTbl (o : HO) : Prop := ∀ ps, o ≠ .tbl ps
structure Ext (δ : Option Addr) (H H' : Hp) : Prop where
  keep : ∀ b o, H b = some o → some b ≠ δ → notTbl o → H' b = some o
  tbl : ∀ b ps, H b = some (.tbl ps) → ∃ qs, H' b = some (.tbl qs)
  dom : ∀ b, H' b = none → H b = none
theorem Ext.refl (δ : Option Addr) (H : Hp) : Ext δ H H := ⟨fun _ _ h _ _ => h, fun _ ps h => ⟨ps, h⟩, fun _ h => h⟩
theorem Ext.trans {δ : Option Addr} {H H1 H2 : Hp} (a : Ext δ H H1) (b : Ext δ H1 H2) : Ext δ H H2 :=
  ⟨fun c o h hd ht => b.keep c o (a.keep c o h hd ht) hd ht, fun c ps h => by obtain ⟨qs, h1⟩ := a.tbl c ps h; exact b.tbl c qs h1, fun c h => a.dom c (b.dom c h)⟩
/-- a new object -/
theorem Ext.new {δ : Option Addr} {H : Hp} {p : Addr} {o : HO} (h : H p = none) : Ext δ H (upd H p o) :=
  ⟨fun b u e _ _ => by rw [upd_ne (ne_of_none e h)]; exact e, fun b ps e => ⟨ps, by rw [upd_ne (ne_of_none e h)]; exact e⟩, fun b e => by
    by_cases hb : b = p
    · subst hb; exact h
    · rw [upd_ne hb] at e; exact e⟩
/-! ### what a value stands for -/
def keyD : Key → PyData
  | .inl i => .int i
  | .inr x => .str x
mutual
inductive Rp (K : PySem.W.Frag) (H : Hp) : V → PyData → Prop
  | non : Rp K H .non .none
  | bl (b : Bool) : Rp K H (.bl b) (.bool b)
  | int (i : Int) : Rp K H (.int i) (.int i)
  | str (x : Str) : Rp K H (.str x) (.str x)
  | lst {a : Addr} {xs : List V} {ds : List PyData} : H a = some (.lst xs) → RpAll K H xs ds → Rp K H (.ref a) (.list ds)
  | tup {a : Addr} {xs : List V} {ds : List PyData} : H a = some (.tup xs) → RpAll K H xs ds → Rp K H (.ref a) (.tuple ds)
  | dK {a : Addr} {ks : List Key} {xs : List V} {ds : List PyData} : H a = some (.dK (ks.zip xs)) → ks.length = xs.length → RpAll K H xs ds → Rp K H (.ref a) (.dict ((ks.map keyD).zip ds))
  | dT {a : Addr} {ks : List (List Key)} {xs : List V} {ds : List PyData} : H a = some (.dT (ks.zip xs)) → ks.length = xs.length → RpAll K H xs ds → Rp K H (.ref a) (.dict ((ks.map fun k => .tuple (k.map keyD)).zip ds))
inductive RpAll (K : PySem.W.Frag) (H : Hp) : List V → List PyData → Prop
  | nil : RpAll K H [] []
  | cons {v : V} {vs : List V} {d : PyData} {ds : List PyData} : Rp K H v d → RpAll K H vs ds → RpAll K H (v :: vs) (d :: ds)
end
section
variable {K : PySem.W.Frag} {H H' : Hp}
/-- what is read off H is read off H' -/
structure Rds (H H' : Hp) : Prop where
  keep : ∀ b o, H b = some o → notTbl o → H' b = some o
theorem Rds.seqL (e : Rds H H') {a : Addr} {xs : List V} (h : SqL K H a xs) : SqL K H' a xs := by
  rcases h with (h | ⟨o, h⟩) | h
  · exact .inl (.inl (e.keep _ _ h fun ps => by intro z; cases z))
  · exact .inl (.inr ⟨o, e.keep _ _ h fun ps => by intro z; cases z⟩)
  · exact .inr h
theorem Rds.seqT (e : Rds H H') {a : Addr} {xs : List V} (h : SqT K H a xs) : SqT K H' a xs := by
  rcases h with (h | ⟨o, h⟩) | h
  · exact .inl (.inl (e.keep _ _ h fun ps => by intro z; cases z))
  · exact .inl (.inr ⟨o, e.keep _ _ h fun ps => by intro z; cases z⟩)
  · exact .inr h
mutual
theorem Rp.mono (e : Rds H H') : ∀ {v : V} {d : PyData}, Rp K H v d → Rp K H' v d
  | _, _, .non => .non
  | _, _, .bl b => .bl b
  | _, _, .int i => .int i
  | _, _, .str x => .str x
  | _, _, .lst h r => .lst (e.keep _ _ h fun ps => by intro z; cases z) (RpAll.mono e r)
  | _, _, .tup h r => .tup (e.keep _ _ h fun ps => by intro z; cases z) (RpAll.mono e r)
  | _, _, .dK h l r => .dK (e.keep _ _ h fun ps => by intro z; cases z) l (RpAll.mono e r)
  | _, _, .dT h l r => .dT (e.keep _ _ h fun ps => by intro z; cases z) l (RpAll.mono e r)
theorem RpAll.mono (e : Rds H H') : ∀ {vs : List V} {ds : List PyData}, RpAll K H vs ds → RpAll K H' vs ds
  | _, _, .nil => .nil
  | _, _, .cons h r => .cons (Rp.mono e h) (RpAll.mono e r)
end
mutual
theorem Rp.dp : ∀ {d : PyData} {v : V}, Rp K H v d → d.canLay0 = true → Dp K H v d
  | .none, _, h, _ => by cases h; exact .non
  | .bool b, _, h, _ => by cases h; exact .bl b
  | .int i, _, h, _ => by cases h; exact .int i
  | .str x, _, h, _ => by cases h; exact .str x
  | .list ds, _, h, c => by
    cases h with
    | lst h r => exact .lst (SqL.of h) (RpAll.dp r (by simpa [PyData.canLay0] using c))
  | .tuple ds, _, h, c => by
    cases h with
    | tup h r => exact .tup (SqT.of h) (RpAll.dp r (by simpa [PyData.canLay0] using c))
  | .dict kvs, _, h, c => by simp [PyData.canLay0] at c
theorem RpAll.dp : ∀ {ds : List PyData} {vs : List V}, RpAll K H vs ds → PyData.canLayAll0 ds = true → DpAll K H vs ds
  | [], _, h, _ => by cases h; exact .nil
  | d :: ds, _, h, c => by
    cases h with
    | cons h r =>
      simp only [PyData.canLayAll0, Bool.and_eq_true] at c
      exact .cons (Rp.dp h c.1) (RpAll.dp r c.2)
end
theorem RpAll.length : ∀ {vs : List V} {ds : List PyData}, RpAll K H vs ds → vs.length = ds.length
  | [], [], _ => rfl
  | _ :: _, _ :: _, .cons _ r => by rw [List.length_cons, List.length_cons, RpAll.length r]
theorem RpAll.append : ∀ {vs ws : List V} {ds es : List PyData}, RpAll K H vs ds → RpAll K H ws es → RpAll K H (vs ++ ws) (ds ++ es)
  | [], _, [], _, _, s => s
  | _ :: _, _, _ :: _, _, .cons h r, s => .cons h (RpAll.append r s)
theorem RpAll.get : ∀ {vs : List V} {ds : List PyData} {i : Nat} {d : PyData}, RpAll K H vs ds → ds[i]? = some d → ∃ v, vs[i]? = some v ∧ Rp K H v d
  | _, [], i, d, _, e => by simp at e
  | _ :: _, _ :: _, 0, d, .cons h _, e => by simp at e; subst e; exact ⟨_, rfl, h⟩
  | _ :: _, _ :: _, i + 1, d, .cons _ r, e => by
    obtain ⟨v, h1, h2⟩ := RpAll.get (i := i) (d := d) r (by simpa using e)
    exact ⟨v, by simpa using h1, h2⟩
theorem RpAll.getV : ∀ {vs : List V} {ds : List PyData} {i : Nat} {v : V}, RpAll K H vs ds → vs[i]? = some v → ∃ d, ds[i]? = some d ∧ Rp K H v d
  | [], _, i, d, _, e => by simp at e
  | _ :: _, _ :: _, 0, d, .cons h _, e => by simp at e; subst e; exact ⟨_, rfl, h⟩
  | _ :: _, _ :: _, i + 1, d, .cons _ r, e => by
    obtain ⟨v, h1, h2⟩ := RpAll.getV (i := i) (v := d) r (by simpa using e)
    exact ⟨v, by simpa using h1, h2⟩
theorem RpAll.take : ∀ {vs : List V} {ds : List PyData} (n : Nat), RpAll K H vs ds → RpAll K H (vs.take n) (ds.take n)
  | _, _, 0, _ => .nil
  | [], [], _ + 1, .nil => .nil
  | _ :: _, _ :: _, n + 1, .cons h r => .cons h (RpAll.take n r)
theorem RpAll.drop : ∀ {vs : List V} {ds : List PyData} (n : Nat), RpAll K H vs ds → RpAll K H (vs.drop n) (ds.drop n)
  | _, _, 0, h => h
  | [], [], _ + 1, .nil => .nil
  | _ :: _, _ :: _, n + 1, .cons _ r => RpAll.drop n r
theorem RpAll.reverse : ∀ {vs : List V} {ds : List PyData}, RpAll K H vs ds → RpAll K H vs.reverse ds.reverse
  | [], [], _ => .nil
  | v :: vs, d :: ds, .cons h r => by
    rw [List.reverse_cons, List.reverse_cons]
    exact (RpAll.reverse r).append (.cons h .nil)
theorem RpAll.set : ∀ {vs : List V} {ds : List PyData} (i : Nat) {v : V} {d : PyData}, RpAll K H vs ds → Rp K H v d → RpAll K H (vs.set i v) (ds.set i d)
  | [], [], _, _, _, .nil, _ => .nil
  | _ :: _, _ :: _, 0, _, _, .cons _ r, h => .cons h r
  | _ :: _, _ :: _, i + 1, _, _, .cons q r, h => .cons q (RpAll.set i r h)
end
theorem rds_mask {O : Addr → Prop} {H : Hp} : Rds (mask O H) H := ⟨fun _ _ h _ => (mask_some.mp h).2⟩
theorem rds_ext {δ : Option Addr} {O : Addr → Prop} {H H' : Hp} (e : Ext δ H H') (hd : ∀ a, δ = some a → O a) : Rds (mask O H) (mask O H') :=
  ⟨fun b o h ht => by
    obtain ⟨h1, h2⟩ := mask_some.mp h
    exact mask_some.mpr ⟨h1, e.keep b o h2 (fun z => h1 (hd b z.symm)) ht⟩⟩
/-- fewer are owned -/
theorem rds_less {O O' : Addr → Prop} {H : Hp} (h : ∀ a, O' a → O a) : Rds (mask O H) (mask O' H) :=
  ⟨fun b o e _ => by
    obtain ⟨h1, h2⟩ := mask_some.mp e
    exact mask_some.mpr ⟨fun z => h1 (h b z), h2⟩⟩
/-- a new one is owned -/
theorem rds_own {O O' : Addr → Prop} {H : Hp} (h : ∀ a, O' a → O a ∨ H a = none) : Rds (mask O H) (mask O' H) :=
  ⟨fun b o e _ => by
    obtain ⟨h1, h2⟩ := mask_some.mp e
    have h3 : ¬ O' b := fun z => by
      rcases h b z with q | q
      · exact h1 q
      · rw [q] at h2; cases h2
    exact mask_some.mpr ⟨h3, h2⟩⟩
/-- an owned one is changed -/
theorem rds_upd {O : Addr → Prop} {H : Hp} {a : Addr} {o : HO} (h : O a) : Rds (mask O H) (mask O (upd H a o)) :=
  ⟨fun b u e _ => by
    obtain ⟨h1, h2⟩ := mask_some.mp e
    have hb : b ≠ a := fun z => h1 (z ▸ h)
    exact mask_some.mpr ⟨h1, by rw [upd_ne hb]; exact h2⟩⟩
/-! ### the world -/
def DrawAt (K : PySem.W.Frag) (st : Dr) (O : Addr → Prop) (H : Hp) (a : Addr) : Prop :=
  ∃ sa, H a = some (.lst [.ref sa, .int st.i, .int st.s, .int st.c]) ∧ SqL K (mask O H) sa (st.sc.map V.int)
structure WOk (K : PySem.W.Frag) (tabs : List Addr) (δ : Option Addr) (O : Addr → Prop) (st : Dr) (H : Hp) : Prop where
  tab : ∀ P ∈ tabs, GxR.TabG H P
  dr : ∀ a, δ = some a → O a ∧ DrawAt K st O H a
  own : ∀ a, O a → H a ≠ none
/-- owned: those of O, and p -/
def plus (O : Addr → Prop) (p : Addr) : Addr → Prop := fun a => O a ∨ a = p
theorem rds_newOwn {O : Addr → Prop} {H : Hp} {p : Addr} {o : HO} (h : H p = none) : Rds (mask O H) (mask (plus O p) (upd H p o)) :=
  ⟨fun b u e _ => by
    obtain ⟨h1, h2⟩ := mask_some.mp e
    have hb : b ≠ p := ne_of_none h2 h
    exact mask_some.mpr ⟨fun z => z.elim h1 hb, by rw [upd_ne hb]; exact h2⟩⟩
theorem rds_new0 {O : Addr → Prop} {H : Hp} {p : Addr} {o : HO} (h : H p = none) : Rds (mask O H) (mask O (upd H p o)) :=
  ⟨fun b u e _ => by
    obtain ⟨h1, h2⟩ := mask_some.mp e
    have hb : b ≠ p := ne_of_none h2 h
    exact mask_some.mpr ⟨h1, by rw [upd_ne hb]; exact h2⟩⟩
theorem WOk.newOwn {K : PySem.W.Frag} {tabs : List Addr} {δ : Option Addr} {O : Addr → Prop} {st : Dr} {H : Hp} {p : Addr} {o : HO} (w : WOk K tabs δ O st H) (h : H p = none) : WOk K tabs δ (plus O p) st (upd H p o) := by
  refine ⟨fun P hP => ?_, fun a ha => ?_, fun a ha => ?_⟩
  · obtain ⟨ps, e, t⟩ := w.tab P hP
    exact ⟨ps, by rw [upd_ne (ne_of_none e h)]; exact e, t⟩
  · obtain ⟨h1, sa, e, hs⟩ := w.dr a ha
    exact ⟨.inl h1, sa, by rw [upd_ne (ne_of_none e h)]; exact e, (rds_newOwn h).seqL hs⟩
  · by_cases hb : a = p
    · subst hb; rw [upd_same]; exact fun z => nomatch z
    · rw [upd_ne hb]
      exact ha.elim (w.own a) fun z => absurd z hb
theorem WOk.new {K : PySem.W.Frag} {tabs : List Addr} {δ : Option Addr} {O : Addr → Prop} {st : Dr} {H : Hp} {p : Addr} {o : HO} (w : WOk K tabs δ O st H) (h : H p = none) : WOk K tabs δ O st (upd H p o) := by
  refine ⟨fun P hP => ?_, fun a ha => ?_, fun a ha => ?_⟩
  · obtain ⟨ps, e, t⟩ := w.tab P hP
    exact ⟨ps, by rw [upd_ne (ne_of_none e h)]; exact e, t⟩
  · obtain ⟨h1, sa, e, hs⟩ := w.dr a ha
    exact ⟨h1, sa, by rw [upd_ne (ne_of_none e h)]; exact e, (rds_new0 h).seqL hs⟩
  · have h1 := w.own a ha
    have h2 : a ≠ p := fun z => h1 (z ▸ h)
    rw [upd_ne h2]; exact h1
theorem WOk.less {K : PySem.W.Frag} {tabs : List Addr} {δ : Option Addr} {O O' : Addr → Prop} {st : Dr} {H : Hp} (w : WOk K tabs δ O' st H) (h : ∀ a, δ = some a → O a) (h2 : ∀ a, O a → O' a) : WOk K tabs δ O st H :=
  ⟨w.tab, fun a ha => by
    obtain ⟨_, sa, e, hs⟩ := w.dr a ha
    exact ⟨h a ha, sa, e, (rds_less h2).seqL hs⟩, fun a ha => w.own a (h2 a ha)⟩
/-- a slot's entry -/
def Slot1 (K : PySem.W.Frag) (δ : Option Addr) (O : Addr → Prop) (H : Hp) (v : V) : En → Prop
  | .va d => Rp K (mask O H) v d
  | .dr => ∃ a, δ = some a ∧ v = .ref a
  | .ow (.list ds) => ∃ a xs, v = .ref a ∧ O a ∧ δ ≠ some a ∧ H a = some (.lst xs) ∧ RpAll K (mask O H) xs ds
  | .ow (.dict kvs) => ∃ a, v = .ref a ∧ O a ∧ δ ≠ some a ∧
      ((∃ (ks : List Key) (xs : List V) (ds : List PyData), H a = some (.dK (ks.zip xs)) ∧ ks.length = xs.length ∧ RpAll K (mask O H) xs ds ∧ kvs = (ks.map keyD).zip ds) ∨
       (∃ (ks : List (List Key)) (xs : List V) (ds : List PyData), H a = some (.dT (ks.zip xs)) ∧ ks.length = xs.length ∧ RpAll K (mask O H) xs ds ∧ kvs = (ks.map fun k => .tuple (k.map keyD)).zip ds))
  | .ow _ => False
theorem Slot1.mono {K : PySem.W.Frag} {δ : Option Addr} {O : Addr → Prop} {H H' : Hp} (r : Rds (mask O H) (mask O H')) (k : ∀ a o, O a → δ ≠ some a → H a = some o → notTbl o → H' a = some o) {v : V} {en : En} (h : Slot1 K δ O H v en) : Slot1 K δ O H' v en := by
  cases en with
  | va d => exact Rp.mono r h
  | dr => exact h
  | ow d =>
    cases d with
    | list ds =>
      obtain ⟨a, xs, e, o, n, h1, h2⟩ := h
      exact ⟨a, xs, e, o, n, k _ _ o n h1 (fun ps z => by cases z), h2.mono r⟩
    | dict kvs =>
      obtain ⟨a, e, o, n, h⟩ := h
      refine ⟨a, e, o, n, ?_⟩
      rcases h with ⟨ks, xs, ds, h1, h2, h3, h4⟩ | ⟨ks, xs, ds, h1, h2, h3, h4⟩
      · exact .inl ⟨ks, xs, ds, k _ _ o n h1 (fun ps z => by cases z), h2, h3.mono r, h4⟩
      · exact .inr ⟨ks, xs, ds, k _ _ o n h1 (fun ps z => by cases z), h2, h3.mono r, h4⟩
    | _ => exact h
structure Slots (K : PySem.W.Frag) (δ : Option Addr) (O : Addr → Prop) (ρ : Rho) (σ : L2.St) (H : Hp) : Prop where
  at_ : ∀ (i : Nat) (en : En), ρ[i]? = some (some en) → ∃ v, σ[i]? = some (some v) ∧ Slot1 K δ O H v en
  inj : ∀ (i j : Nat) (d e : PyData) (v : V), i ≠ j → ρ[i]? = some (some (.ow d)) → ρ[j]? = some (some (.ow e)) → σ[i]? = some (some v) → σ[j]? ≠ some (some v)
  len : ρ.length = σ.length
theorem Slots.ext {K : PySem.W.Frag} {δ : Option Addr} {O : Addr → Prop} {ρ : Rho} {σ : L2.St} {H H' : Hp} (s : Slots K δ O ρ σ H) (e : Ext δ H H') (hd : ∀ a, δ = some a → O a) : Slots K δ O ρ σ H' :=
  ⟨fun i en h => by
    obtain ⟨v, h1, h2⟩ := s.at_ i en h
    exact ⟨v, h1, h2.mono (rds_ext e hd) fun a o _ n q t => e.keep a o q (fun z => n z.symm) t⟩, s.inj, s.len⟩
/-! ### readings -/
/-- the outcome of a plain expression -/
abbrev Sem1 := Rho → M PyData
abbrev SemL := Rho → M (List PyData)
abbrev SemB := Rho → M Bool
section
variable (K : PySem.W.Frag) (tabs : List Addr)
def Rd1 (m : Sem1) : TE := fun σ H Q => ∃ δ O ρ st v st', Slots K δ O ρ σ H ∧ WOk K tabs δ O st H ∧ m ρ st = some (v, st') ∧ ∀ w H', Ext δ H H' → WOk K tabs δ O st' H' → Rp K (mask O H') w v → Q w H'
/-- a value, or what an owned name holds -/
def TRp (δ : Option Addr) (O : Addr → Prop) (H : Hp) (w : V) (d : PyData) : Prop := Rp K (mask O H) w d ∨ Slot1 K δ O H w (.ow d)
def RdT (m : Sem1) : TE := fun σ H Q => ∃ δ O ρ st v st', Slots K δ O ρ σ H ∧ WOk K tabs δ O st H ∧ m ρ st = some (v, st') ∧ ∀ w H', Ext δ H H' → WOk K tabs δ O st' H' → TRp K δ O H' w v → Q w H'
def RdB (m : SemB) : TT := fun σ H Q => ∃ δ O ρ st v st', Slots K δ O ρ σ H ∧ WOk K tabs δ O st H ∧ m ρ st = some (v, st') ∧ ∀ H', Ext δ H H' → WOk K tabs δ O st' H' → Q v H'
def RdL (m : SemL) : TA := fun σ H Q => ∃ δ O ρ st v st', Slots K δ O ρ σ H ∧ WOk K tabs δ O st H ∧ m ρ st = some (v, st') ∧ ∀ ws H', Ext δ H H' → WOk K tabs δ O st' H' → RpAll K (mask O H') ws v → Q ws H'
end
end Fo
namespace Fo
open PySem PySem.Spec PyProof.Rows L2
def up {α : Type} (o : Option α) : M α := fun st => o.map fun a => (a, st)
theorem up_some {α : Type} {o : Option α} {st st' : Dr} {v : α} (h : up o st = some (v, st')) : o = some v ∧ st' = st := by
  unfold up at h
  cases o with
  | none => cases h
  | some a =>
    have e := Option.some.inj h
    injection e with e1 e2
    exact ⟨by rw [e1], e2.symm⟩
theorem bnd_some {α β : Type} {m : M α} {f : α → M β} {st st' : Dr} {v : β} (h : (m >>= f) st = some (v, st')) : ∃ a st1, m st = some (a, st1) ∧ f a st1 = some (v, st') := by
  have h2 : (m st).bind (fun p => f p.1 p.2) = some (v, st') := h
  cases e : m st with
  | none => rw [e] at h2; cases h2
  | some p => rw [e] at h2; exact ⟨p.1, p.2, rfl, h2⟩
theorem pur_some {α : Type} {a : α} {st st' : Dr} {v : α} (h : (pure a : M α) st = some (v, st')) : a = v ∧ st' = st := by
  have e := Option.some.inj (show some (a, st) = some (v, st') from h)
  injection e with e1 e2
  exact ⟨e1, e2.symm⟩
section
variable {K : PySem.W.Frag} {tabs : List Addr} {δ : Option Addr} {O : Addr → Prop} {st : Dr} {H : Hp}
theorem WOk.dl (W : WOk K tabs δ O st H) : ∀ a, δ = some a → O a := fun a h => (W.dr a h).1
theorem rds_new (W : WOk K tabs δ O st H) {p : Addr} {o : HO} (hp : H p = none) : Rds (mask O H) (mask O (upd H p o)) :=
  rds_ext (δ := δ) (Ext.new hp) W.dl
theorem WOk.fresh (W : WOk K tabs δ O st H) {p : Addr} (hp : H p = none) : ¬ O p := fun z => W.own p z hp
def Cont (K : PySem.W.Frag) (tabs : List Addr) (δ : Option Addr) (O : Addr → Prop) (st : Dr) (H : Hp) (v : PyData) (Q : VK) : Prop :=
  ∀ w H', Ext δ H H' → WOk K tabs δ O st H' → Rp K (mask O H') w v → Q w H'
theorem Cont.same {v : PyData} {Q : VK} {w : V} (c : Cont K tabs δ O st H v Q) (W : WOk K tabs δ O st H) (r : Rp K (mask O H) w v) : Q w H := c w H (Ext.refl _ _) W r
theorem Cont.tup {ds : List PyData} {xs : List V} {Q : VK} (c : Cont K tabs δ O st H (.tuple ds) Q) (W : WOk K tabs δ O st H) (r : RpAll K (mask O H) xs ds) : ∀ p, H p = none → Q (.ref p) (upd H p (.tup xs)) :=
  fun p hp => c _ _ (Ext.new hp) (W.new hp) (.tup (mask_some.mpr ⟨W.fresh hp, upd_same⟩) (r.mono (rds_new W hp)))
theorem Cont.lst {ds : List PyData} {xs : List V} {Q : VK} (c : Cont K tabs δ O st H (.list ds) Q) (W : WOk K tabs δ O st H) (r : RpAll K (mask O H) xs ds) : ∀ p, H p = none → Q (.ref p) (upd H p (.lst xs)) :=
  fun p hp => c _ _ (Ext.new hp) (W.new hp) (.lst (mask_some.mpr ⟨W.fresh hp, upd_same⟩) (r.mono (rds_new W hp)))
theorem TRp.of {w : V} {d : PyData} (h : Rp K (mask O H) w d) : TRp K δ O H w d := .inl h
theorem TRp.int {w : V} {i : Int} (h : TRp K δ O H w (.int i)) : w = .int i := by
  rcases h with h | h
  · cases h; rfl
  · exact h.elim
theorem TRp.bl {w : V} {b : Bool} (h : TRp K δ O H w (.bool b)) : w = .bl b := by
  rcases h with h | h
  · cases h; rfl
  · exact h.elim
theorem TRp.non {w : V} (h : TRp K δ O H w .none) : w = .non := by
  rcases h with h | h
  · cases h; rfl
  · exact h.elim
theorem TRp.str {w : V} {x : PySem.Str} (h : TRp K δ O H w (.str x)) : w = .str x := by
  rcases h with h | h
  · cases h; rfl
  · exact h.elim
theorem TRp.lst {w : V} {ds : List PyData} (h : TRp K δ O H w (.list ds)) : ∃ a xs, w = .ref a ∧ H a = some (.lst xs) ∧ RpAll K (mask O H) xs ds := by
  rcases h with h | h
  · cases h with
    | lst h r => exact ⟨_, _, rfl, (mask_some.mp h).2, r⟩
  · obtain ⟨a, xs, e, _, _, h1, h2⟩ := h
    exact ⟨a, xs, e, h1, h2⟩
theorem TRp.tup {w : V} {ds : List PyData} (h : TRp K δ O H w (.tuple ds)) : ∃ a xs, w = .ref a ∧ H a = some (.tup xs) ∧ RpAll K (mask O H) xs ds ∧ Rp K (mask O H) w (.tuple ds) := by
  rcases h with h | h
  · cases h with
    | tup h r => exact ⟨_, _, rfl, (mask_some.mp h).2, r, .tup h r⟩
  · exact h.elim
theorem TRp.dp {w : V} {d : PyData} (h : TRp K δ O H w d) (c : d.canLay0 = true) : Dp K H w d := by
  cases d with
  | list ds =>
    obtain ⟨a, xs, rfl, h1, h2⟩ := h.lst
    exact .lst (SqL.of h1) ((h2.mono rds_mask).dp (by simpa [PyData.canLay0] using c))
  | dict kvs => simp [PyData.canLay0] at c
  | none => rw [h.non]; exact .non
  | bool b => rw [h.bl]; exact .bl b
  | int i => rw [h.int]; exact .int i
  | str x => rw [h.str]; exact .str x
  | tuple ds =>
    obtain ⟨a, xs, rfl, h1, h2, _⟩ := h.tup
    exact .tup (SqT.of h1) ((h2.mono rds_mask).dp (by simpa [PyData.canLay0] using c))
theorem TRp.ext {H' : Hp} {w : V} {d : PyData} (e : Ext δ H H') (W : WOk K tabs δ O st H) (h : TRp K δ O H w d) : TRp K δ O H' w d := by
  rcases h with h | h
  · exact .inl (h.mono (rds_ext e W.dl))
  · exact .inr (h.mono (rds_ext e W.dl) fun a o _ n q t => e.keep a o q (fun z => n z.symm) t)
end
end Fo
namespace Fo
open PySem PySem.Spec PyProof.Rows L2
theorem line_le {n : Nat} (h : n ≤ 1000000) : n ≤ sizeLine := Nat.le_trans h (by rw [sizeLine_eq]; decide)
section
variable {X : Cx} {tabs : List Addr}
/-! ### parts that run -/
section
variable {δ : Option Addr} {O : Addr → Prop} {ρ : Rho} {st st1 : Dr} {pins : List (Addr × Obj)} {s : Shared} {σ : L2.St} {H : Hp} {a : Expr}
/-- what is known behind a part -/
abbrev PoT (X : Cx) (tabs : List Addr) (δ : Option Addr) (O : Addr → Prop) (H : Hp) (st : Dr) (v : PyData) : VK := fun w H1 => Ext δ H H1 ∧ WOk X.K tabs δ O st H1 ∧ TRp X.K δ O H1 w v
abbrev Po1 (X : Cx) (tabs : List Addr) (δ : Option Addr) (O : Addr → Prop) (H : Hp) (st : Dr) (v : PyData) : VK := fun w H1 => Ext δ H H1 ∧ WOk X.K tabs δ O st H1 ∧ Rp X.K (mask O H1) w v
theorem runT {ma : Sem1} {v : PyData} (ha : PE X a (RdT X.K tabs ma)) (I : Inv X pins σ H s) (S : Slots X.K δ O ρ σ H) (W : WOk X.K tabs δ O st H) (e : ma ρ st = some (v, st1)) :
    wpAny (model X.prog X.w) X.A (eval a X.env) (EP X pins σ (PoT X tabs δ O H st1 v)) X.xe s :=
  ha.run pins s σ H _ I ⟨δ, O, ρ, st, v, st1, S, W, e, fun _ _ E1 W1 R1 => ⟨E1, W1, R1⟩⟩
theorem run1 {ma : Sem1} {v : PyData} (ha : PE X a (Rd1 X.K tabs ma)) (I : Inv X pins σ H s) (S : Slots X.K δ O ρ σ H) (W : WOk X.K tabs δ O st H) (e : ma ρ st = some (v, st1)) :
    wpAny (model X.prog X.w) X.A (eval a X.env) (EP X pins σ (Po1 X tabs δ O H st1 v)) X.xe s :=
  ha.run pins s σ H _ I ⟨δ, O, ρ, st, v, st1, S, W, e, fun _ _ E1 W1 R1 => ⟨E1, W1, R1⟩⟩
theorem runB {ma : SemB} {v : Bool} (ha : PT X a (RdB X.K tabs ma)) (I : Inv X pins σ H s) (S : Slots X.K δ O ρ σ H) (W : WOk X.K tabs δ O st H) (e : ma ρ st = some (v, st1)) :
    wpAny (model X.prog X.w) X.A (isTrue a X.env (eval a X.env)) (TP X pins σ fun b H1 => b = v ∧ Ext δ H H1 ∧ WOk X.K tabs δ O st1 H1) X.xe s :=
  ha.run pins s σ H _ I ⟨δ, O, ρ, st, v, st1, S, W, e, fun _ E1 W1 => ⟨rfl, E1, W1⟩⟩
end
/-- strict is transient -/
theorem ex_T {a : Expr} {ma : Sem1} (ha : PE X a (Rd1 X.K tabs ma)) : PE X a (RdT X.K tabs ma) :=
  ⟨fun pins s σ H Q I ⟨δ, O, ρ, st, v, st', S, W, e, c⟩ => ha.run pins s σ H Q I ⟨δ, O, ρ, st, v, st', S, W, e, fun w H' E W' R => c w H' E W' (.inl R)⟩⟩
/-! ### names, constants -/
def vaO : Option (Option En) → Option PyData
  | some (some (.va d)) => some d
  | _ => none
def tvO : Option (Option En) → Option PyData
  | some (some (.va d)) => some d
  | some (some (.ow d)) => some d
  | _ => none
def vaR (i : Nat) : Sem1 := fun ρ => up (vaO ρ[i]?)
def tvR (i : Nat) : Sem1 := fun ρ => up (tvO ρ[i]?)
theorem vaO_some {o : Option (Option En)} {d : PyData} (h : vaO o = some d) : o = some (some (.va d)) := by
  unfold vaO at h
  split at h
  · cases h; rfl
  · cases h
theorem tvO_some {o : Option (Option En)} {d : PyData} (h : tvO o = some d) : o = some (some (.va d)) ∨ o = some (some (.ow d)) := by
  unfold tvO at h
  split at h
  · cases h; exact .inl rfl
  · cases h; exact .inr rfl
  · cases h
theorem ex_var {i : Nat} {x : PySem.Str} {pos : Pos} (hN : X.N[i]? = some x) (hv : Vis X.env.scope x) (hd : (x == ("__debug__" : PySem.Str)) = false) (hcd : (x == ("__classdict__" : PySem.Str)) = false) : PE X (.Name x pos) (Rd1 X.K tabs (vaR i)) :=
  ⟨fun pins s σ H Q I ⟨δ, O, ρ, st, v, st', S, W, e, c⟩ => by
    refine (pe_var hN hv hd hcd).run pins s σ H Q I ?_
    obtain ⟨e2, rfl⟩ := up_some e
    obtain ⟨w, h1, h2⟩ := S.at_ i _ (vaO_some e2)
    exact ⟨w, h1, c w H (Ext.refl _ _) W h2⟩⟩
theorem ex_tv {i : Nat} {x : PySem.Str} {pos : Pos} (hN : X.N[i]? = some x) (hv : Vis X.env.scope x) (hd : (x == ("__debug__" : PySem.Str)) = false) (hcd : (x == ("__classdict__" : PySem.Str)) = false) : PE X (.Name x pos) (RdT X.K tabs (tvR i)) :=
  ⟨fun pins s σ H Q I ⟨δ, O, ρ, st, v, st', S, W, e, c⟩ => by
    refine (pe_var hN hv hd hcd).run pins s σ H Q I ?_
    obtain ⟨e2, rfl⟩ := up_some e
    rcases tvO_some e2 with q | q
    · obtain ⟨w, h1, h2⟩ := S.at_ i _ q
      exact ⟨w, h1, c w H (Ext.refl _ _) W (.inl h2)⟩
    · obtain ⟨w, h1, h2⟩ := S.at_ i _ q
      exact ⟨w, h1, c w H (Ext.refl _ _) W (.inr h2)⟩⟩
def cstR (d : PyData) : Sem1 := fun _ => pure d
theorem ex_cst {e : Expr} {w : V} {d : PyData} (h : PE X e (tC w)) (r : ∀ H, Rp X.K H w d) : PE X e (Rd1 X.K tabs (cstR d)) :=
  ⟨fun pins s σ H Q I ⟨δ, O, ρ, st, v, st', S, W, e, c⟩ => by
    obtain ⟨rfl, rfl⟩ := pur_some e
    exact h.run pins s σ H Q I (c w H (Ext.refl _ _) W (r _))⟩
theorem ex_int {i j pos} : PE X (.Constant (.int i) j pos) (Rd1 X.K tabs (cstR (.int i))) := ex_cst pe_int fun _ => .int _
theorem ex_bl {i j pos} : PE X (.Constant (.bool i) j pos) (Rd1 X.K tabs (cstR (.bool i))) := ex_cst pe_bl fun _ => .bl _
theorem ex_non {j pos} : PE X (.Constant .none j pos) (Rd1 X.K tabs (cstR .none)) := ex_cst pe_non fun _ => .non
theorem ex_str {i j pos} : PE X (.Constant (.str i) j pos) (Rd1 X.K tabs (cstR (.str i))) := ex_cst pe_str fun _ => .str _
/-! ### operators by values -/
def OpS (X : Cx) (f : Value → Value → Sem Value) (g : PyData → PyData → Option PyData) : Prop :=
  ∀ (pins : List (Addr × Obj)) (s : Shared) (σ : L2.St) (H : Hp) (x y : V) (v u : Value) (tabs : List Addr) (δ : Option Addr) (O : Addr → Prop) (st : Dr) (d e z : PyData) (Q : VK), Inv X pins σ H s → RelV x v → RelV y u →
    WOk X.K tabs δ O st H → TRp X.K δ O H x d → TRp X.K δ O H y e → g d e = some z → Cont X.K tabs δ O st H z Q → wpAny (model X.prog X.w) X.A (f v u) (EP X pins σ Q) X.xe s
def binR (g : PyData → PyData → Option PyData) (ma mb : Sem1) : Sem1 := fun ρ => do let x ← ma ρ; let y ← mb ρ; up (g x y)
theorem bin_run {f : Value → Value → Sem Value} {g : PyData → PyData → Option PyData} (ho : OpS X f g) {a b : Expr} {ma mb : Sem1} (ha : PE X a (RdT X.K tabs ma)) (hb : PE X b (RdT X.K tabs mb))
    {pins : List (Addr × Obj)} {s : Shared} {σ : L2.St} {H : Hp} {Q : VK} (I : Inv X pins σ H s) (h : Rd1 X.K tabs (binR g ma mb) σ H Q) :
    wpAny (model X.prog X.w) X.A (eval a X.env) (fun v s₁ => wpAny (model X.prog X.w) X.A (eval b X.env) (fun u s₂ => wpAny (model X.prog X.w) X.A (f v u) (EP X pins σ Q) X.xe s₂) X.xe s₁) X.xe s := by
  obtain ⟨δ, O, ρ, st, z, st', S, W, e, c⟩ := h
  obtain ⟨x, st1, e1, e⟩ := bnd_some e
  obtain ⟨y, st2, e2, e⟩ := bnd_some e
  obtain ⟨e3, rfl⟩ := up_some e
  refine thn (runT ha I S W e1) fun v s1 ⟨x', H1, I1, r1, E1, W1, R1⟩ => ?_
  refine thn (runT hb I1 (S.ext E1 W.dl) W1 e2) fun u s2 ⟨y', H2, I2, r2, E2, W2, R2⟩ => ?_
  exact ho pins s2 σ H2 x' y' v u tabs δ O _ x y z Q I2 r1 r2 W2 (R1.ext E2 W1) R2 e3 fun w H' E' W' R' => c w H' ((E1.trans E2).trans E') W' R'
theorem ex_bin {op : Operator} {g : PyData → PyData → Option PyData} (ho : OpS X (binaryOp op) g) {a b : Expr} {ma mb : Sem1} {pos : Pos} (ha : PE X a (RdT X.K tabs ma)) (hb : PE X b (RdT X.K tabs mb)) : PE X (.BinOp a op b pos) (Rd1 X.K tabs (binR g ma mb)) :=
  ⟨fun pins s σ H Q I h => wpAny_BinOp (bin_run ho ha hb I h)⟩
def addV : PyData → PyData → Option PyData
  | .int i, .int j => some (.int (i + j))
  | .list xs, .list ys => if xs.length + ys.length ≤ 1000000 then some (.list (xs ++ ys)) else none
  | .tuple xs, .tuple ys => if xs.length + ys.length ≤ 1000000 then some (.tuple (xs ++ ys)) else none
  | _, _ => none
theorem os_add : OpS X (binaryOp .Add) addV := by
  intro pins s σ H x y v u tabs δ O st d e z Q I rx ry W hx hy hz c
  unfold addV at hz
  split at hz
  · cases hz
    exact op_add pins s σ H x y v u Q I rx ry ⟨_, _, hx.int, hy.int, c.same W (.int _)⟩
  · split at hz
    · rename_i hb
      cases hz
      obtain ⟨a, vs, rfl, h1, h2⟩ := hx.lst
      obtain ⟨b, us, rfl, k1, k2⟩ := hy.lst
      refine op_cat pins s σ H _ _ v u Q I rx ry ⟨a, b, vs, us, rfl, rfl, h1, k1, ?_, c.lst W (h2.append k2)⟩
      rw [h2.length, k2.length]; exact line_le hb
    · cases hz
  · split at hz
    · rename_i hb
      cases hz
      obtain ⟨a, vs, rfl, h1, h2, h3⟩ := hx.tup
      obtain ⟨b, us, rfl, k1, k2, k3⟩ := hy.tup
      refine op_catA pins s σ H _ _ v u Q I rx ry ⟨a, b, vs, us, rfl, rfl, SqT.of h1, SqT.of k1, ?_, fun z => ?_, fun _ z => ?_, fun _ _ => c.tup W (h2.append k2)⟩
      · rw [h2.length, k2.length]; exact line_le hb
      · subst z
        cases h2
        exact c.same W k3
      · subst z
        cases k2
        rw [List.append_nil] at c
        exact c.same W h3
    · cases hz
  · cases hz
def intV (C : Int → Int → Bool) (g : Int → Int → Int) : PyData → PyData → Option PyData
  | .int i, .int j => if C i j then some (.int (g i j)) else none
  | _, _ => none
theorem os_int {op : Operator} {C : Int → Int → Bool} {P : Int → Int → Prop} {g : Int → Int → Int} (h : OpR X (binaryOp op) (rI P fun i j => .int (g i j))) (hp : ∀ i j, C i j = true → P i j) : OpS X (binaryOp op) (intV C g) := by
  intro pins s σ H x y v u tabs δ O st d e z Q I rx ry W hx hy hz c
  unfold intV at hz
  split at hz
  · split at hz
    · rename_i hc
      cases hz
      exact h pins s σ H x y v u Q I rx ry ⟨_, _, hx.int, hy.int, hp _ _ hc, c.same W (.int _)⟩
    · cases hz
  · cases hz
def subV := intV (fun _ _ => true) fun i j => i - j
def mulI := intV (fun i j => decide (i.natAbs.log2 + j.natAbs.log2 < 1000000)) fun i j => i * j
def modV := intV (fun _ j => decide (0 < j)) fun i j => i % j
def fdivV := intV (fun _ j => decide (0 < j ∧ j.natAbs.log2 < 9000)) fun i j => i / j
def powV := intV (fun i j => decide (0 ≤ j ∧ j ≤ 1000000 ∧ i.natAbs < 2 ^ 64)) fun i j => i ^ j.toNat
theorem os_sub : OpS X (binaryOp .Sub) subV := by
  intro pins s σ H x y v u tabs δ O st d e z Q I rx ry W hx hy hz c
  unfold subV intV at hz
  split at hz
  · cases hz
    exact op_sub pins s σ H x y v u Q I rx ry ⟨_, _, hx.int, hy.int, c.same W (.int _)⟩
  · cases hz
theorem os_mod : OpS X (binaryOp .Mod) modV := os_int op_mod fun _ _ h => of_decide_eq_true h
theorem os_fdiv : OpS X (binaryOp .FloorDiv) fdivV := os_int op_fdivW fun i j h => (of_decide_eq_true h : 0 < j ∧ j.natAbs.log2 < 9000)
theorem os_pow : OpS X (binaryOp .Pow) powV := os_int op_pow fun i j h => (of_decide_eq_true h : 0 ≤ j ∧ j ≤ 1000000 ∧ i.natAbs < 2 ^ 64)
def mulV : PyData → PyData → Option PyData
  | .list xs, .int k => if 0 ≤ k ∧ k ≤ 1000 ∧ xs.length ≤ 1000 then some (.list (List.replicate k.toNat xs).flatten) else none
  | d, e => mulI d e
theorem RpAll.rep {K : PySem.W.Frag} {H : Hp} {xs : List V} {ds : List PyData} (h : RpAll K H xs ds) : ∀ n, RpAll K H (List.replicate n xs).flatten (List.replicate n ds).flatten
  | 0 => .nil
  | n + 1 => by
    rw [List.replicate_succ, List.replicate_succ, List.flatten_cons, List.flatten_cons]
    exact h.append (RpAll.rep h n)
theorem os_mul : OpS X (binaryOp .Mult) mulV := by
  intro pins s σ H x y v u tabs δ O st d e z Q I rx ry W hx hy hz c
  unfold mulV at hz
  split at hz
  · split at hz
    · rename_i hb
      cases hz
      obtain ⟨a, vs, rfl, h1, h2⟩ := hx.lst
      refine op_rep pins s σ H _ _ v u Q I rx ry ⟨a, _, vs, rfl, hy.int, h1, by omega, by omega, ?_, c.lst W (h2.rep _)⟩
      rw [h2.length, sizeLine_eq]
      refine Nat.le_trans (Nat.mul_le_mul hb.2.2 (show _ ≤ 1000 by omega)) (by decide)
    · cases hz
  · exact os_int (C := fun i j => decide (i.natAbs.log2 + j.natAbs.log2 < 1000000)) op_mulW (fun i j h => (of_decide_eq_true h : i.natAbs.log2 + j.natAbs.log2 < 1000000)) pins s σ H x y v u tabs δ O st d e z Q I rx ry W hx hy hz c
end
end Fo
namespace Fo
open PySem PySem.Spec PyProof.Rows L2
def cmpI (op : CmpOp) (i j : Int) : Bool := match op with
  | .Lt => decide (i < j)
  | .LtE => decide (i ≤ j)
  | .Gt => decide (j < i)
  | .GtE => decide (j ≤ i)
  | _ => false
mutual
def cmpB (op : CmpOp) : PyData → PyData → Bool
  | .int i, .int j => cmpI op i j
  | .tuple ds, .tuple es => cmpL op ds es
  | _, _ => false
def cmpL (op : CmpOp) : List PyData → List PyData → Bool
  | [], es => cmpI op 0 (es.length : Nat)
  | d :: ds, [] => cmpI op ((d :: ds).length : Nat) 0
  | d :: ds, e :: es => if PyData.eqv d e = true then cmpL op ds es else cmpB op d e
end
mutual
def cmpOk : PyData → PyData → Bool
  | .int _, .int _ => true
  | .tuple ds, .tuple es => cmpOkL ds es
  | _, _ => false
def cmpOkL : List PyData → List PyData → Bool
  | d :: ds, e :: es => cmpOk d e && cmpOkL ds es
  | _, _ => true
end
def eF (ds es : List PyData) (j : Nat) : Bool := PyData.eqv (ds.getD j .none) (es.getD j .none)
def rF (op : CmpOp) (ds es : List PyData) (j : Nat) : Bool := cmpB op (ds.getD j .none) (es.getD j .none)
theorem lexAt_shift {e r : Nat → Bool} {z : Bool} : ∀ (k i : Nat), Ob.lexAt e r z (i + 1) k = Ob.lexAt (fun j => e (j + 1)) (fun j => r (j + 1)) z i k
  | 0, _ => rfl
  | k + 1, i => by
    rw [Ob.lexAt_succ, Ob.lexAt_succ, lexAt_shift k (i + 1)]
theorem cmpI_succ (op : CmpOp) (m n : Nat) : cmpI op ((m + 1 : Nat) : Int) ((n + 1 : Nat) : Int) = cmpI op (m : Int) (n : Int) := by
  cases op <;> simp only [cmpI] <;> simp <;> omega
theorem lexAt_cmp (op : CmpOp) : ∀ ds es : List PyData, Ob.lexAt (eF ds es) (rF op ds es) (cmpI op (ds.length : Nat) (es.length : Nat)) 0 (min ds.length es.length) = cmpL op ds es
  | [], es => by
    rw [show min ([] : List PyData).length es.length = 0 by simp, Ob.lexAt_zero]
    simp [cmpL]
  | d :: ds, [] => by
    rw [show min (d :: ds).length ([] : List PyData).length = 0 by simp, Ob.lexAt_zero]
    simp [cmpL]
  | d :: ds, e :: es => by
    rw [show min (d :: ds).length (e :: es).length = min ds.length es.length + 1 by simp only [List.length_cons]; omega, Ob.lexAt_succ, lexAt_shift]
    have ih := lexAt_cmp op ds es
    simp only [cmpL, List.length_cons, cmpI_succ]
    rw [← ih]
    rfl
theorem readsAll_len {h : Heap} : ∀ {vs : List Value} {ds : List PyData} {as : List Addr}, ReadsAll h vs ds as → vs.length = ds.length
  | _, _, _, .nil => rfl
  | _, _, _, .cons _ r => by rw [List.length_cons, List.length_cons, readsAll_len r]
mutual
theorem rc_D (op : CmpOp) (hop : op = .Lt ∨ op = .LtE ∨ op = .Gt ∨ op = .GtE) : ∀ (d e : PyData) (A : Around) (s : Shared) (u v : Value) (as bs : List Addr), Reads s.heap u d as → Reads s.heap v e bs → d.canLay0 = true → e.canLay0 = true → cmpOk d e = true →
    A.units + d.depth < cLine → Ob.RcOp op A s u v (cmpB op d e)
  | .int i, .int j, A, s, u, v, as, bs, hu, hv, _, _, _, _ => by
    cases hu
    cases hv
    rename_i t t'
    rcases hop with rfl | rfl | rfl | rfl
    · exact Ob.RcOp.lt_int i j t t'
    · exact Ob.RcOp.le_int i j t t'
    · exact Ob.RcOp.gt_int i j t t'
    · exact Ob.RcOp.ge_int i j t t'
  | .tuple ds, .tuple es, A, s, u, v, as, bs, hu, hv, cd, ce, ok, hr => by
    cases hu with
    | tuple a1 a2 a3 a4 =>
    rename_i l o vs n
    cases hv with
    | tuple b1 b2 b3 b4 =>
    rename_i b o' us n'
    simp only [PyData.canLay0] at cd ce
    simp only [cmpOk] at ok
    simp only [PyData.depth] at hr
    have key := rc_L op hop ds es A.in1 s vs.toList us.toList as bs a4 b4 cd ce ok (by show A.units + 1 + _ < _; omega)
    have l1 : vs.size = ds.length := by
      have := readsAll_len a4
      simpa using this
    have l2 : us.size = es.length := by
      have := readsAll_len b4
      simpa using this
    have hl : s.heap.IsTuple l vs := ⟨o, a1, a2, n, a3⟩
    have hb : s.heap.IsTuple b us := ⟨o', b1, b2, n', b3⟩
    have fin := lexAt_cmp op ds es
    have e1 : ∀ j (h1 : j < vs.size) (h2 : j < us.size), SeqAt.EqAt A.in1 s vs[j] us[j] (eF ds es j) := fun j h1 h2 => (key j (by simpa using h1) (by simpa using h2)).1
    have e2 : ∀ j (h1 : j < vs.size) (h2 : j < us.size), eF ds es j = false → Ob.RcOp op A.in1 s vs[j] us[j] (rF op ds es j) := fun j h1 h2 _ => (key j (by simpa using h1) (by simpa using h2)).2
    rcases hop with rfl | rfl | rfl | rfl
    · have q := Ob.RcOp.tuples_lt hl hb (by omega) e1 e2
      rw [l1, l2] at q
      simp only [cmpI] at fin
      simp only [cmpB]
      rw [← fin]
      simpa using q
    · have q := Ob.RcOp.tuples_le hl hb (by omega) e1 e2
      rw [l1, l2] at q
      simp only [cmpI] at fin
      simp only [cmpB]
      rw [← fin]
      simpa using q
    · have q := Ob.RcOp.tuples_gt hl hb (by omega) e1 e2
      rw [l1, l2] at q
      simp only [cmpI] at fin
      simp only [cmpB]
      rw [← fin]
      simpa using q
    · have q := Ob.RcOp.tuples_ge hl hb (by omega) e1 e2
      rw [l1, l2] at q
      simp only [cmpI] at fin
      simp only [cmpB]
      rw [← fin]
      simpa using q
  | .none, _, _, _, _, _, _, _, _, _, _, _, ok, _ => by simp [cmpOk] at ok
  | .bool _, _, _, _, _, _, _, _, _, _, _, _, ok, _ => by simp [cmpOk] at ok
  | .str _, _, _, _, _, _, _, _, _, _, _, _, ok, _ => by simp [cmpOk] at ok
  | .list _, _, _, _, _, _, _, _, _, _, _, _, ok, _ => by simp [cmpOk] at ok
  | .dict _, _, _, _, _, _, _, _, _, _, _, _, ok, _ => by simp [cmpOk] at ok
  | .int _, .none, _, _, _, _, _, _, _, _, _, _, ok, _ => by simp [cmpOk] at ok
  | .int _, .bool _, _, _, _, _, _, _, _, _, _, _, ok, _ => by simp [cmpOk] at ok
  | .int _, .str _, _, _, _, _, _, _, _, _, _, _, ok, _ => by simp [cmpOk] at ok
  | .int _, .list _, _, _, _, _, _, _, _, _, _, _, ok, _ => by simp [cmpOk] at ok
  | .int _, .dict _, _, _, _, _, _, _, _, _, _, _, ok, _ => by simp [cmpOk] at ok
  | .int _, .tuple _, _, _, _, _, _, _, _, _, _, _, ok, _ => by simp [cmpOk] at ok
  | .tuple _, .none, _, _, _, _, _, _, _, _, _, _, ok, _ => by simp [cmpOk] at ok
  | .tuple _, .bool _, _, _, _, _, _, _, _, _, _, _, ok, _ => by simp [cmpOk] at ok
  | .tuple _, .str _, _, _, _, _, _, _, _, _, _, _, ok, _ => by simp [cmpOk] at ok
  | .tuple _, .list _, _, _, _, _, _, _, _, _, _, _, ok, _ => by simp [cmpOk] at ok
  | .tuple _, .dict _, _, _, _, _, _, _, _, _, _, _, ok, _ => by simp [cmpOk] at ok
  | .tuple _, .int _, _, _, _, _, _, _, _, _, _, _, ok, _ => by simp [cmpOk] at ok
theorem rc_L (op : CmpOp) (hop : op = .Lt ∨ op = .LtE ∨ op = .Gt ∨ op = .GtE) : ∀ (ds es : List PyData) (A : Around) (s : Shared) (us vs : List Value) (as bs : List Addr), ReadsAll s.heap us ds as → ReadsAll s.heap vs es bs → PyData.canLayAll0 ds = true → PyData.canLayAll0 es = true → cmpOkL ds es = true →
    A.units + PyData.depthAll ds < cLine → ∀ j (h1 : j < us.length) (h2 : j < vs.length), SeqAt.EqAt A s us[j] vs[j] (eF ds es j) ∧ Ob.RcOp op A s us[j] vs[j] (rF op ds es j)
  | [], _, _, _, _, _, _, _, hu, _, _, _, _, _, j, h1, _ => by cases hu; simp at h1
  | _ :: _, [], _, _, _, _, _, _, _, hv, _, _, _, _, j, _, h2 => by cases hv; simp at h2
  | d :: ds, e :: es, A, s, _, _, _, _, hu, hv, cd, ce, ok, hr, j, h1, h2 => by
    cases hu with
    | cons q1 q2 =>
    cases hv with
    | cons r1 r2 =>
    simp only [PyData.canLayAll0, Bool.and_eq_true] at cd ce
    simp only [cmpOkL, Bool.and_eq_true] at ok
    simp only [PyData.depthAll] at hr
    cases j with
    | zero =>
      refine ⟨SeqAt.eqAt_reads d e A s _ _ _ _ q1 r1 cd.1 ce.1 ?_, rc_D op hop d e A s _ _ _ _ q1 r1 cd.1 ce.1 ok.1 ?_⟩
      · omega
      · omega
    | succ j =>
      exact rc_L op hop ds es A s _ _ _ _ q2 r2 cd.2 ce.2 ok.2 (by omega) j (by simpa using h1) (by simpa using h2)
end
section
variable {X : Cx} {tabs : List Addr}
def eqV (d e : PyData) : Option PyData := if SeqAt.shaped d = true ∧ SeqAt.shaped e = true then some (.bool (PyData.eqv d e)) else none
def neV (d e : PyData) : Option PyData := if SeqAt.shaped d = true ∧ SeqAt.shaped e = true then some (.bool (!PyData.eqv d e)) else none
def cmpV (op : CmpOp) (d e : PyData) : Option PyData := if SeqAt.shaped d = true ∧ SeqAt.shaped e = true ∧ cmpOk d e = true then some (.bool (cmpB op d e)) else none
theorem os_eq (hu : X.A.units + 65 < cLine) : OpS X (compareOp .Eq) eqV := by
  intro pins s σ H x y v u tabs δ O st d e z Q I rx ry W hx hy hz c
  unfold eqV at hz
  split at hz
  · rename_i hb
    cases hz
    exact op_eqD (by omega) pins s σ H x y v u Q I rx ry ⟨d, e, hx.dp (SeqAt.canLay_of_shaped hb.1), hy.dp (SeqAt.canLay_of_shaped hb.2), hb.1, hb.2, c.same W (.bl _)⟩
  · cases hz
theorem os_ne (hu : X.A.units + 65 < cLine) : OpS X (compareOp .NotEq) neV := by
  intro pins s σ H x y v u tabs δ O st d e z Q I rx ry W hx hy hz c
  unfold neV at hz
  split at hz
  · rename_i hb
    cases hz
    exact op_neD (by omega) pins s σ H x y v u Q I rx ry ⟨d, e, hx.dp (SeqAt.canLay_of_shaped hb.1), hy.dp (SeqAt.canLay_of_shaped hb.2), hb.1, hb.2, c.same W (.bl _)⟩
  · cases hz
theorem compareOp_rich {op : CmpOp} (hop : op = .Lt ∨ op = .LtE ∨ op = .Gt ∨ op = .GtE) (v u : Value) : compareOp op v u = richCompare op v u := by
  rcases hop with rfl | rfl | rfl | rfl <;> rfl
theorem os_cmp (hu : X.A.units + 65 < cLine) {op : CmpOp} (hop : op = .Lt ∨ op = .LtE ∨ op = .Gt ∨ op = .GtE) : OpS X (compareOp op) (cmpV op) := by
  intro pins s σ H x y v u tabs δ O st d e z Q I rx ry W hx hy hz c
  unfold cmpV at hz
  split at hz
  · rename_i hb
    cases hz
    obtain ⟨as, r1⟩ := Dp.reads I d x v (hx.dp (SeqAt.canLay_of_shaped hb.1)) rx
    obtain ⟨bs, r2⟩ := Dp.reads I e y u (hy.dp (SeqAt.canLay_of_shaped hb.2.1)) ry
    rw [compareOp_rich hop]
    have hd := SeqAt.depth_of_shaped hb.1
    exact rc_D op hop d e X.A s v u as bs r1 r2 (SeqAt.canLay_of_shaped hb.1) (SeqAt.canLay_of_shaped hb.2.1) hb.2.2 (by omega) X.prog X.w X.xe _ ⟨.bl _, H, I, rfl, c.same W (.bl _)⟩
  · cases hz
end
end Fo
namespace Fo
open PySem PySem.Spec PyProof.Rows L2
theorem PE.imp {X : Cx} {e : Expr} {t t' : TE} (h : PE X e t) (i : ∀ σ H Q, t' σ H Q → t σ H Q) : PE X e t' := ⟨fun pins s σ H Q I q => h.run pins s σ H Q I (i σ H Q q)⟩
theorem PT.imp {X : Cx} {e : Expr} {t t' : TT} (h : PT X e t) (i : ∀ σ H Q, t' σ H Q → t σ H Q) : PT X e t' := ⟨fun pins s σ H Q I q => h.run pins s σ H Q I (i σ H Q q)⟩
theorem PA.imp {X : Cx} {e : List Expr} {t t' : TA} (h : PA X e t) (i : ∀ σ H Q, t' σ H Q → t σ H Q) : PA X e t' := ⟨fun pos pins s σ H Q I q => h.run pos pins s σ H Q I (i σ H Q q)⟩
section
variable {X : Cx} {tabs : List Addr}
/-! ### operators as rules -/
def rS (K : PySem.W.Frag) (g : PyData → PyData → Option PyData) : R2 := fun x y H Q => ∃ tabs δ O st d e z, WOk K tabs δ O st H ∧ TRp K δ O H x d ∧ TRp K δ O H y e ∧ g d e = some z ∧ Cont K tabs δ O st H z Q
theorem OpS.r {f : Value → Value → Sem Value} {g : PyData → PyData → Option PyData} (h : OpS X f g) : OpR X f (rS X.K g) := by
  intro pins s σ H x y v u Q I rx ry ⟨tabs, δ, O, st, d, e, z, W, hx, hy, hz, c⟩
  exact h pins s σ H x y v u tabs δ O st d e z Q I rx ry W hx hy hz c
theorem bin_to {K : PySem.W.Frag} {g : PyData → PyData → Option PyData} {ma mb : Sem1} {σ : L2.St} {H : Hp} {Q : VK} (h : Rd1 K tabs (binR g ma mb) σ H Q) : tOp (rS K g) (RdT K tabs ma) (RdT K tabs mb) σ H Q := by
  obtain ⟨δ, O, ρ, st, z, st', S, W, e, c⟩ := h
  obtain ⟨x, st1, e1, e⟩ := bnd_some e
  obtain ⟨y, st2, e2, e⟩ := bnd_some e
  obtain ⟨e3, rfl⟩ := up_some e
  refine ⟨δ, O, ρ, st, x, st1, S, W, e1, fun w H1 E1 W1 R1 => ?_⟩
  refine ⟨δ, O, ρ, st1, y, _, S.ext E1 W.dl, W1, e2, fun w2 H2 E2 W2 R2 => ?_⟩
  exact ⟨tabs, δ, O, _, x, y, z, W2, R1.ext E2 W1, R2, e3, fun w H' E' W' R' => c w H' ((E1.trans E2).trans E') W' R'⟩
/-- truth -/
def truV : PyData → Option Bool
  | .none => some false
  | .bool b => some b
  | .int i => some (i != 0)
  | .list xs => some (!xs.isEmpty)
  | .tuple xs => some (!xs.isEmpty)
  | _ => none
def tstR (m : Sem1) : SemB := fun ρ => do let v ← m ρ; up (truV v)
def BoolM (m : Sem1) : Prop := ∀ ρ st v st', m ρ st = some (v, st') → ∃ b, v = .bool b
theorem tst_to {m : Sem1} (hb : BoolM m) {K : PySem.W.Frag} {σ : L2.St} {H : Hp} {Q : Bool → Hp → Prop} (h : RdB K tabs (tstR m) σ H Q) : Rd1 K tabs m σ H fun x H' => ∃ k, x = .bl k ∧ Q k H' := by
  obtain ⟨δ, O, ρ, st, z, st', S, W, e, c⟩ := h
  obtain ⟨x, st1, e1, e⟩ := bnd_some e
  obtain ⟨b, rfl⟩ := hb _ _ _ _ e1
  obtain ⟨e2, rfl⟩ := up_some e
  cases e2
  refine ⟨δ, O, ρ, st, _, _, S, W, e1, fun w H1 E1 W1 R1 => ?_⟩
  cases R1
  exact ⟨_, rfl, c H1 E1 W1⟩
theorem tru_of {K : PySem.W.Frag} {δ : Option Addr} {O : Addr → Prop} {H : Hp} {w : V} {d : PyData} {b : Bool} (r : TRp K δ O H w d) (h : truV d = some b) : TruV K w H b := by
  cases d with
  | none => cases h; rw [r.non]; rfl
  | bool b => cases h; rw [r.bl]; rfl
  | int i => cases h; rw [r.int]; rfl
  | list xs =>
    cases h
    obtain ⟨a, vs, rfl, h1, h2⟩ := r.lst
    exact .inl ⟨vs, SqL.of h1, by cases h2 <;> rfl⟩
  | tuple xs =>
    cases h
    obtain ⟨a, vs, rfl, h1, h2, _⟩ := r.tup
    exact .inr (.inl ⟨vs, SqT.of h1, by cases h2 <;> rfl⟩)
  | _ => cases h
theorem et_tru {a : Expr} {m : Sem1} (ha : PE X a (RdT X.K tabs m)) (he : ∀ whole, isTrue a X.env whole = (do let v ← whole; standAt a.pos; holding [v] (truthy v))) : PT X a (RdB X.K tabs (tstR m)) :=
  PT.imp (pt_truth ha he) fun σ H Q h => by
    obtain ⟨δ, O, ρ, st, z, st', S, W, e, c⟩ := h
    obtain ⟨x, st1, e1, e⟩ := bnd_some e
    obtain ⟨e2, rfl⟩ := up_some e
    exact ⟨δ, O, ρ, st, x, _, S, W, e1, fun w H1 E1 W1 R1 => ⟨z, tru_of R1 e2, c H1 E1 W1⟩⟩
/-! ### comparisons -/
def BoolV (g : PyData → PyData → Option PyData) : Prop := ∀ d e z, g d e = some z → ∃ b, z = .bool b
theorem boolM_bin {g : PyData → PyData → Option PyData} (hg : BoolV g) {ma mb : Sem1} : BoolM (binR g ma mb) := fun ρ st v st' h => by
  obtain ⟨x, st1, e1, e⟩ := bnd_some h
  obtain ⟨y, st2, e2, e⟩ := bnd_some e
  exact hg _ _ _ (up_some e).1
theorem ex_cmp {op : CmpOp} {g : PyData → PyData → Option PyData} (ho : OpS X (compareOp op) g) {a b : Expr} {ma mb : Sem1} {pos : Pos} (ha : PE X a (RdT X.K tabs ma)) (hb : PE X b (RdT X.K tabs mb)) (hm : behindInMarks op b = false) :
    PE X (.Compare a [op] [b] pos) (Rd1 X.K tabs (binR g ma mb)) := PE.imp (pe_cmpR ho.r ha hb hm) fun σ H Q h => bin_to h
theorem et_cmp {op : CmpOp} {g : PyData → PyData → Option PyData} (ho : OpS X (compareOp op) g) (hg : BoolV g) {a b : Expr} {ma mb : Sem1} {pos : Pos} (ha : PE X a (RdT X.K tabs ma)) (hb : PE X b (RdT X.K tabs mb)) (hm : behindInMarks op b = false) :
    PT X (.Compare a [op] [b] pos) (RdB X.K tabs (tstR (binR g ma mb))) := PT.imp (pt_cmpR ho.r ha hb hm) fun σ H Q h => bin_to (tst_to (boolM_bin hg) h)
def thenB (z : PyData) (m : M PyData) : M PyData := match z with
  | .bool true => m
  | .bool false => pure (.bool false)
  | _ => up none
def chnR (g g' : PyData → PyData → Option PyData) (ma mb mc : Sem1) : Sem1 := fun ρ => do
  let x ← ma ρ
  let y ← mb ρ
  let z ← up (g x y)
  thenB z (do let w ← mc ρ; up (g' y w))
theorem boolM_chn {g g' : PyData → PyData → Option PyData} (hg : BoolV g') {ma mb mc : Sem1} : BoolM (chnR g g' ma mb mc) := fun ρ st v st' h => by
  obtain ⟨x, st1, e1, e⟩ := bnd_some h
  obtain ⟨y, st2, e2, e⟩ := bnd_some e
  obtain ⟨z, st3, e3, e⟩ := bnd_some e
  unfold thenB at e
  split at e
  · obtain ⟨w, st4, e4, e⟩ := bnd_some e
    exact hg _ _ _ (up_some e).1
  · exact ⟨false, (pur_some e).1.symm⟩
  · cases (up_some e).1
theorem chn_to {K : PySem.W.Frag} {g g' : PyData → PyData → Option PyData} {ma mb mc : Sem1} {σ : L2.St} {H : Hp} {Q : VK} (h : Rd1 K tabs (chnR g g' ma mb mc) σ H Q) : tChain (rS K g) (rS K g') (RdT K tabs ma) (RdT K tabs mb) (RdT K tabs mc) σ H Q := by
  obtain ⟨δ, O, ρ, st, z, st', S, W, e, c⟩ := h
  obtain ⟨x, st1, e1, f1⟩ := bnd_some e
  obtain ⟨y, st2, e2, f2⟩ := bnd_some f1
  obtain ⟨t, st3, e3, f3⟩ := bnd_some f2
  obtain ⟨g3, rfl⟩ := up_some e3
  refine ⟨δ, O, ρ, st, x, st1, S, W, e1, fun w H1 E1 W1 R1 => ?_⟩
  refine ⟨δ, O, ρ, st1, y, _, S.ext E1 W.dl, W1, e2, fun w2 H2 E2 W2 R2 => ?_⟩
  refine ⟨tabs, δ, O, _, x, y, t, W2, R1.ext E2 W1, R2, g3, fun w H3 E3 W3 R3 => ?_⟩
  unfold thenB at f3
  split at f3
  · cases R3
    refine ⟨true, rfl, iteT ?_⟩
    obtain ⟨u, st4, e4, f4⟩ := bnd_some f3
    obtain ⟨e5, rfl⟩ := up_some f4
    refine ⟨δ, O, ρ, _, u, _, ((S.ext E1 W.dl).ext E2 W1.dl).ext E3 W2.dl, W3, e4, fun w3 H4 E4 W4 R4 => ?_⟩
    exact ⟨tabs, δ, O, _, y, u, z, W4, (R2.ext E3 W2).ext E4 W3, R4, e5, fun w H' E' W' R' => c w H' ((((E1.trans E2).trans E3).trans E4).trans E') W' R'⟩
  · cases R3
    obtain ⟨rfl, rfl⟩ := pur_some f3
    exact ⟨false, rfl, iteF (c _ _ ((E1.trans E2).trans E3) W3 (.bl _))⟩
  · cases (up_some f3).1
theorem ex_chain {op op' : CmpOp} {g g' : PyData → PyData → Option PyData} (ho : OpS X (compareOp op) g) (ho' : OpS X (compareOp op') g') {a b d : Expr} {ma mb md : Sem1} {pos : Pos} (ha : PE X a (RdT X.K tabs ma)) (hb : PE X b (RdT X.K tabs mb)) (hd : PE X d (RdT X.K tabs md))
    (hm : lastMarks [op, op'] [b, d] = false) : PE X (.Compare a [op, op'] [b, d] pos) (Rd1 X.K tabs (chnR g g' ma mb md)) := PE.imp (pe_chain ho.r ho'.r ha hb hd hm) fun σ H Q h => chn_to h
theorem et_chain {op op' : CmpOp} {g g' : PyData → PyData → Option PyData} (ho : OpS X (compareOp op) g) (ho' : OpS X (compareOp op') g') (hg : BoolV g') {a b d : Expr} {ma mb md : Sem1} {pos : Pos} (ha : PE X a (RdT X.K tabs ma)) (hb : PE X b (RdT X.K tabs mb)) (hd : PE X d (RdT X.K tabs md))
    (hm : lastMarks [op, op'] [b, d] = false) : PT X (.Compare a [op, op'] [b, d] pos) (RdB X.K tabs (tstR (chnR g g' ma mb md))) := PT.imp (pt_chain ho.r ho'.r ha hb hd hm) fun σ H Q h => chn_to (tst_to (boolM_chn hg) h)
/-! ### and, or, not, if -/
def andR (ma mb : Sem1) : Sem1 := fun ρ => do let x ← ma ρ; thenB x (mb ρ)
def elseB (z : PyData) (m : M PyData) : M PyData := match z with
  | .bool true => pure (.bool true)
  | .bool false => m
  | _ => up none
def orR (ma mb : Sem1) : Sem1 := fun ρ => do let x ← ma ρ; elseB x (mb ρ)
theorem ex_and {a b : Expr} {rest : List Expr} {pos : Pos} {ma mb : Sem1} (ha : PE X a (Rd1 X.K tabs ma)) (hb : PE X (.BoolOp .And (b :: rest) pos) (Rd1 X.K tabs mb)) : PE X (.BoolOp .And (a :: b :: rest) pos) (Rd1 X.K tabs (andR ma mb)) :=
  PE.imp (pe_and ha hb) fun σ H Q h => by
    obtain ⟨δ, O, ρ, st, z, st', S, W, e, c⟩ := h
    obtain ⟨x, st1, e1, e⟩ := bnd_some e
    refine ⟨δ, O, ρ, st, x, st1, S, W, e1, fun w H1 E1 W1 R1 => ?_⟩
    unfold thenB at e
    split at e
    · cases R1
      exact ⟨true, rfl, iteT ⟨δ, O, ρ, _, _, _, S.ext E1 W.dl, W1, e, fun w H' E' W' R' => c w H' (E1.trans E') W' R'⟩⟩
    · cases R1
      obtain ⟨rfl, rfl⟩ := pur_some e
      exact ⟨false, rfl, iteF (c _ _ E1 W1 (.bl _))⟩
    · cases (up_some e).1
theorem ex_or {a b : Expr} {rest : List Expr} {pos : Pos} {ma mb : Sem1} (ha : PE X a (Rd1 X.K tabs ma)) (hb : PE X (.BoolOp .Or (b :: rest) pos) (Rd1 X.K tabs mb)) : PE X (.BoolOp .Or (a :: b :: rest) pos) (Rd1 X.K tabs (orR ma mb)) :=
  PE.imp (pe_or ha hb) fun σ H Q h => by
    obtain ⟨δ, O, ρ, st, z, st', S, W, e, c⟩ := h
    obtain ⟨x, st1, e1, e⟩ := bnd_some e
    refine ⟨δ, O, ρ, st, x, st1, S, W, e1, fun w H1 E1 W1 R1 => ?_⟩
    unfold elseB at e
    split at e
    · cases R1
      obtain ⟨rfl, rfl⟩ := pur_some e
      exact ⟨true, rfl, iteT (c _ _ E1 W1 (.bl _))⟩
    · cases R1
      exact ⟨false, rfl, iteF ⟨δ, O, ρ, _, _, _, S.ext E1 W.dl, W1, e, fun w H' E' W' R' => c w H' (E1.trans E') W' R'⟩⟩
    · cases (up_some e).1
def notV : PyData → Option PyData
  | .bool b => some (.bool (!b))
  | _ => none
def notR (ma : Sem1) : Sem1 := fun ρ => do let x ← ma ρ; up (notV x)
theorem ex_not {a : Expr} {pos : Pos} {ma : Sem1} (ha : PE X a (Rd1 X.K tabs ma)) : PE X (.UnaryOp .Not a pos) (Rd1 X.K tabs (notR ma)) :=
  PE.imp (pe_not ha) fun σ H Q h => by
    obtain ⟨δ, O, ρ, st, z, st', S, W, e, c⟩ := h
    obtain ⟨x, st1, e1, e⟩ := bnd_some e
    obtain ⟨e2, rfl⟩ := up_some e
    refine ⟨δ, O, ρ, st, x, _, S, W, e1, fun w H1 E1 W1 R1 => ?_⟩
    unfold notV at e2
    split at e2
    · cases R1
      cases e2
      exact ⟨_, rfl, c _ _ E1 W1 (.bl _)⟩
    · cases e2
def andB (ba bb : SemB) : SemB := fun ρ => do let x ← ba ρ; if x = true then bb ρ else pure false
def orB (ba bb : SemB) : SemB := fun ρ => do let x ← ba ρ; if x = true then pure true else bb ρ
def notB (ba : SemB) : SemB := fun ρ => do let x ← ba ρ; pure (!x)
theorem PW.imp {e : Expr} {t t' : TT} (h : PW X e t) (i : ∀ σ H Q, t' σ H Q → t σ H Q) : PW X e t' := ⟨fun wh pins s σ H Q I q => h.run wh pins s σ H Q I (i σ H Q q)⟩
theorem ew_and {a b : Expr} {rest : List Expr} {pos : Pos} {ma mb : SemB} (ha : PT X a (RdB X.K tabs ma)) (hb : PW X (.BoolOp .And (b :: rest) pos) (RdB X.K tabs mb)) : PW X (.BoolOp .And (a :: b :: rest) pos) (RdB X.K tabs (andB ma mb)) :=
  PW.imp (pw_and ha hb) fun σ H Q h => by
    obtain ⟨δ, O, ρ, st, z, st', S, W, e, c⟩ := h
    obtain ⟨x, st1, e1, e⟩ := bnd_some e
    refine ⟨δ, O, ρ, st, x, st1, S, W, e1, fun H1 E1 W1 => ?_⟩
    cases x with
    | true => exact iteT ⟨δ, O, ρ, _, _, _, S.ext E1 W.dl, W1, (by simpa using e), fun H' E' W' => c H' (E1.trans E') W'⟩
    | false =>
      obtain ⟨rfl, rfl⟩ := pur_some (show (pure false : M Bool) st1 = _ by simpa using e)
      exact iteF (c _ E1 W1)
theorem ew_or {a b : Expr} {rest : List Expr} {pos : Pos} {ma mb : SemB} (ha : PT X a (RdB X.K tabs ma)) (hb : PW X (.BoolOp .Or (b :: rest) pos) (RdB X.K tabs mb)) : PW X (.BoolOp .Or (a :: b :: rest) pos) (RdB X.K tabs (orB ma mb)) :=
  PW.imp (pw_or ha hb) fun σ H Q h => by
    obtain ⟨δ, O, ρ, st, z, st', S, W, e, c⟩ := h
    obtain ⟨x, st1, e1, e⟩ := bnd_some e
    refine ⟨δ, O, ρ, st, x, st1, S, W, e1, fun H1 E1 W1 => ?_⟩
    cases x with
    | false => exact iteF ⟨δ, O, ρ, _, _, _, S.ext E1 W.dl, W1, (by simpa using e), fun H' E' W' => c H' (E1.trans E') W'⟩
    | true =>
      obtain ⟨rfl, rfl⟩ := pur_some (show (pure true : M Bool) st1 = _ by simpa using e)
      exact iteT (c _ E1 W1)
theorem et_not {a : Expr} {pos : Pos} {ma : SemB} (ha : PT X a (RdB X.K tabs ma)) : PT X (.UnaryOp .Not a pos) (RdB X.K tabs (notB ma)) :=
  PT.imp (pt_not ha) fun σ H Q h => by
    obtain ⟨δ, O, ρ, st, z, st', S, W, e, c⟩ := h
    obtain ⟨x, st1, e1, e⟩ := bnd_some e
    obtain ⟨rfl, rfl⟩ := pur_some e
    exact ⟨δ, O, ρ, st, x, _, S, W, e1, fun H1 E1 W1 => c H1 E1 W1⟩
def iteR (bc : SemB) (ma mb : Sem1) : Sem1 := fun ρ => do let x ← bc ρ; if x = true then ma ρ else mb ρ
theorem ex_ite {t a b : Expr} {pos : Pos} {bc : SemB} {ma mb : Sem1} (ht : PT X t (RdB X.K tabs bc)) (ha : PE X a (Rd1 X.K tabs ma)) (hb : PE X b (Rd1 X.K tabs mb)) : PE X (.IfExp t a b pos) (Rd1 X.K tabs (iteR bc ma mb)) :=
  PE.imp (pe_ifExp ht ha hb) fun σ H Q h => by
    obtain ⟨δ, O, ρ, st, z, st', S, W, e, c⟩ := h
    obtain ⟨x, st1, e1, e⟩ := bnd_some e
    refine ⟨δ, O, ρ, st, x, st1, S, W, e1, fun H1 E1 W1 => ?_⟩
    cases x with
    | true => exact iteT ⟨δ, O, ρ, _, _, _, S.ext E1 W.dl, W1, (by simpa using e), fun w H' E' W' R' => c w H' (E1.trans E') W' R'⟩
    | false => exact iteF ⟨δ, O, ρ, _, _, _, S.ext E1 W.dl, W1, (by simpa using e), fun w H' E' W' R' => c w H' (E1.trans E') W' R'⟩
end
end Fo
namespace Fo
open PySem PySem.Spec PyProof.Rows L2
section
variable {X : Cx} {tabs : List Addr}
def memD (d : PyData) (ds : List PyData) : Bool := ds.any fun z => PyData.eqv z d
def inV (neg : Bool) (d : PyData) : PyData → Option PyData
  | .list ds => if SeqAt.shaped d = true ∧ SeqAt.shaped (.list ds) = true then some (.bool (if neg then !memD d ds else memD d ds)) else none
  | .tuple ds => if SeqAt.shaped d = true ∧ SeqAt.shaped (.tuple ds) = true then some (.bool (if neg then !memD d ds else memD d ds)) else none
  | _ => none
theorem os_in (hu : X.A.units + 65 < cLine) (neg : Bool) : OpS X (compareOp (if neg then .NotIn else .In)) (inV neg) := by
  intro pins s σ H x y v u tabs δ O st d e z Q I rx ry W hx hy hz c
  unfold inV at hz
  split at hz
  all_goals
    first
    | (split at hz
       · rename_i hb
         cases hz
         obtain ⟨as, r1⟩ := Dp.reads I d x v (hx.dp (SeqAt.canLay_of_shaped hb.1)) rx
         obtain ⟨bs, r2⟩ := Dp.reads I _ y u (hy.dp (SeqAt.canLay_of_shaped hb.2)) ry
         have c2 := SeqAt.canLay_of_shaped hb.2
         simp only [PyData.canLay0] at c2
         cases neg with
         | false =>
           first
           | exact SeqAt.in_list_reads r2 r1 c2 (SeqAt.canLay_of_shaped hb.1) (room_in_shaped hb.1 hu) ⟨.bl _, H, I, rfl, c.same W (.bl _)⟩
           | exact SeqAt.in_tuple_reads r2 r1 c2 (SeqAt.canLay_of_shaped hb.1) (room_in_shaped hb.1 hu) ⟨.bl _, H, I, rfl, c.same W (.bl _)⟩
         | true =>
           first
           | exact SeqAt.notIn_list_reads r2 r1 c2 (SeqAt.canLay_of_shaped hb.1) (room_in_shaped hb.1 hu) ⟨.bl _, H, I, rfl, c.same W (.bl _)⟩
           | exact SeqAt.notIn_tuple_reads r2 r1 c2 (SeqAt.canLay_of_shaped hb.1) (room_in_shaped hb.1 hu) ⟨.bl _, H, I, rfl, c.same W (.bl _)⟩
       · cases hz)
    | cases hz
def isNon : PyData → Bool
  | .none => true
  | _ => false
/-- x is None, x is True .. -/
def isV (neg : Bool) (d : PyData) : PyData → Option PyData
  | .none => some (.bool (if neg then !isNon d else isNon d))
  | .bool b => match d with
    | .bool a => some (.bool (if neg then !decide (a = b) else decide (a = b)))
    | _ => none
  | _ => none
theorem is_non {K : PySem.W.Frag} {δ : Option Addr} {O : Addr → Prop} {H : Hp} {w : V} {d : PyData} (r : TRp K δ O H w d) : decide (w = .non) = isNon d := by
  cases d with
  | none => rw [r.non]; rfl
  | bool b => rw [r.bl]; rfl
  | int i => rw [r.int]; rfl
  | str x => rw [r.str]; rfl
  | list xs => obtain ⟨a, vs, rfl, _⟩ := r.lst; rfl
  | tuple xs => obtain ⟨a, vs, rfl, _⟩ := r.tup; rfl
  | dict kvs =>
    rcases r with r | r
    · cases r <;> rfl
    · obtain ⟨a, rfl, _⟩ := r; rfl
theorem os_is (neg : Bool) : OpS X (compareOp (if neg then .IsNot else .Is)) (isV neg) := by
  intro pins s σ H x y v u tabs δ O st d e z Q I rx ry W hx hy hz c
  unfold isV at hz
  split at hz
  · cases hz
    have e := is_non hx
    cases neg with
    | false => exact op_isN pins s σ H x y v u Q I rx ry ⟨hy.non, by rw [e]; exact c.same W (.bl _)⟩
    | true => exact op_notN pins s σ H x y v u Q I rx ry ⟨hy.non, by rw [e]; exact c.same W (.bl _)⟩
  · split at hz
    · cases hz
      cases neg with
      | false => exact op_isBl pins s σ H x y v u Q I rx ry ⟨_, _, hx.bl, hy.bl, c.same W (.bl _)⟩
      | true => exact op_notBl pins s σ H x y v u Q I rx ry ⟨_, _, hx.bl, hy.bl, c.same W (.bl _)⟩
    · cases hz
  · cases hz
/-! ### items, slices -/
def getV : PyData → PyData → Option PyData
  | .list ds, .int i => atI ds i
  | .tuple ds, .int i => atI ds i
  | _, _ => none
theorem atI_map {K : PySem.W.Frag} {H : Hp} {xs : List V} {ds : List PyData} {i : Int} {d : PyData} (r : RpAll K H xs ds) (h : atI ds i = some d) : ∃ v, atI xs i = some v ∧ Rp K H v d := by
  unfold atI at h ⊢
  rw [r.length]
  cases e : ixN ds.length i with
  | none => rw [e] at h; cases h
  | some j =>
    rw [e] at h
    obtain ⟨v, h1, h2⟩ := r.get (show ds[j]? = some d from h)
    exact ⟨v, h1, h2⟩
theorem ex_ix {a b : Expr} {ma mb : Sem1} {pos : Pos} (ha : PE X a (RdT X.K tabs ma)) (hb : PE X b (RdT X.K tabs mb)) (hs : PlainIx b) : PE X (.Subscript a b pos) (Rd1 X.K tabs (binR getV ma mb)) :=
  PE.imp (pe_ix (IxR.or ix_list ix_tup) ha hb hs) fun σ H Q h => by
    obtain ⟨δ, O, ρ, st, z, st', S, W, e, c⟩ := h
    obtain ⟨x, st1, e1, f1⟩ := bnd_some e
    obtain ⟨y, st2, e2, f2⟩ := bnd_some f1
    obtain ⟨g3, rfl⟩ := up_some f2
    refine ⟨δ, O, ρ, st, x, st1, S, W, e1, fun w H1 E1 W1 R1 => ?_⟩
    refine ⟨δ, O, ρ, st1, y, _, S.ext E1 W.dl, W1, e2, fun w2 H2 E2 W2 R2 => ?_⟩
    have R1' := R1.ext E2 W1
    unfold getV at g3
    split at g3
    · obtain ⟨p, vs, rfl, h1, h2⟩ := R1'.lst
      obtain ⟨v, k1, k2⟩ := atI_map h2 g3
      exact .inl ⟨p, vs, _, v, rfl, R2.int, SqL.of h1, k1, c v H2 (E1.trans E2) W2 k2⟩
    · obtain ⟨p, vs, rfl, h1, h2, _⟩ := R1'.tup
      obtain ⟨v, k1, k2⟩ := atI_map h2 g3
      exact .inr ⟨p, vs, _, v, rfl, R2.int, SqT.of h1, k1, c v H2 (E1.trans E2) W2 k2⟩
    · cases g3
abbrev SemO := Rho → M (Option Int)
def RdO (K : PySem.W.Frag) (tabs : List Addr) (m : SemO) : TO := fun σ H Q => ∃ δ O ρ st v st', Slots K δ O ρ σ H ∧ WOk K tabs δ O st H ∧ m ρ st = some (v, st') ∧ ∀ H', Ext δ H H' → WOk K tabs δ O st' H' → Q v H'
theorem PO.imp {o : Option Expr} {t t' : TO} (h : PO X o t) (i : ∀ σ H Q, t' σ H Q → t σ H Q) : PO X o t' := ⟨fun pins s σ H Q I q => h.run pins s σ H Q I (i σ H Q q)⟩
def noO : SemO := fun _ => pure none
def intO : PyData → Option (Option Int)
  | .int i => some (some i)
  | _ => none
def someO (m : Sem1) : SemO := fun ρ => do let v ← m ρ; up (intO v)
theorem eo_none : PO X none (RdO X.K tabs noO) := PO.imp po_none fun σ H Q h => by
  obtain ⟨δ, O, ρ, st, z, st', S, W, e, c⟩ := h
  obtain ⟨rfl, rfl⟩ := pur_some e
  exact c H (Ext.refl _ _) W
theorem eo_some {e : Expr} {m : Sem1} (h : PE X e (RdT X.K tabs m)) : PO X (some e) (RdO X.K tabs (someO m)) := PO.imp (po_some h) fun σ H Q h => by
  obtain ⟨δ, O, ρ, st, z, st', S, W, e, c⟩ := h
  obtain ⟨x, st1, e1, f1⟩ := bnd_some e
  obtain ⟨g, rfl⟩ := up_some f1
  refine ⟨δ, O, ρ, st, x, _, S, W, e1, fun w H1 E1 W1 R1 => ?_⟩
  unfold intO at g
  split at g
  · cases g
    exact ⟨_, R1.int, c H1 E1 W1⟩
  · cases g
def cutD (ds : List PyData) (lo hi : Option Int) : List PyData := (ds.drop (HT.sIx ds.length 0 lo)).take (HT.sIx ds.length ds.length hi - HT.sIx ds.length 0 lo)
theorem cut_map {K : PySem.W.Frag} {H : Hp} {xs : List V} {ds : List PyData} {lo hi : Option Int} (r : RpAll K H xs ds) : RpAll K H (cutV xs lo hi) (cutD ds lo hi) := by
  unfold cutV cutD
  rw [r.length]
  exact (r.drop _).take _
def slcV (d : PyData) (lo hi : Option Int) : Option PyData := match d with
  | .list ds => some (.list (cutD ds lo hi))
  | .tuple ds => some (.tuple (cutD ds lo hi))
  | _ => none
def slcR (m : Sem1) (ml mh : SemO) : Sem1 := fun ρ => do let x ← m ρ; let l ← ml ρ; let h ← mh ρ; up (slcV x l h)
theorem ex_slc {e : Expr} {lo hi : Option Expr} {p2 pos : Pos} {m : Sem1} {ml mh : SemO} (he : PE X e (RdT X.K tabs m)) (hl : PO X lo (RdO X.K tabs ml)) (hh : PO X hi (RdO X.K tabs mh)) :
    PE X (.Subscript e (.Slice lo hi none p2) pos) (Rd1 X.K tabs (slcR m ml mh)) :=
  PE.imp (pe_slice (SlR.or sl_list sl_tupA) he hl hh) fun σ H Q h => by
    obtain ⟨δ, O, ρ, st, z, st', S, W, e, c⟩ := h
    obtain ⟨x, st1, e1, f1⟩ := bnd_some e
    obtain ⟨l, st2, e2, f2⟩ := bnd_some f1
    obtain ⟨u, st3, e3, f3⟩ := bnd_some f2
    obtain ⟨g3, rfl⟩ := up_some f3
    refine ⟨δ, O, ρ, st, x, st1, S, W, e1, fun w H1 E1 W1 R1 => ?_⟩
    refine ⟨δ, O, ρ, st1, l, st2, S.ext E1 W.dl, W1, e2, fun H2 E2 W2 => ?_⟩
    refine ⟨δ, O, ρ, st2, u, _, (S.ext E1 W.dl).ext E2 W1.dl, W2, e3, fun H3 E3 W3 => ?_⟩
    have R1' := (R1.ext E2 W1).ext E3 W2
    have c' : Cont X.K tabs δ O st' H3 z Q := fun w H' E' W' R' => c w H' (((E1.trans E2).trans E3).trans E') W' R'
    unfold slcV at g3
    split at g3
    · cases g3
      obtain ⟨p, vs, rfl, h1, h2⟩ := R1'.lst
      exact .inl ⟨p, vs, rfl, SqL.of h1, c'.lst W3 (cut_map h2)⟩
    · cases g3
      obtain ⟨p, vs, rfl, h1, h2, h3⟩ := R1'.tup
      refine .inr ⟨p, vs, rfl, SqT.of h1, fun hw => ?_, fun _ => c'.tup W3 (cut_map h2)⟩
      refine c'.same W3 ?_
      rename_i ds
      have e : cutD ds l u = ds := by
        unfold cutD
        rw [← h2.length, hw.1, hw.2]
        simp [h2.length]
      rw [e]
      exact h3
    · cases g3
end
end Fo
namespace HT
open PySem PySem.Spec PyProof.Rows
section
variable {prog : Program} {w : World} {A : Around} {E : Value → Shared → Prop} {s : Shared}
theorem rev_applied {sl : Addr} {t : Tok} {n : Nat} {Q : Int × Int × Nat → Shared → Prop} (hs : s.heap.IsSliceOf sl .none .none (.int (-1) t))
    (h : Q ((n : Int) - 1, -1, n) s) : wpAny (model prog w) A (Builtin.Slice.sliceApplied (.ref sl) (pure (n : Int))) Q E s := by
  obtain ⟨os, hos, hcs, hds⟩ := id hs
  unfold Builtin.Slice.sliceApplied Builtin.Slice.sliceFields
  refine wpAny_bind (wpAny_bind (wpAny_field hos hds (x := .none) rfl (wpAny_bind (wpAny_field hos hds (x := .none) rfl (wpAny_bind (wpAny_field hos hds (x := .int (-1) t) rfl (wpAny_pure ?_)))))))
  refine wpAny_bind (slicePart_int ?_)
  show wpAny _ _ (if ((-1 : Int) == 0) = true then _ else _) _ _ s
  rw [if_neg (by decide)]
  refine wpAny_bind (slicePart_none (wpAny_bind (slicePart_none (wpAny_bind (wpAny_pure ?_)))))
  show wpAny _ _ (match Builtin.Slice.sliceAdjust none none (-1) (n : Int) with | (lo, hi) => pure (lo, (-1 : Int), Builtin.Slice.slicePlaces lo hi (-1))) _ _ s
  have e : Builtin.Slice.sliceAdjust none none (-1) (n : Int) = ((n : Int) - 1, -1) := by
    unfold Builtin.Slice.sliceAdjust
    simp
  rw [e]
  show wpAny _ _ (pure ((n : Int) - 1, (-1 : Int), Builtin.Slice.slicePlaces ((n : Int) - 1) (-1) (-1))) _ _ s
  have e2 : Builtin.Slice.slicePlaces ((n : Int) - 1) (-1) (-1) = n := by
    unfold Builtin.Slice.slicePlaces
    simp
    omega
  rw [e2]
  exact wpAny_pure h
theorem pick_rev0 (l : List Value) : ∀ k, k ≤ l.length → (List.range k).filterMap (fun m : Nat => l[(((k : Int) - 1) + (m : Int) * (-1)).toNat]?) = (l.take k).reverse
  | 0, _ => rfl
  | k + 1, h => by
    have ih := pick_rev0 l k (by omega)
    rw [List.range_succ_eq_map, List.filterMap_cons, List.filterMap_map]
    have e0 : ((((k + 1 : Nat) : Int) - 1) + ((0 : Nat) : Int) * (-1)).toNat = k := by omega
    rw [e0, List.getElem?_eq_getElem (show k < l.length by omega)]
    have e1 : ((fun m : Nat => l[((((k + 1 : Nat) : Int) - 1) + (m : Int) * (-1)).toNat]?) ∘ Nat.succ) = fun m : Nat => l[(((k : Int) - 1) + (m : Int) * (-1)).toNat]? := by
      funext m
      show l[((((k + 1 : Nat) : Int) - 1) + ((m + 1 : Nat) : Int) * (-1)).toNat]? = _
      congr 1
      omega
    rw [e1, ih, List.take_add_one, List.getElem?_eq_getElem (show k < l.length by omega)]
    show l[k] :: (List.take k l).reverse = (List.take k l ++ [l[k]]).reverse
    rw [List.reverse_append]
    rfl
theorem pick_rev (xs : Array Value) : ((List.range xs.size).filterMap fun (m : Nat) => xs[(((xs.size : Int) - 1) + (m : Int) * (-1)).toNat]?) = xs.toList.reverse := by
  have h := pick_rev0 xs.toList xs.size (by simp)
  rw [List.take_of_length_le (by simp)] at h
  rw [← h]
  congr 1
  funext m
  rw [Array.getElem?_toList]
theorem getItem_tuple_rev {t sl : Addr} {items : Array Value} {k : Tok} {Q : Value → Shared → Prop} (ht : IsTup s.heap t items) (hs : s.heap.IsSliceOf sl .none .none (.int (-1) k))
    (h : Q (.ref s.heap.objs.size) { s with heap := s.heap.push { cls := .type "tuple", data := .seq items.toList.reverse.toArray } })
    (hsz : items.size ≤ sizeLine) : wpAny (model prog w) A (getItem (.ref t) (.ref sl)) Q E s := by
  have htake : sizeOk (.seq items.toList.reverse.toArray) := by
    show items.toList.reverse.toArray.size ≤ sizeLine
    rw [List.size_toArray, List.length_reverse, Array.length_toList]
    exact hsz
  obtain ⟨os, hos, hcs, hds⟩ := id hs
  have hTs : s.TypeIs (.ref sl) "slice" := ⟨os, hos, hcs⟩
  unfold getItem
  try with_reducible refine wpAny_holding ?_
  first | refine wpAny_bind (wpAny_pure ?_) | skip
  refine wpAny_bind (wpAny_sequenceKey ht.typeIs (by decide) ?_)
  refine wpAny_bind (wpAny_callSpecial?_slot (name := Str.ofString "__getitem__") ht.typeIs PyProof.Rows.slot_tuple_getitem
    (wpAny_call_entry PyProof.Rows.slot_tuple_getitem ht.typeIs entry_tuple_getitem ?_ (args_tuple_getitem _ _)))
  show wpAny _ _ (Builtin.Tuple.tupleItemsOf (.ref t) >>= _) _ _ s
  refine wpAny_bind (tupleItemsOf_ ht ?_)
  refine wpAny_bind (wpAny_typeOf hTs ?_)
  rw [if_pos (by decide)]
  refine wpAny_bind (rev_applied (n := items.size) hs ?_)
  have hno : ¬ ((((items.size : Int) - 1) == 0 && (-1 : Int) == 1 && items.size == items.size) = true) := by
    intro q
    rw [Bool.and_eq_true, Bool.and_eq_true] at q
    have q1 : (-1 : Int) = 1 := eq_of_beq q.1.2
    omega
  show wpAny _ _ (if ((((items.size : Int) - 1) == 0 && (-1 : Int) == 1 && items.size == items.size) = true) then _ else _) _ _ s
  rw [if_neg hno, pick_rev]
  first
    | exact wpAny_bind (m := Builtin.Tuple.tupleExact _) (wpAny_newObj_type (wpAny_pure ⟨_, rfl, wpAny_pure h⟩) htake)
    | exact wpAny_bind (m := Builtin.Tuple.tupleExact _) (wpAny_newObj_type (wpAny_bind (wpAny_pure (wpAny_pure ⟨_, rfl, wpAny_pure h⟩))) htake)
    | exact wpAny_bind (wpAny_bind (m := Builtin.Tuple.tupleExact _) (wpAny_newObj_type (wpAny_pure (wpAny_pure ⟨_, rfl, wpAny_pure h⟩)) htake))
    | exact wpAny_bind (wpAny_bind (m := Builtin.Tuple.tupleExact _) (wpAny_newObj_type (wpAny_pure ⟨_, rfl, wpAny_pure h⟩) htake))
end
end HT
namespace Fo
open PySem PySem.Spec PyProof.Rows L2
section
variable {X : Cx} {tabs : List Addr}
def tRevT (K : PySem.W.Frag) (te : TE) : TE := fun σ H Q => te σ H fun x H1 => ∃ a xs, x = .ref a ∧ SqT K H1 a xs ∧ ∀ p, H1 p = none → Q (.ref p) (upd H1 p (.tup xs.reverse))
theorem pe_revT {e : Expr} {te : TE} {k : Nat} {p1 p2 p3 pos : Pos} (he : PE X e te) : PE X (.Subscript e (.Slice none none (some (.UnaryOp .USub (.Constant (.int 1) k p1) p2)) p3) pos) (tRevT X.K te) := by
  refine ⟨fun pins s σ H Q I h => ?_⟩
  refine Subscript_ (thn (he.run pins s σ H _ I h) fun v s1 ⟨x, H1, I1, r1, q1⟩ => ?_)
  obtain ⟨a, xs, ex, hx, q⟩ := q1
  subst ex
  cases r1
  have hst : PO X (some (.UnaryOp .USub (.Constant (.int 1) k p1) p2)) (tPart (tUn (rU fun i => .int (-i)) (tC (.int 1)))) := po_some (pe_un un_neg pe_int)
  refine wpAny_Slice (thn (po_none.run pins s1 σ H1 (fun o H2 => o = none ∧ H2 = H1) I1 ⟨rfl, rfl⟩) fun vl s2 ⟨l, H2, I2, pl, el, e2⟩ => ?_)
  subst el e2
  refine thn (po_none.run pins s2 σ H2 (fun o H3 => o = none ∧ H3 = H2) I2 ⟨rfl, rfl⟩) fun vu s3 ⟨u, H3, I3, pu, eu, e3⟩ => ?_
  subst eu e3
  refine thn (hst.run pins s3 σ H3 (fun o H4 => o = some (-1) ∧ H4 = H3) I3 ⟨1, rfl, -1, rfl, rfl, rfl⟩) fun vs s4 ⟨o, H4, I4, ps, eo, e4⟩ => ?_
  subst eo e4
  cases pl
  cases pu
  obtain ⟨t4, rfl⟩ : ∃ t, vs = Value.int (-1) t := by cases ps; exact ⟨_, rfl⟩
  have I5 : Inv X pins σ H4 { s4 with heap := s4.heap.push { cls := .type "slice", data := .fields #[.none, .none, .int (-1) t4] } } := I4.kept (t' := s4.toks) fun b ob q => Heap.get?_push_of_some _ q
  obtain ⟨its, r, ht, hz⟩ := I5.tuple hx
  have hlen := r.length
  refine tail_any (ops := [.ref a, .ref s4.heap.objs.size]) ht.typeIs (PyProof.Rows.slot_tuple_getitem.lookup) ?_ (by with_unfolding_all rfl)
  refine HT.getItem_tuple_rev ht (Heap.IsSliceOf.new _ _ _ _) ?_ (by rw [List.size_toArray]; omega)
  refine ⟨.ref _, _, I5.laid (t' := s4.toks) (o := .tup xs.reverse) (fun b ob q => Heap.get?_push_of_some _ q) (Nat.le_refl _) ?_, rfl, q _ (I5.hok.fresh (Nat.le_refl _))⟩
  exact ⟨by rw [List.length_reverse]; exact hz, its.reverse, r.reverse, _, Heap.get?_push_size _ rfl, rfl, 0, by simp⟩
def revV : PyData → Option PyData
  | .list ds => some (.list ds.reverse)
  | .tuple ds => some (.tuple ds.reverse)
  | _ => none
def unR (g : PyData → Option PyData) (m : Sem1) : Sem1 := fun ρ => do let x ← m ρ; up (g x)
theorem ex_rev {e : Expr} {k : Nat} {p1 p2 p3 pos : Pos} {m : Sem1} (he : PE X e (RdT X.K tabs m)) : PE X (.Subscript e (.Slice none none (some (.UnaryOp .USub (.Constant (.int 1) k p1) p2)) p3) pos) (Rd1 X.K tabs (unR revV m)) :=
  ⟨fun pins s σ H Q I ⟨δ, O, ρ, st, z, st', S, W, e, c⟩ => by
    obtain ⟨x, st1, e1, f1⟩ := bnd_some e
    obtain ⟨g, rfl⟩ := up_some f1
    unfold revV at g
    split at g
    · cases g
      refine (pe_revL he).run pins s σ H Q I ⟨δ, O, ρ, st, _, _, S, W, e1, fun w H1 E1 W1 R1 => ?_⟩
      obtain ⟨p, vs, rfl, h1, h2⟩ := R1.lst
      exact ⟨p, vs, rfl, SqL.of h1, Cont.lst (fun w H' E' W' R' => c w H' (E1.trans E') W' R') W1 h2.reverse⟩
    · cases g
      refine (pe_revT he).run pins s σ H Q I ⟨δ, O, ρ, st, _, _, S, W, e1, fun w H1 E1 W1 R1 => ?_⟩
      obtain ⟨p, vs, rfl, h1, h2, _⟩ := R1.tup
      exact ⟨p, vs, rfl, SqT.of h1, Cont.tup (fun w H' E' W' R' => c w H' (E1.trans E') W' R') W1 h2.reverse⟩
    · cases g⟩
/-! ### arguments, displays -/
abbrev TRps (K : PySem.W.Frag) (δ : Option Addr) (O : Addr → Prop) (H : Hp) : List V → List PyData → Prop := Paired (TRp K δ O H)
def RdLT (K : PySem.W.Frag) (tabs : List Addr) (m : SemL) : TA := fun σ H Q => ∃ δ O ρ st v st', Slots K δ O ρ σ H ∧ WOk K tabs δ O st H ∧ m ρ st = some (v, st') ∧ ∀ ws H', Ext δ H H' → WOk K tabs δ O st' H' → TRps K δ O H' ws v → Q ws H'
def nilR : SemL := fun _ => pure []
def consR (m : Sem1) (r : SemL) : SemL := fun ρ => do let x ← m ρ; let xs ← r ρ; pure (x :: xs)
def plain (e : Expr) : Bool := match e with
  | .Starred _ _ => false
  | _ => true
theorem plain_star {e : Expr} (h : plain e = true) {es : List Expr} {env : Env} : starEach (e :: es) env = (false, eval e env) :: starEach es env := by
  cases e <;> first | rfl | cases h
theorem ea_nil : PA X [] (RdL X.K tabs nilR) := PA.imp pa_nil fun σ H Q ⟨δ, O, ρ, st, z, st', S, W, e, c⟩ => by
  obtain ⟨rfl, rfl⟩ := pur_some e
  exact c _ H (Ext.refl _ _) W .nil
theorem ea_cons {e : Expr} {es : List Expr} {m : Sem1} {r : SemL} (hp : plain e = true) (he : PE X e (Rd1 X.K tabs m)) (hr : PA X es (RdL X.K tabs r)) : PA X (e :: es) (RdL X.K tabs (consR m r)) :=
  PA.imp (pa_cons he hr (plain_star hp)) fun σ H Q ⟨δ, O, ρ, st, z, st', S, W, e, c⟩ => by
    obtain ⟨x, st1, e1, f1⟩ := bnd_some e
    obtain ⟨xs, st2, e2, f2⟩ := bnd_some f1
    obtain ⟨rfl, rfl⟩ := pur_some f2
    exact ⟨δ, O, ρ, st, x, st1, S, W, e1, fun w H1 E1 W1 R1 => ⟨δ, O, ρ, st1, xs, _, S.ext E1 W.dl, W1, e2, fun ws H2 E2 W2 R2 => c _ H2 (E1.trans E2) W2 (.cons (R1.mono (rds_ext E2 W1.dl)) R2)⟩⟩
theorem eat_nil : PA X [] (RdLT X.K tabs nilR) := PA.imp pa_nil fun σ H Q ⟨δ, O, ρ, st, z, st', S, W, e, c⟩ => by
  obtain ⟨rfl, rfl⟩ := pur_some e
  exact c _ H (Ext.refl _ _) W .nil
theorem eat_cons {e : Expr} {es : List Expr} {m : Sem1} {r : SemL} (hp : plain e = true) (he : PE X e (RdT X.K tabs m)) (hr : PA X es (RdLT X.K tabs r)) : PA X (e :: es) (RdLT X.K tabs (consR m r)) :=
  PA.imp (pa_cons he hr (plain_star hp)) fun σ H Q ⟨δ, O, ρ, st, z, st', S, W, e, c⟩ => by
    obtain ⟨x, st1, e1, f1⟩ := bnd_some e
    obtain ⟨xs, st2, e2, f2⟩ := bnd_some f1
    obtain ⟨rfl, rfl⟩ := pur_some f2
    exact ⟨δ, O, ρ, st, x, st1, S, W, e1, fun w H1 E1 W1 R1 => ⟨δ, O, ρ, st1, xs, _, S.ext E1 W.dl, W1, e2, fun ws H2 E2 W2 R2 => c _ H2 (E1.trans E2) W2 (.cons (R1.ext E2 W1) R2)⟩⟩
/-- *e -/
def itemsO : PyData → Option (List PyData)
  | .list ds => some ds
  | .tuple ds => some ds
  | _ => none
def starR (m : Sem1) (r : SemL) : SemL := fun ρ => do let x ← m ρ; let ds ← up (itemsO x); let xs ← r ρ; pure (ds ++ xs)
theorem ea_star {e : Expr} {p : Pos} {es : List Expr} {m : Sem1} {r : SemL} (he : PE X e (RdT X.K tabs m)) (hr : PA X es (RdL X.K tabs r)) : PA X (.Starred e p :: es) (RdL X.K tabs (starR m r)) :=
  ⟨fun pos pins s σ H Q I ⟨δ, O, ρ, st, z, st', S, W, e, c⟩ => by
    obtain ⟨x, st1, e1, f1⟩ := bnd_some e
    obtain ⟨ds, st2, e2, f2⟩ := bnd_some f1
    obtain ⟨e2, rfl⟩ := up_some e2
    obtain ⟨xs, st3, e3, f3⟩ := bnd_some f2
    obtain ⟨rfl, rfl⟩ := pur_some f3
    refine PySem.W.items_star (thn (runT he I S W e1) fun v s1 ⟨w, H1, I1, r1, E1, W1, R1⟩ => ?_)
    have tail : ∀ (vs : List V) us s2, RpAll X.K (mask O H1) vs ds → Inv X pins σ H1 s2 → Vals vs us → wpAny (model X.prog X.w) X.A (spliced (backTo pos (starEach es X.env))) (fun ws s3 => AP X pins σ Q (us ++ ws) s3) X.xe s2 := fun vs us s2 rv I2 r2 =>
      thn (hr.run pos pins s2 σ H1 (fun ws H2 => Q (vs ++ ws) H2) I2 ⟨δ, O, ρ, _, xs, _, S.ext E1 W.dl, W1, e3, fun ws H2 E2 W2 R2 => c _ H2 (E1.trans E2) W2 ((rv.mono (rds_ext E2 W1.dl)).append R2)⟩)
        fun ws s3 ⟨ys, H3, I3, r3, q3⟩ => ⟨vs ++ ys, H3, I3, r2.append r3, q3⟩
    unfold itemsO at e2
    split at e2
    · cases e2
      obtain ⟨a, vs, rfl, h1, h2⟩ := R1.lst
      cases r1
      exact StX.star_lst I1 (SqL.of h1) fun us s2 I2 r2 => tail vs us s2 h2 I2 r2
    · cases e2
      obtain ⟨a, vs, rfl, h1, h2, _⟩ := R1.tup
      cases r1
      exact star_tup I1 (SqT.of h1) fun us s2 I2 r2 => tail vs us s2 h2 I2 r2
    · cases e2⟩
def mkO (f : List PyData → PyData) (ds : List PyData) : Option PyData := if ds.length ≤ 1000000 then some (f ds) else none
def dispR (f : List PyData → PyData) (r : SemL) : Sem1 := fun ρ => do let ds ← r ρ; up (mkO f ds)
theorem ex_tup {es : List Expr} {k : Nat} {pos : Pos} {r : SemL} (h : PA X es (RdL X.K tabs r)) : PE X (.Tuple es k pos) (Rd1 X.K tabs (dispR .tuple r)) :=
  PE.imp (pe_tup h) fun σ H Q ⟨δ, O, ρ, st, z, st', S, W, e, c⟩ => by
    obtain ⟨ds, st1, e1, f1⟩ := bnd_some e
    obtain ⟨g, rfl⟩ := up_some f1
    unfold mkO at g
    split at g
    · rename_i hl
      cases g
      exact ⟨δ, O, ρ, st, ds, _, S, W, e1, fun ws H1 E1 W1 R1 => ⟨by rw [R1.length]; exact line_le hl, Cont.tup (fun w H' E' W' R' => c w H' (E1.trans E') W' R') W1 R1⟩⟩
    · cases g
theorem ex_lst {es : List Expr} {pos : Pos} {r : SemL} (h : PA X es (RdL X.K tabs r)) : PE X (.List es pos) (Rd1 X.K tabs (dispR .list r)) :=
  PE.imp (pe_lst h) fun σ H Q ⟨δ, O, ρ, st, z, st', S, W, e, c⟩ => by
    obtain ⟨ds, st1, e1, f1⟩ := bnd_some e
    obtain ⟨g, rfl⟩ := up_some f1
    unfold mkO at g
    split at g
    · rename_i hl
      cases g
      exact ⟨δ, O, ρ, st, ds, _, S, W, e1, fun ws H1 E1 W1 R1 => ⟨by rw [R1.length]; exact line_le hl, Cont.lst (fun w H' E' W' R' => c w H' (E1.trans E') W' R') W1 R1⟩⟩
    · cases g
end
end Fo
namespace Fo
open PySem PySem.Spec PyProof.Rows L2
section
variable {X : Cx} {tabs : List Addr}
theorem plain_any {pos : Pos} {env : Env} : ∀ {es : List Expr}, es.all plain = true → (backTo pos (starEach es env)).any (·.1) = false
  | [], _ => rfl
  | e :: es, h => by
    rw [List.all_cons, Bool.and_eq_true] at h
    rw [plain_star h.1]
    show (false || (backTo pos (starEach es env)).any (·.1)) = false
    rw [plain_any h.2]
    rfl
theorem plain_hd {e : Expr} {es : List Expr} (h : (e :: es).all plain = true) : plain e = true ∧ es.all plain = true := by
  rw [List.all_cons, Bool.and_eq_true] at h
  exact h
/-! ### calls of defs -/
abbrev SemF := List PyData → M PyData
def spM (K : PySem.W.Frag) (tabs : List Addr) (n : Nat) (sem : SemF) : Sp := fun vs H Q _ => vs.length = n ∧ ∃ δ O st ds v st', WOk K tabs δ O st H ∧ RpAll K (mask O H) vs ds ∧ sem ds st = some (v, st') ∧ Cont K tabs δ O st' H v Q
/-- of a def whose first parameter is the draws -/
def spD (K : PySem.W.Frag) (tabs : List Addr) (n : Nat) (sem : SemF) : Sp := fun vs H Q _ => vs.length = n ∧ ∃ a ws O st ds v st', vs = .ref a :: ws ∧ WOk K tabs (some a) O st H ∧ RpAll K (mask O H) ws ds ∧ sem ds st = some (v, st') ∧ Cont K tabs (some a) O st' H v Q
def spOf (K : PySem.W.Frag) (tabs : List Addr) (d : Bool) (n : Nat) (sem : SemF) : Sp := if d then spD K tabs n sem else spM K tabs n sem
/-- the module's name x stands for a def that does sem; d: it draws; n: its parameters -/
structure FnS (X : Cx) (tabs : List Addr) (k : Nat) (x : PySem.Str) (d : Bool) (n : Nat) (sem : SemF) : Prop where
  ok : ∃ f fd ps, X.mg x = some (.ref f) ∧ PySem.W.keepIn X.K (.ref f) = true ∧ Binds X.K fd ps [] ∧ FnOk X.prog X.w X.K X.mg X.base CX0 k f fd ps (spOf X.K tabs d n sem)
def callR (sem : SemF) (r : SemL) : Sem1 := fun ρ => do let ds ← r ρ; sem ds
theorem ex_call {x : PySem.Str} {p pos : Pos} {e : Expr} {es : List Expr} {k n : Nat} {sem : SemF} {r : SemL} (F : FnS X tabs k x false n sem) (hr : Room k X.A) (hg : Gl X x) (hd : (x == ("__debug__" : PySem.Str)) = false)
    (hp : (e :: es).all plain = true) (ha : PA X (e :: es) (RdL X.K tabs r)) (hn : ∀ ρ st ds st', r ρ st = some (ds, st') → ds.length = n) : PE X (.Call (.Name x p) (e :: es) [] pos) (Rd1 X.K tabs (callR sem r)) := by
  obtain ⟨f, fd, ps, hm, hk, hb, ok⟩ := F.ok
  refine PE.imp (pe_call ok hr hg hm hk hb .nil pass0 ha hd (plain_star (plain_hd hp).1) (plain_any (plain_hd hp).2)) fun σ H Q ⟨δ, O, ρ, st, z, st', S, W, e, c⟩ => ?_
  obtain ⟨ds, st1, e1, f1⟩ := bnd_some e
  refine ⟨δ, O, ρ, st, ds, st1, S, W, e1, fun ws H1 E1 W1 R1 => ?_⟩
  show spOf X.K tabs false n sem (ws ++ []) H1 Q E0
  rw [List.append_nil]
  exact ⟨by rw [R1.length]; exact hn _ _ _ _ e1, δ, O, st1, ds, z, st', W1, R1, f1, fun w H' E' W' R' => c w H' (E1.trans E') W' R'⟩
def drO : Option (Option En) → Option Unit
  | some (some .dr) => some ()
  | _ => none
theorem drO_some {o : Option (Option En)} (h : drO o = some ()) : o = some (some .dr) := by
  unfold drO at h
  split at h
  · rfl
  · cases h
def callD (sem : SemF) (i : Nat) (r : SemL) : Sem1 := fun ρ => do up (drO ρ[i]?); let ds ← r ρ; sem ds
theorem ex_callD {x y : PySem.Str} {p py pos : Pos} {es : List Expr} {i k n : Nat} {sem : SemF} {r : SemL} (F : FnS X tabs k x true (n + 1) sem) (hr : Room k X.A) (hg : Gl X x) (hd : (x == ("__debug__" : PySem.Str)) = false)
    (hN : X.N[i]? = some y) (hv : Vis X.env.scope y) (hyd : (y == ("__debug__" : PySem.Str)) = false) (hcd : (y == ("__classdict__" : PySem.Str)) = false)
    (hp : es.all plain = true) (ha : PA X es (RdL X.K tabs r)) (hn : ∀ ρ st ds st', r ρ st = some (ds, st') → ds.length = n) : PE X (.Call (.Name x p) (.Name y py :: es) [] pos) (Rd1 X.K tabs (callD sem i r)) := by
  obtain ⟨f, fd, ps, hm, hk, hb, ok⟩ := F.ok
  refine PE.imp (pe_call ok hr hg hm hk hb .nil pass0 (pa_cons (pe_var hN hv hyd hcd) ha rfl) hd rfl (plain_any hp)) fun σ H Q ⟨δ, O, ρ, st, z, st', S, W, e, c⟩ => ?_
  obtain ⟨u, st0, e0, f0⟩ := bnd_some e
  obtain ⟨e9, rfl⟩ := up_some e0
  obtain ⟨ds, st1, e1, f1⟩ := bnd_some f0
  obtain ⟨v, h1, a, hδ, rfl⟩ := S.at_ i _ (drO_some e9)
  subst hδ
  refine ⟨_, h1, some a, O, ρ, _, ds, st1, S, W, e1, fun ws H1 E1 W1 R1 => ?_⟩
  show spOf X.K tabs true (n + 1) sem ((V.ref a :: ws) ++ []) H1 Q E0
  rw [List.append_nil]
  exact ⟨by rw [List.length_cons, R1.length, hn _ _ _ _ e1], a, ws, O, st1, ds, z, st', rfl, W1, R1, f1, fun w H' E' W' R' => c w H' (E1.trans E') W' R'⟩
/-! ### calls of built-ins -/
def CallS (X : Cx) (f : Value) (g : List PyData → Option PyData) : Prop :=
  ∀ (pins : List (Addr × Obj)) (s : Shared) (σ : L2.St) (H : Hp) (xs : List V) (us : List Value) (tabs : List Addr) (δ : Option Addr) (O : Addr → Prop) (st : Dr) (ds : List PyData) (z : PyData) (Q : VK), Inv X pins σ H s → Vals xs us →
    WOk X.K tabs δ O st H → TRps X.K δ O H xs ds → g ds = some z → Cont X.K tabs δ O st H z Q → wpAny (model X.prog X.w) X.A (call f us) (EP X pins σ Q) X.xe s
def rC (K : PySem.W.Frag) (g : List PyData → Option PyData) : List V → Hp → VK → Prop := fun xs H Q => ∃ tabs δ O st ds z, WOk K tabs δ O st H ∧ TRps K δ O H xs ds ∧ g ds = some z ∧ Cont K tabs δ O st H z Q
theorem CallS.r {f : Value} {g : List PyData → Option PyData} (h : CallS X f g) : CallR X f (rC X.K g) := by
  intro pins s σ H xs us Q I r ⟨tabs, δ, O, st, ds, z, W, hx, hz, c⟩
  exact h pins s σ H xs us tabs δ O st ds z Q I r W hx hz c
def bltR (g : List PyData → Option PyData) (r : SemL) : Sem1 := fun ρ => do let ds ← r ρ; up (g ds)
theorem blt_to {K : PySem.W.Frag} {g : List PyData → Option PyData} {r : SemL} {σ : L2.St} {H : Hp} {Q : VK} (h : Rd1 K tabs (bltR g r) σ H Q) : tCB (rC K g) (RdLT K tabs r) σ H Q := by
  obtain ⟨δ, O, ρ, st, z, st', S, W, e, c⟩ := h
  obtain ⟨ds, st1, e1, f1⟩ := bnd_some e
  obtain ⟨g, rfl⟩ := up_some f1
  exact ⟨δ, O, ρ, st, ds, _, S, W, e1, fun ws H1 E1 W1 R1 => ⟨tabs, δ, O, _, ds, z, W1, R1, g, fun w H' E' W' R' => c w H' (E1.trans E') W' R'⟩⟩
theorem ex_bltB {x : PySem.Str} {id : String} {p pos : Pos} {e : Expr} {es : List Expr} {g : List PyData → Option PyData} {r : SemL} (hc : CallS X (.builtin id) g) (hg : Gl X x) (hm : X.mg x = none) (hv : bootBuiltins x = some (.builtin id))
    (hp : (e :: es).all plain = true) (ha : PA X (e :: es) (RdLT X.K tabs r)) (hn : x ≠ "__name__") (hd : (x == ("__debug__" : PySem.Str)) = false) : PE X (.Call (.Name x p) (e :: es) [] pos) (Rd1 X.K tabs (bltR g r)) :=
  PE.imp (pe_callB hc.r hg hm hv ha hn hd (plain_star (plain_hd hp).1) (plain_any (plain_hd hp).2)) fun σ H Q h => blt_to h
theorem ex_bltT {x : PySem.Str} {T : String} {p pos : Pos} {e : Expr} {es : List Expr} {g : List PyData → Option PyData} {r : SemL} (hc : CallS X (.type T) g) (hg : Gl X x) (hm : X.mg x = none) (hv : bootBuiltins x = some (.type T))
    (hp : (e :: es).all plain = true) (ha : PA X (e :: es) (RdLT X.K tabs r)) (hn : x ≠ "__name__") (hd : (x == ("__debug__" : PySem.Str)) = false) : PE X (.Call (.Name x p) (e :: es) [] pos) (Rd1 X.K tabs (bltR g r)) :=
  PE.imp (pe_callTy hc.r hg hm hv ha hn hd (plain_star (plain_hd hp).1) (plain_any (plain_hd hp).2)) fun σ H Q h => blt_to h
def lenV : List PyData → Option PyData
  | [.list ds] => some (.int (ds.length : Nat))
  | [.tuple ds] => some (.int (ds.length : Nat))
  | _ => none
theorem cs_len : CallS X (.builtin "len") lenV := by
  intro pins s σ H xs us tabs δ O st ds z Q I rx W hx hz c
  unfold lenV at hz
  split at hz
  · cases hz
    cases hx with
    | cons h1 h2 =>
      cases h2
      obtain ⟨a, vs, rfl, q1, q2⟩ := h1.lst
      exact call_len pins s σ H _ us Q I rx ⟨_, vs.length, rfl, .inl ⟨vs, SqL.of q1, rfl⟩, by rw [q2.length]; exact c.same W (.int _)⟩
  · cases hz
    cases hx with
    | cons h1 h2 =>
      cases h2
      obtain ⟨a, vs, rfl, q1, q2, _⟩ := h1.tup
      exact call_len pins s σ H _ us Q I rx ⟨_, vs.length, rfl, .inr ⟨vs, SqT.of q1, rfl⟩, by rw [q2.length]; exact c.same W (.int _)⟩
  · cases hz
def absV : List PyData → Option PyData
  | [.int i] => some (.int (if i < 0 then -i else i))
  | _ => none
theorem cs_abs : CallS X (.builtin "abs") absV := by
  intro pins s σ H xs us tabs δ O st ds z Q I rx W hx hz c
  unfold absV at hz
  split at hz
  · cases hz
    cases hx with
    | cons h1 h2 =>
      cases h2
      cases h1.int
      exact call_abs pins s σ H _ us Q I rx ⟨_, rfl, c.same W (.int _)⟩
  · cases hz
def intV1 : List PyData → Option PyData
  | [.int i] => some (.int i)
  | [.bool b] => some (.int (if b then 1 else 0))
  | _ => none
theorem cs_int : CallS X (.type "int") intV1 := by
  intro pins s σ H xs us tabs δ O st ds z Q I rx W hx hz c
  unfold intV1 at hz
  split at hz
  · cases hz
    cases hx with
    | cons h1 h2 =>
      cases h2
      cases h1.int
      exact call_int1 pins s σ H _ us Q I rx (.inl ⟨_, rfl, c.same W (.int _)⟩)
  · cases hz
    cases hx with
    | cons h1 h2 =>
      cases h2
      cases h1.bl
      exact call_int1 pins s σ H _ us Q I rx (.inr ⟨_, rfl, c.same W (.int _)⟩)
  · cases hz
def max2V : List PyData → Option PyData
  | [.int i, .int j] => some (.int (if j > i then j else i))
  | _ => none
def min2V : List PyData → Option PyData
  | [.int i, .int j] => some (.int (if j < i then j else i))
  | _ => none
theorem cs_max2 (hc : X.calm = true) : CallS X (.builtin "max") max2V := by
  intro pins s σ H xs us tabs δ O st ds z Q I rx W hx hz c
  unfold max2V at hz
  split at hz
  · cases hz
    cases hx with
    | cons h1 h2 =>
      cases h2 with
      | cons h2 h3 =>
        cases h3
        cases h1.int
        cases h2.int
        exact call_max2 hc pins s σ H _ us Q I rx ⟨_, _, rfl, c.same W (.int _)⟩
  · cases hz
theorem cs_min2 (hc : X.calm = true) : CallS X (.builtin "min") min2V := by
  intro pins s σ H xs us tabs δ O st ds z Q I rx W hx hz c
  unfold min2V at hz
  split at hz
  · cases hz
    cases hx with
    | cons h1 h2 =>
      cases h2 with
      | cons h2 h3 =>
        cases h3
        cases h1.int
        cases h2.int
        exact call_min2 hc pins s σ H _ us Q I rx ⟨_, _, rfl, c.same W (.int _)⟩
  · cases hz
def tupleV : List PyData → Option PyData
  | [.list ds] => some (.tuple ds)
  | [.tuple ds] => some (.tuple ds)
  | _ => none
def listV : List PyData → Option PyData
  | [.list ds] => some (.list ds)
  | [.tuple ds] => some (.list ds)
  | _ => none
theorem cs_tuple : CallS X (.type "tuple") tupleV := by
  intro pins s σ H xs us tabs δ O st ds z Q I rx W hx hz c
  unfold tupleV at hz
  split at hz
  · cases hz
    cases hx with
    | cons h1 h2 =>
      cases h2
      obtain ⟨a, vs, rfl, q1, q2⟩ := h1.lst
      exact call_tuple_of pins s σ H _ us Q I rx ⟨a, vs, rfl, .inl ⟨SqL.of q1, c.tup W q2⟩⟩
  · cases hz
    cases hx with
    | cons h1 h2 =>
      cases h2
      obtain ⟨a, vs, rfl, q1, q2, q3⟩ := h1.tup
      exact call_tuple_of pins s σ H _ us Q I rx ⟨a, vs, rfl, .inr ⟨SqT.of q1, c.same W q3⟩⟩
  · cases hz
theorem cs_list : CallS X (.type "list") listV := by
  intro pins s σ H xs us tabs δ O st ds z Q I rx W hx hz c
  unfold listV at hz
  split at hz
  · cases hz
    cases hx with
    | cons h1 h2 =>
      cases h2
      obtain ⟨a, vs, rfl, q1, q2⟩ := h1.lst
      exact call_list_of pins s σ H _ us Q I rx ⟨a, vs, rfl, .inl (SqL.of q1), c.lst W q2⟩
  · cases hz
    cases hx with
    | cons h1 h2 =>
      cases h2
      obtain ⟨a, vs, rfl, q1, q2, q3⟩ := h1.tup
      exact call_list_of pins s σ H _ us Q I rx ⟨a, vs, rfl, .inr (SqT.of q1), c.lst W q2⟩
  · cases hz
def intsOf : List PyData → Option (List Int)
  | [] => some []
  | .int i :: ds => (intsOf ds).map (i :: ·)
  | _ => none
theorem ints_of {K : PySem.W.Frag} {H : Hp} : ∀ {xs : List V} {ds : List PyData} {ns : List Int}, RpAll K H xs ds → intsOf ds = some ns → xs = ns.map V.int ∧ ds = ns.map PyData.int
  | _, [], ns, r, h => by cases r; cases h; exact ⟨rfl, rfl⟩
  | _, d :: ds, ns, r, h => by
    cases r with
    | cons h1 h2 =>
      unfold intsOf at h
      split at h
      · rename_i q; cases q
      · rename_i i es q
        injection q with q1 q2
        subst q1 q2
        cases e : intsOf ds with
        | none => rw [e] at h; cases h
        | some ms =>
          rw [e] at h
          cases h
          obtain ⟨rfl, e2⟩ := ints_of h2 e
          cases h1
          exact ⟨rfl, by rw [e2]; rfl⟩
      · cases h
def sumV : List PyData → Option PyData
  | [.list ds] => (intsOf ds).map fun ns => .int ns.sum
  | _ => none
theorem cs_sum (hc : X.calm = true) : CallS X (.builtin "sum") sumV := by
  intro pins s σ H xs us tabs δ O st ds z Q I rx W hx hz c
  unfold sumV at hz
  split at hz
  · rename_i es
    cases e : intsOf es with
    | none => rw [e] at hz; cases hz
    | some ns =>
      rw [e] at hz
      cases hz
      cases hx with
      | cons h1 h2 =>
        cases h2
        obtain ⟨a, vs, rfl, q1, q2⟩ := h1.lst
        obtain ⟨rfl, _⟩ := ints_of q2 e
        exact cr_sum hc pins s σ H _ us Q I rx ⟨a, ns, rfl, SqL.of q1, c.same W (.int _)⟩
  · cases hz
/-! ### isinstance -/
def tyN : PyData → String
  | .none => "NoneType"
  | .bool _ => "bool"
  | .int _ => "int"
  | .str _ => "str"
  | .list _ => "list"
  | .tuple _ => "tuple"
  | .dict _ => "dict"
theorem tyx {K : PySem.W.Frag} {δ : Option Addr} {O : Addr → Prop} {H : Hp} {w : V} {d : PyData} (r : TRp K δ O H w d) : TyX K H w (.type (tyN d)) := by
  cases d with
  | none => rw [r.non]; exact .base .non
  | bool b => rw [r.bl]; exact .base (.bl _)
  | int i => rw [r.int]; exact .base (.int _)
  | str x => rw [r.str]; exact .base (.str _)
  | list xs => obtain ⟨a, vs, rfl, h, _⟩ := r.lst; exact .base (.lst h)
  | tuple xs => obtain ⟨a, vs, rfl, h, _⟩ := r.tup; exact .base (.tup h)
  | dict kvs =>
    rcases r with r | r
    · cases r with
      | dK h _ _ => exact .base (.dK (mask_some.mp h).2)
      | dT h _ _ => exact .base (.dT (mask_some.mp h).2)
    · obtain ⟨a, rfl, _, _, ⟨_, _, _, h, _⟩ | ⟨_, _, _, h, _⟩⟩ := r
      · exact .base (.dK h)
      · exact .base (.dT h)
/-- the plain classes: bool is an int -/
def isiB (t T : String) : Bool := t == T || (t == "bool" && T == "int")
def tyNs : List String := ["NoneType", "bool", "int", "str", "list", "tuple", "dict"]
theorem kit_all : ∀ t ∈ tyNs, ∀ T ∈ ["int", "bool", "str", "list", "tuple", "dict"], kitB t T = some (isiB t T) := by decide +kernel
theorem tyN_mem (d : PyData) : tyN d ∈ tyNs := by cases d <;> simp [tyN, tyNs]
def isiV (T : String) (d : PyData) : Option PyData := some (.bool (isiB (tyN d) T))
theorem ex_isi {e : Expr} {T : String} {xT : PySem.Str} {p pT pos : Pos} {m : Sem1} (he : PE X e (RdT X.K tabs m)) (hp : plain e = true) (hT : T ∈ ["int", "bool", "str", "list", "tuple", "dict"])
    (hg : Gl X "isinstance") (hm : X.mg "isinstance" = none) (hgT : Gl X xT) (hmT : X.mg xT = none) (hvT : bootBuiltins xT = some (.type T)) (hn : xT ≠ "__name__") (hd : (xT == ("__debug__" : PySem.Str)) = false) :
    PE X (.Call (.Name "isinstance" p) [e, .Name xT pT] [] pos) (Rd1 X.K tabs (unR (isiV T) m)) :=
  PE.imp (pe_callB (call_isi (X := X)) hg hm (by decide +kernel) (pa_cons he (pa_cons (pe_bltn (v := .ty T) hgT hmT hvT rfl hn hd) pa_nil rfl) (plain_star hp)) (by decide) (by decide) (plain_star hp) rfl) fun σ H Q ⟨δ, O, ρ, st, z, st', S, W, e, c⟩ => by
    obtain ⟨x, st1, e1, f1⟩ := bnd_some e
    obtain ⟨g, rfl⟩ := up_some f1
    cases g
    exact ⟨δ, O, ρ, st, x, _, S, W, e1, fun w H1 E1 W1 R1 => ⟨w, .ty T, _, .type T, _, rfl, .ty T, tyx R1, kit_ty (kit_all _ (tyN_mem x) T hT), c _ H1 E1 W1 (.bl _)⟩⟩
end
end Fo
namespace PySem.W
open PySem PySem.Calls PyProof.Rows PySem.SeqAt
section
variable {prog : Program} {w : World} {A : Around} {E : Value → Shared → Prop} {s : Shared}
theorem oneLt_tup {xs ys : List PyData} {a b : Value} {as bs : List Addr} {Q : Bool → Shared → Prop} (ra : Reads s.heap a (.tuple xs) as) (rb : Reads s.heap b (.tuple ys) bs) (h : alike (.tuple xs) (.tuple ys) = true)
    (hu : A.units + min (PyData.tuple xs).depth (PyData.tuple ys).depth < cLine) (hq : Q (dataLt (.tuple xs) (.tuple ys)) s) : wpAny (model prog w) A (oneLt' true a b) Q E s := by
  have hal : alikeAll xs ys = true := by simpa [alike] using h
  cases ra with
  | @tuple l o vs n _ as₁ h1 h2 h3 h4 =>
    cases rb with
    | @tuple l' o' vs' n' _ bs₁ k1 k2 k3 k4 =>
      have n1 : vs.size = xs.length := by simpa using ReadsAll.length _ _ _ h4
      have n2 : vs'.size = ys.length := by simpa using ReadsAll.length _ _ _ k4
      rw [dataLt_tuple, ← firstLt_toks xs ys hal, ← n1, ← n2] at hq
      rw [oneLt'_eq]
      simp only [if_true]
      refine wpAny_bind (wpAny_cRoomFor (room_here hu) ?_)
      obtain ⟨cls, dd, data, sl⟩ := o
      obtain ⟨cls2, dd2, data2, sl2⟩ := o'
      simp only at h2 h3 k2 k3
      subst h2 h3 k2 k3
      refine wpAny_bind (wpAny_callSpecialIfBound?_slot (T := "tuple") ⟨_, h1, rfl⟩ F.slot_tuple_lt (call_meets F.slot_tuple_lt ⟨_, h1, rfl⟩ F.entry_tuple_lt (F.args_tuple_lt_2 _ _)
        (tuple_ltAt l l' vs vs' n n' dd dd2 sl sl2 (pairEq xs ys) (fun j => dataLt (xs.getD j .none) (ys.getD j .none))) ⟨h1, k1, (fun j j1 j2 => ?_), (fun j j1 j2 hj => ?_), ?_⟩))
      · have := eqAt_alikeAll xs ys A.in1 s vs.toList vs'.toList _ _ h4 k4 hal (room_in hu) j (by simpa using j1) (by simpa using j2)
        simpa using this
      · have := rcLt_alikeAll xs ys A.in1 s vs.toList vs'.toList _ _ h4 k4 hal (room_in hu) j (by simpa using j1) (by simpa using j2) hj
        simpa using this
      · exact wpAny_truthy_bool hq
/-- the first items, as the sort looks at them -/
def fstL (d : PyData) (v : Value) (s : Heap) : Option Value := match v with
  | .ref a => match s.get? a with
    | some o => match o.data with
      | .seq xs _ => xs[0]?
      | _ => none
    | none => none
  | _ => none
theorem firsts_tups : ∀ (vs : List Value) (ds : List PyData) {Q : List (Option Value) → Shared → Prop}, EachIs (fun v d => (∃ as, Reads s.heap v d as) ∧ ∃ xs, d = PyData.tuple xs) vs ds →
    (∀ fs : List (Option Value), fs.length = vs.length → (∀ (i : Nat) (d : PyData), ds[i]? = some d → ∀ f : Option Value, fs[i]? = some f → (f = none ↔ d = PyData.tuple [])) → Q fs s) → wpAny (model prog w) A (vs.mapM firstOfTuple') Q E s
  | [], [], Q, _, h => by rw [List.mapM_nil]; exact wpAny_pure (h [] rfl (by simp))
  | v :: vs, d :: ds, Q, e, h => by
    cases e with
    | cons h1 t =>
      obtain ⟨⟨as, r⟩, xs, rfl⟩ := h1
      cases r with
      | @tuple a o us n _ _ ho hc hd hr =>
        rw [List.mapM_cons]
        refine wpAny_bind ?_
        rw [kas_first_eq]
        refine wpAny_bind (Looks.here (show Looks (model prog w) s.heap (typeOf (.ref a)) o.cls from (Looks.ld ho).andThen .now) ?_)
        rw [hc, if_neg (by first | decide | simp)]
        refine wpAny_bind ?_
        unfold Builtin.List.listItems
        refine wpAny_bind (wpAny_seqItems ho hd (wpAny_pure (wpAny_pure ?_)))
        refine wpAny_bind (firsts_tups vs ds t fun fs hl hf => wpAny_pure ?_)
        refine h _ (by simp [hl]) fun i d' hi f hfi => ?_
        cases i with
        | zero =>
          simp at hi hfi
          subst hi hfi
          have n1 : us.size = xs.length := by simpa using SeqAt.ReadsAll.length _ _ _ hr
          rw [Array.getElem?_eq_none_iff, n1]
          cases xs <;> simp
        | succ i => exact hf i d' (by simpa using hi) f (by simpa using hfi)
end
section
variable {prog : Program} {w : World} {A : Around} {s : Shared}
theorem SortsAt.mixed {vs : List Value} {ds : List PyData} (e : EachIs (fun v d => ∃ as, Reads s.heap v d as) vs ds) (hal : AllAlike ds) (ht : ∀ d, d ∈ ds → ∃ xs, d = PyData.tuple xs) (h0 : PyData.tuple [] ∈ ds) (hu : ∀ d, d ∈ ds → A.units + d.depth < cLine) : SortsAt prog w A s (dataKind s.heap ds) vs := by
  have room : ∀ {d d' : PyData}, d ∈ ds → A.units + min d.depth d'.depth < cLine := fun {d d'} hd => Nat.lt_of_le_of_lt (Nat.add_le_add_left (Nat.min_le_left _ _) _) (hu d hd)
  have eT : EachIs (fun v d => (∃ as, Reads s.heap v d as) ∧ ∃ xs, d = PyData.tuple xs) vs ds := (each_mem e).mono fun v d ⟨h1, h2⟩ => ⟨h1, ht d h2⟩
  refine ⟨fun v hv => ?_, ?_⟩
  · obtain ⟨d, hd, as, r⟩ := e.left v hv
    exact ⟨_, dataKind_some hal hd r⟩
  · cases ds with
    | nil => simp at h0
    | cons d₀ ds₀ =>
      obtain ⟨xs₀, e₀⟩ := ht d₀ (List.mem_cons_self ..)
      have lt1 : H.LtAt prog w A s (dataKind s.heap (d₀ :: ds₀)) oneType' := by
        intro E x y a b Q ha hb hq
        obtain ⟨d, as, hd, ra, rfl⟩ := dataKind_inv ha
        obtain ⟨d', as', hd', rb, rfl⟩ := dataKind_inv hb
        obtain ⟨x1, rfl⟩ := ht d hd
        obtain ⟨x2, rfl⟩ := ht d' hd'
        exact oneLt_tup ra rb (hal _ hd _ hd') (room hd) hq
      have lt2 : H.LtAt prog w A s (dataKind s.heap (d₀ :: ds₀)) general' := by
        intro E x y a b Q ha hb hq
        obtain ⟨d, as, hd, ra, rfl⟩ := dataKind_inv ha
        obtain ⟨d', as', hd', rb, rfl⟩ := dataKind_inv hb
        obtain ⟨x1, rfl⟩ := ht d hd
        obtain ⟨x2, rfl⟩ := ht d' hd'
        exact oneLt_alike (f := false) (fun h => nomatch h) ra rb (hal _ hd _ hd') (fun h => nomatch h) (room hd) hq
      have hk : ∀ (kd : SortKind), (∀ (E : Value → Shared → Prop) (Q : SortKind → Shared → Prop) (fs : List (Option Value)), fs.length = vs.length → (∀ (i : Nat) (d : PyData), (d₀ :: ds₀)[i]? = some d → ∀ f : Option Value, fs[i]? = some f → (f = none ↔ d = PyData.tuple [])) → Q kd s →
          wpAny (model prog w) A (do
            if (fs.toArray[0]?.bind id).isSome then return general'
            return if (← oneTypeOnly' vs.toArray).isSome then oneType' else general') Q E s) →
          2 ≤ vs.length → ∀ (E : Value → Shared → Prop) {Q : SortKind → Shared → Prop}, Q kd s → wpAny (model prog w) A (keyKind' vs.toArray) Q E s := by
        intro kd hh h2 E Q hq
        rw [keyKind'_eq, List.mapM_toArray, map_eq_pure_bind]
        refine wpAny_bind (wpAny_bind (firsts_tups vs (d₀ :: ds₀) eT fun fs hl hf => wpAny_pure ?_))
        have hno : ¬ (fs.toArray.all (·.isSome) = true) := by
          intro q
          obtain ⟨i, hi, ei⟩ := List.getElem_of_mem h0
          have hi' : i < fs.length := by rw [hl, e.length]; exact hi
          have h3 := hf i (.tuple []) (by rw [List.getElem?_eq_getElem hi, ei]) fs[i] (List.getElem?_eq_getElem hi')
          simp only [List.all_toArray, List.all_eq_true] at q
          have h4 := q fs[i] (List.getElem_mem hi')
          rw [h3.mpr rfl] at h4
          cases h4
        rw [if_neg hno]
        exact hh E Q fs hl hf hq
      by_cases hx : xs₀ = []
      · subst hx
        refine ⟨oneType', lt1, hk oneType' fun E Q fs hl hf hq => ?_⟩
        have h1 : (fs.toArray[0]?.bind id).isSome = false := by
          cases fs with
          | nil => rfl
          | cons f r =>
            have := (hf 0 d₀ rfl f rfl).mpr e₀
            subst this
            rfl
        rw [if_neg (by rw [h1]; exact Bool.false_ne_true)]
        rw [oneTypeOnly'_eq, List.mapM_toArray, map_eq_pure_bind]
        have hT : ∀ v ∈ vs, Looks (model prog w) s.heap (typeOf v) (.type "tuple") := fun v hv => by
          obtain ⟨d, hd, as, r⟩ := e.left v hv
          obtain ⟨x1, rfl⟩ := ht d hd
          exact looks_reads r
        refine wpAny_bind (wpAny_bind (wpAny_bind (kas_mapM (r := Value.type "tuple") _ (fun v hv Q' hq => (hT v hv).here hq) (wpAny_pure ?_))))
        have hall : ((List.map (fun _ => Value.type "tuple") vs).toArray.all fun x => x == Value.type "tuple") = true := by
          simp only [List.all_toArray, List.all_map, List.all_eq_true]
          intro _ _
          exact beq_self_eq_true _
        have h0' : (List.map (fun _ => Value.type "tuple") vs).toArray[0]? = some (Value.type "tuple") := by
          cases vs with
          | nil => cases e
          | cons v r => simp
        simp only [h0', hall, if_true]
        exact wpAny_pure (wpAny_pure hq)
      · refine ⟨general', lt2, hk general' fun E Q fs hl hf hq => ?_⟩
        have h1 : (fs.toArray[0]?.bind id).isSome = true := by
          cases fs with
          | nil =>
            have := e.length
            rw [← hl] at this
            simp at this
          | cons f r =>
            have h3 := hf 0 d₀ rfl f rfl
            cases f with
            | none => exact absurd (by have := h3.mp rfl; rw [e₀] at this; injection this) hx
            | some f => rfl
        rw [if_pos h1]
        exact wpAny_pure hq
end
end PySem.W
namespace Fo
open PySem PySem.Spec PyProof.Rows L2 PySem.W
/-! ### insertion sort -/
def ins {α : Type} (lt : α → α → Bool) (x : α) : List α → List α
  | [] => [x]
  | y :: ys => if lt y x = true then y :: ins lt x ys else x :: y :: ys
def isrt {α : Type} (lt : α → α → Bool) : List α → List α
  | [] => []
  | x :: xs => ins lt x (isrt lt xs)
theorem ins_mem {α : Type} {lt : α → α → Bool} {x z : α} : ∀ {l : List α}, z ∈ ins lt x l ↔ z = x ∨ z ∈ l
  | [] => by simp [ins]
  | y :: ys => by
    unfold ins
    split
    · simp only [List.mem_cons, ins_mem (l := ys)]
      constructor
      · rintro (h | h | h)
        · exact .inr (.inl h)
        · exact .inl h
        · exact .inr (.inr h)
      · rintro (h | h | h)
        · exact .inr (.inl h)
        · exact .inl h
        · exact .inr (.inr h)
    · simp
theorem isrt_mem {α : Type} {lt : α → α → Bool} {z : α} : ∀ {l : List α}, z ∈ isrt lt l ↔ z ∈ l
  | [] => by simp [isrt]
  | x :: xs => by simp [isrt, ins_mem, isrt_mem (l := xs)]
theorem ins_len {α : Type} {lt : α → α → Bool} {x : α} : ∀ {l : List α}, (ins lt x l).length = l.length + 1
  | [] => rfl
  | y :: ys => by
    unfold ins
    split
    · simp [ins_len (l := ys)]
    · simp
theorem isrt_len {α : Type} {lt : α → α → Bool} : ∀ {l : List α}, (isrt lt l).length = l.length
  | [] => rfl
  | x :: xs => by simp [isrt, ins_len, isrt_len (l := xs)]
theorem ins_congr {α : Type} {lt lt' : α → α → Bool} {x : α} : ∀ {l : List α}, (∀ y ∈ l, lt y x = lt' y x) → ins lt x l = ins lt' x l
  | [], _ => rfl
  | y :: ys, h => by
    unfold ins
    rw [h y (List.mem_cons_self ..), ins_congr fun z hz => h z (List.mem_cons_of_mem _ hz)]
theorem isrt_congr {α : Type} {lt lt' : α → α → Bool} : ∀ {l : List α}, (∀ x ∈ l, ∀ y ∈ l, lt x y = lt' x y) → isrt lt l = isrt lt' l
  | [], _ => rfl
  | x :: xs, h => by
    unfold isrt
    rw [isrt_congr fun a ha b hb => h a (List.mem_cons_of_mem _ ha) b (List.mem_cons_of_mem _ hb)]
    exact ins_congr fun y hy => h y (List.mem_cons_of_mem _ (isrt_mem.mp hy)) x (List.mem_cons_self ..)
theorem ins_map {α β : Type} {lt : α → α → Bool} {lt' : β → β → Bool} (f : α → β) (h : ∀ x y, lt' (f x) (f y) = lt x y) {x : α} : ∀ {l : List α}, ins lt' (f x) (l.map f) = (ins lt x l).map f
  | [] => rfl
  | y :: ys => by
    simp only [List.map_cons, ins, h]
    split
    · rw [List.map_cons, ins_map f h]
    · rfl
theorem isrt_map {α β : Type} {lt : α → α → Bool} {lt' : β → β → Bool} (f : α → β) (h : ∀ x y, lt' (f x) (f y) = lt x y) : ∀ {l : List α}, isrt lt' (l.map f) = (isrt lt l).map f
  | [] => rfl
  | x :: xs => by rw [List.map_cons, isrt, isrt, isrt_map f h, ins_map f h]
section
variable {α : Type} {le : α → α → Bool}
theorem ins_pw (T : TotalLe le) {x : α} : ∀ {l : List α}, l.Pairwise (fun a b => le a b = true) → (ins (fun a b => !le b a) x l).Pairwise fun a b => le a b = true
  | [], _ => by simp [ins]
  | y :: ys, h => by
    rw [List.pairwise_cons] at h
    unfold ins
    split
    · rename_i hx
      rw [List.pairwise_cons]
      refine ⟨fun z hz => ?_, ins_pw T h.2⟩
      rcases ins_mem.mp hz with rfl | hz
      · have hx' : le z y = false := by simpa using hx
        exact (T.total y z).elim id fun q => by rw [hx'] at q; cases q
      · exact h.1 z hz
    · rename_i hx
      have hx' : le x y = true := by simpa using hx
      rw [List.pairwise_cons]
      refine ⟨fun z hz => ?_, List.pairwise_cons.mpr h⟩
      rcases List.mem_cons.mp hz with rfl | hz
      · exact hx'
      · exact T.trans x y z hx' (h.1 z hz)
theorem isrt_pw (T : TotalLe le) : ∀ {l : List α}, (isrt (fun a b => !le b a) l).Pairwise fun a b => le a b = true
  | [] => by simp [isrt]
  | x :: xs => ins_pw T (isrt_pw T)
theorem ins_filter (T : TotalLe le) {x c : α} : ∀ {l : List α}, (ins (fun a b => !le b a) x l).filter (sameRank le c) = (x :: l).filter (sameRank le c)
  | [] => rfl
  | y :: ys => by
    unfold ins
    split
    · rename_i hx
      have hx' : le x y = false := by simpa using hx
      rw [List.filter_cons, ins_filter T, List.filter_cons, List.filter_cons, List.filter_cons]
      by_cases h1 : sameRank le c x = true
      · have h2 : sameRank le c y = false := by
          cases q : sameRank le c y with
          | false => rfl
          | true =>
            unfold sameRank at h1 q
            rw [Bool.and_eq_true] at h1 q
            have := T.trans x c y h1.2 q.1
            rw [hx'] at this
            cases this
        simp [h1, h2]
      · simp [h1]
    · rfl
theorem isrt_filter (T : TotalLe le) {c : α} : ∀ {l : List α}, (isrt (fun a b => !le b a) l).filter (sameRank le c) = l.filter (sameRank le c)
  | [] => rfl
  | x :: xs => by
    unfold isrt
    rw [ins_filter T, List.filter_cons, List.filter_cons, isrt_filter T]
theorem isrt_merge (T : TotalLe le) (l : List α) : isrt (fun a b => !le b a) l = l.mergeSort le := sort_unique T (isrt_pw T) fun c => isrt_filter T
end
/-! ### data -/
mutual
theorem alike_of : ∀ {d e : PyData}, cmpOk d e = true → alike d e = true
  | .int _, .int _, _ => by simp [alike]
  | .tuple ds, .tuple es, h => by
    simp only [cmpOk] at h
    simp only [alike]
    exact alikeAll_of h
  | .none, _, h => by simp [cmpOk] at h
  | .bool _, _, h => by simp [cmpOk] at h
  | .str _, _, h => by simp [cmpOk] at h
  | .list _, _, h => by simp [cmpOk] at h
  | .dict _, _, h => by simp [cmpOk] at h
  | .int _, .none, h => by simp [cmpOk] at h
  | .int _, .bool _, h => by simp [cmpOk] at h
  | .int _, .str _, h => by simp [cmpOk] at h
  | .int _, .list _, h => by simp [cmpOk] at h
  | .int _, .dict _, h => by simp [cmpOk] at h
  | .int _, .tuple _, h => by simp [cmpOk] at h
  | .tuple _, .none, h => by simp [cmpOk] at h
  | .tuple _, .bool _, h => by simp [cmpOk] at h
  | .tuple _, .str _, h => by simp [cmpOk] at h
  | .tuple _, .list _, h => by simp [cmpOk] at h
  | .tuple _, .dict _, h => by simp [cmpOk] at h
  | .tuple _, .int _, h => by simp [cmpOk] at h
theorem alikeAll_of : ∀ {ds es : List PyData}, cmpOkL ds es = true → alikeAll ds es = true
  | [], _, _ => by simp [alikeAll]
  | _ :: _, [], _ => by simp [alikeAll]
  | d :: ds, e :: es, h => by
    simp only [cmpOkL, Bool.and_eq_true] at h
    simp only [alikeAll, Bool.and_eq_true]
    exact ⟨alike_of h.1, alikeAll_of h.2⟩
end
theorem firstLt_lexAt {e r : Nat → Bool} {z : Bool} : ∀ (k i : Nat), SeqAt.firstLt e r z ((List.range k).map (· + i)) = Ob.lexAt e r z i k
  | 0, _ => rfl
  | k + 1, i => by
    rw [List.range_succ_eq_map, List.map_cons, List.map_map, Ob.lexAt_succ]
    have e1 : (((fun x => x + i) ∘ Nat.succ) : Nat → Nat) = fun x => x + (i + 1) := by funext x; simp; omega
    rw [e1, ← firstLt_lexAt k (i + 1)]
    simp [SeqAt.firstLt]
mutual
theorem dataLt_cmp : ∀ {d e : PyData}, cmpOk d e = true → dataLt d e = cmpB .Lt d e
  | .int i, .int j, _ => by
    rw [dataLt_int]
    simp [cmpB, cmpI]
  | .tuple ds, .tuple es, h => by
    simp only [cmpOk] at h
    rw [dataLt_tuple, ← firstLt_toks ds es (alikeAll_of h)]
    have q := firstLt_lexAt (e := SeqAt.pairEq ds es) (r := fun j => dataLt (ds.getD j .none) (es.getD j .none)) (z := decide (ds.length < es.length)) (min ds.length es.length) 0
    simp only [Nat.add_zero, List.map_id'] at q
    rw [q, cmpB, ← lexAt_cmp]
    have key := dataLtAll_cmp (ds := ds) (es := es) h
    have cong : ∀ (k i : Nat), i + k ≤ min ds.length es.length → Ob.lexAt (SeqAt.pairEq ds es) (fun j => dataLt (ds.getD j .none) (es.getD j .none)) (decide (ds.length < es.length)) i k = Ob.lexAt (eF ds es) (rF .Lt ds es) (cmpI .Lt (ds.length : Nat) (es.length : Nat)) i k := by
      intro k
      induction k with
      | zero => intro i _; simp [Ob.lexAt_zero, cmpI]
      | succ k ih =>
        intro i hi
        rw [Ob.lexAt_succ, Ob.lexAt_succ, ih (i + 1) (by omega)]
        have e1 : SeqAt.pairEq ds es i = eF ds es i := rfl
        rw [e1]
        have e2 := key i (by omega) (by omega)
        rw [show dataLt (ds.getD i .none) (es.getD i .none) = rF .Lt ds es i from e2]
    exact cong _ 0 (by omega)
  | .none, _, h => by simp [cmpOk] at h
  | .bool _, _, h => by simp [cmpOk] at h
  | .str _, _, h => by simp [cmpOk] at h
  | .list _, _, h => by simp [cmpOk] at h
  | .dict _, _, h => by simp [cmpOk] at h
  | .int _, .none, h => by simp [cmpOk] at h
  | .int _, .bool _, h => by simp [cmpOk] at h
  | .int _, .str _, h => by simp [cmpOk] at h
  | .int _, .list _, h => by simp [cmpOk] at h
  | .int _, .dict _, h => by simp [cmpOk] at h
  | .int _, .tuple _, h => by simp [cmpOk] at h
  | .tuple _, .none, h => by simp [cmpOk] at h
  | .tuple _, .bool _, h => by simp [cmpOk] at h
  | .tuple _, .str _, h => by simp [cmpOk] at h
  | .tuple _, .list _, h => by simp [cmpOk] at h
  | .tuple _, .dict _, h => by simp [cmpOk] at h
  | .tuple _, .int _, h => by simp [cmpOk] at h
theorem dataLtAll_cmp : ∀ {ds es : List PyData}, cmpOkL ds es = true → ∀ i, i < ds.length → i < es.length → dataLt (ds.getD i .none) (es.getD i .none) = cmpB .Lt (ds.getD i .none) (es.getD i .none)
  | [], _, _, i, h, _ => by simp at h
  | _ :: _, [], _, i, _, h => by simp at h
  | d :: ds, e :: es, h, i, h1, h2 => by
    simp only [cmpOkL, Bool.and_eq_true] at h
    cases i with
    | zero => simpa using dataLt_cmp h.1
    | succ i => simpa using dataLtAll_cmp h.2 i (by simpa using h1) (by simpa using h2)
end
/-- the list may be sorted: ints, or tuples of such, nested -/
def sOk (ds : List PyData) : Bool := ds.all (fun d => ds.all fun e => cmpOk d e) && (ds.all (fun d => SeqAt.shaped d) && decide (ds.length ≤ 1000000))
def srtD (ds : List PyData) : List PyData := isrt (fun d e => cmpB .Lt d e) ds
theorem sOk_p {ds : List PyData} (h : sOk ds = true) : (∀ d ∈ ds, ∀ e ∈ ds, cmpOk d e = true) ∧ (∀ d ∈ ds, SeqAt.shaped d = true) ∧ ds.length ≤ 1000000 := by
  unfold sOk at h
  simp only [Bool.and_eq_true, List.all_eq_true, decide_eq_true_eq] at h
  exact h
theorem dataTotal : TotalLe (dataLe (β := PyData) false id) := sortLe_total _ _ _
theorem srt_merge {ds : List PyData} (h : ∀ d ∈ ds, ∀ e ∈ ds, cmpOk d e = true) : srtD ds = ds.mergeSort (dataLe (β := PyData) false id) := by
  rw [← isrt_merge dataTotal]
  unfold srtD
  refine isrt_congr fun x hx y hy => ?_
  rw [← dataLt_cmp (h x hx y hy)]
  show dataLt x y = !(!dataLt x y)
  rw [Bool.not_not]
theorem sorts_ok {prog : Program} {w : World} {A : Around} {s : Shared} {vs : List Value} {ds : List PyData} (e : EachIs (fun v d => ∃ as, Reads s.heap v d as) vs ds) (h : sOk ds = true) (hu : A.units + 65 < cLine) : SortsAt prog w A s (dataKind s.heap ds) vs := by
  obtain ⟨h1, h2, h3⟩ := sOk_p h
  have hal : AllAlike ds := fun d hd d' hd' => alike_of (h1 d hd d' hd')
  have hub : ∀ d, d ∈ ds → A.units + d.depth < cLine := fun d hd => by
    have := SeqAt.depth_of_shaped (h2 d hd)
    omega
  cases ds with
  | nil => exact SortsAt.data e hal (.inl fun d hd => by simp at hd) hub
  | cons d₀ ds₀ =>
    have h0 := h1 d₀ (List.mem_cons_self ..)
    cases d₀ with
    | int i =>
      refine SortsAt.data e hal (.inr fun d hd => ?_) hub
      have := h0 d hd
      cases d with
      | int j => exact ⟨fun q => (nomatch q), fun xs q => (nomatch q)⟩
      | _ => simp [cmpOk] at this
    | tuple xs =>
      have ht : ∀ d, d ∈ PyData.tuple xs :: ds₀ → ∃ ys, d = PyData.tuple ys := fun d hd => by
        have := h0 d hd
        cases d with
        | tuple ys => exact ⟨ys, rfl⟩
        | _ => simp [cmpOk] at this
      by_cases hm : PyData.tuple [] ∈ PyData.tuple xs :: ds₀
      · exact SortsAt.mixed e hal ht hm hub
      · refine SortsAt.data e hal (.inl fun d hd => ?_) hub
        obtain ⟨ys, rfl⟩ := ht d hd
        cases ys with
        | nil => exact absurd hd hm
        | cons y ys => exact ⟨y, ys, rfl⟩
    | _ =>
      have := h0 _ (List.mem_cons_self ..)
      simp [cmpOk] at this
theorem reads_each {h : Heap} : ∀ {vs : List Value} {ds : List PyData} {as : List Addr}, ReadsAll h vs ds as → EachIs (fun v d => ∃ as, Reads h v d as) vs ds
  | _, _, _, .nil => .nil
  | _, _, _, .cons h1 h2 => .cons ⟨_, h1⟩ (reads_each h2)
section
variable {X : Cx} {tabs : List Addr}
def sortedV : List PyData → Option PyData
  | [.list ds] => if sOk ds = true then some (.list (srtD ds)) else none
  | _ => none
theorem each_vals {R : V → PyData → Prop} : ∀ {vs : List Value} {ds : List PyData}, EachIs (fun u d => ∃ v, RelV v u ∧ R v d) vs ds → ∃ xs, Vals xs vs ∧ Paired R xs ds
  | _, _, .nil => ⟨[], .nil, .nil⟩
  | _, _, .cons ⟨v, h1, h2⟩ t => by
    obtain ⟨xs, q1, q2⟩ := each_vals t
    exact ⟨v :: xs, .cons h1 q1, .cons h2 q2⟩
theorem vals_each {K : PySem.W.Frag} {H : Hp} : ∀ {xs : List V} {vs : List Value} {ds : List PyData}, Vals xs vs → RpAll K H xs ds → EachIs (fun u d => ∃ v, RelV v u ∧ Rp K H v d) vs ds
  | _, _, _, .nil, .nil => .nil
  | _, _, _, .cons r t, .cons q u => .cons ⟨_, r, q⟩ (vals_each t u)
theorem paired_rp {K : PySem.W.Frag} {H : Hp} : ∀ {xs : List V} {ds : List PyData}, Paired (Rp K H) xs ds → RpAll K H xs ds
  | _, _, .nil => .nil
  | _, _, .cons h t => .cons h (paired_rp t)
theorem cs_sorted (hu : X.A.units + 70 < cLine) : CallS X (.builtin "sorted") sortedV := by
  intro pins s σ H xs us tabs δ O st ds z Q I rx W hx hz c
  unfold sortedV at hz
  split at hz
  · rename_i es
    split at hz
    · rename_i hs
      cases hz
      obtain ⟨h1, h2, h3⟩ := sOk_p hs
      cases hx with
      | cons q1 q2 =>
        cases q2
        obtain ⟨a, vs, rfl, k1, k2⟩ := q1.lst
        obtain ⟨its, rv, hl, hz⟩ := I.list (SqL.of (K := X.K) k1)
        rw [Vals.ref1 rx]
        have lay : PyData.canLayAll0 es = true := by
          have : ∀ l : List PyData, (∀ d ∈ l, SeqAt.shaped d = true) → PyData.canLayAll0 l = true := by
            intro l
            induction l with
            | nil => intro _; simp [PyData.canLayAll0]
            | cons d l ih =>
              intro h
              simp only [PyData.canLayAll0, Bool.and_eq_true]
              exact ⟨SeqAt.canLay_of_shaped (h d (List.mem_cons_self ..)), ih fun e he => h e (List.mem_cons_of_mem _ he)⟩
          exact this es h2
        obtain ⟨as, ra⟩ := Dp.readsAll I es vs its ((k2.mono rds_mask).dp lay) rv
        have er := reads_each ra
        have er' : EachIs (fun v d => ∃ as, Reads (sortingHeap (copyHeap s.heap its) (s.heap.objs.size + 1) its) v d as) its es := er.mono fun _ _ ⟨as, r⟩ => ⟨as, PyProof.Rows.Reads.keeps (fun _ _ => sorting_copy_old) r⟩
        have hal : AllAlike es := fun d hd d' hd' => alike_of (h1 d hd d' hd')
        have hlen : its.length = es.length := by rw [← rv.length, k2.length]
        refine sorted_vals (κ := dataKind (sortingHeap (copyHeap s.heap its) (s.heap.objs.size + 1) its) es) hl.isList (sorts_ok (s := { s with heap := sortingHeap (copyHeap s.heap its) (s.heap.objs.size + 1) its }) er' hs (by show X.A.units + 1 + 1 + 65 < cLine; omega)) (by rw [hlen]; exact line_le h3) ?_
        have ev := sortVals_data (h' := sortingHeap (copyHeap s.heap its) (s.heap.objs.size + 1) its) (enc := id) (bs := es) false (vals_each rv k2) (by simpa using er') (by simpa using hal)
        rw [List.map_id, ← srt_merge h1] at ev
        obtain ⟨ys, v1, v2⟩ := each_vals ev
        obtain ⟨ep, he'⟩ := PyProof.Rows.sortedAll_at s.heap its (sortVals (dataKind (sortingHeap (copyHeap s.heap its) (s.heap.objs.size + 1) its) es) false its its).toArray
        have hl2 : ys.length ≤ sizeLine := by
          rw [(paired_rp v2).length]
          unfold srtD
          rw [isrt_len]
          exact line_le h3
        exact ⟨.ref _, upd H (s.heap.objs.size + 1) (.lst ys), I.laid (t' := s.toks) (fun _ _ => PyProof.Rows.sortedAll_old) (Nat.le_succ _) ⟨hl2, _, ep, v1, he'⟩, rfl, c.lst W (paired_rp v2) _ (I.hok.fresh (Nat.le_succ _))⟩
    · cases hz
  · cases hz
end
end Fo
namespace Fo
open PySem PySem.Spec PyProof.Rows L2
section
variable {K : PySem.W.Frag} {tabs : List Addr} {δ : Option Addr} {O : Addr → Prop} {ρ : Rho} {σ : L2.St} {H : Hp}
/-! ### slots stored, forgotten -/
theorem Slots.set (S : Slots K δ O ρ σ H) (i : Nat) {v : V} {d : PyData} (r : Rp K (mask O H) v d) : Slots K δ O (ρ.set i (some (.va d))) (σ.set i (some v)) H := by
  refine ⟨fun j en h => ?_, fun j l d' e v' hne h1 h2 h3 => ?_, by rw [List.length_set, List.length_set, S.len]⟩
  · by_cases hj : i = j
    · subst hj
      by_cases hl : i < ρ.length
      · rw [List.getElem?_set_self hl] at h
        cases h
        exact ⟨v, List.getElem?_set_self (by rw [← S.len]; exact hl), r⟩
      · rw [List.getElem?_eq_none (by rw [List.length_set]; omega)] at h
        cases h
    · rw [List.getElem?_set_ne hj] at h
      obtain ⟨u, q1, q2⟩ := S.at_ j en h
      exact ⟨u, by rw [List.getElem?_set_ne hj]; exact q1, q2⟩
  · have ne : ∀ j d', (ρ.set i (some (En.va d)))[j]? = some (some (.ow d')) → i ≠ j ∧ ρ[j]? = some (some (.ow d')) := fun j d' h => by
      by_cases hj : i = j
      · subst hj
        by_cases hl : i < ρ.length
        · rw [List.getElem?_set_self hl] at h
          cases h
        · rw [List.getElem?_eq_none (by rw [List.length_set]; omega)] at h
          cases h
      · rw [List.getElem?_set_ne hj] at h
        exact ⟨hj, h⟩
    obtain ⟨n1, k1⟩ := ne j d' h1
    obtain ⟨n2, k2⟩ := ne l e h2
    rw [List.getElem?_set_ne n1] at h3
    rw [List.getElem?_set_ne n2]
    exact S.inj j l d' e v' hne k1 k2 h3
def wipeR (ρ : Rho) : List Nat → Rho
  | [] => ρ
  | v :: vs => (wipeR ρ vs).set v none
theorem Slots.forget (S : Slots K δ O ρ σ H) (i : Nat) : Slots K δ O (ρ.set i none) (σ.set i none) H := by
  have ne : ∀ j en, (ρ.set i none)[j]? = some (some en) → i ≠ j ∧ ρ[j]? = some (some en) := fun j en h => by
    by_cases hj : i = j
    · subst hj
      by_cases hl : i < ρ.length
      · rw [List.getElem?_set_self hl] at h
        cases h
      · rw [List.getElem?_eq_none (by rw [List.length_set]; omega)] at h
        cases h
    · rw [List.getElem?_set_ne hj] at h
      exact ⟨hj, h⟩
  refine ⟨fun j en h => ?_, fun j l d' e v' hne h1 h2 h3 => ?_, by rw [List.length_set, List.length_set, S.len]⟩
  · obtain ⟨n, k⟩ := ne j en h
    obtain ⟨u, q1, q2⟩ := S.at_ j en k
    exact ⟨u, by rw [List.getElem?_set_ne n]; exact q1, q2⟩
  · obtain ⟨n1, k1⟩ := ne j _ h1
    obtain ⟨n2, k2⟩ := ne l _ h2
    rw [List.getElem?_set_ne n1] at h3
    rw [List.getElem?_set_ne n2]
    exact S.inj j l d' e v' hne k1 k2 h3
theorem Slots.wipe (S : Slots K δ O ρ σ H) : ∀ vs : List Nat, Slots K δ O (wipeR ρ vs) (L2.wipe σ vs) H
  | [] => S
  | v :: vs => (Slots.wipe S vs).forget v
/-- a new object is owned -/
theorem Slots.newOwn (S : Slots K δ O ρ σ H) {p : Addr} {o : HO} (hp : H p = none) : Slots K δ (plus O p) ρ σ (L2.upd H p o) := by
  refine ⟨fun i en h => ?_, S.inj, S.len⟩
  obtain ⟨v, q1, q2⟩ := S.at_ i en h
  refine ⟨v, q1, ?_⟩
  have rd : Rds (mask O H) (mask (plus O p) (L2.upd H p o)) := rds_newOwn hp
  cases en with
  | va d => exact Rp.mono rd q2
  | dr => exact q2
  | ow d =>
    cases d with
    | list ds =>
      obtain ⟨a, xs, e, o, n, k1, k2⟩ := q2
      exact ⟨a, xs, e, .inl o, n, by rw [upd_ne (ne_of_none k1 hp)]; exact k1, k2.mono rd⟩
    | dict kvs =>
      obtain ⟨a, e, o, n, q⟩ := q2
      refine ⟨a, e, .inl o, n, ?_⟩
      rcases q with ⟨ks, xs, ds, k1, k2, k3, k4⟩ | ⟨ks, xs, ds, k1, k2, k3, k4⟩
      · exact .inl ⟨ks, xs, ds, by rw [upd_ne (ne_of_none k1 hp)]; exact k1, k2, k3.mono rd, k4⟩
      · exact .inr ⟨ks, xs, ds, by rw [upd_ne (ne_of_none k1 hp)]; exact k1, k2, k3.mono rd, k4⟩
    | _ => exact q2
/-- an owned object that is no slot's is changed -/
theorem Slots.upd (S : Slots K δ O ρ σ H) {p : Addr} {o : HO} (hp : O p) (hd : δ ≠ some p) (hn : ∀ (i : Nat) (d : PyData), ρ[i]? = some (some (.ow d)) → σ[i]? ≠ some (some (.ref p))) : Slots K δ O ρ σ (L2.upd H p o) := by
  refine ⟨fun i en h => ?_, S.inj, S.len⟩
  obtain ⟨v, q1, q2⟩ := S.at_ i en h
  refine ⟨v, q1, ?_⟩
  have rd : Rds (mask O H) (mask O (L2.upd H p o)) := rds_upd hp
  cases en with
  | va d => exact Rp.mono rd q2
  | dr => exact q2
  | ow d =>
    have hne : ∀ a, v = .ref a → a ≠ p := fun a e z => hn i d h (by rw [q1, e, z])
    cases d with
    | list ds =>
      obtain ⟨a, xs, e, o, n, k1, k2⟩ := q2
      exact ⟨a, xs, e, o, n, by rw [upd_ne (hne a e)]; exact k1, k2.mono rd⟩
    | dict kvs =>
      obtain ⟨a, e, o, n, q⟩ := q2
      refine ⟨a, e, o, n, ?_⟩
      rcases q with ⟨ks, xs, ds, k1, k2, k3, k4⟩ | ⟨ks, xs, ds, k1, k2, k3, k4⟩
      · exact .inl ⟨ks, xs, ds, by rw [upd_ne (hne a e)]; exact k1, k2, k3.mono rd, k4⟩
      · exact .inr ⟨ks, xs, ds, by rw [upd_ne (hne a e)]; exact k1, k2, k3.mono rd, k4⟩
    | _ => exact q2
theorem WOk.upd {st : Dr} (W : WOk K tabs δ O st H) {p : Addr} {o : HO} (hp : O p) (hd : δ ≠ some p) (hm : Mut (H p)) : WOk K tabs δ O st (L2.upd H p o) := by
  have ntbl : ∀ b ps, H b = some (.tbl ps) → b ≠ p := fun b ps h z => by subst z; rw [h] at hm; exact hm
  refine ⟨fun P hP => ?_, fun a ha => ?_, fun a ha z => ?_⟩
  · obtain ⟨ps, e, t⟩ := W.tab P hP
    exact ⟨ps, by rw [upd_ne (ntbl _ _ e)]; exact e, t⟩
  · obtain ⟨h1, sa, e, hs⟩ := W.dr a ha
    have hap : a ≠ p := fun z => hd (by rw [ha, z])
    exact ⟨h1, sa, by rw [upd_ne hap]; exact e, (rds_upd hp).seqL hs⟩
  · by_cases h : a = p
    · subst h; rw [upd_same] at z; cases z
    · rw [upd_ne h] at z; exact W.own a ha z
end
end Fo
namespace Fo
open PySem PySem.Spec PyProof.Rows L2
structure Lat2 (δ : Option Addr) (O : Addr → Prop) (H : Hp) (O2 : Addr → Prop) (H2 : Hp) : Prop where
  ext : Ext δ H H2
  up : ∀ a, O a → O2 a
  dn : ∀ a, O2 a → O a ∨ H a = none
section
variable {K : PySem.W.Frag} {tabs : List Addr} {δ : Option Addr} {O O2 O3 : Addr → Prop} {ρ : Rho} {σ : L2.St} {H H2 H3 : Hp} {st : Dr}
theorem Lat2.refl : Lat2 δ O H O H := ⟨Ext.refl _ _, fun _ h => h, fun _ h => .inl h⟩
theorem Lat2.trans (a : Lat2 δ O H O2 H2) (b : Lat2 δ O2 H2 O3 H3) : Lat2 δ O H O3 H3 :=
  ⟨a.ext.trans b.ext, fun x h => b.up x (a.up x h), fun x h => (b.dn x h).elim (a.dn x) fun q => .inr (a.ext.dom x q)⟩
theorem Lat2.of (e : Ext δ H H2) : Lat2 δ O H O H2 := ⟨e, fun _ h => h, fun _ h => .inl h⟩
theorem Lat2.rds (a : Lat2 δ O H O2 H2) (hd : ∀ a, δ = some a → O a) : Rds (mask O H) (mask O2 H2) :=
  ⟨fun b o e t => by
    obtain ⟨h1, h2⟩ := mask_some.mp e
    refine mask_some.mpr ⟨fun z => ?_, a.ext.keep b o h2 (fun z => h1 (hd b z.symm)) t⟩
    rcases a.dn b z with q | q
    · exact h1 q
    · rw [q] at h2; cases h2⟩
theorem Lat2.newOwn {p : Addr} {o : HO} (h : H p = none) : Lat2 δ O H (plus O p) (L2.upd H p o) := ⟨Ext.new h, fun _ h => .inl h, fun a q => q.elim .inl fun z => .inr (z ▸ h)⟩
/-- what is younger is changed -/
theorem Lat2.upd (a : Lat2 δ O H O2 H2) {p : Addr} {o : HO} (h : H p = none) (h2 : H2 p ≠ none) : Lat2 δ O H O2 (L2.upd H2 p o) :=
  ⟨⟨fun b u e hd t => by
    rw [upd_ne (ne_of_none e h)]
    exact a.ext.keep b u e hd t, fun b ps e => by
    rw [upd_ne (ne_of_none e h)]
    exact a.ext.tbl b ps e, fun b e => by
    by_cases hb : b = p
    · subst hb; exact h
    · rw [upd_ne hb] at e; exact a.ext.dom b e⟩, a.up, a.dn⟩
/-! ### targets -/
inductive Tg where
  | nm (i : Nat)
  | tp (is : List Nat)
def Tg.slots : Tg → List Nat
  | .nm i => [i]
  | .tp is => is
def setAll (ρ : Rho) : List Nat → List PyData → Rho
  | i :: is, d :: ds => setAll (ρ.set i (some (.va d))) is ds
  | _, _ => ρ
def storeT (t : Tg) (d : PyData) (ρ : Rho) : Option Rho := match t with
  | .nm i => some (ρ.set i (some (.va d)))
  | .tp is => match d with
    | .tuple ds => if ds.length = is.length then some (setAll ρ is ds) else none
    | _ => none
def RdG (K : PySem.W.Frag) (t : Tg) : TG := fun v σ H Q => ∃ δ O ρ d ρ', Slots K δ O ρ σ H ∧ Rp K (mask O H) v d ∧ storeT t d ρ = some ρ' ∧ ∀ σ', Slots K δ O ρ' σ' H → (∀ j, j ∉ t.slots → σ'[j]? = σ[j]?) → Q σ' H
theorem PG.imp {X : Cx} {e : Expr} {t t' : TG} (h : PG X e t) (i : ∀ v σ H Q, t' v σ H Q → t v σ H Q) : PG X e t' := ⟨fun pins s σ H v u Q I r q => h.run pins s σ H v u Q I r (i v σ H Q q)⟩
theorem PGs.imp {X : Cx} {e : List Expr} {t t' : TGs} (h : PGs X e t) (i : ∀ v σ H Q, t' v σ H Q → t v σ H Q) : PGs X e t' := ⟨fun pins s σ H v u Q I r q => h.run pins s σ H v u Q I r (i v σ H Q q)⟩
/-- the name e is slot i -/
structure NmOk (X : Cx) (e : Expr) (i : Nat) : Prop where
  ok : ∃ x pos, e = .Name x pos ∧ X.N[i]? = some x ∧ Loc X.env.scope x ∧ (X.fn x = true ∨ X.env.scope.names.lookup x = some .local)
theorem eg_nm {X : Cx} {e : Expr} {i : Nat} (hN : X.N.Nodup) (h : NmOk X e i) : PG X e (RdG X.K (.nm i)) := by
  obtain ⟨x, pos, rfl, hi, hx, hf⟩ := h.ok
  refine PG.imp (pg_name hN hi hx hf) fun v σ H Q ⟨δ, O, ρ, d, ρ', S, r, e, c⟩ => ?_
  cases e
  exact c _ (S.set i r) fun j hj => List.getElem?_set_ne (fun z => hj (by simp [Tg.slots, z]))
def RdGs (K : PySem.W.Frag) (is : List Nat) : TGs := fun vs σ H Q => ∃ δ O ρ ds, Slots K δ O ρ σ H ∧ RpAll K (mask O H) vs ds ∧ ds.length = is.length ∧ ∀ σ', Slots K δ O (setAll ρ is ds) σ' H → (∀ j, j ∉ is → σ'[j]? = σ[j]?) → Q σ' H
theorem each_nm {x : PySem.Str} {pos : Pos} {es : List Expr} {env : Env} : assignEach (.Name x pos :: es) env = (false, assign (.Name x pos) env) :: assignEach es env := rfl
theorem eg_nms {X : Cx} (hN : X.N.Nodup) : ∀ {es : List Expr} {is : List Nat}, Paired (NmOk X) es is → PGs X es (RdGs X.K is)
  | _, _, .nil => PGs.imp pgs_nil fun vs σ H Q ⟨δ, O, ρ, ds, S, r, l, c⟩ => by
    cases ds with
    | nil =>
      cases r
      exact ⟨rfl, c σ S fun _ _ => rfl⟩
    | cons d ds => simp at l
  | e :: es, i :: is, .cons h t => by
    obtain ⟨x, pos, rfl, hi, hx, hf⟩ := h.ok
    refine PGs.imp (pgs_cons (pg_name hN hi hx hf) (eg_nms hN t) rfl) fun vs σ H Q ⟨δ, O, ρ, ds, S, r, l, c⟩ => ?_
    cases ds with
    | nil => simp at l
    | cons d ds =>
      cases r with
      | cons r1 r2 =>
        refine ⟨_, _, rfl, δ, O, ρ.set i (some (.va d)), ds, S.set i r1, r2, by simpa using l, fun σ' S' k => c σ' S' fun j hj => ?_⟩
        rw [List.mem_cons, not_or] at hj
        rw [k j hj.2, List.getElem?_set_ne (fun z => hj.1 z.symm)]
theorem nms_plain {X : Cx} : ∀ {es : List Expr} {is : List Nat}, Paired (NmOk X) es is → (assignEach es X.env).length = is.length ∧ (assignEach es X.env).findIdx? (·.1) = none
  | _, _, .nil => ⟨rfl, rfl⟩
  | e :: es, i :: is, .cons h t => by
    obtain ⟨x, pos, rfl, _⟩ := h.ok
    obtain ⟨h1, h2⟩ := nms_plain t
    rw [each_nm]
    refine ⟨by rw [List.length_cons, List.length_cons, h1], ?_⟩
    rw [List.findIdx?_cons, h2]
    rfl
theorem eg_tp {X : Cx} {es : List Expr} {is : List Nat} {k : Nat} {pos : Pos} (hc : X.calm = true) (hN : X.N.Nodup) (h : Paired (NmOk X) es is) : PG X (.Tuple es k pos) (RdG X.K (.tp is)) := by
  obtain ⟨h1, h2⟩ := nms_plain h
  refine PG.imp (pg_tup (n := is.length) hc (eg_nms hN h) h1 h2) fun v σ H Q ⟨δ, O, ρ, d, ρ', S, r, e, c⟩ => ?_
  unfold storeT at e
  cases d with
  | tuple ds =>
    simp only at e
    split at e
    · rename_i hl
      cases e
      cases r with
      | tup q1 q2 => exact ⟨_, _, rfl, SqT.of (mask_some.mp q1).2, by rw [q2.length, hl], δ, O, ρ, ds, S, q2, hl, c⟩
    · cases e
  | _ => cases e
/-! ### what is walked -/
def ItOk (K : PySem.W.Frag) (tabs : List Addr) (δ : Option Addr) (L : (Addr → Prop) → Hp → Prop) (J : It) (items : List PyData) : Prop := ∀ (O2 : Addr → Prop) (st2 : Dr) (H2 : Hp), WOk K tabs δ O2 st2 H2 → L O2 H2 → ∀ i,
  (i < items.length → J.go i H2 ∧ ∀ x H3, J.yld i H2 x H3 → Ext δ H2 H3 ∧ WOk K tabs δ O2 st2 H3 ∧ ∃ d, items[i]? = some d ∧ Rp K (mask O2 H3) x d) ∧ (items.length ≤ i → J.stop i H2)
def RdI (K : PySem.W.Frag) (tabs : List Addr) (m : SemL) : TI := fun σ H R => ∃ δ O ρ st items st', Slots K δ O ρ σ H ∧ WOk K tabs δ O st H ∧ m ρ st = some (items, st') ∧
  ∀ J H1, Ext δ H H1 → WOk K tabs δ O st' H1 → ItOk K tabs δ (fun O2 H2 => Rds (mask O H1) (mask O2 H2)) J items → R J H1
def RdIt (K : PySem.W.Frag) (tabs : List Addr) (m : SemL) : TI := fun σ H R => ∃ δ O ρ st items st', Slots K δ O ρ σ H ∧ WOk K tabs δ O st H ∧ m ρ st = some (items, st') ∧
  ∀ J H1, Ext δ H H1 → WOk K tabs δ O st' H1 → ItOk K tabs δ (fun O2 H2 => Lat2 δ O H1 O2 H2) J items → R J H1
theorem PI.imp {X : Cx} {tg e : Expr} {t t' : TI} (h : PI X tg e t) (i : ∀ σ H R, t' σ H R → t σ H R) : PI X tg e t' := ⟨fun pins s σ H R I q => h.run pins s σ H R I (i σ H R q)⟩
theorem ei_T {X : Cx} {tg e : Expr} {m : SemL} (h : PI X tg e (RdI X.K tabs m)) : PI X tg e (RdIt X.K tabs m) := PI.imp h fun σ H R ⟨δ, O, ρ, st, items, st', S, W, e, c⟩ =>
  ⟨δ, O, ρ, st, items, st', S, W, e, fun J H1 E1 W1 h => c J H1 E1 W1 fun O2 st2 H2 W2 L => h O2 st2 H2 W2 (L.rds W1.dl)⟩
theorem it_list {L : (Addr → Prop) → Hp → Prop} {a : Addr} {items : List PyData} (h : ∀ O2 H2, L O2 H2 → ∃ xs, H2 a = some (.lst xs) ∧ RpAll K (mask O2 H2) xs items) : ItOk K tabs δ L (Itl K a) items := by
  intro O2 st2 H2 W2 hL i
  obtain ⟨xs, h1, h2⟩ := h O2 H2 hL
  refine ⟨fun hi => ⟨?_, fun x H3 hy => ?_⟩, fun hi => ⟨xs, SqL.of h1, by rw [h2.length]; exact hi⟩⟩
  · obtain ⟨v, k1, k2⟩ := h2.get (List.getElem?_eq_getElem hi)
    exact ⟨xs, v, SqL.of h1, k1⟩
  · obtain ⟨rfl, hy⟩ := hy
    obtain ⟨v, k1, k2⟩ := h2.get (List.getElem?_eq_getElem hi)
    have := hy xs (SqL.of h1)
    rw [k1] at this
    cases this
    exact ⟨Ext.refl _ _, W2, _, List.getElem?_eq_getElem hi, k2⟩
theorem it_tup {L : (Addr → Prop) → Hp → Prop} {a : Addr} {items : List PyData} (h : ∀ O2 H2, L O2 H2 → ∃ xs, H2 a = some (.tup xs) ∧ RpAll K (mask O2 H2) xs items) : ItOk K tabs δ L (Itt K a) items := by
  intro O2 st2 H2 W2 hL i
  obtain ⟨xs, h1, h2⟩ := h O2 H2 hL
  refine ⟨fun hi => ⟨?_, fun x H3 hy => ?_⟩, fun hi => ⟨xs, SqT.of h1, by rw [h2.length]; exact hi⟩⟩
  · obtain ⟨v, k1, k2⟩ := h2.get (List.getElem?_eq_getElem hi)
    exact ⟨xs, v, SqT.of h1, k1⟩
  · obtain ⟨rfl, hy⟩ := hy
    obtain ⟨v, k1, k2⟩ := h2.get (List.getElem?_eq_getElem hi)
    have := hy xs (SqT.of h1)
    rw [k1] at this
    cases this
    exact ⟨Ext.refl _ _, W2, _, List.getElem?_eq_getElem hi, k2⟩
def itemsR (m : Sem1) : SemL := fun ρ => do let v ← m ρ; up (itemsO v)
theorem ei_val {X : Cx} {tg e : Expr} {m : Sem1} (he : PE X e (Rd1 X.K tabs m)) : PI X tg e (RdI X.K tabs (itemsR m)) :=
  ⟨fun pins s σ H R I ⟨δ, O, ρ, st, items, st', S, W, e, c⟩ => by
    obtain ⟨v, st1, e1, f1⟩ := bnd_some e
    obtain ⟨g, rfl⟩ := up_some f1
    unfold itemsO at g
    split at g
    · cases g
      refine (pi_list he).run pins s σ H R I ⟨δ, O, ρ, st, _, _, S, W, e1, fun w H1 E1 W1 R1 => ?_⟩
      cases R1 with
      | lst h1 h2 =>
        refine ⟨_, rfl, ⟨_, SqL.of (mask_some.mp h1).2⟩, c _ _ E1 W1 (it_list fun O2 H2 L => ?_)⟩
        exact ⟨_, (mask_some.mp (L.keep _ _ h1 fun ps z => nomatch z)).2, h2.mono L⟩
    · cases g
      refine (pi_tup he).run pins s σ H R I ⟨δ, O, ρ, st, _, _, S, W, e1, fun w H1 E1 W1 R1 => ?_⟩
      cases R1 with
      | tup h1 h2 =>
        refine ⟨_, rfl, ⟨_, SqT.of (mask_some.mp h1).2⟩, c _ _ E1 W1 (it_tup fun O2 H2 L => ?_)⟩
        exact ⟨_, (mask_some.mp (L.keep _ _ h1 fun ps z => nomatch z)).2, h2.mono L⟩
    · cases g⟩
theorem ei_valT {X : Cx} {tg e : Expr} {m : Sem1} (he : PE X e (RdT X.K tabs m)) : PI X tg e (RdIt X.K tabs (itemsR m)) :=
  ⟨fun pins s σ H R I ⟨δ, O, ρ, st, items, st', S, W, e, c⟩ => by
    obtain ⟨v, st1, e1, f1⟩ := bnd_some e
    obtain ⟨g, rfl⟩ := up_some f1
    unfold itemsO at g
    split at g
    · cases g
      refine (pi_list he).run pins s σ H R I ⟨δ, O, ρ, st, _, _, S, W, e1, fun w H1 E1 W1 R1 => ?_⟩
      rcases R1 with R1 | ⟨a, xs, rfl, oa, na, h1, h2⟩
      · cases R1 with
        | lst h1 h2 =>
          refine ⟨_, rfl, ⟨_, SqL.of (mask_some.mp h1).2⟩, c _ _ E1 W1 (it_list fun O2 H2 L => ?_)⟩
          have L' := L.rds W1.dl
          exact ⟨_, (mask_some.mp (L'.keep _ _ h1 fun ps z => nomatch z)).2, h2.mono L'⟩
      · refine ⟨_, rfl, ⟨_, SqL.of h1⟩, c _ _ E1 W1 (it_list fun O2 H2 L => ?_)⟩
        exact ⟨_, L.ext.keep _ _ h1 (fun z => na z.symm) (fun ps z => nomatch z), h2.mono (L.rds W1.dl)⟩
    · cases g
      refine (pi_tup he).run pins s σ H R I ⟨δ, O, ρ, st, _, _, S, W, e1, fun w H1 E1 W1 R1 => ?_⟩
      rcases R1 with R1 | R1
      · cases R1 with
        | tup h1 h2 =>
          refine ⟨_, rfl, ⟨_, SqT.of (mask_some.mp h1).2⟩, c _ _ E1 W1 (it_tup fun O2 H2 L => ?_)⟩
          have L' := L.rds W1.dl
          exact ⟨_, (mask_some.mp (L'.keep _ _ h1 fun ps z => nomatch z)).2, h2.mono L'⟩
      · exact R1.elim
    · cases g⟩
/-! ### ranges -/
def rngD (lo c : Int) (n : Nat) : List PyData := (List.range n).map fun k : Nat => .int (lo + c * (k : Int))
def small62 (i : Int) : Bool := decide (-(2 ^ 62) ≤ i ∧ i < 2 ^ 62)
def rangeO : List PyData → Option (List PyData)
  | [.int j] => if small62 j = true then some (rngD 0 1 j.toNat) else none
  | [.int i, .int j] => if (small62 i && small62 j) = true then some (rngD i 1 (j - i).toNat) else none
  | _ => none
theorem it_rng {L : (Addr → Prop) → Hp → Prop} {lo : Int} {n : Nat} : ItOk K tabs δ L (Itr lo n) (rngD lo 1 n) := by
  intro O2 st2 H2 W2 hL i
  have hl : (rngD lo 1 n).length = n := by simp [rngD]
  refine ⟨fun hi => ⟨by rw [hl] at hi; exact hi, fun x H3 ⟨h1, h2⟩ => ?_⟩, fun hi => by rw [hl] at hi; exact hi⟩
  subst h1 h2
  rw [hl] at hi
  refine ⟨Ext.refl _ _, W2, .int (lo + i), ?_, .int _⟩
  unfold rngD
  rw [List.getElem?_map, List.getElem?_range hi]
  simp
def rngR (r : SemL) : SemL := fun ρ => do let ds ← r ρ; up (rangeO ds)
theorem plain1 {a : Expr} {env : Env} (h : [a].all plain = true) : starEach [a] env = [(false, eval a env)] := plain_star (plain_hd h).1
theorem plain2 {a b : Expr} {env : Env} (h : [a, b].all plain = true) : starEach [a, b] env = [(false, eval a env), (false, eval b env)] := by
  rw [plain_star (plain_hd h).1, plain1 (plain_hd h).2]
theorem trps1 {δ : Option Addr} {O : Addr → Prop} {H : Hp} {ws : List V} {j : Int} (h : TRps K δ O H ws [.int j]) : ws = [.int j] := by
  cases h with
  | cons h1 h2 => cases h2; rw [h1.int]
theorem trps2 {δ : Option Addr} {O : Addr → Prop} {H : Hp} {ws : List V} {i j : Int} (h : TRps K δ O H ws [.int i, .int j]) : ws = [.int i, .int j] := by
  cases h with
  | cons h1 h2 => rw [h1.int, trps1 h2]
theorem ei_rng1 {X : Cx} {tg a : Expr} {p pos : Pos} {r : SemL} (hg : Gl X "range") (hm : X.mg "range" = none) (hp : [a].all plain = true) (ha : PA X [a] (RdLT X.K tabs r)) (hn : ∀ ρ st ds st', r ρ st = some (ds, st') → ds.length = 1) :
    PI X tg (.Call (.Name "range" p) [a] [] pos) (RdI X.K tabs (rngR r)) :=
  PI.imp (pi_range1 hg hm ha (plain1 hp)) fun σ H R ⟨δ, O, ρ, st, items, st', S, W, e, c⟩ => by
    obtain ⟨ds, st1, e1, f1⟩ := bnd_some e
    obtain ⟨g, rfl⟩ := up_some f1
    refine ⟨δ, O, ρ, st, ds, _, S, W, e1, fun ws H1 E1 W1 R1 => ?_⟩
    unfold rangeO at g
    split at g
    · split at g
      · rename_i j hs
        cases g
        have hs := of_decide_eq_true hs
        exact ⟨j, trps1 R1, hs.1, hs.2, c _ _ E1 W1 it_rng⟩
      · cases g
    · have := hn _ _ _ _ e1
      simp at this
    · cases g
theorem ei_rng2 {X : Cx} {tg a b : Expr} {p pos : Pos} {r : SemL} (hg : Gl X "range") (hm : X.mg "range" = none) (hp : [a, b].all plain = true) (ha : PA X [a, b] (RdLT X.K tabs r)) (hn : ∀ ρ st ds st', r ρ st = some (ds, st') → ds.length = 2) :
    PI X tg (.Call (.Name "range" p) [a, b] [] pos) (RdI X.K tabs (rngR r)) :=
  PI.imp (pi_range2 hg hm ha (plain2 hp) (plain1 (plain_hd hp).2)) fun σ H R ⟨δ, O, ρ, st, items, st', S, W, e, c⟩ => by
    obtain ⟨ds, st1, e1, f1⟩ := bnd_some e
    obtain ⟨g, rfl⟩ := up_some f1
    refine ⟨δ, O, ρ, st, ds, _, S, W, e1, fun ws H1 E1 W1 R1 => ?_⟩
    unfold rangeO at g
    split at g
    · have := hn _ _ _ _ e1
      simp at this
    · split at g
      · rename_i i j hs
        cases g
        rw [Bool.and_eq_true] at hs
        have h1 := of_decide_eq_true hs.1
        have h2 := of_decide_eq_true hs.2
        exact ⟨i, j, trps2 R1, ⟨h1.1, h1.2, h2.1, h2.2⟩, c _ _ E1 W1 it_rng⟩
      · cases g
    · cases g
end
end Fo
namespace Fo
open PySem PySem.Spec PyProof.Rows L2
section
variable {K : PySem.W.Frag} {tabs : List Addr} {δ : Option Addr} {O O2 : Addr → Prop} {ρ : Rho} {σ : L2.St} {H H2 : Hp} {st : Dr}
theorem Slots.lat (S : Slots K δ O ρ σ H) (L : Lat2 δ O H O2 H2) (hd : ∀ a, δ = some a → O a) : Slots K δ O2 ρ σ H2 := by
  refine ⟨fun i en h => ?_, S.inj, S.len⟩
  obtain ⟨v, q1, q2⟩ := S.at_ i en h
  refine ⟨v, q1, ?_⟩
  have rd := L.rds hd
  cases en with
  | va d => exact Rp.mono rd q2
  | dr => exact q2
  | ow d =>
    cases d with
    | list ds =>
      obtain ⟨a, xs, e, o, n, k1, k2⟩ := q2
      exact ⟨a, xs, e, L.up a o, n, L.ext.keep _ _ k1 (fun z => n z.symm) (fun ps z => nomatch z), k2.mono rd⟩
    | dict kvs =>
      obtain ⟨a, e, o, n, q⟩ := q2
      refine ⟨a, e, L.up a o, n, ?_⟩
      rcases q with ⟨ks, xs, ds, k1, k2, k3, k4⟩ | ⟨ks, xs, ds, k1, k2, k3, k4⟩
      · exact .inl ⟨ks, xs, ds, L.ext.keep _ _ k1 (fun z => n z.symm) (fun ps z => nomatch z), k2, k3.mono rd, k4⟩
      · exact .inr ⟨ks, xs, ds, L.ext.keep _ _ k1 (fun z => n z.symm) (fun ps z => nomatch z), k2, k3.mono rd, k4⟩
    | _ => exact q2
theorem setAll_len : ∀ (is : List Nat) (ds : List PyData) (ρ : Rho), (setAll ρ is ds).length = ρ.length
  | [], _, _ => rfl
  | _ :: _, [], _ => rfl
  | i :: is, d :: ds, ρ => by
    unfold setAll
    rw [setAll_len is ds, List.length_set]
theorem storeT_len {t : Tg} {d : PyData} {ρ ρ' : Rho} (h : storeT t d ρ = some ρ') : ρ'.length = ρ.length := by
  unfold storeT at h
  split at h
  · cases h; rw [List.length_set]
  · split at h
    · split at h
      · cases h; exact setAll_len _ _ _
      · cases h
    · cases h
theorem wipeR_len (ρ : Rho) : ∀ vs, (wipeR ρ vs).length = ρ.length
  | [] => rfl
  | v :: vs => by unfold wipeR; rw [List.length_set, wipeR_len ρ vs]
theorem wipe_in {σ : L2.St} {i : Nat} (hi : i < σ.length) : ∀ {vs : List Nat}, i ∈ vs → (L2.wipe σ vs)[i]? = some none
  | v :: vs, h => by
    unfold L2.wipe
    by_cases hv : v = i
    · subst hv
      rw [List.getElem?_set_self (by rw [wipe_length]; exact hi)]
    · rw [List.getElem?_set_ne hv]
      exact wipe_in hi ((List.mem_cons.mp h).elim (fun z => absurd z.symm hv) id)
theorem wipe_eq {σ σ' : L2.St} {vs : List Nat} (hl : σ'.length = σ.length) (h : ∀ j, j ∉ vs → σ'[j]? = (L2.wipe σ vs)[j]?) : L2.wipe σ' vs = L2.wipe σ vs := by
  apply List.ext_getElem?
  intro i
  by_cases hi : i ∈ vs
  · by_cases hl2 : i < σ.length
    · rw [wipe_in (by rw [hl]; exact hl2) hi, wipe_in hl2 hi]
    · rw [List.getElem?_eq_none (by rw [wipe_length]; omega), List.getElem?_eq_none (by rw [wipe_length]; omega)]
  · rw [wipe_out hi, h i hi]
/-! ### list comprehensions -/
def lcGo (tg : Tg) (tt : SemB) (te : Sem1) (ρ : Rho) : List PyData → M (List PyData)
  | [] => pure []
  | x :: xs => do
    let ρ1 ← up (storeT tg x ρ)
    let b ← tt ρ1
    if b = true then do
      let y ← te ρ1
      let ys ← lcGo tg tt te ρ xs
      pure (y :: ys)
    else lcGo tg tt te ρ xs
def lcR (it : SemL) (tg : Tg) (vs : List Nat) (tt : SemB) (te : Sem1) : Sem1 := fun ρ => do
  let items ← it ρ
  let its ← up (if items.length ≤ 1000000 then some items else none)
  let out ← lcGo tg tt te (wipeR ρ vs) its
  pure (.list out)
def yesB : SemB := fun _ => pure true
theorem ets_nil {X : Cx} : PTs X [] (RdB X.K tabs yesB) := ⟨fun pins s σ H Q I ⟨δ, O, ρ, st, b, st', S, W, e, c⟩ => by
  obtain ⟨rfl, rfl⟩ := pur_some e
  exact pts_nil.run pins s σ H Q I (c H (Ext.refl _ _) W)⟩
theorem ets_one {X : Cx} {c : Expr} {m : SemB} (h : PT X c (RdB X.K tabs m)) : PTs X [c] (RdB X.K tabs m) := pts_one h
/-- what a comprehension makes: the new list at D -/
def RdC (K : PySem.W.Frag) (tabs : List Addr) (m : Sem1) : TE := fun σ H Q => ∃ δ O ρ st z st', Slots K δ O ρ σ H ∧ WOk K tabs δ O st H ∧ m ρ st = some (z, st') ∧
  ∀ D H2 vs out, z = .list out → H D = none → Lat2 δ O H (plus O D) H2 → WOk K tabs δ (plus O D) st' H2 → H2 D = some (.lst vs) → RpAll K (mask (plus O D) H2) vs out → Q (.ref D) H2
theorem rdC_1 {m : Sem1} {Q : VK} (h : Rd1 K tabs m σ H Q) : RdC K tabs m σ H Q := by
  obtain ⟨δ, O, ρ, st, z, st', S, W, e, c⟩ := h
  refine ⟨δ, O, ρ, st, z, st', S, W, e, fun D H2 vs out ez hD L W2 hv hr => ?_⟩
  subst ez
  exact c _ H2 L.ext (W2.less W.dl fun a h => .inl h) (.lst (mask_some.mpr ⟨W.fresh hD, hv⟩) (hr.mono (rds_less fun a h => .inl h)))
theorem lc_to {it : SemL} {tg : Tg} {own : List (PySem.Str × Nat)} {tt : SemB} {te : Sem1} (hsub : ∀ j ∈ tg.slots, j ∈ own.map (·.2)) {Q : VK} (h : RdC K tabs (lcR it tg (own.map (·.2)) tt te) σ H Q) :
    tLc (RdIt K tabs it) (RdG K tg) (RdB K tabs tt) (Rd1 K tabs te) (own.map (·.2)) σ H Q := by
    obtain ⟨δ, O, ρ, st, z, st', S, W, e, c⟩ := h
    obtain ⟨items, st1, e1, f1⟩ := bnd_some e
    obtain ⟨its, st1', g1, f2⟩ := bnd_some f1
    obtain ⟨g1, rfl⟩ := up_some g1
    obtain ⟨out, st2, e3, f3⟩ := bnd_some f2
    obtain ⟨rfl, rfl⟩ := pur_some f3
    split at g1
    · rename_i hlen
      cases g1
      refine ⟨δ, O, ρ, st, items, _, S, W, e1, fun J H1 E1 W1 hJ D hD => ?_⟩
      have S1 := S.ext E1 W.dl
      have hδD : δ ≠ some D := fun z => by
        have := W1.own D (W1.dl D z)
        exact this hD
      have nOD : ¬ O D := fun z => W1.own D z hD
      refine ⟨fun i m H2 => ∃ stj acc rest vs, m = items.length - i ∧ WOk K tabs δ (plus O D) stj H2 ∧ Lat2 δ O H1 (plus O D) H2 ∧ H2 D = some (.lst vs) ∧ RpAll K (mask (plus O D) H2) vs acc ∧ acc.length ≤ i ∧
        lcGo tg tt te (wipeR ρ (own.map (·.2))) (items.drop i) stj = some (rest, st') ∧ acc ++ rest = out, ⟨items.length, _, [], out, [], by simp, W1.newOwn hD, Lat2.newOwn hD, upd_same, .nil, Nat.le_refl _, by simpa using e3, rfl⟩, ?_⟩
      rintro i m H2 ⟨stj, acc, rest, vs, rfl, W2, L2, hv, hr, hal, hgo, hout⟩
      have hstep := hJ (plus O D) stj H2 W2 L2 i
      by_cases hi : i < items.length
      · refine .inr ⟨(hstep.1 hi).1, fun H' => ∃ stj acc rest vs, WOk K tabs δ (plus O D) stj H' ∧ Lat2 δ O H1 (plus O D) H' ∧ H' D = some (.lst vs) ∧ RpAll K (mask (plus O D) H') vs acc ∧ acc.length ≤ i + 1 ∧
          lcGo tg tt te (wipeR ρ (own.map (·.2))) (items.drop (i + 1)) stj = some (rest, st') ∧ acc ++ rest = out, ?_, ?_⟩
        · rintro H' ⟨stj', acc', rest', vs', q1, q2, q3, q4, q5, q6, q7⟩
          exact ⟨items.length - (i + 1), by omega, stj', acc', rest', vs', rfl, q1, q2, q3, q4, q5, q6, q7⟩
        · intro x H3 hy
          obtain ⟨E3, W3, d, hd, r3⟩ := (hstep.1 hi).2 x H3 hy
          have hdrop : items.drop i = d :: items.drop (i + 1) := by
            rw [List.drop_eq_getElem_cons hi]
            rw [List.getElem?_eq_getElem hi] at hd
            cases hd
            rfl
          rw [hdrop] at hgo
          obtain ⟨ρ1, sta, ga, ha⟩ := bnd_some hgo
          obtain ⟨ga2, rfl⟩ := up_some ga
          obtain ⟨b, stb, gb, hb⟩ := bnd_some ha
          have L3 := L2.trans (Lat2.of E3)
          have S3 : Slots K δ (plus O D) (wipeR ρ (own.map (·.2))) (_root_.L2.wipe σ (own.map (·.2))) H3 := ((S1.lat L3 W1.dl).wipe _)
          refine ⟨δ, plus O D, _, d, ρ1, S3, r3, ga2, fun σ' S' hk => ⟨wipe_eq ?_ fun j hj => hk j fun z => hj (hsub j z), ?_⟩⟩
          · rw [← S'.len, storeT_len ga2, wipeR_len, S.len]
          refine ⟨δ, plus O D, ρ1, _, b, stb, S', W3, gb, fun H4 E4 W4 => ?_⟩
          have L4 := L3.trans (Lat2.of E4)
          have hv4 : H4 D = some (.lst vs) := E4.keep _ _ (E3.keep _ _ hv (fun z => hδD z.symm) (fun ps z => nomatch z)) (fun z => hδD z.symm) (fun ps z => nomatch z)
          have hr4 : RpAll K (mask (plus O D) H4) vs acc := (hr.mono (rds_ext E3 W2.dl)).mono (rds_ext E4 W3.dl)
          cases b with
          | false =>
            refine iteF ⟨stb, acc, rest, vs, W4, L4, hv4, hr4, by omega, by simpa using hb, hout⟩
          | true =>
            refine iteT ?_
            obtain ⟨y, stc, gc, hc'⟩ := bnd_some (show ((te ρ1) >>= fun y => (lcGo tg tt te (wipeR ρ (own.map (·.2))) (items.drop (i + 1))) >>= fun ys => (pure (y :: ys) : M (List PyData))) stb = some (rest, st') by simpa using hb)
            obtain ⟨ys, std, gd, hd'⟩ := bnd_some hc'
            obtain ⟨rfl, rfl⟩ := pur_some hd'
            refine ⟨δ, plus O D, ρ1, stb, y, stc, S'.ext E4 W3.dl, W4, gc, fun w H5 E5 W5 R5 => ?_⟩
            have hv5 : H5 D = some (.lst vs) := E5.keep _ _ hv4 (fun z => hδD z.symm) (fun ps z => nomatch z)
            have hr5 : RpAll K (mask (plus O D) H5) vs acc := hr4.mono (rds_ext E5 W4.dl)
            have hvl := hr5.length
            refine ⟨vs, hv5, ?_, stc, acc ++ [y], ys, vs ++ [w], W5.upd (.inr rfl) hδD (by rw [hv5]; trivial), ?_, upd_same, ?_, by rw [List.length_append, List.length_singleton]; omega, gd, by rw [List.append_assoc]; exact hout⟩
            · have : vs.length ≤ 1000000 - 1 := by omega
              exact Nat.lt_of_le_of_lt this (by rw [sizeLine_eq]; decide)
            · exact (L4.trans (Lat2.of E5)).upd hD (by rw [hv5]; exact fun z => nomatch z)
            · exact (hr5.mono (rds_upd (.inr rfl))).append (.cons (R5.mono (rds_upd (.inr rfl))) .nil)
      · refine .inl ⟨hstep.2 (by omega), ?_⟩
        rw [List.drop_of_length_le (by omega)] at hgo
        obtain ⟨rfl, rfl⟩ := pur_some hgo
        rw [List.append_nil] at hout
        subst hout
        exact c D H2 vs _ rfl (E1.dom D hD) ((Lat2.of E1).trans L2) W2 hv hr
    · cases g1
theorem ex_lc {X : Cx} {elt tgE iter : Expr} {ifs : List Expr} {scope : Scope} {own : List (PySem.Str × Nat)} {pos : Pos} {it : SemL} {tg : Tg} {tt : SemB} {te : Sem1} (hc : X.calm = true) (hN : X.N.Nodup) (hi : PI X tgE iter (RdIt X.K tabs it)) (ok : BlkOk X.N X.env.scope scope own)
    (hg : ∀ (s : Shared) (H : Hp) (C : Addr) (cl : List (PySem.Str × Addr)) (fp : List Addr), PG (X.blk s H scope (compEnvC scope cl C X.env) fp) tgE (RdG X.K tg))
    (ht : ∀ (s : Shared) (H : Hp) (C : Addr) (cl : List (PySem.Str × Addr)) (fp : List Addr), PTs (X.blk s H scope (compEnvC scope cl C X.env) fp) ifs (RdB X.K tabs tt))
    (he : ∀ (s : Shared) (H : Hp) (C : Addr) (cl : List (PySem.Str × Addr)) (fp : List Addr), PE (X.blk s H scope (compEnvC scope cl C X.env) fp) elt (Rd1 X.K tabs te)) (hs : ∀ x, foldedSetIterable iter X.env x = pure x)
    (hsub : ∀ j ∈ tg.slots, j ∈ own.map (·.2)) : PE X (.ListComp elt [⟨tgE, iter, ifs, 0⟩] scope pos) (Rd1 X.K tabs (lcR it tg (own.map (·.2)) tt te)) :=
  PE.imp (pe_lc hc hN hi ok hg ht he hs) fun σ H Q h => lc_to hsub (rdC_1 h)
end
end Fo
namespace Fo
open PySem PySem.Spec PyProof.Rows L2
section
variable {K : PySem.W.Frag} {tabs : List Addr} {δ : Option Addr} {O O2 O3 : Addr → Prop} {ρ : Rho} {σ : L2.St} {H H2 H3 : Hp} {st : Dr}
/-! ### entries -/
theorem Slot1.lat (L : Lat2 δ O H O2 H2) (hd : ∀ a, δ = some a → O a) {v : V} {en : En} (h : Slot1 K δ O H v en) : Slot1 K δ O2 H2 v en := by
  have rd := L.rds hd
  cases en with
  | va d => exact Rp.mono rd h
  | dr => exact h
  | ow d =>
    cases d with
    | list ds =>
      obtain ⟨a, xs, e, o, n, k1, k2⟩ := h
      exact ⟨a, xs, e, L.up a o, n, L.ext.keep _ _ k1 (fun z => n z.symm) (fun ps z => nomatch z), k2.mono rd⟩
    | dict kvs =>
      obtain ⟨a, e, o, n, q⟩ := h
      refine ⟨a, e, L.up a o, n, ?_⟩
      rcases q with ⟨ks, xs, ds, k1, k2, k3, k4⟩ | ⟨ks, xs, ds, k1, k2, k3, k4⟩
      · exact .inl ⟨ks, xs, ds, L.ext.keep _ _ k1 (fun z => n z.symm) (fun ps z => nomatch z), k2, k3.mono rd, k4⟩
      · exact .inr ⟨ks, xs, ds, L.ext.keep _ _ k1 (fun z => n z.symm) (fun ps z => nomatch z), k2, k3.mono rd, k4⟩
    | _ => exact h
theorem Slot1.owA {v : V} {d : PyData} (h : Slot1 K δ O H v (.ow d)) : ∃ a, v = .ref a ∧ O a ∧ H a ≠ none ∧ δ ≠ some a := by
  cases d with
  | list ds =>
    obtain ⟨a, xs, e, o, n, k1, k2⟩ := h
    exact ⟨a, e, o, by rw [k1]; exact fun z => (nomatch z), n⟩
  | dict kvs =>
    obtain ⟨a, e, o, n, q⟩ := h
    rcases q with ⟨_, _, _, k1, _⟩ | ⟨_, _, _, k1, _⟩
    · exact ⟨a, e, o, by rw [k1]; exact fun z => (nomatch z), n⟩
    · exact ⟨a, e, o, by rw [k1]; exact fun z => (nomatch z), n⟩
  | _ => exact h.elim
theorem get_set_some {α : Type} {l : List (Option α)} {i j : Nat} {x y : α} (h : (l.set i (some x))[j]? = some (some y)) : (i = j ∧ x = y) ∨ (i ≠ j ∧ l[j]? = some (some y)) := by
  by_cases hj : i = j
  · subst hj
    by_cases hl : i < l.length
    · rw [List.getElem?_set_self hl] at h
      cases h
      exact .inl ⟨rfl, rfl⟩
    · rw [List.getElem?_eq_none (by rw [List.length_set]; omega)] at h
      cases h
  · rw [List.getElem?_set_ne hj] at h
    exact .inr ⟨hj, h⟩
theorem Slots.setE (S : Slots K δ O ρ σ H) (i : Nat) {v : V} {en : En} (r : Slot1 K δ O H v en) (hn : ∀ d, en = .ow d → ∀ (j : Nat) (d' : PyData), ρ[j]? = some (some (.ow d')) → σ[j]? ≠ some (some v)) : Slots K δ O (ρ.set i (some en)) (σ.set i (some v)) H := by
  have vs : ∀ j u, (σ.set i (some v))[j]? = some (some u) → i ≠ j → σ[j]? = some (some u) := fun j u h hj => by
    rw [List.getElem?_set_ne hj] at h; exact h
  refine ⟨fun j en' h => ?_, fun j l d' e v' hne h1 h2 h3 h4 => ?_, by rw [List.length_set, List.length_set, S.len]⟩
  · rcases get_set_some h with ⟨rfl, rfl⟩ | ⟨hj, h⟩
    · have hl : i < ρ.length := by
        have := (List.getElem?_eq_some_iff.mp h).1
        rwa [List.length_set] at this
      exact ⟨v, List.getElem?_set_self (by rw [← S.len]; exact hl), r⟩
    · obtain ⟨u, q1, q2⟩ := S.at_ j en' h
      exact ⟨u, by rw [List.getElem?_set_ne hj]; exact q1, q2⟩
  · rcases get_set_some h1 with ⟨rfl, e1⟩ | ⟨n1, h1⟩
    · rcases get_set_some h2 with ⟨e2, _⟩ | ⟨n2, h2⟩
      · exact hne e2
      · have hl : i < σ.length := by
          have := (List.getElem?_eq_some_iff.mp h3).1
          rwa [List.length_set] at this
        rw [List.getElem?_set_self hl] at h3
        cases h3
        exact hn d' e1 l e h2 (vs l v h4 n2)
    · rcases get_set_some h2 with ⟨rfl, e2⟩ | ⟨n2, h2⟩
      · have hl : i < σ.length := by
          have := (List.getElem?_eq_some_iff.mp h4).1
          rwa [List.length_set] at this
        rw [List.getElem?_set_self hl] at h4
        cases h4
        exact hn e e2 j d' h1 (vs j v h3 n1)
      · exact S.inj j l d' e v' hne h1 h2 (vs j v' h3 n1) (vs l v' h4 n2)
structure Ents (K : PySem.W.Frag) (δ : Option Addr) (O' : Addr → Prop) (H' H : Hp) (ws : List V) (ens : List En) : Prop where
  at_ : Paired (Slot1 K δ O' H') ws ens
  nw : ∀ (k : Nat) (d : PyData) (w : V), ens[k]? = some (.ow d) → ws[k]? = some w → ∃ a, w = .ref a ∧ H a = none
  inj : ∀ (k l : Nat) (d e : PyData) (w : V), k ≠ l → ens[k]? = some (.ow d) → ens[l]? = some (.ow e) → ws[k]? = some w → ws[l]? ≠ some w
def storeE (ρ : Rho) : List Nat → List En → Rho
  | i :: is, en :: ens => storeE (ρ.set i (some en)) is ens
  | _, _ => ρ
def storeV (σ : L2.St) : List Nat → List V → L2.St
  | i :: is, v :: vs => storeV (σ.set i (some v)) is vs
  | _, _ => σ
theorem Slots.setEs : ∀ {is : List Nat} {ens : List En} {ws : List V} {ρ : Rho} {σ : L2.St}, Slots K δ O ρ σ H → Paired (Slot1 K δ O H) ws ens →
    (∀ (k : Nat) (d : PyData) (w : V), ens[k]? = some (.ow d) → ws[k]? = some w → ∀ (j : Nat) (d' : PyData), ρ[j]? = some (some (.ow d')) → σ[j]? ≠ some (some w)) →
    (∀ (k l : Nat) (d e : PyData) (w : V), k ≠ l → ens[k]? = some (.ow d) → ens[l]? = some (.ow e) → ws[k]? = some w → ws[l]? ≠ some w) → Slots K δ O (storeE ρ is ens) (storeV σ is ws) H
  | [], _, _, _, _, S, _, _, _ => by unfold storeE storeV; exact S
  | i :: is, _, _, _, _, S, .nil, _, _ => by unfold storeE storeV; exact S
  | i :: is, en :: ens, w :: ws, ρ, σ, S, .cons h t, hn, hi => by
    unfold storeE storeV
    refine Slots.setEs (S.setE i h fun d e j d' hj => hn 0 d w (by rw [e]; rfl) rfl j d' hj) t (fun k d w' h1 h2 j d' h3 h4 => ?_) fun k l d e w' hne h1 h2 h3 => ?_
    · rcases get_set_some h3 with ⟨rfl, e1⟩ | ⟨n1, h3⟩
      · have hl : i < σ.length := by
          have := (List.getElem?_eq_some_iff.mp h4).1
          rwa [List.length_set] at this
        rw [List.getElem?_set_self hl] at h4
        cases h4
        exact hi 0 (k + 1) d' d w (by omega) (by rw [e1]; rfl) (by simpa using h1) rfl (by simpa using h2)
      · rw [List.getElem?_set_ne n1] at h4
        exact hn (k + 1) d w' (by simpa using h1) (by simpa using h2) j d' h3 h4
    · intro h4
      exact hi (k + 1) (l + 1) d e w' (by omega) (by simpa using h1) (by simpa using h2) (by simpa using h3) (by simpa using h4)
theorem Ents.slots {O' : Addr → Prop} {H' : Hp} {ws : List V} {ens : List En} (E : Ents K δ O' H' H ws ens) (S0 : Slots K δ O ρ σ H) (S : Slots K δ O' ρ σ H') (is : List Nat) : Slots K δ O' (storeE ρ is ens) (storeV σ is ws) H' :=
  S.setEs E.at_ (fun k d w h1 h2 j d' h3 h4 => by
    obtain ⟨a, rfl, ha⟩ := E.nw k d w h1 h2
    obtain ⟨u, q1, q2⟩ := S0.at_ j _ h3
    rw [h4] at q1
    cases q1
    obtain ⟨b, e, _, hb, _⟩ := q2.owA
    cases e
    exact hb ha) E.inj
theorem setE_len : ∀ (is : List Nat) (ens : List En) (ρ : Rho), (storeE ρ is ens).length = ρ.length
  | [], _, _ => rfl
  | _ :: _, [], _ => rfl
  | i :: is, d :: ds, ρ => by
    unfold storeE
    rw [setE_len is ds, List.length_set]
/-- which owned entries there are behind the stores -/
theorem setE_ow : ∀ {is : List Nat} {ens : List En} {ws : List V} {ρ : Rho} {σ : L2.St} {j : Nat} {d : PyData} {v : V}, ρ.length = σ.length → ens.length = ws.length → (storeE ρ is ens)[j]? = some (some (.ow d)) → (storeV σ is ws)[j]? = some (some v) →
    (ρ[j]? = some (some (.ow d)) ∧ σ[j]? = some (some v)) ∨ ∃ k : Nat, ens[k]? = some (En.ow d) ∧ ws[k]? = some v
  | [], _, _, ρ, σ, j, d, v, _, _, h1, h2 => by unfold storeE at h1; unfold storeV at h2; exact .inl ⟨h1, h2⟩
  | i :: is, [], [], ρ, σ, j, d, v, _, _, h1, h2 => by unfold storeE at h1; unfold storeV at h2; exact .inl ⟨h1, h2⟩
  | i :: is, [], _ :: _, ρ, σ, j, d, v, _, hl, h1, h2 => by simp at hl
  | i :: is, _ :: _, [], ρ, σ, j, d, v, _, hl, h1, h2 => by simp at hl
  | i :: is, en :: ens, w :: ws, ρ, σ, j, d, v, hρ, hl, h1, h2 => by
    unfold storeE at h1
    unfold storeV at h2
    rcases setE_ow (is := is) (by rw [List.length_set, List.length_set, hρ]) (by simpa using hl) h1 h2 with ⟨q1, q2⟩ | ⟨k, q1, q2⟩
    · rcases get_set_some q1 with ⟨rfl, e1⟩ | ⟨n1, q1⟩
      · have hl : i < σ.length := by
          have := (List.getElem?_eq_some_iff.mp q2).1
          rwa [List.length_set] at this
        rw [List.getElem?_set_self hl] at q2
        cases q2
        exact .inr ⟨0, by rw [e1]; rfl, rfl⟩
      · rw [List.getElem?_set_ne n1] at q2
        exact .inl ⟨q1, q2⟩
    · exact .inr ⟨k + 1, by simpa using q1, by simpa using q2⟩
/-! ### fresh objects -/
def RdF (K : PySem.W.Frag) (tabs : List Addr) (m : Sem1) : TE := fun σ H Q => ∃ δ O ρ st d st', Slots K δ O ρ σ H ∧ WOk K tabs δ O st H ∧ m ρ st = some (d, st') ∧
  ∀ a H1, H a = none → Lat2 δ O H (plus O a) H1 → WOk K tabs δ (plus O a) st' H1 → Slot1 K δ (plus O a) H1 (.ref a) (.ow d) → Q (.ref a) H1
theorem WOk.ne_new (W : WOk K tabs δ O st H) {p : Addr} (hp : H p = none) : δ ≠ some p := fun z => W.own p (W.dl p z) hp
section
variable {X : Cx}
theorem ef_lst {es : List Expr} {pos : Pos} {r : SemL} (h : PA X es (RdL X.K tabs r)) : PE X (.List es pos) (RdF X.K tabs (dispR .list r)) :=
  PE.imp (pe_lst h) fun σ H Q ⟨δ, O, ρ, st, z, st', S, W, e, c⟩ => by
    obtain ⟨ds, st1, e1, f1⟩ := bnd_some e
    obtain ⟨g, rfl⟩ := up_some f1
    unfold mkO at g
    split at g
    · rename_i hl
      cases g
      refine ⟨δ, O, ρ, st, ds, _, S, W, e1, fun ws H1 E1 W1 R1 => ⟨by rw [R1.length]; exact line_le hl, fun p hp => ?_⟩⟩
      exact c p _ (E1.dom p hp) ((Lat2.of E1).trans (Lat2.newOwn hp)) (W1.newOwn hp) ⟨p, ws, rfl, .inr rfl, W1.ne_new hp, upd_same, R1.mono (rds_newOwn hp)⟩
    · cases g
/-- lists of entries -/
abbrev SemE := Rho → M (List En)
def RdM (K : PySem.W.Frag) (tabs : List Addr) (m : SemE) : TA := fun σ H Q => ∃ δ O ρ st ens st', Slots K δ O ρ σ H ∧ WOk K tabs δ O st H ∧ m ρ st = some (ens, st') ∧
  ∀ O' ws H', Lat2 δ O H O' H' → WOk K tabs δ O' st' H' → Ents K δ O' H' H ws ens → Q ws H'
def nilE : SemE := fun _ => pure []
def vaE (m : Sem1) (r : SemE) : SemE := fun ρ => do let x ← m ρ; let xs ← r ρ; pure (.va x :: xs)
def owE (m : Sem1) (r : SemE) : SemE := fun ρ => do let x ← m ρ; let xs ← r ρ; pure (.ow x :: xs)
theorem em_nil : PA X [] (RdM X.K tabs nilE) := PA.imp pa_nil fun σ H Q ⟨δ, O, ρ, st, z, st', S, W, e, c⟩ => by
  obtain ⟨rfl, rfl⟩ := pur_some e
  exact c O _ H Lat2.refl W ⟨.nil, fun k d w h => by simp at h, fun k l d e w _ h => by simp at h⟩
theorem em_va {e : Expr} {es : List Expr} {m : Sem1} {r : SemE} (hp : plain e = true) (he : PE X e (Rd1 X.K tabs m)) (hr : PA X es (RdM X.K tabs r)) : PA X (e :: es) (RdM X.K tabs (vaE m r)) :=
  PA.imp (pa_cons he hr (plain_star hp)) fun σ H Q ⟨δ, O, ρ, st, z, st', S, W, e, c⟩ => by
    obtain ⟨x, st1, e1, f1⟩ := bnd_some e
    obtain ⟨xs, st2, e2, f2⟩ := bnd_some f1
    obtain ⟨rfl, rfl⟩ := pur_some f2
    refine ⟨δ, O, ρ, st, x, st1, S, W, e1, fun w H1 E1 W1 R1 => ⟨δ, O, ρ, st1, xs, _, S.ext E1 W.dl, W1, e2, fun O' ws H2 L2 W2 E2 => ?_⟩⟩
    refine c O' (w :: ws) H2 ((Lat2.of E1).trans L2) W2 ⟨.cons (Slot1.lat L2 W1.dl (en := .va x) R1) E2.at_, fun k d w' h1 h2 => ?_, fun k l d e w' hne h1 h2 h3 h4 => ?_⟩
    · cases k with
      | zero => simp at h1
      | succ k =>
        obtain ⟨a, q1, q2⟩ := E2.nw k d w' (by simpa using h1) (by simpa using h2)
        exact ⟨a, q1, E1.dom a q2⟩
    · cases k with
      | zero => simp at h1
      | succ k =>
        cases l with
        | zero => simp at h2
        | succ l => exact E2.inj k l d e w' (by omega) (by simpa using h1) (by simpa using h2) (by simpa using h3) (by simpa using h4)
theorem em_ow {e : Expr} {es : List Expr} {m : Sem1} {r : SemE} (hp : plain e = true) (he : PE X e (RdF X.K tabs m)) (hr : PA X es (RdM X.K tabs r)) : PA X (e :: es) (RdM X.K tabs (owE m r)) :=
  PA.imp (pa_cons he hr (plain_star hp)) fun σ H Q ⟨δ, O, ρ, st, z, st', S, W, e, c⟩ => by
    obtain ⟨x, st1, e1, f1⟩ := bnd_some e
    obtain ⟨xs, st2, e2, f2⟩ := bnd_some f1
    obtain ⟨rfl, rfl⟩ := pur_some f2
    refine ⟨δ, O, ρ, st, x, st1, S, W, e1, fun a H1 ha L1 W1 R1 => ⟨δ, plus O a, ρ, st1, xs, _, S.lat L1 W.dl, W1, e2, fun O' ws H2 L2 W2 E2 => ?_⟩⟩
    obtain ⟨a', ea, _, hne1, _⟩ := R1.owA
    cases ea
    refine c O' (.ref a :: ws) H2 (L1.trans L2) W2 ⟨.cons (Slot1.lat L2 W1.dl R1) E2.at_, fun k d w' h1 h2 => ?_, fun k l d e w' hne h1 h2 h3 h4 => ?_⟩
    · cases k with
      | zero =>
        simp at h2
        exact ⟨a, h2.symm, ha⟩
      | succ k =>
        obtain ⟨b, q1, q2⟩ := E2.nw k d w' (by simpa using h1) (by simpa using h2)
        exact ⟨b, q1, L1.ext.dom b q2⟩
    · cases k with
      | zero =>
        cases l with
        | zero => exact hne rfl
        | succ l =>
          simp at h3
          subst h3
          obtain ⟨b, q1, q2⟩ := E2.nw l e _ (by simpa using h2) (by simpa using h4)
          cases q1
          exact hne1 q2
      | succ k =>
        cases l with
        | zero =>
          simp at h4
          subst h4
          obtain ⟨b, q1, q2⟩ := E2.nw k d _ (by simpa using h1) (by simpa using h3)
          cases q1
          exact hne1 q2
        | succ l => exact E2.inj k l d e w' (by omega) (by simpa using h1) (by simpa using h2) (by simpa using h3) (by simpa using h4)
end
end
end Fo
namespace Fo
open PySem PySem.Spec PyProof.Rows L2
inductive Out where
  | nx (ρ : Rho)
  | rt (d : PyData)
  | bk (ρ : Rho)
  | ct (ρ : Rho)
abbrev SemS := Rho → M Out
section
variable {K : PySem.W.Frag} {tabs : List Addr} {δ : Option Addr} {O0 O O2 O3 : Addr → Prop} {ρ ρ2 : Rho} {σ σ2 : L2.St} {H0 H H2 H3 : Hp} {st : Dr}
structure Base (δ : Option Addr) (O0 : Addr → Prop) (H0 : Hp) (O : Addr → Prop) (H : Hp) (ρ : Rho) (σ : L2.St) : Prop where
  lat : Lat2 δ O0 H0 O H
  own : ∀ (i : Nat) (d : PyData) (a : Addr), ρ[i]? = some (some (.ow d)) → σ[i]? = some (some (.ref a)) → H0 a = none
  o0 : ∀ a, O0 a → H0 a ≠ none
theorem Base.of (B : Base δ O0 H0 O H ρ σ) (L : Lat2 δ O H O2 H2) : Base δ O0 H0 O2 H2 ρ σ := ⟨B.lat.trans L, B.own, B.o0⟩
theorem Base.keep (B : Base δ O0 H0 O H ρ σ) (h : ∀ (i : Nat) (d : PyData), ρ2[i]? = some (some (.ow d)) → (∃ d', ρ[i]? = some (some (.ow d'))) ∧ σ2[i]? = σ[i]?) : Base δ O0 H0 O H ρ2 σ2 :=
  ⟨B.lat, fun i d a h1 h2 => by
    obtain ⟨⟨d', k1⟩, k2⟩ := h i d h1
    exact B.own i d' a k1 (k2 ▸ h2), B.o0⟩
def FinAt (K : PySem.W.Frag) (tabs : List Addr) (δ : Option Addr) (O0 : Addr → Prop) (H0 : Hp) (O : Addr → Prop) (H : Hp) (ρ' : Rho) (st' : Dr) (N : L2.St → Hp → Prop) : Prop :=
  ∀ O' σ' H', Base δ O0 H0 O' H' ρ' σ' → Slots K δ O' ρ' σ' H' → WOk K tabs δ O' st' H' → Rds (mask O H) (mask O' H') → N σ' H'
def Fin (K : PySem.W.Frag) (tabs : List Addr) (δ : Option Addr) (O0 : Addr → Prop) (H0 : Hp) (O : Addr → Prop) (H : Hp) (D : Ends) (out : Out) (st' : Dr) : Prop := match out with
  | .nx ρ' => FinAt K tabs δ O0 H0 O H ρ' st' D.nx
  | .bk ρ' => FinAt K tabs δ O0 H0 O H ρ' st' D.bk
  | .ct ρ' => FinAt K tabs δ O0 H0 O H ρ' st' D.ct
  | .rt d => ∀ O' w H', Lat2 δ O0 H0 O' H' → WOk K tabs δ O' st' H' → Rp K (mask O' H') w d → D.rt w H'
theorem FinAt.mono {ρ' : Rho} {st' : Dr} {N : L2.St → Hp → Prop} (h : FinAt K tabs δ O0 H0 O H ρ' st' N) (r : Rds (mask O H) (mask O2 H2)) : FinAt K tabs δ O0 H0 O2 H2 ρ' st' N :=
  fun O' σ' H' B S W R => h O' σ' H' B S W ⟨fun b o e t => R.keep b o (r.keep b o e t) t⟩
theorem Fin.mono {D : Ends} {out : Out} {st' : Dr} (h : Fin K tabs δ O0 H0 O H D out st') (r : Rds (mask O H) (mask O2 H2)) : Fin K tabs δ O0 H0 O2 H2 D out st' := by
  cases out with
  | nx ρ' => exact FinAt.mono (h : FinAt ..) r
  | bk ρ' => exact FinAt.mono (h : FinAt ..) r
  | ct ρ' => exact FinAt.mono (h : FinAt ..) r
  | rt d => exact h
theorem rds_refl : Rds (mask O H) (mask O H) := ⟨fun _ _ h _ => h⟩
theorem Rds.trans {H1 H2 H3 : Hp} (a : Rds H1 H2) (b : Rds H2 H3) : Rds H1 H3 := ⟨fun c o e t => b.keep c o (a.keep c o e t) t⟩
def RdS (K : PySem.W.Frag) (tabs : List Addr) (δ : Option Addr) (O0 : Addr → Prop) (H0 : Hp) (m : SemS) : TS := fun D σ H => ∃ O ρ st out st', Base δ O0 H0 O H ρ σ ∧ Slots K δ O ρ σ H ∧ WOk K tabs δ O st H ∧ m ρ st = some (out, st') ∧ Fin K tabs δ O0 H0 O H D out st'
theorem PS.imp {X : Cx} {s : Stmt} {t t' : TS} (h : PS X s t) (i : ∀ D σ H, t' D σ H → t D σ H) : PS X s t' := ⟨fun pins s σ H D I q => h.run pins s σ H D I (i D σ H q)⟩
theorem PSs.imp {X : Cx} {s : List Stmt} {t t' : TS} (h : PSs X s t) (i : ∀ D σ H, t' D σ H → t D σ H) : PSs X s t' := ⟨fun pins s σ H D I q => h.run pins s σ H D I (i D σ H q)⟩
/-! ### rules -/
def nxS : SemS := fun ρ => pure (.nx ρ)
def bkS : SemS := fun ρ => pure (.bk ρ)
def ctS : SemS := fun ρ => pure (.ct ρ)
def seqS (a b : SemS) : SemS := fun ρ => do
  let o ← a ρ
  match o with
  | .nx ρ' => b ρ'
  | .rt d => pure (.rt d)
  | .bk ρ' => pure (.bk ρ')
  | .ct ρ' => pure (.ct ρ')
variable {X : Cx}
theorem FinAt.now (B : Base δ O0 H0 O H ρ σ) (S : Slots K δ O ρ σ H) (W : WOk K tabs δ O st H) {N : L2.St → Hp → Prop} (h : FinAt K tabs δ O0 H0 O H ρ st N) : N σ H := h O σ H B S W rds_refl
theorem next_to {D : Ends} {σ : L2.St} {H : Hp} (h : RdS K tabs δ O0 H0 nxS D σ H) : tNext D σ H := by
  obtain ⟨O, ρ, st, out, st', B, S, W, e, f⟩ := h
  obtain ⟨rfl, rfl⟩ := pur_some e
  exact FinAt.now B S W f
theorem ss_nil : PSs X [] (RdS X.K tabs δ O0 H0 nxS) := PSs.imp pss_nil fun D σ H h => next_to h
theorem ss_cons {s : Stmt} {r : List Stmt} {a b : SemS} (h1 : PS X s (RdS X.K tabs δ O0 H0 a)) (h2 : PSs X r (RdS X.K tabs δ O0 H0 b)) : PSs X (s :: r) (RdS X.K tabs δ O0 H0 (seqS a b)) :=
  PSs.imp (pss_cons h1 h2) fun D σ H ⟨O, ρ, st, out, st', B, S, W, e, f⟩ => by
    obtain ⟨o1, st1, e1, f1⟩ := bnd_some e
    refine ⟨O, ρ, st, o1, st1, B, S, W, e1, ?_⟩
    cases o1 with
    | nx ρ1 => exact fun O' σ' H' B' S' W' R' => ⟨O', ρ1, st1, out, st', B', S', W', f1, f.mono R'⟩
    | rt d =>
      obtain ⟨rfl, rfl⟩ := pur_some f1
      exact f
    | bk ρ' =>
      obtain ⟨rfl, rfl⟩ := pur_some f1
      exact f
    | ct ρ' =>
      obtain ⟨rfl, rfl⟩ := pur_some f1
      exact f
theorem s_pass {pos : Pos} : PS X (.Pass pos) (RdS X.K tabs δ O0 H0 nxS) := PS.imp ps_pass fun D σ H h => next_to h
theorem s_doc {x : PySem.Str} {j : Nat} {pos pos' : Pos} : PS X (.Expr (.Constant (.str x) j pos) pos') (RdS X.K tabs δ O0 H0 nxS) := PS.imp ps_doc fun D σ H h => next_to h
theorem s_break {pos : Pos} : PS X (.Break pos) (RdS X.K tabs δ O0 H0 bkS) := PS.imp ps_break fun D σ H ⟨O, ρ, st, out, st', B, S, W, e, f⟩ => by
  obtain ⟨rfl, rfl⟩ := pur_some e
  exact FinAt.now B S W f
theorem s_cont {pos : Pos} : PS X (.Continue pos) (RdS X.K tabs δ O0 H0 ctS) := PS.imp ps_continue fun D σ H ⟨O, ρ, st, out, st', B, S, W, e, f⟩ => by
  obtain ⟨rfl, rfl⟩ := pur_some e
  exact FinAt.now B S W f
def neverS : SemS := fun _ => up none
theorem s_never {s : Stmt} : PS X s (RdS X.K tabs δ O0 H0 neverS) := PS.imp ps_never fun D σ H ⟨O, ρ, st, out, st', B, S, W, e, f⟩ => by cases e
def rtS (m : Sem1) : SemS := fun ρ => do let d ← m ρ; pure (.rt d)
theorem s_ret {e : Expr} {m : Sem1} {pos : Pos} (h : PE X e (Rd1 X.K tabs m)) : PS X (.Return (some e) pos) (RdS X.K tabs δ O0 H0 (rtS m)) :=
  PS.imp (ps_ret h) fun D σ H ⟨O, ρ, st, out, st', B, S, W, e, f⟩ => by
    obtain ⟨d, st1, e1, f1⟩ := bnd_some e
    obtain ⟨rfl, rfl⟩ := pur_some f1
    exact ⟨δ, O, ρ, st, d, _, S, W, e1, fun w H' E W' R => f O w H' (B.lat.trans (Lat2.of E)) W' R⟩
def rtN : SemS := fun _ => pure (.rt .none)
theorem s_retN {pos : Pos} : PS X (.Return none pos) (RdS X.K tabs δ O0 H0 rtN) :=
  PS.imp ps_retN fun D σ H ⟨O, ρ, st, out, st', B, S, W, e, f⟩ => by
    obtain ⟨rfl, rfl⟩ := pur_some e
    exact f O .non H B.lat W .non
def ifS (c : SemB) (a b : SemS) : SemS := fun ρ => do let x ← c ρ; if x = true then a ρ else b ρ
theorem s_if {c : Expr} {a b : List Stmt} {mc : SemB} {ma mb : SemS} {pos : Pos} (hc : PT X c (RdB X.K tabs mc)) (ha : PSs X a (RdS X.K tabs δ O0 H0 ma)) (hb : PSs X b (RdS X.K tabs δ O0 H0 mb)) : PS X (.If c a b pos) (RdS X.K tabs δ O0 H0 (ifS mc ma mb)) :=
  PS.imp (ps_if hc ha hb) fun D σ H ⟨O, ρ, st, out, st', B, S, W, e, f⟩ => by
    obtain ⟨x, st1, e1, f1⟩ := bnd_some e
    refine ⟨δ, O, ρ, st, x, st1, S, W, e1, fun H1 E1 W1 => ?_⟩
    cases x with
    | true => exact ⟨O, ρ, st1, out, st', B.of (Lat2.of E1), S.ext E1 W.dl, W1, f1, f.mono (rds_ext E1 W.dl)⟩
    | false => exact ⟨O, ρ, st1, out, st', B.of (Lat2.of E1), S.ext E1 W.dl, W1, f1, f.mono (rds_ext E1 W.dl)⟩
/-- an expression's value dropped -/
def exS (m : Sem1) : SemS := fun ρ => do let _ ← m ρ; pure (.nx ρ)
theorem s_expr {e : Expr} {m : Sem1} {pos : Pos} (h : PE X e (Rd1 X.K tabs m)) (hs : swapsWith e none pos.line X.env = pure false) : PS X (.Expr e pos) (RdS X.K tabs δ O0 H0 (exS m)) :=
  PS.imp (ps_expr h hs) fun D σ H ⟨O, ρ, st, out, st', B, S, W, e, f⟩ => by
    obtain ⟨d, st1, e1, f1⟩ := bnd_some e
    obtain ⟨rfl, rfl⟩ := pur_some f1
    exact ⟨δ, O, ρ, st, d, _, S, W, e1, fun w H' E W' R => f O σ H' (B.of (Lat2.of E)) (S.ext E W.dl) W' (rds_ext E W.dl)⟩
/-! ### stores -/
theorem setAll_ow : ∀ {is : List Nat} {ds : List PyData} {ρ : Rho} {j : Nat} {d : PyData}, ds.length = is.length → (setAll ρ is ds)[j]? = some (some (.ow d)) → ρ[j]? = some (some (.ow d)) ∧ j ∉ is
  | [], ds, ρ, j, d, _, h => by
    unfold setAll at h
    exact ⟨h, by simp⟩
  | i :: is, [], ρ, j, d, l, h => by simp at l
  | i :: is, e :: ds, ρ, j, d, l, h => by
    unfold setAll at h
    obtain ⟨h1, h2⟩ := setAll_ow (is := is) (by simpa using l) h
    rcases get_set_some h1 with ⟨rfl, z⟩ | ⟨n, h3⟩
    · cases z
    · exact ⟨h3, by simp [h2, Ne.symm n]⟩
theorem storeT_ow {t : Tg} {e : PyData} {ρ ρ' : Rho} {j : Nat} {d : PyData} (h : storeT t e ρ = some ρ') (h2 : ρ'[j]? = some (some (.ow d))) : ρ[j]? = some (some (.ow d)) ∧ j ∉ t.slots := by
  unfold storeT at h
  cases t with
  | nm i =>
    cases h
    rcases get_set_some h2 with ⟨rfl, z⟩ | ⟨n, h3⟩
    · cases z
    · exact ⟨h3, by simp [Tg.slots, Ne.symm n]⟩
  | tp is =>
    cases e with
    | tuple ds =>
      simp only at h
      split at h
      · rename_i hl
        cases h
        exact setAll_ow hl h2
      · cases h
    | _ => cases h
theorem Base.store (B : Base δ O0 H0 O H ρ σ) {t : Tg} {d : PyData} (h : storeT t d ρ = some ρ2) (k : ∀ j, j ∉ t.slots → σ2[j]? = σ[j]?) : Base δ O0 H0 O H ρ2 σ2 :=
  B.keep fun i e q => ⟨⟨e, (storeT_ow h q).1⟩, k i (storeT_ow h q).2⟩
def asgS (m : Sem1) (t : Tg) : SemS := fun ρ => do let d ← m ρ; let ρ' ← up (storeT t d ρ); pure (.nx ρ')
theorem s_asg {tg e : Expr} {m : Sem1} {t : Tg} {pos : Pos} (he : PE X e (Rd1 X.K tabs m)) (hg : PG X tg (RdG X.K t)) (hs : swapsWithSole [tg] e pos.line X.env = pure false) (hw : swappedStores [tg] e X.env = pure none)
    (h1 : (assignEach [tg] X.env).map (·.2) = [assign tg X.env]) : PS X (.Assign [tg] e pos) (RdS X.K tabs δ O0 H0 (asgS m t)) :=
  PS.imp (ps_asg he hg hs hw h1) fun D σ H ⟨O, ρ, st, out, st', B, S, W, e, f⟩ => by
    obtain ⟨d, st1, e1, f1⟩ := bnd_some e
    obtain ⟨ρ', st2, e2, f2⟩ := bnd_some f1
    obtain ⟨g, rfl⟩ := up_some e2
    obtain ⟨rfl, rfl⟩ := pur_some f2
    exact ⟨δ, O, ρ, st, d, _, S, W, e1, fun w H' E W' R => ⟨δ, O, ρ, d, ρ', S.ext E W.dl, R, g, fun σ' S' k => f O σ' H' ((B.of (Lat2.of E)).store g k) S' W' (rds_ext E W.dl)⟩⟩
/-- a list display or such, owned by its name from now on -/
def ownS (m : Sem1) (i : Nat) : SemS := fun ρ => do let d ← m ρ; pure (.nx (ρ.set i (some (.ow d))))
theorem own_to {i : Nat} {m : Sem1} {D : Ends} {σ : L2.St} {H : Hp} (h : RdS K tabs δ O0 H0 (ownS m i) D σ H) : tAsg (RdF K tabs m) (gName i) D σ H := by
  obtain ⟨O, ρ, st, out, st', B, S, W, e, f⟩ := h
  obtain ⟨d, st1, e1, f1⟩ := bnd_some e
  obtain ⟨rfl, rfl⟩ := pur_some f1
  refine ⟨δ, O, ρ, st, d, _, S, W, e1, fun a H1 ha L W1 r => ?_⟩
  show D.nx (σ.set i (some (V.ref a))) H1
  refine f (plus O a) _ H1 ⟨B.lat.trans L, fun j d' b h1 h2 => ?_, B.o0⟩ ((S.lat L W.dl).setE i r fun d' _ j d2 h1 h2 => ?_) W1 (L.rds W.dl)
  · rcases get_set_some h1 with ⟨rfl, z⟩ | ⟨n, h3⟩
    · rcases get_set_some h2 with ⟨_, z⟩ | ⟨n, _⟩
      · cases z
        exact B.lat.ext.dom a ha
      · exact absurd rfl n
    · rw [List.getElem?_set_ne n] at h2
      exact B.own j d' b h3 h2
  · obtain ⟨u, q1, q2⟩ := S.at_ j _ h1
    rw [h2] at q1
    cases q1
    obtain ⟨b, e, _, hb, _⟩ := q2.owA
    cases e
    exact hb ha
theorem s_own {i : Nat} {x : PySem.Str} {e : Expr} {m : Sem1} {pos pos' : Pos} (hN : X.N.Nodup) (hi : X.N[i]? = some x) (hx : Loc X.env.scope x) (he : PE X e (RdF X.K tabs m)) (hs : swapsWith e (some (.Name x pos')) pos.line X.env = pure false) (hf : X.fn x = true ∨ X.env.scope.names.lookup x = some .local) :
    PS X (.Assign [.Name x pos'] e pos) (RdS X.K tabs δ O0 H0 (ownS m i)) := PS.imp (ps_set hN hi hx he hs hf) fun D σ H h => own_to h
/-! ### for -/
def forGo (t : Tg) (b : SemS) : List PyData → Rho → M Out
  | [], ρ => pure (.nx ρ)
  | d :: ds, ρ => do
    let ρ1 ← up (storeT t d ρ)
    let o ← b ρ1
    match o with
    | .nx ρ2 => forGo t b ds ρ2
    | .ct ρ2 => forGo t b ds ρ2
    | .bk ρ2 => pure (.nx ρ2)
    | .rt d => pure (.rt d)
def forS (it : SemL) (t : Tg) (b : SemS) : SemS := fun ρ => do let ds ← it ρ; forGo t b ds ρ
theorem s_for {tg iter : Expr} {body : List Stmt} {it : SemL} {t : Tg} {b : SemS} {pos : Pos} (hp : PassesOwn (model X.prog X.w) X.A X.env X.xe) (hc : X.calm = true) (hi : PI X tg iter (RdI X.K tabs it)) (hg : PG X tg (RdG X.K t)) (hb : PSs X body (RdS X.K tabs δ O0 H0 b))
    (hs : ∀ x, foldedSetIterable iter X.env x = pure x) : PS X (.For tg iter body [] pos) (RdS X.K tabs δ O0 H0 (forS it t b)) :=
  PS.imp (ps_for hp hc hi hg hb hs) fun D σ H ⟨O, ρ, st, out, st', B, S, W, e, f⟩ => by
    obtain ⟨items, st1, e1, f1⟩ := bnd_some e
    refine ⟨δ, O, ρ, st, items, st1, S, W, e1, fun J H1 E1 W1 hJ => ?_⟩
    refine ⟨fun i m σ2 H2 => m = items.length - i ∧ i ≤ items.length ∧ ∃ O2 ρ2 st2, Base δ O0 H0 O2 H2 ρ2 σ2 ∧ Slots X.K δ O2 ρ2 σ2 H2 ∧ WOk X.K tabs δ O2 st2 H2 ∧ Rds (mask O H1) (mask O2 H2) ∧ forGo t b (items.drop i) ρ2 st2 = some (out, st') ∧ Fin X.K tabs δ O0 H0 O2 H2 D out st',
      ⟨_, rfl, Nat.zero_le _, O, ρ, st1, B.of (Lat2.of E1), S.ext E1 W.dl, W1, rds_refl, f1, f.mono (rds_ext E1 W.dl)⟩, ?_⟩
    intro i m σ2 H2 ⟨hm, hi, O2, ρ2, st2, B2, S2, W2, R2, g2, F2⟩
    obtain ⟨k1, k2⟩ := hJ O2 st2 H2 W2 R2 i
    by_cases hlt : i < items.length
    · obtain ⟨go, yld⟩ := k1 hlt
      refine .inr ⟨go, fun σ3 H3 => ∃ m', m' < m ∧ m' = items.length - (i + 1) ∧ i + 1 ≤ items.length ∧ ∃ O2 ρ2 st2, Base δ O0 H0 O2 H3 ρ2 σ3 ∧ Slots X.K δ O2 ρ2 σ3 H3 ∧ WOk X.K tabs δ O2 st2 H3 ∧ Rds (mask O H1) (mask O2 H3) ∧ forGo t b (items.drop (i + 1)) ρ2 st2 = some (out, st') ∧ Fin X.K tabs δ O0 H0 O2 H3 D out st',
        fun σ3 H3 ⟨m', h1, h2⟩ => ⟨m', h1, h2⟩, fun x H3 hy => ?_⟩
      obtain ⟨E3, W3, d, hd, r3⟩ := yld x H3 hy
      have hdrop : items.drop i = d :: items.drop (i + 1) := by
        rw [List.drop_eq_getElem_cons hlt]
        rw [List.getElem?_eq_getElem hlt] at hd
        cases hd
        rfl
      rw [hdrop] at g2
      unfold forGo at g2
      obtain ⟨ρ3, st3, e3, g3⟩ := bnd_some g2
      obtain ⟨q3, rfl⟩ := up_some e3
      obtain ⟨o4, st4, e4, g4⟩ := bnd_some g3
      refine ⟨δ, O2, ρ2, d, ρ3, S2.ext E3 W2.dl, r3, q3, fun σ4 S4 k4 => ?_⟩
      refine ⟨O2, ρ3, _, o4, st4, (B2.of (Lat2.of E3)).store q3 k4, S4, W3, e4, ?_⟩
      have R3 : Rds (mask O2 H2) (mask O2 H3) := rds_ext E3 W2.dl
      cases o4 with
      | nx ρ5 => exact fun O' σ' H' B' S' W' R' => ⟨_, by omega, rfl, by omega, O', ρ5, st4, B', S', W', (R2.trans R3).trans R', g4, F2.mono (R3.trans R')⟩
      | ct ρ5 => exact fun O' σ' H' B' S' W' R' => ⟨_, by omega, rfl, by omega, O', ρ5, st4, B', S', W', (R2.trans R3).trans R', g4, F2.mono (R3.trans R')⟩
      | bk ρ5 =>
        obtain ⟨rfl, rfl⟩ := pur_some g4
        exact FinAt.mono F2 R3
      | rt d =>
        obtain ⟨rfl, rfl⟩ := pur_some g4
        exact F2
    · have hz : i = items.length := by omega
      refine .inl ⟨k2 (by omega), ?_⟩
      rw [hz, List.drop_length] at g2
      unfold forGo at g2
      obtain ⟨rfl, rfl⟩ := pur_some g2
      exact FinAt.now B2 S2 W2 F2
/-! ### while -/
def whileS (c : SemB) (b : SemS) : Nat → SemS
  | 0 => fun _ => up none
  | n + 1 => fun ρ => do
    let x ← c ρ
    if x = true then do
      let o ← b ρ
      match o with
      | .nx ρ2 => whileS c b n ρ2
      | .ct ρ2 => whileS c b n ρ2
      | .bk ρ2 => pure (.nx ρ2)
      | .rt d => pure (.rt d)
    else pure (.nx ρ)
theorem s_while {c : Expr} {body : List Stmt} {mc : SemB} {b : SemS} {pos : Pos} (n : Nat) (hp : PassesOwn (model X.prog X.w) X.A X.env X.xe) (hc : PT X c (RdB X.K tabs mc)) (hb : PSs X body (RdS X.K tabs δ O0 H0 b)) :
    PS X (.While c body [] pos) (RdS X.K tabs δ O0 H0 (whileS mc b n)) :=
  PS.imp (ps_while hp hc hb) fun D σ H ⟨O, ρ, st, out, st', B, S, W, e, f⟩ => by
    refine ⟨fun m σ2 H2 => ∃ O2 ρ2 st2, Base δ O0 H0 O2 H2 ρ2 σ2 ∧ Slots X.K δ O2 ρ2 σ2 H2 ∧ WOk X.K tabs δ O2 st2 H2 ∧ whileS mc b m ρ2 st2 = some (out, st') ∧ Fin X.K tabs δ O0 H0 O2 H2 D out st', ⟨n, O, ρ, st, B, S, W, e, f⟩, ?_⟩
    intro m σ2 H2 ⟨O2, ρ2, st2, B2, S2, W2, g2, F2⟩
    cases m with
    | zero => cases g2
    | succ m =>
      unfold whileS at g2
      obtain ⟨x, st3, e3, g3⟩ := bnd_some g2
      refine ⟨δ, O2, ρ2, st2, x, st3, S2, W2, e3, fun H3 E3 W3 => ?_⟩
      have R3 : Rds (mask O2 H2) (mask O2 H3) := rds_ext E3 W2.dl
      cases x with
      | true =>
        rw [if_pos rfl] at g3
        obtain ⟨o4, st4, e4, g4⟩ := bnd_some g3
        dsimp only
        rw [if_pos rfl]
        refine ⟨fun σ' H' => ∃ m', m' < m + 1 ∧ ∃ O2 ρ2 st2, Base δ O0 H0 O2 H' ρ2 σ' ∧ Slots X.K δ O2 ρ2 σ' H' ∧ WOk X.K tabs δ O2 st2 H' ∧ whileS mc b m' ρ2 st2 = some (out, st') ∧ Fin X.K tabs δ O0 H0 O2 H' D out st', fun _ _ h => h,
          O2, ρ2, st3, o4, st4, B2.of (Lat2.of E3), S2.ext E3 W2.dl, W3, e4, ?_⟩
        cases o4 with
        | nx ρ5 => exact fun O' σ' H' B' S' W' R' => ⟨m, by omega, O', ρ5, st4, B', S', W', g4, F2.mono (R3.trans R')⟩
        | ct ρ5 => exact fun O' σ' H' B' S' W' R' => ⟨m, by omega, O', ρ5, st4, B', S', W', g4, F2.mono (R3.trans R')⟩
        | bk ρ5 =>
          obtain ⟨rfl, rfl⟩ := pur_some g4
          exact FinAt.mono F2 R3
        | rt d =>
          obtain ⟨rfl, rfl⟩ := pur_some g4
          exact F2
      | false =>
        rw [if_neg (by decide)] at g3
        obtain ⟨rfl, rfl⟩ := pur_some g3
        dsimp only
        rw [if_neg (by decide)]
        exact FinAt.now (B2.of (Lat2.of E3)) (S2.ext E3 W2.dl) W3 (FinAt.mono F2 R3)
end
end Fo
namespace Fo
open PySem PySem.Spec PyProof.Rows L2
section
variable {K : PySem.W.Frag} {tabs : List Addr} {δ : Option Addr} {O0 O O2 O3 : Addr → Prop} {ρ ρ2 : Rho} {σ σ2 : L2.St} {H0 H H2 H3 : Hp} {st : Dr}
/-! ### an owned value is given away -/
def frz (i : Nat) (ρ : Rho) : Rho := match ρ[i]? with
  | some (some (.ow d)) => ρ.set i (some (.va d))
  | _ => ρ
def frzS (i : Nat) (m : SemS) : SemS := fun ρ => m (frz i ρ)
theorem Slot1.less {O' : Addr → Prop} {v : V} {en : En} (h : Slot1 K δ O H v en) (r : ∀ a, O' a → O a) (k : ∀ d a, en = .ow d → v = .ref a → O' a) : Slot1 K δ O' H v en := by
  have rd : Rds (mask O H) (mask O' H) := rds_less r
  cases en with
  | va d => exact Rp.mono rd h
  | dr => exact h
  | ow d =>
    cases d with
    | list ds =>
      obtain ⟨a, xs, e, o, n, k1, k2⟩ := h
      exact ⟨a, xs, e, k _ a rfl e, n, k1, k2.mono rd⟩
    | dict kvs =>
      obtain ⟨a, e, o, n, q⟩ := h
      refine ⟨a, e, k _ a rfl e, n, ?_⟩
      rcases q with ⟨ks, xs, ds, k1, k2, k3, k4⟩ | ⟨ks, xs, ds, k1, k2, k3, k4⟩
      · exact .inl ⟨ks, xs, ds, k1, k2, k3.mono rd, k4⟩
      · exact .inr ⟨ks, xs, ds, k1, k2, k3.mono rd, k4⟩
    | _ => exact h
theorem Slot1.frz {O' : Addr → Prop} {a : Addr} {d : PyData} (h : Slot1 K δ O H (.ref a) (.ow d)) (r : ∀ a, O' a → O a) (k : ¬ O' a) : Rp K (mask O' H) (.ref a) d := by
  have rd : Rds (mask O H) (mask O' H) := rds_less r
  cases d with
  | list ds =>
    obtain ⟨b, xs, e, o, n, k1, k2⟩ := h
    cases e
    exact .lst (mask_some.mpr ⟨k, k1⟩) (k2.mono rd)
  | dict kvs =>
    obtain ⟨b, e, o, n, q⟩ := h
    cases e
    rcases q with ⟨ks, xs, ds, k1, k2, k3, k4⟩ | ⟨ks, xs, ds, k1, k2, k3, k4⟩
    · subst k4
      exact .dK (mask_some.mpr ⟨k, k1⟩) k2 (k3.mono rd)
    · subst k4
      exact .dT (mask_some.mpr ⟨k, k1⟩) k2 (k3.mono rd)
  | _ => exact h.elim
theorem s_frz {X : Cx} {i : Nat} {m : SemS} {s : Stmt} (h : PS X s (RdS X.K tabs δ O0 H0 m)) : PS X s (RdS X.K tabs δ O0 H0 (frzS i m)) :=
  PS.imp h fun D σ H ⟨O, ρ, st, out, st', B, S, W, e, f⟩ => by
    unfold frzS frz at e
    split at e
    · rename_i d hd
      obtain ⟨v, h1, h2⟩ := S.at_ i _ hd
      obtain ⟨a, rfl, ha, hne, hδ⟩ := h2.owA
      have h0 := B.own i d a hd h1
      refine ⟨fun b => O b ∧ b ≠ a, ρ.set i (some (.va d)), st, out, st', ⟨⟨B.lat.ext, fun b q => ⟨B.lat.up b q, fun z => B.o0 b q (z ▸ h0)⟩, fun b q => B.lat.dn b q.1⟩, fun j d' b q1 q2 => ?_, B.o0⟩, ⟨fun j en q => ?_, fun j l d1 e1 v1 hne q1 q2 q3 => ?_, by rw [List.length_set, S.len]⟩, ?_, e, f.mono (rds_less fun b q => q.1)⟩
      · rcases get_set_some q1 with ⟨rfl, z⟩ | ⟨n, q1⟩
        · cases z
        · exact B.own j d' b q1 q2
      · rcases get_set_some q with ⟨rfl, rfl⟩ | ⟨n, q⟩
        · exact ⟨_, h1, Slot1.frz h2 (fun b q => q.1) fun z => z.2 rfl⟩
        · obtain ⟨u, w1, w2⟩ := S.at_ j _ q
          refine ⟨u, w1, w2.less (fun b q => q.1) fun d' b z1 z2 => ⟨?_, fun z3 => ?_⟩⟩
          · subst z1
            obtain ⟨c, y1, y2, _⟩ := w2.owA
            rw [z2] at y1
            cases y1
            exact y2
          · subst z1 z2 z3
            exact S.inj i j d d' _ n hd q h1 w1
      · rcases get_set_some q1 with ⟨rfl, z⟩ | ⟨n1, q1⟩
        · cases z
        · rcases get_set_some q2 with ⟨rfl, z⟩ | ⟨n2, q2⟩
          · cases z
          · exact S.inj j l d1 e1 v1 hne q1 q2 q3
      · exact W.less (fun b z => ⟨W.dl b z, fun y => hδ (y ▸ z)⟩) fun b q => q.1
    · exact ⟨O, ρ, st, out, st', B, S, W, e, f⟩
/-! ### name = [..], the name a plain local -/
theorem rdC_F {m : Sem1} {Q : VK} (h : RdF K tabs m σ H Q) : RdC K tabs m σ H Q := by
  obtain ⟨δ, O, ρ, st, z, st', S, W, e, c⟩ := h
  refine ⟨δ, O, ρ, st, z, st', S, W, e, fun D H2 vs out ez hD L W2 hv hr => ?_⟩
  subst ez
  exact c D H2 hD L W2 ⟨D, vs, rfl, .inr rfl, W.ne_new hD, hv, hr⟩
variable {X : Cx}
theorem ef_lc {elt tgE iter : Expr} {ifs : List Expr} {scope : Scope} {own : List (PySem.Str × Nat)} {pos : Pos} {it : SemL} {tg : Tg} {tt : SemB} {te : Sem1} (hc : X.calm = true) (hN : X.N.Nodup) (hi : PI X tgE iter (RdIt X.K tabs it)) (ok : BlkOk X.N X.env.scope scope own)
    (hg : ∀ (s : Shared) (H : Hp) (C : Addr) (cl : List (PySem.Str × Addr)) (fp : List Addr), PG (X.blk s H scope (compEnvC scope cl C X.env) fp) tgE (RdG X.K tg))
    (ht : ∀ (s : Shared) (H : Hp) (C : Addr) (cl : List (PySem.Str × Addr)) (fp : List Addr), PTs (X.blk s H scope (compEnvC scope cl C X.env) fp) ifs (RdB X.K tabs tt))
    (he : ∀ (s : Shared) (H : Hp) (C : Addr) (cl : List (PySem.Str × Addr)) (fp : List Addr), PE (X.blk s H scope (compEnvC scope cl C X.env) fp) elt (Rd1 X.K tabs te)) (hs : ∀ x, foldedSetIterable iter X.env x = pure x)
    (hsub : ∀ j ∈ tg.slots, j ∈ own.map (·.2)) : PE X (.ListComp elt [⟨tgE, iter, ifs, 0⟩] scope pos) (RdF X.K tabs (lcR it tg (own.map (·.2)) tt te)) :=
  PE.imp (pe_lc hc hN hi ok hg ht he hs) fun σ H Q h => lc_to hsub (rdC_F h)
theorem asg_nm {i : Nat} {m : Sem1} {D : Ends} {σ : L2.St} {H : Hp} (h : RdS K tabs δ O0 H0 (asgS m (.nm i)) D σ H) : Rd1 K tabs m σ H fun x H1 => gName i x σ H1 D.nx := by
  obtain ⟨O, ρ, st, out, st', B, S, W, e, f⟩ := h
  obtain ⟨d, st1, e1, f1⟩ := bnd_some e
  obtain ⟨ρ', st2, e2, f2⟩ := bnd_some f1
  obtain ⟨g, rfl⟩ := up_some e2
  obtain ⟨rfl, rfl⟩ := pur_some f2
  cases g
  exact ⟨δ, O, ρ, st, d, _, S, W, e1, fun w H' E W' R => f O _ H' ((B.of (Lat2.of E)).store (t := .nm i) rfl fun j hj => List.getElem?_set_ne (fun z => hj (by simp [Tg.slots, z]))) ((S.ext E W.dl).set i R) W' (rds_ext E W.dl)⟩
theorem s_setLc {i : Nat} {y : PySem.Str} {py spos : Pos} {elt tgE iter : Expr} {ifs : List Expr} {scope : Scope} {own : List (PySem.Str × Nat)} {pos : Pos} {it : SemL} {tg : Tg} {tt : SemB} {te : Sem1} (hc : X.calm = true) (hN : X.N.Nodup) (hy : X.N[i]? = some y) (hyl : X.env.scope.names.lookup y = some .local)
    (hsw : swapsWith (.ListComp elt [⟨tgE, iter, ifs, 0⟩] scope pos) (some (.Name y py)) spos.line X.env = pure true) (hi : PI X tgE iter (RdIt X.K tabs it)) (ok : BlkOk X.N X.env.scope scope own)
    (hg : ∀ (s : Shared) (H : Hp) (C : Addr) (cl : List (PySem.Str × Addr)) (fp : List Addr), PG (X.blk s H scope (compEnvC scope cl C X.env) fp) tgE (RdG X.K tg))
    (ht : ∀ (s : Shared) (H : Hp) (C : Addr) (cl : List (PySem.Str × Addr)) (fp : List Addr), PTs (X.blk s H scope (compEnvC scope cl C X.env) fp) ifs (RdB X.K tabs tt))
    (he : ∀ (s : Shared) (H : Hp) (C : Addr) (cl : List (PySem.Str × Addr)) (fp : List Addr), PE (X.blk s H scope (compEnvC scope cl C X.env) fp) elt (Rd1 X.K tabs te)) (hs : ∀ x, foldedSetIterable iter X.env x = pure x)
    (hsub : ∀ j ∈ tg.slots, j ∈ own.map (·.2)) : PS X (.Assign [.Name y py] (.ListComp elt [⟨tgE, iter, ifs, 0⟩] scope pos) spos) (RdS X.K tabs δ O0 H0 (asgS (lcR it tg (own.map (·.2)) tt te) (.nm i))) :=
  PS.imp (ps_setLc hc hN hy hyl hsw hi ok hg ht he hs) fun D σ H h => lc_to hsub (rdC_1 (asg_nm h))
theorem s_ownLc {i : Nat} {y : PySem.Str} {py spos : Pos} {elt tgE iter : Expr} {ifs : List Expr} {scope : Scope} {own : List (PySem.Str × Nat)} {pos : Pos} {it : SemL} {tg : Tg} {tt : SemB} {te : Sem1} (hc : X.calm = true) (hN : X.N.Nodup) (hy : X.N[i]? = some y) (hyl : X.env.scope.names.lookup y = some .local)
    (hsw : swapsWith (.ListComp elt [⟨tgE, iter, ifs, 0⟩] scope pos) (some (.Name y py)) spos.line X.env = pure true) (hi : PI X tgE iter (RdIt X.K tabs it)) (ok : BlkOk X.N X.env.scope scope own)
    (hg : ∀ (s : Shared) (H : Hp) (C : Addr) (cl : List (PySem.Str × Addr)) (fp : List Addr), PG (X.blk s H scope (compEnvC scope cl C X.env) fp) tgE (RdG X.K tg))
    (ht : ∀ (s : Shared) (H : Hp) (C : Addr) (cl : List (PySem.Str × Addr)) (fp : List Addr), PTs (X.blk s H scope (compEnvC scope cl C X.env) fp) ifs (RdB X.K tabs tt))
    (he : ∀ (s : Shared) (H : Hp) (C : Addr) (cl : List (PySem.Str × Addr)) (fp : List Addr), PE (X.blk s H scope (compEnvC scope cl C X.env) fp) elt (Rd1 X.K tabs te)) (hs : ∀ x, foldedSetIterable iter X.env x = pure x)
    (hsub : ∀ j ∈ tg.slots, j ∈ own.map (·.2)) : PS X (.Assign [.Name y py] (.ListComp elt [⟨tgE, iter, ifs, 0⟩] scope pos) spos) (RdS X.K tabs δ O0 H0 (ownS (lcR it tg (own.map (·.2)) tt te) i)) :=
  PS.imp (ps_setLc hc hN hy hyl hsw hi ok hg ht he hs) fun D σ H h => lc_to hsub (rdC_F (own_to h))
/-! ### append, x[i] = e -/
def owL (ρ : Rho) (i : Nat) : Option (List PyData) := match ρ[i]? with
  | some (some (.ow (.list ds))) => some ds
  | _ => none
theorem owL_some {i : Nat} {ds : List PyData} (h : owL ρ i = some ds) : ρ[i]? = some (some (.ow (.list ds))) := by
  unfold owL at h
  split at h
  · rename_i z
    cases h
    exact z
  · cases h
/-- an owned list is changed -/
theorem own_put {i : Nat} {a : Addr} {ds es : List PyData} {ys : List V} (B : Base δ O0 H0 O H ρ σ) (S : Slots K δ O ρ σ H) (W : WOk K tabs δ O st H) (hi : ρ[i]? = some (some (.ow (.list ds)))) (hv : σ[i]? = some (some (.ref a))) (hr : RpAll K (mask O H) ys es) :
    Base δ O0 H0 O (L2.upd H a (.lst ys)) (ρ.set i (some (.ow (.list es)))) σ ∧ Slots K δ O (ρ.set i (some (.ow (.list es)))) σ (L2.upd H a (.lst ys)) ∧ WOk K tabs δ O st (L2.upd H a (.lst ys)) ∧ Rds (mask O H) (mask O (L2.upd H a (.lst ys))) := by
  obtain ⟨v, q1, q2⟩ := S.at_ i _ hi
  rw [hv] at q1
  cases q1
  obtain ⟨b, xs, e, ho, hn, hH, hx⟩ := q2
  cases e
  have h0 := B.own i _ a hi hv
  have rd : Rds (mask O H) (mask O (L2.upd H a (.lst ys))) := rds_upd ho
  refine ⟨⟨B.lat.upd h0 (by rw [hH]; exact fun z => nomatch z), fun j d b q1 q2 => ?_, B.o0⟩, ⟨fun j en q => ?_, fun j l d1 e1 v1 hne q1 q2 q3 => ?_, by rw [List.length_set, S.len]⟩, W.upd ho hn (by rw [hH]; trivial), rd⟩
  · rcases get_set_some q1 with ⟨rfl, z⟩ | ⟨n, q1⟩
    · exact B.own i _ b hi q2
    · exact B.own j d b q1 q2
  · rcases get_set_some q with ⟨rfl, rfl⟩ | ⟨n, q⟩
    · exact ⟨_, hv, a, ys, rfl, ho, hn, upd_same, hr.mono rd⟩
    · obtain ⟨u, w1, w2⟩ := S.at_ j _ q
      refine ⟨u, w1, ?_⟩
      cases en with
      | va d => exact Rp.mono rd w2
      | dr => exact w2
      | ow d =>
        obtain ⟨b, rfl, _⟩ := w2.owA
        have hb : b ≠ a := fun z => S.inj i j _ _ _ n hi q hv (z ▸ w1)
        cases d with
        | list ds =>
          obtain ⟨b', xs, e, o, n, k1, k2⟩ := w2
          cases e
          exact ⟨b, xs, rfl, o, n, by rw [upd_ne hb]; exact k1, k2.mono rd⟩
        | dict kvs =>
          obtain ⟨b', e, o, n, q⟩ := w2
          cases e
          refine ⟨b, rfl, o, n, ?_⟩
          rw [upd_ne hb]
          rcases q with ⟨ks, xs, ds, k1, k2, k3, k4⟩ | ⟨ks, xs, ds, k1, k2, k3, k4⟩
          · exact .inl ⟨ks, xs, ds, k1, k2, k3.mono rd, k4⟩
          · exact .inr ⟨ks, xs, ds, k1, k2, k3.mono rd, k4⟩
        | _ => exact w2
  · rcases get_set_some q1 with ⟨rfl, z1⟩ | ⟨n1, q1⟩
    · rcases get_set_some q2 with ⟨rfl, z⟩ | ⟨n2, q2⟩
      · exact absurd rfl hne
      · exact S.inj i l _ e1 v1 hne hi q2 q3
    · rcases get_set_some q2 with ⟨rfl, z⟩ | ⟨n2, q2⟩
      · exact S.inj j i d1 _ v1 hne q1 hi q3
      · exact S.inj j l d1 e1 v1 hne q1 q2 q3
theorem own_at {i : Nat} {ds : List PyData} (S : Slots K δ O ρ σ H) (hi : ρ[i]? = some (some (.ow (.list ds)))) : ∃ a xs, σ[i]? = some (some (.ref a)) ∧ O a ∧ δ ≠ some a ∧ H a = some (.lst xs) ∧ RpAll K (mask O H) xs ds := by
  obtain ⟨v, q1, q2⟩ := S.at_ i _ hi
  obtain ⟨b, xs, e, ho, hn, hH, hx⟩ := q2
  cases e
  exact ⟨b, xs, q1, ho, hn, hH, hx⟩
def appO (ρ : Rho) (i : Nat) (d : PyData) : Option Rho := match owL ρ i with
  | some ds => if ds.length < 1000000 then some (ρ.set i (some (.ow (.list (ds ++ [d]))))) else none
  | none => none
def appS (i : Nat) (m : Sem1) : SemS := fun ρ => do let d ← m ρ; let ρ' ← up (appO ρ i d); pure (.nx ρ')
theorem s_app {i : Nat} {x : PySem.Str} {e : Expr} {m : Sem1} {px apos cpos pos : Pos} (hN : X.N[i]? = some x) (hv : Vis X.env.scope x) (hd : (x == ("__debug__" : PySem.Str)) = false) (hcd : (x == ("__classdict__" : PySem.Str)) = false) (hp : plain e = true) (he : PE X e (Rd1 X.K tabs m))
    (hbase : attributeBase (.Name x px) "append" X.env (eval (.Name x px) X.env) = eval (.Name x px) X.env)
    (hline : (apos.endLine == cpos.line) = true)
    (hs : swapsWith (.Call (.Attribute (.Name x px) "append" apos) [e] [] cpos) none pos.line X.env = pure false) :
    PS X (.Expr (.Call (.Attribute (.Name x px) "append" apos) [e] [] cpos) pos) (RdS X.K tabs δ O0 H0 (appS i m)) := by
  have ha : PA X [e] (tCons (Rd1 X.K tabs m) tNil) := pa_cons he pa_nil (plain_star hp)
  have hp1 : starEach [e] X.env = [(false, eval e X.env)] := plain_star hp
  refine PS.imp (ps_expr (pe_bm F.plainAttrs_list F.slot_list_append F.type_list_append mt_append (pe_var hN hv hd hcd) ha hbase (by rw [hp1]; rfl) hline (plain_star hp) rfl) hs) fun D σ H ⟨O, ρ, st, out, st', B, S, W, e, f⟩ => ?_
  obtain ⟨d, st1, e1, f1⟩ := bnd_some e
  obtain ⟨ρ', st2, e2, f2⟩ := bnd_some f1
  obtain ⟨g, rfl⟩ := up_some e2
  obtain ⟨rfl, rfl⟩ := pur_some f2
  unfold appO at g
  split at g
  · rename_i ds hds
    have hi := owL_some hds
    obtain ⟨a, xs, q1, q2, q3, q4, q5⟩ := own_at S hi
    split at g
    · rename_i hl
      cases g
      refine ⟨_, q1, .inl ⟨rfl, xs, SqL.of q4⟩, δ, O, ρ, st, d, _, S, W, e1, fun w H1 E1 W1 R1 => ?_⟩
      obtain ⟨a', xs', z1, z2, z3, z4, z5⟩ := own_at (S.ext E1 W.dl) hi
      rw [q1] at z1
      cases z1
      obtain ⟨P1, P2, P3, P4⟩ := own_put (B.of (Lat2.of E1)) (S.ext E1 W.dl) W1 hi q1 (z5.append (.cons R1 .nil))
      exact ⟨a, xs', w, rfl, rfl, z4, by rw [z5.length]; exact Nat.lt_of_lt_of_le hl (line_le (Nat.le_refl _)), f O σ _ P1 P2 P3 ((rds_ext E1 W.dl).trans P4)⟩
    · cases g
  · cases g
def setO (ρ : Rho) (i : Nat) (k d : PyData) : Option Rho := match owL ρ i, k with
  | some ds, .int j => (ixN ds.length j).map fun n => ρ.set i (some (.ow (.list (ds.set n d))))
  | _, _ => none
def setS (i : Nat) (mk m : Sem1) : SemS := fun ρ => do let d ← m ρ; let k ← mk ρ; let ρ' ← up (setO ρ i k d); pure (.nx ρ')
theorem s_set {i : Nat} {x : PySem.Str} {e ix : Expr} {m mk : Sem1} {px tpos pos : Pos} (hN : X.N[i]? = some x) (hv : Vis X.env.scope x) (hd : (x == ("__debug__" : PySem.Str)) = false) (hcd : (x == ("__classdict__" : PySem.Str)) = false) (he : PE X e (Rd1 X.K tabs m)) (hk : PE X ix (RdT X.K tabs mk))
    (hs : swapsWithSole [.Subscript (.Name x px) ix tpos] e pos.line X.env = pure false) (hw : swappedStores [.Subscript (.Name x px) ix tpos] e X.env = pure none)
    (ha : ∀ v, assign (.Subscript (.Name x px) ix tpos) X.env v = (do
      let ov ← holding [v] (eval (.Name x px) X.env)
      let iv ← holding [v, ov] (eval ix X.env)
      standAt tpos
      holding [v, ov, iv] (setItem ov iv v)
      release [v, ov, iv] [])) :
    PS X (.Assign [.Subscript (.Name x px) ix tpos] e pos) (RdS X.K tabs δ O0 H0 (setS i mk m)) :=
  PS.imp (ps_asg he (pg_sub (pe_var hN hv hd hcd) hk set_list ha) hs hw rfl) fun D σ H ⟨O, ρ, st, out, st', B, S, W, e, f⟩ => by
    obtain ⟨d, st1, e1, f1⟩ := bnd_some e
    obtain ⟨k, st2, e2, f2⟩ := bnd_some f1
    obtain ⟨ρ', st3, e3, f3⟩ := bnd_some f2
    obtain ⟨g, rfl⟩ := up_some e3
    obtain ⟨rfl, rfl⟩ := pur_some f3
    unfold setO at g
    split at g
    · rename_i ds j hds
      have hi := owL_some hds
      cases hn : ixN ds.length j with
      | none => rw [hn] at g; cases g
      | some n =>
        rw [hn] at g
        cases g
        refine ⟨δ, O, ρ, st, d, _, S, W, e1, fun w H1 E1 W1 R1 => ?_⟩
        have S1 := S.ext E1 W.dl
        obtain ⟨a, xs, z1, z2, z3, z4, z5⟩ := own_at S1 hi
        refine ⟨_, z1, δ, O, ρ, st1, .int j, _, S1, W1, e2, fun u H2 E2 W2 R2 => ?_⟩
        cases R2.int
        have S2 := S1.ext E2 W1.dl
        obtain ⟨a', xs', y1, y2, y3, y4, y5⟩ := own_at S2 hi
        rw [z1] at y1
        cases y1
        have L := (Lat2.of (O := O) E1).trans (Lat2.of (O := O) E2)
        obtain ⟨P1, P2, P3, P4⟩ := own_put (B.of L) S2 W2 hi z1 (y5.set n (R1.mono (rds_ext E2 W1.dl)))
        exact ⟨a, xs', j, n, rfl, rfl, y4, by rw [y5.length]; exact hn, f O σ _ P1 P2 P3 ((L.rds W.dl).trans P4)⟩
    · cases g
/-! ### several names at once, stored from the right -/
def parS (is : List Nat) (r : SemE) : SemS := fun ρ => do
  let ens ← r ρ
  if ens.length = is.length then pure (.nx (storeE ρ is ens)) else up none
theorem Paired.len {α β : Type} {R : α → β → Prop} : ∀ {xs : List α} {ys : List β}, Paired R xs ys → xs.length = ys.length
  | _, _, .nil => rfl
  | _, _, .cons _ t => by rw [List.length_cons, List.length_cons, Paired.len t]
theorem Base.ents {O' : Addr → Prop} {H' : Hp} {ws : List V} {ens : List En} (B : Base δ O0 H0 O H ρ σ) (S : Slots K δ O ρ σ H) (L : Lat2 δ O H O' H') (E : Ents K δ O' H' H ws ens) (is : List Nat) : Base δ O0 H0 O' H' (storeE ρ is ens) (storeV σ is ws) :=
  ⟨B.lat.trans L, fun j d a h1 h2 => by
    rcases setE_ow S.len (Paired.len E.at_).symm h1 h2 with ⟨q1, q2⟩ | ⟨k, q1, q2⟩
    · exact B.own j d a q1 q2
    · obtain ⟨b, z1, z2⟩ := E.nw k d _ q1 q2
      cases z1
      exact B.lat.ext.dom a z2, B.o0⟩
theorem len2 {α : Type} : ∀ {l : List α}, l.length = 2 → ∃ a b, l = [a, b]
  | [a, b], _ => ⟨a, b, rfl⟩
theorem len3 {α : Type} : ∀ {l : List α}, l.length = 3 → ∃ a b c, l = [a, b, c]
  | [a, b, c], _ => ⟨a, b, c, rfl⟩
theorem s_par {i j : Nat} {x y : PySem.Str} {a b : Expr} {r : SemE} {px py pt pos : Pos} {kt k2 : Nat} {pt2 : Pos} (hc : X.calm = true) (hN : X.N.Nodup) (hi : X.N[i]? = some x) (hj : X.N[j]? = some y) (hij : i ≠ j)
    (hx : X.env.scope.names.lookup x = some .local) (hy : X.env.scope.names.lookup y = some .local) (ha : PA X [a, b] (RdM X.K tabs r))
    (hw : swappedStores [.Tuple [.Name x px, .Name y py] kt pt] (.Tuple [a, b] k2 pt2) X.env = pure (some [x, y]))
    (hs : swapsWithSole [.Tuple [.Name x px, .Name y py] kt pt] (.Tuple [a, b] k2 pt2) pos.line X.env = pure false) :
    PS X (.Assign [.Tuple [.Name x px, .Name y py] kt pt] (.Tuple [a, b] k2 pt2) pos) (RdS X.K tabs δ O0 H0 (parS [i, j] r)) :=
  PS.imp (ps_par hc hN hi hj hij hx hy ha hw hs) fun D σ H ⟨O, ρ, st, out, st', B, S, W, e, f⟩ => by
    obtain ⟨ens, st1, e1, f1⟩ := bnd_some e
    split at f1
    · rename_i hl
      obtain ⟨rfl, rfl⟩ := pur_some f1
      refine ⟨δ, O, ρ, st, ens, _, S, W, e1, fun O' ws H' L W' E => ?_⟩
      have F := f O' _ H' (B.ents S L E [i, j]) (E.slots S (S.lat L W.dl) [i, j]) W' (L.rds W.dl)
      obtain ⟨v, w, rfl⟩ := len2 ((Paired.len E.at_).trans hl)
      exact ⟨v, w, rfl, F⟩
    · cases f1
theorem s_par3 {i j l : Nat} {x y z : PySem.Str} {a b c : Expr} {r : SemE} {px py pz pt pos : Pos} {kt k2 : Nat} {pt2 : Pos} (hc : X.calm = true) (hN : X.N.Nodup) (hi : X.N[i]? = some x) (hj : X.N[j]? = some y) (hl : X.N[l]? = some z) (hij : i ≠ j) (hil : i ≠ l) (hjl : j ≠ l)
    (hx : X.env.scope.names.lookup x = some .local) (hy : X.env.scope.names.lookup y = some .local) (hz : X.env.scope.names.lookup z = some .local) (ha : PA X [a, b, c] (RdM X.K tabs r))
    (hw : swappedStores [.Tuple [.Name x px, .Name y py, .Name z pz] kt pt] (.Tuple [a, b, c] k2 pt2) X.env = pure (some [x, y, z]))
    (hs : swapsWithSole [.Tuple [.Name x px, .Name y py, .Name z pz] kt pt] (.Tuple [a, b, c] k2 pt2) pos.line X.env = pure false) :
    PS X (.Assign [.Tuple [.Name x px, .Name y py, .Name z pz] kt pt] (.Tuple [a, b, c] k2 pt2) pos) (RdS X.K tabs δ O0 H0 (parS [i, j, l] r)) :=
  PS.imp (ps_par3 hc hN hi hj hl hij hil hjl hx hy hz ha hw hs) fun D σ H ⟨O, ρ, st, out, st', B, S, W, e, f⟩ => by
    obtain ⟨ens, st1, e1, f1⟩ := bnd_some e
    split at f1
    · rename_i hl
      obtain ⟨rfl, rfl⟩ := pur_some f1
      refine ⟨δ, O, ρ, st, ens, _, S, W, e1, fun O' ws H' L W' E => ?_⟩
      have F := f O' _ H' (B.ents S L E [i, j, l]) (E.slots S (S.lat L W.dl) [i, j, l]) W' (L.rds W.dl)
      obtain ⟨u, v, w, rfl⟩ := len3 ((Paired.len E.at_).trans hl)
      exact ⟨u, v, w, rfl, F⟩
    · cases f1
end
end Fo
/-! a generator expression's own frame -/
namespace L2
open PySem PySem.Spec PyProof.Rows
abbrev gEnv (X : Cx) (scope : Scope) (C : Addr) (code : Value) : Env := genEnv scope (cloFrom X.env.cells scope.names []) C code builtinsNs X.env
abbrev Cx.gen (X : Cx) (s : Shared) (H : Hp) (scope : Scope) (code : Value) (fp : List Addr) : Cx :=
  { X with A := X.A.in1.in1.deeper (gEnv X scope s.heap.objs.size code), s_0 := s, H_0 := H, env := gEnv X scope s.heap.objs.size code, outer := X.stack, stack := gEnv X scope s.heap.objs.size code :: X.stack, ex := fp, fn := fun _ => false, pn := [], xe := fun _ _ => False }
structure GenOk (N : List Str) (sc scope : Scope) (own : List (Str × Nat)) : Prop where
  kind : scope.kind = .function
  co : scope.isCoroutine = false
  uniq : ∀ y ∈ scope.names, scope.names.lookup y.1 = some y.2
  cell : ∀ y ∈ scope.names, y.2 ≠ .cell
  dot : scope.names.lookup (".0" : Str) = some .local
  ix : ∀ p ∈ own, N[p.2]? = some p.1
  free : ∀ y ∈ scope.names, y.2 = .free → sc.names.lookup y.1 = some .cell ∨ sc.names.lookup y.1 = some .free
  own : ∀ y ∈ scope.names, y.2 = .local → y.1 ∈ own.map (·.1) ∨ y.1 ∉ N
section
variable {X : Cx} {pins : List (Addr × Obj)} {σ : St} {H : Hp} {s : Shared}
theorem gen_start {scope : Scope} {own : List (Str × Nat)} {fp : List Addr} {code it : Value} {h' : Heap} {t' : Nat} {g' : Array GenState} (I : Inv X pins σ H s) (ok : GenOk X.N X.env.scope scope own) (hN : X.N.Nodup) (hfp : ∀ b ∈ fp, FpOk X pins H b ∧ b < s.heap.objs.size)
    (hn : h'.Ns s.heap.objs.size fun y => if y = (".0" : Str) then some it else none) (kp : ∀ b o, s.heap.get? b = some o → h'.get? b = some o) (hg : AllBare g') :
    Inv (X.gen s H scope code fp) [] (wipe σ (own.map (·.2))) H { s with heap := h', toks := t', gens := g' } := by
  have hfree : ∀ y ∈ scope.names, y.2 = .free → ∃ c, X.env.cells.lookup y.1 = some c := fun y hy e => by
    rcases ok.free y hy e with k | k
    · exact I.ok.has _ (.inl k)
    · exact I.ok.has _ (.inr k)
  have cm : ∀ {y c}, (gEnv X scope s.heap.objs.size code).cells.lookup y = some c → X.env.cells.lookup y = some c ∧ c < s.heap.objs.size := fun {y c} e => by
    rcases cloFrom_mem (PySem.mem_of_lookup e) with hm | ⟨h1, rfl⟩
    · cases hm
    · obtain ⟨c, hc⟩ := hfree _ h1 rfl
      rw [hc]
      obtain ⟨w, z⟩ := I.cell _ _ hc
      exact ⟨rfl, z.lt⟩
  have look : ∀ {y}, scope.names.lookup y = some .free → ∃ c, (gEnv X scope s.heap.objs.size code).cells.lookup y = some c ∧ X.env.cells.lookup y = some c := fun {y} hl => by
    obtain ⟨c', e'⟩ := mem_lookup (cloFrom_has (cells := X.env.cells) (acc := []) (PySem.mem_of_lookup hl))
    exact ⟨c', e', (cm e').1⟩
  have okB : (X.gen s H scope code fp).Ok := by
    refine ⟨I.ok.mod, ok.kind, I.ok.glob, rfl, Nat.le_refl _, fun y z c e1 e2 => I.ok.inj y z c (cm e1).1 (cm e2).1, fun y hy => ?_, fun y c z e => (by cases z), fun hc => I.ok.hd hc, Around.frames_deeper (show X.A.in1.in1.frames = some X.stack from I.ok.frames), .inr ⟨rfl, rfl⟩, fun b hb => ⟨?_, fun y c e z => ?_⟩, I.bs, Nat.le_trans I.ok.bsz I.sz, fun b o e hb => ?_, fun b hb z => ?_, I.stack, I.stkFree⟩
    · have hy : scope.names.lookup y = some .cell ∨ scope.names.lookup y = some .free := hy
      rcases hy with hy | hy
      · exact absurd rfl (ok.cell _ (PySem.mem_of_lookup hy))
      · obtain ⟨c, h1, _⟩ := look hy
        exact ⟨c, h1⟩
    · exact Nat.ne_of_lt (hfp b hb).2
    · exact (hfp b hb).1.2.2.2.2.1 y c (cm e).1 z
    · rcases (hfp b hb).1.2.2.2.1 with z | z
      · exact I.ok.noex b o e z
      · exact absurd (Nat.lt_of_lt_of_le (Heap.lt_size e) (Nat.le_trans I.ok.bsz z)) (Nat.lt_irrefl _)
    · rcases List.mem_cons.mp (I.stkSub b z) with z | z
      · exact (hfp b hb).1.2.1 z
      · exact (hfp b hb).1.2.2.1 z
  refine ⟨okB, rfl, hg, Un.kept kp, ⟨_, hn, fun i y av e1 e2 e3 => ?_⟩, fun y c e => ?_, I.hok.fresh (Nat.le_refl _), fun y c e => I.freeC y c (cm e).1, fun p hp => absurd (show p ∈ ([] : List (Addr × Obj)) ++ [] from hp) (by simp), I.hok.kept kp, by rw [wipe_length]; exact I.len⟩
  · obtain ⟨e2, hne⟩ := wipe_some e2
    have e3 : Vis scope y := e3
    have hfr : scope.names.lookup y = some .free := by
      rcases e3 with k | k | k
      · rcases ok.own _ (PySem.mem_of_lookup k) rfl with e' | e'
        · obtain ⟨p, hp, hpy⟩ := List.mem_map.mp e'
          have e3 := ok.ix p hp
          have : p.1 = y := hpy
          rw [this] at e3
          exact absurd (List.mem_map.mpr ⟨p, hp, nodup_ix hN e3 e1⟩) hne
        · exact absurd (List.mem_of_getElem? e1) e'
      · exact absurd rfl (ok.cell _ (PySem.mem_of_lookup k))
      · exact k
    obtain ⟨m, hn', hl⟩ := I.loc
    have hvis : Vis X.env.scope y := (ok.free _ (PySem.mem_of_lookup hfr) rfl).elim (fun k => .inr (.inl k)) (fun k => .inr (.inr k))
    obtain ⟨w, r, q⟩ := hl i y av e1 e2 hvis
    refine ⟨w, r, .inr ⟨.inr hfr, ?_⟩⟩
    obtain ⟨c, h1, h2⟩ := look hfr
    rcases q with ⟨k, _⟩ | ⟨_, c', e', z⟩
    · have k : X.env.scope.names.lookup y = some .local := k
      rcases ok.free _ (PySem.mem_of_lookup hfr) rfl with k' | k' <;> rw [show X.env.scope.names.lookup y = _ from k'] at k <;> cases k
    · rw [h2] at e'; cases e'
      exact ⟨c, h1, z.keeps kp⟩
  · obtain ⟨w, z⟩ := I.cell y c (cm e).1
    exact ⟨w, z.keeps kp⟩
end
end L2
/-! a generator expression's turns -/
namespace L2
open PySem PySem.Spec PyProof.Rows
/-- the generator's state, in its own context: behind turn i -/
def GAt (X : Cx) (s : Shared) (H : Hp) (scope : Scope) (code : Value) (fp : List Addr) (tn : Nat → Heap → Prop) (S : List Addr) (pa : Addr × Obj) (σ : St) (i : Nat) (H' : Hp) (s' : Shared) : Prop :=
  Inv (X.gen s H scope code fp) (pa :: pinsAt S s'.heap) σ H' s' ∧ (∀ b ∈ S, ∃ o, s'.heap.get? b = some o ∧ ∀ v, o.data ≠ .cell v) ∧ tn i s'.heap ∧ ∀ b ∈ fp, H' b = none
/-- the consumer's own object -/
def Own (X : Cx) (s : Shared) (H : Hp) (scope : Scope) (code : Value) (fp S : List Addr) (a : Addr) : Prop :=
  ∀ b ∈ S, s.heap.objs.size ≤ b ∧ b ≠ (gEnv X scope s.heap.objs.size code).locals ∧ (∀ x c, (gEnv X scope s.heap.objs.size code).cells.lookup x = some c → c ≠ b) ∧ a ≠ b ∧ b ∉ fp
/-- nothing was done between two turns -/
def Slp (S : List Addr) (s1 s2 : Shared) : Prop := (∀ b o, b ∉ S → s1.heap.get? b = some o → s2.heap.get? b = some o) ∧ (∀ b ∈ S, ∃ o, s2.heap.get? b = some o ∧ ∀ v, o.data ≠ .cell v) ∧ s2.os = s1.os ∧ AllBare s2.gens
/-- an item is handed out -/
def GYld (X : Cx) (s : Shared) (H : Hp) (scope : Scope) (code : Value) (fp : List Addr) (tn : Nat → Heap → Prop) (S : List Addr) (pa : Addr × Obj) (σ : St) (W : Nat → Nat → Hp → Prop) (Post : Nat → Nat → V → Hp → Prop) : Protocol := fun n s₀ v s1 kap =>
  ∃ i m y H', RelV y v ∧ GAt X s H scope code fp tn S pa σ (i + 1) H' s1 ∧ Post i m y H' ∧ ((∃ m', m' < m ∧ W (i + 1) m' H') → ∀ s2, Slp S s1 s2 → kap (.send .none) s2)
/-- its end -/
def GEnd (X : Cx) (s : Shared) (H : Hp) (scope : Scope) (code : Value) (fp : List Addr) (S : List Addr) (pa : Addr × Obj) (σ : St) (Stop : Hp → Prop) : Nat → Shared → Shared → Prop := fun n s₀ s1 => ∃ H' ps, Inv (X.gen s H scope code fp) (pa :: ps) σ H' s1 ∧ (∀ b ∈ S, ∃ o, (b, o) ∈ ps) ∧ Stop H'
def GEr (F : Nat → Shared → Shared → Prop) : GenEnd := fun n s₀ r s₁ => ((r = .ok (.ret .none) ∨ r = .ok .next) ∧ F n s₀ s₁) ∨ ∃ e, r = .error e ∧ (fun (_ : Value) (_ : Shared) => False) e s₁
/-- the turns -/
def GTurn (g : TG) (tt : TT) (te : TE) (vs : List Nat) (σ : St) (J : It) (W : Nat → Nat → Hp → Prop) (Post : Nat → Nat → V → Hp → Prop) (Stop : Hp → Prop) : Prop :=
  ∀ i m H, W i m H → (J.stop i H ∧ Stop H) ∨ (J.go i H ∧ ∀ x H', J.yld i H x H' → g x (wipe σ vs) H' fun σ2 H2 => wipe σ2 vs = wipe σ vs ∧ tt σ2 H2 fun b H3 =>
    if b = true then te σ2 H3 fun y H4 => Post i m y H4 else ∃ m', m' < m ∧ W (i + 1) m' H3)
section
variable {X : Cx}
theorem GAt.slp {s : Shared} {H : Hp} {scope : Scope} {code : Value} {fp S : List Addr} {tn : Nat → Heap → Prop} {a : Addr} {go : Obj} {σ : St} {i : Nat} {H' : Hp} {s1 s2 : Shared} {tg : Expr} {J : It} {it : Addr} (T : Turn X.prog X.w X.K tg J fp it tn) (hS : Own X s H scope code fp S a)
    (h : GAt X s H scope code fp tn S (a, go) σ i H' s1) (z : Slp S s1 s2) : GAt X s H scope code fp tn S (a, go) σ i H' s2 := by
  obtain ⟨I, hs, ht, hf⟩ := h
  have pS : ∀ b ∈ S, H' b = none ∧ b ∉ (X.gen s H scope code fp).fs := fun b hb => by
    obtain ⟨o, e, _⟩ := hs b hb
    have q := I.pin (b, o) (List.mem_append_right _ (List.mem_cons_of_mem _ (mem_pinsAt hb e)))
    exact ⟨q.2.1, q.2.2.2.1⟩
  have k : ∀ b u, H' b = some u → b ∉ S := fun b u e hb => by rw [(pS b hb).1] at e; cases e
  have un : Un (frs (X.gen s H scope code fp).stack) S H' H' s1.heap s2.heap :=
    ⟨fun b o e _ _ hx => z.1 b o hx e, fun b o e _ _ hx => ⟨o.slots, z.1 b o hx e⟩, fun b o _ n _ => n, fun b o e hx => ⟨o, z.1 b o hx e⟩, fun _ _ e => e, fun _ _ _ e => e, fun b ps e => ⟨#[], by rw [e]; simp⟩⟩
  have hok : HOk X.prog X.w H' s2.heap := fun b u e => (I.hok b u e).stay (fun c v hc q => z.1 c v (hc.elim (fun w => w ▸ k b u e) fun w => k c _ w) q) (fun _ q => q) fun _ _ q => q
  have I1 : Inv (X.gen s H scope code fp) [(a, go)] σ H' s1 := I.pins_of fun p hp => I.pin p (List.mem_append_right _ (by rw [List.mem_singleton.mp hp]; exact List.mem_cons_self))
  have I2 : Inv (X.gen s H scope code fp) [(a, go)] σ H' s2 := I1.call' (ch := S) z.2.2.1 un hok z.2.2.2 fun b hb => by
    obtain ⟨q1, q2, q3, q4, _⟩ := hS b hb
    exact ⟨.inr q1, q2, q3, fun p hp => by
      have hp : p ∈ [(a, go)] := hp
      rw [List.mem_singleton.mp hp]
      exact q4⟩
  refine ⟨I2.pins_of fun p hp => ?_, z.2.1, T.keep _ _ _ ht fun b hb o e => z.1 b o (fun w => (hS b w).2.2.2.2 hb) e, hf⟩
  rcases List.mem_cons.mp hp with w | w
  · rw [w]
    exact I2.pin (a, go) (List.mem_append_right _ List.mem_cons_self)
  · obtain ⟨q1, q2⟩ := of_pinsAt w
    obtain ⟨o, e, hd⟩ := z.2.1 p.1 q1
    rw [q2] at e
    cases e
    exact ⟨q2, (pS _ q1).1, (hS _ q1).2.1, (pS _ q1).2, hd⟩
theorem over_comp {A : Around} {elt : Expr} {gs : List Comprehension} {sc : Scope} {pos : Pos} {it acc : Value} {env : Env} {L : Addr} (hf : env.frame = some L) : A.over (.compLoop (.GeneratorExp elt gs sc pos) 0 it acc env) [] = A.deeper env := by
  first
    | rfl
    | (obtain ⟨hd, d, fr, gs, u⟩ := A; simp [Around.over, Around.deeper, marksOver, frameCount, unitsOf, envsOf, guardsOf, pushEnvs, pushGuards, Code.envs, Code.env?, Code.isFrame, Code.guards, Code.isGuard, Code.weight, Code.frames, Code.isCreation, Code.isCaller, Code.cUnits, hf])
theorem over_start {A : Around} {elt : Expr} {gs : List Comprehension} {sc : Scope} {pos : Pos} {it acc : Value} {env : Env} {L : Addr} (hf : env.frame = some L) : A.over (.compStart (.GeneratorExp elt gs sc pos) 0 it acc env) [] = A.deeper env := by
  first
    | rfl
    | (obtain ⟨hd, d, fr, gs, u⟩ := A; simp [Around.over, Around.deeper, marksOver, frameCount, unitsOf, envsOf, guardsOf, pushEnvs, pushGuards, Code.envs, Code.env?, Code.isFrame, Code.guards, Code.isGuard, Code.weight, Code.frames, Code.isCreation, Code.isCaller, Code.cUnits, hf])
theorem gen_loop {s : Shared} {H : Hp} {scope : Scope} {code : Value} {fp S : List Addr} {tn : Nat → Heap → Prop} {a : Addr} {go : Obj} {σ : St} {vs : List Nat} {tg elt iter : Expr} {ifs : List Expr} {pos : Pos} {J : It} {it : Addr} {g : TG} {tt : TT} {te : TE}
    {W : Nat → Nat → Hp → Prop} {Post : Nat → Nat → V → Hp → Prop} {Stop : Hp → Prop} (hc : X.calm = true) (T : Turn X.prog X.w X.K tg J fp it tn) (hco : scope.isCoroutine = false) (hpa : ∀ b ∈ fp, a ≠ b) (hS : Own X s H scope code fp S a)
    (hg : PG (X.gen s H scope code fp) tg g) (ht : PTs (X.gen s H scope code fp) ifs tt) (he : PE (X.gen s H scope code fp) elt te) (turn : GTurn g tt te vs σ J W Post Stop) :
    ∀ (m n i : Nat) (H5 : Hp) (s₀ s5 : Shared), m < n → W i m H5 → GAt X s H scope code fp tn S (a, go) (wipe σ vs) i H5 s5 →
      Seg (model X.prog X.w) X.A.in1.in1 (GEr (GEnd X s H scope code fp S (a, go) (wipe σ vs) Stop)) (GYld X s H scope code fp tn S (a, go) (wipe σ vs) W Post) n s₀
        (.compLoop (.GeneratorExp elt [⟨tg, iter, ifs, 0⟩] scope pos) 0 (.ref it) .none (gEnv X scope s.heap.objs.size code)) ((model X.prog X.w).den (.compLoop (.GeneratorExp elt [⟨tg, iter, ifs, 0⟩] scope pos) 0 (.ref it) .none (gEnv X scope s.heap.objs.size code))) [] s5 := by
  have ov : X.A.in1.in1.over (.compLoop (.GeneratorExp elt [⟨tg, iter, ifs, 0⟩] scope pos) 0 (.ref it) .none (gEnv X scope s.heap.objs.size code)) [] = (X.gen s H scope code fp).A := over_comp rfl
  have stat : ∀ {h : Heap} {σ' : St} {H' : Hp} {s' : Shared}, Inv (X.gen s H scope code fp) ((a, go) :: pinsAt S h) σ' H' s' → (∀ b ∈ fp, H' b = none) → ∀ b ∈ fp, FpOk (X.gen s H scope code fp) ((a, go) :: pinsAt S h) H' b := fun {h σ' H' s'} I' hn b hb =>
    ⟨hn b hb, (I'.ok.exf b hb).1, I'.ok.exfs b hb, .inl hb, fun x c e => (I'.ok.exf b hb).2 x c e, fun p hp => by
      have hp : p ∈ (a, go) :: pinsAt S h := hp
      rcases List.mem_cons.mp hp with z | z
      · rw [z]
        exact hpa b hb
      · exact fun w => (hS p.1 (of_pinsAt z).1).2.2.2.2 (w ▸ hb)⟩
  intro m
  induction m using Nat.strongRecOn with
  | _ m ih =>
    intro n i H5 s₀ s5 hmn w5 ⟨I5, hs5, st5, n5⟩
    show Seg _ X.A.in1.in1 _ _ _ s₀ _ ((compTurn (.GeneratorExp elt [⟨tg, iter, ifs, 0⟩] scope pos) 0 (.ref it) .none (gEnv X scope s.heap.objs.size code)).onRaise (leaving (gEnv X scope s.heap.objs.size code))) [] s5
    rw [compTurn_gen, Sem.onRaise_eq_wrap]
    refine seg_bind_wrap (wpAny_standAt ?_)
    rcases turn i m H5 w5 with ⟨stop, qq⟩ | ⟨go_, step⟩
    · refine seg_bind_wrap ?_
      rw [ov]
      refine thnF (T.done (X.gen s H scope code fp) rfl rfl rfl hc i ((a, go) :: pinsAt S s5.heap) s5 _ H5 (fun _ _ => False) I5 (stat I5 n5) st5 stop) fun r s6 ⟨hr, I6⟩ => ?_
      subst hr
      exact seg_end (.ok .next) (.inl ⟨.inr rfl, H5, _, I6, fun b hb => let ⟨o, e, _⟩ := hs5 b hb; ⟨o, mem_pinsAt hb e⟩, qq⟩)
    · refine seg_bind_wrap ?_
      rw [ov]
      refine thnF (T.item (X.gen s H scope code fp) rfl rfl rfl hc i ((a, go) :: pinsAt S s5.heap) s5 _ H5 (fun _ _ => False) I5 (stat I5 n5) st5 go_) fun r s6 ⟨u, hr, h6⟩ => ?_
      subst hr
      refine seg_bind_wrap ?_
      rw [ov]
      refine thnF h6 fun _ s7 ⟨x, H7, I7, r7, y7, st7, n7⟩ => ?_
      have I7' := I7.pinned (stat I7 n7) (T.obj _ _ st7)
      refine seg_bind_wrap ?_
      rw [ov]
      refine thnF (hg.run _ s7 _ H7 x u _ I7' r7 (step x H7 y7)) fun _ s8 ⟨σ8, H8, I8, hw8, q8⟩ => ?_
      refine seg_bind_wrap ?_
      rw [ov]
      refine thnF (ht.run _ s8 σ8 H8 _ I8 q8) fun b s9 ⟨H9, I9, q9⟩ => ?_
      have fin : ∀ {s' : Shared} {H' : Hp}, Inv (X.gen s H scope code fp) (((a, go) :: pinsAt S s5.heap) ++ pinsAt fp s7.heap) σ8 H' s' → GAt X s H scope code fp tn S (a, go) (wipe σ vs) (i + 1) H' s' := fun {s' H'} I' => by
        have pin' : ∀ b ∈ fp, ∀ o, s7.heap.get? b = some o → s'.heap.get? b = some o ∧ H' b = none := fun b hb o e =>
          let z := I'.pin (b, o) (List.mem_append_right _ (List.mem_append_right _ (mem_pinsAt hb e)))
          ⟨z.1, z.2.1⟩
        have hl : (wipe σ vs).length = σ8.length := by rw [← hw8, wipe_length]
        have pS : ∀ b ∈ S, ∃ o, s'.heap.get? b = some o ∧ (b, o) ∈ (a, go) :: pinsAt S s5.heap ∧ ∀ v, o.data ≠ .cell v := fun b hb => by
          obtain ⟨o, e, hd⟩ := hs5 b hb
          have hm : (b, o) ∈ (a, go) :: pinsAt S s5.heap := List.mem_cons_of_mem _ (mem_pinsAt hb e)
          exact ⟨o, (I'.pin (b, o) (List.mem_append_right _ (List.mem_append_left _ hm))).1, hm, hd⟩
        have I9 := I'.unpinned (pins := (a, go) :: pinsAt S s5.heap)
        refine ⟨(I9.pins_of (pins' := (a, go) :: pinsAt S s'.heap) fun p hp => ?_).weak hl (fun j v e => ?_), fun b hb => let ⟨o, e, _, hd⟩ := pS b hb; ⟨o, e, hd⟩, T.keep _ _ _ st7 fun b hb o e => (pin' b hb o e).1, fun b hb => ?_⟩
        · rcases List.mem_cons.mp hp with w | w
          · rw [w]
            exact I9.pin (a, go) (List.mem_append_right _ List.mem_cons_self)
          · obtain ⟨q1, q2⟩ := of_pinsAt w
            obtain ⟨o, e, hm, _⟩ := pS p.1 q1
            rw [q2] at e
            have e' : p.2 = o := Option.some.inj e
            have hp' : p = (p.1, o) := by rw [← e']
            rw [hp']
            exact I9.pin (p.1, o) (List.mem_append_right _ hm)
        · rw [← hw8] at e
          exact (wipe_some e).1
        · obtain ⟨o, e, _⟩ := T.obj _ _ st7 b hb
          exact (pin' b hb o e).2
      cases b with
      | false =>
        simp only [Bool.false_eq_true, if_false] at q9 ⊢
        obtain ⟨m', hm', w'⟩ := q9
        exact seg_again rfl (ih m' hm' n (i + 1) H9 s₀ s9 (by omega) w' (fin I9))
      | true =>
        simp only [if_true] at q9 ⊢
        have hy : ∀ v, yieldOut (gEnv X scope s.heap.objs.size code) v = yieldValue v := fun v => by
          have : (gEnv X scope s.heap.objs.size code).scope.isCoroutine = false := hco
          simp only [yieldOut, this, Bool.false_eq_true, if_false]
        simp only [hy]
        rw [Sem.bind_eq_wrap', Sem.bind_eq_wrap', Sem.wrap_wrap, Sem.wrap_wrap]
        refine seg_wrap ?_
        rw [ov]
        refine thnF (he.run _ s9 σ8 H9 _ I9 q9) fun z s10 ⟨yv, H10, I10, r10, nx⟩ => ?_
        obtain ⟨n', rfl⟩ : ∃ n', n = n' + 1 := ⟨n - 1, by omega⟩
        refine seg_at (seg_yield rfl rfl rfl ⟨i, m, yv, H10, r10, fin I10, nx, fun ⟨m', hm', w'⟩ s2 z2 => ?_⟩)
        exact seg_again rfl (ih m' hm' n' (i + 1) H10 s2 s2 (by omega) w' ((fin I10).slp T hS z2))
end
end L2
/-! a generator expression is made; its items are asked for -/
namespace L2
open PySem PySem.Spec PyProof.Rows GxR
section
variable {X : Cx} {pins : List (Addr × Obj)} {σ : St} {H : Hp} {s : Shared}
theorem gen_first {s : Shared} {H : Hp} {scope : Scope} {code : Value} {fp S : List Addr} {tn : Nat → Heap → Prop} {a : Addr} {go : Obj} {σ : St} {vs : List Nat} {tg elt iter : Expr} {ifs : List Expr} {pos : Pos} {J : It} {it : Addr} {g : TG} {tt : TT} {te : TE}
    {W : Nat → Nat → Hp → Prop} {Post : Nat → Nat → V → Hp → Prop} {Stop : Hp → Prop} (hc : X.calm = true) (T : Turn X.prog X.w X.K tg J fp it tn) (hco : scope.isCoroutine = false) (hpa : ∀ b ∈ fp, a ≠ b) (hS : Own X s H scope code fp S a)
    (hg : PG (X.gen s H scope code fp) tg g) (ht : PTs (X.gen s H scope code fp) ifs tt) (he : PE (X.gen s H scope code fp) elt te) (turn : GTurn g tt te vs σ J W Post Stop)
    (m n : Nat) (H5 : Hp) (s₀ s5 : Shared) (hm : m < n) (w5 : W 0 m H5) (G : GAt X s H scope code fp tn S (a, go) (wipe σ vs) 0 H5 s5) :
      Seg (model X.prog X.w) X.A.in1.in1 (GEr (GEnd X s H scope code fp S (a, go) (wipe σ vs) Stop)) (GYld X s H scope code fp tn S (a, go) (wipe σ vs) W Post) n s₀
        (.compStart (.GeneratorExp elt [⟨tg, iter, ifs, 0⟩] scope pos) 0 (.ref it) .none (gEnv X scope s.heap.objs.size code)) ((model X.prog X.w).den (.compStart (.GeneratorExp elt [⟨tg, iter, ifs, 0⟩] scope pos) 0 (.ref it) .none (gEnv X scope s.heap.objs.size code))) [] s5 := by
  have loop := gen_loop (iter := iter) (pos := pos) hc T hco hpa hS hg ht he turn m n 0 H5 s₀ s5 hm w5 G
  show Seg _ X.A.in1.in1 _ _ _ s₀ _ ((compStart (.GeneratorExp elt [⟨tg, iter, ifs, 0⟩] scope pos) 0 (.ref it) .none (gEnv X scope s.heap.objs.size code)).onRaise (leaving (gEnv X scope s.heap.objs.size code))) [] s5
  unfold compStart
  rw [Sem.onRaise_eq_wrap]
  show Seg _ X.A.in1.in1 _ _ _ s₀ _ ((ask >>= _).wrap _ _ _ _) [] s5
  refine seg_bind_wrap (wpAny_askSetting ?_)
  split
  · exact seg_again rfl loop
  · first
      | exact seg_bind_wrap (wpAny_rule (seg_bind_wrap (wpAny_standAt (seg_bind_wrap (T.self _ 0 s5 _ _ G.2.2.1 (seg_again rfl loop))))))
      | (refine seg_bind_wrap (wpAny_rule ?_); show Seg _ X.A.in1.in1 _ _ _ s₀ _ ((standAt iter.pos >>= _).wrap _ _ _ _) [] s5; exact seg_bind_wrap (wpAny_standAt (seg_bind_wrap (T.self _ 0 s5 _ _ G.2.2.1 (seg_again rfl loop)))))
/-- back in the def's context -/
theorem gen_back {s2 s3 : Shared} {H2 H4 : Hp} {scope : Scope} {code : Value} {fp : List Addr} {pl : List (Addr × Obj)} {σ' : St} (I3 : Inv X pins σ H2 s3) (hfp : ∀ b ∈ fp, FpOk X pins H2 b) (J : Inv (X.gen s3 H2 scope code fp) pl σ' H4 s2) : Inv X pins σ H4 s2 :=
  I3.call' (ch := fp) J.os J.base J.hok J.bare fun b hb => ⟨(hfp b hb).2.2.2.1, (hfp b hb).2.1, (hfp b hb).2.2.2.2.1, (hfp b hb).2.2.2.2.2⟩
/-- what was made -/
structure Made (X : Cx) (pins : List (Addr × Obj)) (σ : St) (scope : Scope) (vs : List Nat) (tg : Expr) (cs : Code) (H2 : Hp) (J : It) (it : Addr) (fp : List Addr) (tn : Nat → Heap → Prop) (s3 : Shared) (code : Value) (a : Addr) (g : Nat) (go : Obj) (s5 : Shared) : Prop where
  T : Turn X.prog X.w X.K tg J fp it tn
  I : Inv X pins σ H2 s3
  hf : ∀ b ∈ fp, FpOk X pins H2 b ∧ b < s3.heap.objs.size
  hgo : ∀ h : Heap, h.get? a = some go → h.IsGen a g
  lt : s3.heap.objs.size < a
  lt2 : a < s5.heap.objs.size
  gat : GAt X s3 H2 scope code fp tn [] (a, go) (wipe σ vs) 0 H2 s5
  gs : s5.gens[g]? = some (.fresh cs)
theorem gen_eval {c P : Addr} {scope : Scope} {own : List (Str × Nat)} {tg elt iter : Expr} {ifs : List Expr} {pos : Pos} {wi : TI} {R : It → Hp → Prop} {Q' : Value → Shared → Prop} (hN : X.N.Nodup) (hroom : X.A.depth < recursionLimit) (TB : TabB X.base X.mg c P) (hcode : X.env.code = .ref c) (ok : GenOk X.N X.env.scope scope own) (hi : PI X tg iter wi)
    (hs : ∀ v, genFold iter X.env v = pure v) (I : Inv X pins σ H s) (h : wi σ H fun J H1 => TabG H1 P ∧ ∀ H2, Tabbed P H1 H2 → R J H2)
    (hQ : ∀ H2 J it fp tn s3 code a g go s5, R J H2 → Made X pins σ scope (own.map (·.2)) tg (.compStart (.GeneratorExp elt [⟨tg, iter, ifs, 0⟩] scope pos) 0 (.ref it) .none (gEnv X scope s3.heap.objs.size code)) H2 J it fp tn s3 code a g go s5 → Q' (.ref a) s5) :
    wpAny (model X.prog X.w) X.A (eval (.GeneratorExp elt [⟨tg, iter, ifs, 0⟩] scope pos) X.env) Q' X.xe s := by
  have hfree : ∀ y ∈ scope.names, y.2 = .free → ∃ c, X.env.cells.lookup y.1 = some c := fun y hy e => by
    rcases ok.free y hy e with k | k
    · exact I.ok.has _ (.inl k)
    · exact I.ok.has _ (.inr k)
  refine wpAny_GeneratorExp_make ok.co (closure_ok hfree) ok.cell ok.dot ok.kind hroom (thn (hi.run pins s σ H _ I h) fun xv s1 hx => thn hx fun itv s2 h2 => ?_) hs
  obtain ⟨it, fp, tn, J, H1, e, I2, T, st2, f2, ⟨ps, hP, ht⟩, q1⟩ := h2
  subst e
  have hPs : s2.heap.get? P = some { cls := .none, data := .fields ps } := I2.hok P _ hP
  have hPlt : P < s2.heap.objs.size := Heap.lt_size hPs
  have cd : PySem.W.CodeHd s2.heap c P := TB.code.keeps fun b u e => I2.bk b u e
  have cont : ∀ (code : Value) (h3 : Heap) (tk : Nat) (ps' : Array Value), Heap.ExtBut P s2.heap h3 → h3.get? P = some { cls := .none, data := .fields ps' } → (∃ more, ps' = ps ++ more) → TriplesOk ps'.toList →
      wpAny (model X.prog X.w) X.A (builtinsFor X.env.globals X.env.builtins) (fun bi s₄ =>
        ∀ h', h'.Ns s₄.heap.objs.size (fun y => if y = (".0" : Str) then some (.ref it) else none) → Heap.SameBut s₄.heap.objs.size (s₄.heap.push { cls := .type "frame", data := .dict #[] }) h' →
          Q' (.ref h'.objs.size) { s₄ with
            gens := s₄.gens.push (.fresh (.compStart (.GeneratorExp elt [⟨tg, iter, ifs, 0⟩] scope pos) 0 (.ref it) .none (genEnv scope (cloFrom X.env.cells scope.names []) s₄.heap.objs.size code bi X.env))),
            toks := s₄.toks + 1 + 1 + 1,
            heap := h'.push { cls := .type "generator", data := .fields #[.int s₄.gens.size 0, .str "<genexpr>" (s₄.toks + 1), .str (X.env.qual ++ "<genexpr>") (s₄.toks + 1 + 1)] } }) X.xe { s2 with heap := h3, toks := tk } := by
    intro code h3 tk ps' hx hP3 ⟨more, em⟩ ht3
    obtain ⟨bm, ob, e1, e2, e3, e4, e5, e6, e7, e8⟩ := TB.bm
    have keep3 : ∀ b u, b ≠ P → s2.heap.get? b = some u → h3.get? b = some u := fun b u hb e => hx b u hb e
    have nfp : ∀ b ∈ fp, b ≠ P := fun b hb z => by
      have h1 := (f2 b hb).1
      rw [z, hP] at h1
      cases h1
    have I3 : Inv X pins σ (upd H1 P (.tbl (ps ++ more))) { s2 with heap := h3, toks := tk } := by
      have := inv_tab (more := more) (h' := h3) (g' := s2.gens) (d' := s2.drawn) (t' := tk) I2 hP keep3 (by rw [← em]; exact hP3) I2.bare
      exact this
    refine wpAny_builtinsFor (m := X.mg) (by rw [I2.ok.glob]; exact I3.mod.glob.keeps I3.bk) e1 e2 (I3.bk _ _ e5) e6 e7 e8 ?_
    intro h' hn' hs'
    generalize hs3 : ({ s2 with heap := h3, toks := tk } : Shared) = s3 at I3 hn' hs' ⊢
    have h3e : s3.heap = h3 := by rw [← hs3]
    have hsz : h'.objs.size = s3.heap.objs.size + 1 := by rw [hs'.1, Heap.size_push]
    have keep' : ∀ b o, s3.heap.get? b = some o → h'.get? b = some o := fun b o e => hs'.extBut b o (Nat.ne_of_lt (Heap.lt_size e)) (Heap.get?_push_of_some _ e)
    have hH2 : ∀ b, H1 b = none → upd H1 P (.tbl (ps ++ more)) b = none := fun b e => by
      rw [upd_ne fun z => by rw [z, hP] at e; cases e]
      exact e
    have st3 : tn 0 s3.heap := T.keep _ _ _ st2 fun b hb o e => by rw [h3e]; exact keep3 b o (nfp b hb) e
    have f3 : ∀ b ∈ fp, FpOk X pins (upd H1 P (.tbl (ps ++ more))) b ∧ b < s3.heap.objs.size := fun b hb => by
      obtain ⟨o, e, _⟩ := T.obj _ _ st3 b hb
      exact ⟨⟨hH2 b (f2 b hb).1, (f2 b hb).2⟩, Heap.lt_size e⟩
    generalize hgo : ({ cls := .type "generator", data := .fields #[.int s3.gens.size 0, .str "<genexpr>" (s3.toks + 1), .str (X.env.qual ++ "<genexpr>") (s3.toks + 1 + 1)] } : Obj) = go
    have hgd : ∀ v, go.data ≠ .cell v := fun v q => by rw [← hgo] at q; cases q
    have hpush : (h'.push go).get? h'.objs.size = some go := by rw [← hgo]; exact Heap.get?_push_size _ rfl
    have kp5 : ∀ b o, s3.heap.get? b = some o → (h'.push go).get? b = some o := fun b o e => Heap.get?_push_of_some _ (keep' b o e)
    have I5 := gen_start (code := code) (t' := s3.toks + 1 + 1 + 1) (g' := s3.gens.push (.fresh (.compStart (.GeneratorExp elt [⟨tg, iter, ifs, 0⟩] scope pos) 0 (.ref it) .none (gEnv X scope s3.heap.objs.size code)))) I3 ok hN f3 (hn'.push go) kp5 (AllBare.push I3.bare rfl)
    refine hQ (upd H1 P (.tbl (ps ++ more))) J it fp tn s3 code h'.objs.size s3.gens.size go _ (q1 _ ⟨⟨_, upd_same, by rw [← em]; exact ht3⟩, fun b hb => upd_ne hb⟩) ⟨T, I3, f3, fun h e => ⟨go, _, _, e, by rw [← hgo], by rw [← hgo], by rw [← hgo]⟩, by omega, by show h'.objs.size < (h'.push go).objs.size; rw [Heap.size_push]; exact Nat.lt_succ_self _, ⟨I5.pins_of fun p hp => ?_, fun b hb => by simp at hb, T.keep _ _ _ st3 fun b _ o e => kp5 b o e, fun b hb => (f3 b hb).1.1⟩, Array.getElem?_push_size ..⟩
    have hp : p ∈ [(h'.objs.size, go)] := hp
    rw [List.mem_singleton.mp hp]
    refine ⟨hpush, I3.hok.fresh (by rw [hsz]; exact Nat.le_succ _), ?_, fun z => ?_, hgd⟩
    · show h'.objs.size ≠ s3.heap.objs.size
      rw [hsz]
      exact Nat.succ_ne_self _
    · rcases List.mem_cons.mp (I3.stkSub _ z) with w | w
      · have := I3.lt
        have w' : (h'.objs.size : Nat) = X.env.locals := w
        have l' : X.env.locals < s3.heap.objs.size := this
        rw [← w', hsz] at l'
        exact absurd l' (Nat.not_lt.mpr (Nat.le_succ _))
      · exact I3.nofs (by rw [hsz]; exact Nat.le_succ _) w
  refine ⟨I2.nolimit, ?_⟩
  cases hf : codeAmong pos ps.toList with
  | none =>
    refine wpAny_genexprCodeX hcode (cd.code hPs ht) (cd.tab hPs) hf fun c' h' tk hx hge hlt hco' _ htab' _ => ?_
    obtain ⟨o1, vs, f1, tf, fl, tg, inF, tx, tt, op, _, _, _, _, _, _, _, _, _, htr, _⟩ := hco'
    exact cont _ h' tk _ hx htab'.2 ⟨_, rfl⟩ htr
  | some cv =>
    refine wpAny_genexprCode_hit hcode (cd.code hPs ht) hf ?_
    exact cont cv s2.heap s2.toks ps (Heap.ExtBut.refl _ _) hPs ⟨#[], by simp⟩ ht
/-! ### asking -/
/-- asleep between two items -/
def GSus (X : Cx) (s : Shared) (H : Hp) (scope : Scope) (code : Value) (fp : List Addr) (tn : Nat → Heap → Prop) (S : List Addr) (pa : Addr × Obj) (σ : St) (W : Nat → Nat → Hp → Prop) (Post : Nat → Nat → V → Hp → Prop) (Stop : Hp → Prop) (g n i : Nat) (H' : Hp) (s1 : Shared) : Prop :=
  GAt X s H scope code fp tn S pa σ i H' s1 ∧ ∃ gs, s1.gens[g]? = some gs ∧ ∀ s2, Slp S s1 s2 → gs.Goes (model X.prog X.w) X.A.in1.in1 (GEr (GEnd X s H scope code fp S pa σ Stop)) (GYld X s H scope code fp tn S pa σ W Post) n (.send .none) s2
theorem GAt.obj {s : Shared} {H : Hp} {scope : Scope} {code : Value} {fp S : List Addr} {tn : Nat → Heap → Prop} {pa : Addr × Obj} {i : Nat} {H' : Hp} {s1 : Shared} (G : GAt X s H scope code fp tn S pa σ i H' s1) : s1.heap.get? pa.1 = some pa.2 := (G.1.pin pa (List.mem_append_right _ List.mem_cons_self)).1
theorem slp_gens {S : List Addr} {s1 : Shared} {g : Nat} {x : GenState} (hb : AllBare s1.gens) (hs : ∀ b ∈ S, ∃ o, s1.heap.get? b = some o ∧ ∀ v, o.data ≠ .cell v) (hx : x.bare = true) : Slp S s1 (s1.setGen g x) := ⟨fun b o _ e => e, hs, rfl, allBare_setGen hb hx⟩
theorem Slp.trans {S : List Addr} {s1 s2 s3 : Shared} (x : Slp S s1 s2) (y : Slp S s2 s3) : Slp S s1 s3 := ⟨fun b o hb e => y.1 b o hb (x.1 b o hb e), y.2.1, y.2.2.1.trans x.2.2.1, y.2.2.2⟩
theorem gen_next {s : Shared} {H : Hp} {scope : Scope} {code : Value} {fp S : List Addr} {tn : Nat → Heap → Prop} {a : Addr} {go : Obj} {W : Nat → Nat → Hp → Prop} {Post : Nat → Nat → V → Hp → Prop} {Stop : Hp → Prop} {g n i : Nat} {H' : Hp} {s1 : Shared} {tg : Expr} {J : It} {it : Addr} {Q : Option Value → Shared → Prop} {E : Value → Shared → Prop}
    (hh : X.A.handled = none) (hroom : X.A.depth < recursionLimit) (T : Turn X.prog X.w X.K tg J fp it tn) (hS : Own X s H scope code fp S a) (hgo : ∀ h : Heap, h.get? a = some go → h.IsGen a g)
    (G : GSus X s H scope code fp tn S (a, go) σ W Post Stop g n i H' s1)
    (hY : ∀ i m y H4 v s2, RelV y v → Post i m y H4 → GAt X s H scope code fp tn S (a, go) σ (i + 1) H4 s2 → ((∃ m', m' < m ∧ W (i + 1) m' H4) → ∃ n', n = n' + 1 ∧ GSus X s H scope code fp tn S (a, go) σ W Post Stop g n' (i + 1) H4 s2) → Q (some v) s2)
    (hP : ∀ H4 ps s2, Inv (X.gen s H scope code fp) ((a, go) :: ps) σ H4 s2 → Stop H4 → Q none s2) :
    wpAny (model X.prog X.w) X.A.in1 (pyNext (.ref a)) Q E s1 := by
  obtain ⟨G1, gs, hgs, hgoes⟩ := G
  have hgl : g < s1.gens.size := (Array.getElem?_eq_some_iff.mp hgs).1
  refine GenW.wpAny_gsz (n := g + 1) hgl (next_genG (A := X.A.in1) (F := GEnd X s H scope code fp S (a, go) σ Stop) (Er := fun _ _ => False) (Y := GYld X s H scope code fp tn S (a, go) σ W Post) (n := n) hh G1.1.nolimit hroom (hgo _ G1.obj) hgs (hgoes _ (slp_gens G1.1.bare G1.2.1 rfl)) (fun v s2 gs' hb hv => ?_) (fun s2 hp h' hk => ?_) fun e s2 he => he.elim)
  · intro hsz
    obtain ⟨j, m, y, H4, r, G2, hp, hk⟩ := hv
    have hz : Slp S s2 (s2.setGen g gs') := slp_gens G2.1.bare G2.2.1 hb
    have hsz1 : g < s2.gens.size := by
      have q : (s2.setGen g gs').gens.size = s2.gens.size := GenW.setGen_size _ _ _
      have hsz' : g + 1 ≤ (s2.setGen g gs').gens.size := hsz
      omega
    refine hY j m y H4 v _ r hp (G2.slp T hS hz) fun hw => ?_
    cases n with
    | zero => exact (hk hw s2 ⟨fun _ _ _ e => e, G2.2.1, rfl, G2.1.bare⟩).elim
    | succ n' => exact ⟨n', rfl, G2.slp T hS hz, gs', setGen_at hsz1, fun s3 z3 => hk hw s3 (hz.trans z3)⟩
  · intro hsz
    obtain ⟨H4, ps, J4, _, q⟩ := hp
    refine hP H4 ps _ ?_ q
    exact J4.call' (ch := []) rfl (Un.kept hk) (J4.hok.kept hk) (allBare_setGen J4.bare rfl) fun b q => by simp at q
end
end L2
/-! any, all over a generator expression -/
namespace L2
open PySem PySem.Spec PyProof.Rows GxR
/-- stops at the first item whose truth is k -/
def PostB (k : Bool) (W : Nat → Nat → Hp → Prop) (Q : VK) : Nat → Nat → V → Hp → Prop := fun i m y H => ∃ b, y = .bl b ∧ if b = k then Q (.bl k) H else ∃ m', m' < m ∧ W (i + 1) m' H
def tGxB (P : Addr) (k : Bool) (wi : TI) (g : TG) (tt : TT) (te : TE) (vs : List Nat) : TE := fun σ H Q => wi σ H fun J H1 => TabG H1 P ∧ ∀ H2, Tabbed P H1 H2 → ∃ W, (∃ m, W 0 m H2) ∧ GTurn g tt te vs σ J W (PostB k W Q) fun H3 => Q (.bl !k) H3
section
variable {X : Cx} {pins : List (Addr × Obj)} {σ : St}
theorem own_nil {s : Shared} {H : Hp} {scope : Scope} {code : Value} {fp : List Addr} {a : Addr} : Own X s H scope code fp [] a := fun b hb => by simp at hb
theorem any_loop {s : Shared} {H : Hp} {scope : Scope} {code : Value} {fp : List Addr} {tn : Nat → Heap → Prop} {a : Addr} {go : Obj} {W : Nat → Nat → Hp → Prop} {g : Nat} {tg : Expr} {J : It} {it : Addr} {Q : VK} {R : Result → Shared → Prop}
    (hh : X.A.handled = none) (hroom : X.A.depth < recursionLimit) (T : Turn X.prog X.w X.K tg J fp it tn) (hgo : ∀ h : Heap, h.get? a = some go → h.IsGen a g)
    (hR : ∀ b H4 pl s2, Inv (X.gen s H scope code fp) pl σ H4 s2 → Q (.bl b) H4 → R (.ok (.ret (.bool b))) s2) :
    ∀ (n i : Nat) (H' : Hp) (s1 : Shared), GSus X s H scope code fp tn [] (a, go) σ W (PostB true W Q) (fun H3 => Q (.bl !true) H3) g n i H' s1 → codeAny (model X.prog X.w) X.A (.builtin "any.loop" ⟨[.ref a], []⟩) R s1 := by
  intro n
  induction n with
  | zero =>
    intro i H' s1 G
    refine codeAny_builtin F.entry_any_loop ?_
    rw [Around.under_plainId F.plain_any_loop _]
    show wpAny _ X.A.in1 (pyNext (.ref a) >>= _) _ _ s1
    refine wpAny_bind (gen_next hh hroom T own_nil hgo G (fun j m y H4 v s2 r hp G2 hk => ?_) fun H4 ps s2 I2 q => ?_)
    · obtain ⟨b, rfl, hb⟩ := hp
      cases (show v = Value.bool b from r)
      refine wpAny_bind (wpAny_holding (wpAny_truthy_bool ?_))
      refine wpAny_bind (wpAny_letGo ?_)
      cases b with
      | true =>
        rw [if_pos rfl] at hb
        simp only [if_true]
        exact wpAny_bind (wpAny_rule (wpAny_pure (hR true H4 _ _ G2.1 hb)))
      | false =>
        rw [if_neg (by decide)] at hb
        obtain ⟨n', e, _⟩ := hk hb
        cases e
    · exact wpAny_bind (wpAny_rule (wpAny_pure (hR false H4 _ _ I2 q)))
  | succ n ih =>
    intro i H' s1 G
    refine codeAny_builtin F.entry_any_loop ?_
    rw [Around.under_plainId F.plain_any_loop _]
    show wpAny _ X.A.in1 (pyNext (.ref a) >>= _) _ _ s1
    refine wpAny_bind (gen_next hh hroom T own_nil hgo G (fun j m y H4 v s2 r hp G2 hk => ?_) fun H4 ps s2 I2 q => ?_)
    · obtain ⟨b, rfl, hb⟩ := hp
      cases (show v = Value.bool b from r)
      refine wpAny_bind (wpAny_holding (wpAny_truthy_bool ?_))
      refine wpAny_bind (wpAny_letGo ?_)
      cases b with
      | true =>
        rw [if_pos rfl] at hb
        simp only [if_true]
        exact wpAny_bind (wpAny_rule (wpAny_pure (hR true H4 _ _ G2.1 hb)))
      | false =>
        rw [if_neg (by decide)] at hb
        obtain ⟨n', e, G3⟩ := hk hb
        cases e
        simp only [Bool.false_eq_true, if_false]
        exact wpAny_pure ⟨plainId_quiet F.plain_any_loop _, ih _ _ _ G3⟩
    · exact wpAny_bind (wpAny_rule (wpAny_pure (hR false H4 _ _ I2 q)))
theorem all_loop {s : Shared} {H : Hp} {scope : Scope} {code : Value} {fp : List Addr} {tn : Nat → Heap → Prop} {a : Addr} {go : Obj} {W : Nat → Nat → Hp → Prop} {g : Nat} {tg : Expr} {J : It} {it : Addr} {Q : VK} {R : Result → Shared → Prop}
    (hh : X.A.handled = none) (hroom : X.A.depth < recursionLimit) (T : Turn X.prog X.w X.K tg J fp it tn) (hgo : ∀ h : Heap, h.get? a = some go → h.IsGen a g)
    (hR : ∀ b H4 pl s2, Inv (X.gen s H scope code fp) pl σ H4 s2 → Q (.bl b) H4 → R (.ok (.ret (.bool b))) s2) :
    ∀ (n i : Nat) (H' : Hp) (s1 : Shared), GSus X s H scope code fp tn [] (a, go) σ W (PostB false W Q) (fun H3 => Q (.bl !false) H3) g n i H' s1 → codeAny (model X.prog X.w) X.A (.builtin "all.loop" ⟨[.ref a], []⟩) R s1 := by
  intro n
  induction n with
  | zero =>
    intro i H' s1 G
    refine codeAny_builtin F.entry_all_loop ?_
    rw [Around.under_plainId F.plain_all_loop _]
    show wpAny _ X.A.in1 (pyNext (.ref a) >>= _) _ _ s1
    refine wpAny_bind (gen_next hh hroom T own_nil hgo G (fun j m y H4 v s2 r hp G2 hk => ?_) fun H4 ps s2 I2 q => ?_)
    · obtain ⟨b, rfl, hb⟩ := hp
      cases (show v = Value.bool b from r)
      refine wpAny_bind (wpAny_holding (wpAny_truthy_bool ?_))
      refine wpAny_bind (wpAny_letGo ?_)
      cases b with
      | false =>
        rw [if_pos rfl] at hb
        simp only [Bool.false_eq_true, if_false]
        exact wpAny_bind (wpAny_rule (wpAny_pure (hR false H4 _ _ G2.1 hb)))
      | true =>
        rw [if_neg (by decide)] at hb
        obtain ⟨n', e, _⟩ := hk hb
        cases e
    · exact wpAny_bind (wpAny_rule (wpAny_pure (hR true H4 _ _ I2 q)))
  | succ n ih =>
    intro i H' s1 G
    refine codeAny_builtin F.entry_all_loop ?_
    rw [Around.under_plainId F.plain_all_loop _]
    show wpAny _ X.A.in1 (pyNext (.ref a) >>= _) _ _ s1
    refine wpAny_bind (gen_next hh hroom T own_nil hgo G (fun j m y H4 v s2 r hp G2 hk => ?_) fun H4 ps s2 I2 q => ?_)
    · obtain ⟨b, rfl, hb⟩ := hp
      cases (show v = Value.bool b from r)
      refine wpAny_bind (wpAny_holding (wpAny_truthy_bool ?_))
      refine wpAny_bind (wpAny_letGo ?_)
      cases b with
      | false =>
        rw [if_pos rfl] at hb
        simp only [Bool.false_eq_true, if_false]
        exact wpAny_bind (wpAny_rule (wpAny_pure (hR false H4 _ _ G2.1 hb)))
      | true =>
        rw [if_neg (by decide)] at hb
        obtain ⟨n', e, G3⟩ := hk hb
        cases e
        simp only [if_true]
        exact wpAny_pure ⟨plainId_quiet F.plain_all_loop _, ih _ _ _ G3⟩
    · exact wpAny_bind (wpAny_rule (wpAny_pure (hR true H4 _ _ I2 q)))
/-- what was made sleeps -/
theorem Made.sus {scope : Scope} {vs : List Nat} {tg elt iter : Expr} {ifs : List Expr} {pos : Pos} {H2 : Hp} {J : It} {it : Addr} {fp : List Addr} {tn : Nat → Heap → Prop} {s3 : Shared} {code : Value} {a : Addr} {g : Nat} {go : Obj} {s5 : Shared} {G : TG} {tt : TT} {te : TE}
    {W : Nat → Nat → Hp → Prop} {Post : Nat → Nat → V → Hp → Prop} {Stop : Hp → Prop} {m : Nat}
    (M : Made X pins σ scope vs tg (.compStart (.GeneratorExp elt [⟨tg, iter, ifs, 0⟩] scope pos) 0 (.ref it) .none (gEnv X scope s3.heap.objs.size code)) H2 J it fp tn s3 code a g go s5) (hc : X.calm = true) (hco : scope.isCoroutine = false)
    (hg : PG (X.gen s3 H2 scope code fp) tg G) (ht : PTs (X.gen s3 H2 scope code fp) ifs tt) (he : PE (X.gen s3 H2 scope code fp) elt te) (turn : GTurn G tt te vs σ J W Post Stop) (w : W 0 m H2) :
    GSus X s3 H2 scope code fp tn [] (a, go) (wipe σ vs) W Post Stop g (m + 1) 0 H2 s5 :=
  ⟨M.gat, _, M.gs, fun s2 z => ⟨rfl, gen_first hc M.T hco (fun b hb z2 => by
      have h1 := (M.hf b hb).2
      have h2 := M.lt
      rw [z2] at h2
      exact absurd (Nat.lt_trans h1 h2) (Nat.lt_irrefl _)) own_nil hg ht he turn m (m + 1) H2 s2 s2 (Nat.lt_succ_self _) w (M.gat.slp M.T own_nil z)⟩⟩
theorem pe_anyG {c P : Addr} {tg elt iter : Expr} {ifs : List Expr} {p pos gpos : Pos} {scope : Scope} {own : List (Str × Nat)} {wi : TI} {G : TG} {tt : TT} {te : TE} (hc : X.calm = true) (hN : X.N.Nodup)
    (hroom : X.A.depth < recursionLimit) (hg : Gl X "any") (hm : X.mg "any" = none) (TB : TabB X.base X.mg c P) (hcode : X.env.code = .ref c) (ok : GenOk X.N X.env.scope scope own) (hi : PI X tg iter wi)
    (hG : ∀ (s : Shared) (H : Hp) (code : Value) (fp : List Addr), PG (X.gen s H scope code fp) tg G) (ht : ∀ (s : Shared) (H : Hp) (code : Value) (fp : List Addr), PTs (X.gen s H scope code fp) ifs tt) (he : ∀ (s : Shared) (H : Hp) (code : Value) (fp : List Addr), PE (X.gen s H scope code fp) elt te)
    (hs : ∀ v, genFold iter X.env v = pure v)  :
    PE X (.Call (.Name "any" p) [.GeneratorExp elt [⟨tg, iter, ifs, 0⟩] scope gpos] [] pos) (tGxB P true wi G tt te (own.map (·.2))) := by
  refine ⟨fun pins s σ H Q I h => ?_⟩
  have hst : starEach [.GeneratorExp elt [⟨tg, iter, ifs, 0⟩] scope gpos] X.env = (false, eval (.GeneratorExp elt [⟨tg, iter, ifs, 0⟩] scope gpos) X.env) :: starEach [] X.env := rfl
  refine wpAny_Call_Name_kw (ld_blt I hg hm boot_any ?_)
  refine PyProof.Rows.callWith_builtin1 ?_ hst (by rfl)
  rw [hst]
  show wpAny _ _ (spliced ((false, eval (.GeneratorExp elt [⟨tg, iter, ifs, 0⟩] scope gpos) X.env) :: backTo pos (starEach [] X.env))) _ _ s
  refine Calls.spliced_cons (gen_eval hN hroom TB hcode ok hi hs I h fun H2 J it fp tn s3 code a g go s5 hR M => ?_)
  obtain ⟨W, ⟨m, w⟩, turn⟩ := hR
  refine Calls.spliced_nil ?_
  refine call_function_tree F.kind_any F.plain_any F.entry_any (F.args_any1 _) ?_
  unfold Builtin.«any»
  refine wpAny_bind (m := oneArg "any" _) (wpAny_pure ?_)
  refine wpAny_bind (wpAny_pyIter_gen (M.hgo _ M.gat.obj) ?_)
  refine wpAny_pure ⟨plainId_quiet F.plain_any_loop _, any_loop (I.ok.hd hc) hroom M.T M.hgo (fun b H4 pl s2 J4 q => ?_) (m + 1) 0 H2 s5 (M.sus hc ok.co (hG _ _ _ _) (ht _ _ _ _) (he _ _ _ _) turn w)⟩
  exact ⟨.bl b, H4, gen_back M.I (fun b hb => (M.hf b hb).1) J4, rfl, q⟩
theorem pe_allG {c P : Addr} {tg elt iter : Expr} {ifs : List Expr} {p pos gpos : Pos} {scope : Scope} {own : List (Str × Nat)} {wi : TI} {G : TG} {tt : TT} {te : TE} (hc : X.calm = true) (hN : X.N.Nodup)
    (hroom : X.A.depth < recursionLimit) (hg : Gl X "all") (hm : X.mg "all" = none) (hb : bootBuiltins "all" = some (.builtin "all")) (TB : TabB X.base X.mg c P) (hcode : X.env.code = .ref c) (ok : GenOk X.N X.env.scope scope own) (hi : PI X tg iter wi)
    (hG : ∀ (s : Shared) (H : Hp) (code : Value) (fp : List Addr), PG (X.gen s H scope code fp) tg G) (ht : ∀ (s : Shared) (H : Hp) (code : Value) (fp : List Addr), PTs (X.gen s H scope code fp) ifs tt) (he : ∀ (s : Shared) (H : Hp) (code : Value) (fp : List Addr), PE (X.gen s H scope code fp) elt te)
    (hs : ∀ v, genFold iter X.env v = pure v)  :
    PE X (.Call (.Name "all" p) [.GeneratorExp elt [⟨tg, iter, ifs, 0⟩] scope gpos] [] pos) (tGxB P false wi G tt te (own.map (·.2))) := by
  refine ⟨fun pins s σ H Q I h => ?_⟩
  have hst : starEach [.GeneratorExp elt [⟨tg, iter, ifs, 0⟩] scope gpos] X.env = (false, eval (.GeneratorExp elt [⟨tg, iter, ifs, 0⟩] scope gpos) X.env) :: starEach [] X.env := rfl
  refine wpAny_Call_Name_kw (ld_blt I hg hm hb ?_)
  refine PyProof.Rows.callWith_builtin1 ?_ hst (by rfl)
  rw [hst]
  show wpAny _ _ (spliced ((false, eval (.GeneratorExp elt [⟨tg, iter, ifs, 0⟩] scope gpos) X.env) :: backTo pos (starEach [] X.env))) _ _ s
  refine Calls.spliced_cons (gen_eval hN hroom TB hcode ok hi hs I h fun H2 J it fp tn s3 code a g go s5 hR M => ?_)
  obtain ⟨W, ⟨m, w⟩, turn⟩ := hR
  refine Calls.spliced_nil ?_
  refine call_function_tree F.kind_all F.plain_all F.entry_all (F.args_all1 _) ?_
  unfold Builtin.«all»
  refine wpAny_bind (m := oneArg "all" _) (wpAny_pure ?_)
  refine wpAny_bind (wpAny_pyIter_gen (M.hgo _ M.gat.obj) ?_)
  refine wpAny_pure ⟨plainId_quiet F.plain_all_loop _, all_loop (I.ok.hd hc) hroom M.T M.hgo (fun b H4 pl s2 J4 q => ?_) (m + 1) 0 H2 s5 (M.sus hc ok.co (hG _ _ _ _) (ht _ _ _ _) (he _ _ _ _) turn w)⟩
  exact ⟨.bl b, H4, gen_back M.I (fun b hb => (M.hf b hb).1) J4, rfl, q⟩
end
end L2
namespace Fo
open PySem PySem.Spec PyProof.Rows L2
section
variable {K : PySem.W.Frag} {tabs : List Addr} {δ : Option Addr} {O O2 O3 : Addr → Prop} {ρ : Rho} {σ : L2.St} {H H2 H3 : Hp} {st : Dr}
theorem ext_tab {P : Addr} (h1 : GxR.TabG H P) (h : GxR.Tabbed P H H2) : Ext δ H H2 := by
  obtain ⟨ps, e, t⟩ := h1
  obtain ⟨⟨qs, e2, t2⟩, h⟩ := h
  refine ⟨fun b o e3 _ n => ?_, fun b ps' e3 => ?_, fun b e3 => ?_⟩
  · rw [h b fun z => ?_]
    · exact e3
    · rw [z, e] at e3
      exact n ps (Option.some.inj e3).symm
  · by_cases hb : b = P
    · rw [hb]; exact ⟨qs, e2⟩
    · rw [h b hb]; exact ⟨ps', e3⟩
  · by_cases hb : b = P
    · rw [hb, e2] at e3; cases e3
    · rw [h b hb] at e3; exact e3
theorem WOk.tabbed {P : Addr} (W : WOk K tabs δ O st H) (h1 : GxR.TabG H P) (h : GxR.Tabbed P H H2) : WOk K tabs δ O st H2 := by
  obtain ⟨ps, e, t⟩ := id h1
  refine ⟨fun P' hP' => ?_, fun a ha => ?_, fun a ha => ?_⟩
  · by_cases hb : P' = P
    · rw [hb]; exact h.1
    · obtain ⟨qs, e2, t2⟩ := W.tab P' hP'
      exact ⟨qs, by rw [h.2 P' hb]; exact e2, t2⟩
  · obtain ⟨q1, sa, q2, q3⟩ := W.dr a ha
    refine ⟨q1, sa, ?_, (rds_ext (ext_tab h1 h) W.dl).seqL q3⟩
    rw [h.2 a fun z => ?_]
    · exact q2
    · rw [z, e] at q2; cases q2
  · have := W.own a ha
    by_cases hb : a = P
    · obtain ⟨qs, e2, _⟩ := h.1
      rw [hb, e2]; exact fun z => nomatch z
    · rw [h.2 a hb]; exact this
def gxGo (k : Bool) (tg : Tg) (tt : SemB) (te : Sem1) (ρ : Rho) : List PyData → M PyData
  | [] => pure (.bool !k)
  | x :: xs => do
    let ρ1 ← up (storeT tg x ρ)
    let b ← tt ρ1
    if b = true then do
      let y ← te ρ1
      let c ← up (truB y)
      if c = k then pure (.bool k) else gxGo k tg tt te ρ xs
    else gxGo k tg tt te ρ xs
where truB : PyData → Option Bool
  | .bool b => some b
  | _ => none
def gxR (k : Bool) (it : SemL) (tg : Tg) (vs : List Nat) (tt : SemB) (te : Sem1) : Sem1 := fun ρ => do
  let items ← it ρ
  gxGo k tg tt te (wipeR ρ vs) items
theorem gx_to {P : Addr} {k : Bool} (hP : P ∈ tabs) {it : SemL} {tg : Tg} {own : List (PySem.Str × Nat)} {tt : SemB} {te : Sem1} (hsub : ∀ j ∈ tg.slots, j ∈ own.map (·.2)) {Q : VK} (h : Rd1 K tabs (gxR k it tg (own.map (·.2)) tt te) σ H Q) :
    tGxB P k (RdIt K tabs it) (RdG K tg) (RdB K tabs tt) (Rd1 K tabs te) (own.map (·.2)) σ H Q := by
  obtain ⟨δ, O, ρ, st, z, st', S, W, e, c⟩ := h
  obtain ⟨items, st1, e1, f1⟩ := bnd_some e
  refine ⟨δ, O, ρ, st, items, _, S, W, e1, fun J H1 E1 W1 hJ => ⟨W1.tab P hP, fun H2 hT => ?_⟩⟩
  have E2 : Ext δ H1 H2 := ext_tab (W1.tab P hP) hT
  have W2 := W1.tabbed (W1.tab P hP) hT
  have S2 := (S.ext E1 W.dl).ext E2 W1.dl
  refine ⟨fun i m H3 => ∃ stj, m = items.length - i ∧ WOk K tabs δ O stj H3 ∧ Ext δ H2 H3 ∧ gxGo k tg tt te (wipeR ρ (own.map (·.2))) (items.drop i) stj = some (z, st'), ⟨_, st1, rfl, W2, Ext.refl _ _, f1⟩, ?_⟩
  rintro i m H3 ⟨stj, rfl, W3, E3, hgo⟩
  have L3 : Lat2 δ O H1 O H3 := (Lat2.of E2).trans (Lat2.of E3)
  have hstep := hJ O stj H3 W3 L3 i
  by_cases hi : i < items.length
  · refine .inr ⟨(hstep.1 hi).1, fun x H4 hy => ?_⟩
    obtain ⟨E4, W4, d, hd, r4⟩ := (hstep.1 hi).2 x H4 hy
    have hdrop : items.drop i = d :: items.drop (i + 1) := by
      rw [List.drop_eq_getElem_cons hi]
      rw [List.getElem?_eq_getElem hi] at hd
      cases hd
      rfl
    rw [hdrop] at hgo
    obtain ⟨ρ1, sta, ga, ha⟩ := bnd_some hgo
    obtain ⟨ga2, rfl⟩ := up_some ga
    obtain ⟨b, stb, gb, hb⟩ := bnd_some ha
    have S4 : Slots K δ O (wipeR ρ (own.map (·.2))) (_root_.L2.wipe σ (own.map (·.2))) H4 := (S2.ext (E3.trans E4) W2.dl).wipe _
    refine ⟨δ, O, _, d, ρ1, S4, r4, ga2, fun σ' S' hk => ⟨wipe_eq ?_ fun j hj => hk j fun z => hj (hsub j z), ?_⟩⟩
    · rw [← S'.len, storeT_len ga2, wipeR_len, S.len]
    refine ⟨δ, O, ρ1, _, b, stb, S', W4, gb, fun H5 E5 W5 => ?_⟩
    cases b with
    | false =>
      exact iteF ⟨_, by omega, stb, rfl, W5, E3.trans (E4.trans E5), by simpa using hb⟩
    | true =>
      refine iteT ?_
      rw [if_pos rfl] at hb
      obtain ⟨y, stc, gc, hc'⟩ := bnd_some hb
      obtain ⟨b, std, gd, hd'⟩ := bnd_some hc'
      obtain ⟨gd2, rfl⟩ := up_some gd
      refine ⟨δ, O, ρ1, stb, y, _, S'.ext E5 W4.dl, W5, gc, fun w H6 E6 W6 R6 => ?_⟩
      unfold gxGo.truB at gd2
      split at gd2
      · cases gd2
        cases R6
        refine ⟨b, rfl, ?_⟩
        by_cases hbk : b = k
        · rw [if_pos hbk] at hd'
          obtain ⟨rfl, rfl⟩ := pur_some hd'
          rw [if_pos hbk]
          exact c _ _ (E1.trans (E2.trans (E3.trans (E4.trans (E5.trans E6))))) W6 (.bl _)
        · rw [if_neg hbk] at hd'
          rw [if_neg hbk]
          exact ⟨_, by omega, _, rfl, W6, E3.trans (E4.trans (E5.trans E6)), hd'⟩
      · cases gd2
  · refine .inl ⟨hstep.2 (by omega), ?_⟩
    rw [List.drop_of_length_le (by omega)] at hgo
    obtain ⟨rfl, rfl⟩ := pur_some hgo
    exact c _ _ (E1.trans (E2.trans E3)) W3 (.bl _)
variable {X : Cx}
theorem ex_any {c P : Addr} {tgE elt iter : Expr} {ifs : List Expr} {p pos gpos : Pos} {scope : Scope} {own : List (PySem.Str × Nat)} {it : SemL} {tg : Tg} {tt : SemB} {te : Sem1} (hc : X.calm = true) (hN : X.N.Nodup)
    (hroom : X.A.depth < recursionLimit) (hg : Gl X "any") (hm : X.mg "any" = none) (TB : GxR.TabB X.base X.mg c P) (hcode : X.env.code = .ref c) (hP : P ∈ tabs) (ok : GenOk X.N X.env.scope scope own) (hi : PI X tgE iter (RdIt X.K tabs it))
    (hG : ∀ (s : Shared) (H : Hp) (code : Value) (fp : List Addr), PG (X.gen s H scope code fp) tgE (RdG X.K tg)) (ht : ∀ (s : Shared) (H : Hp) (code : Value) (fp : List Addr), PTs (X.gen s H scope code fp) ifs (RdB X.K tabs tt)) (he : ∀ (s : Shared) (H : Hp) (code : Value) (fp : List Addr), PE (X.gen s H scope code fp) elt (Rd1 X.K tabs te))
    (hs : ∀ v, genFold iter X.env v = pure v) (hsub : ∀ j ∈ tg.slots, j ∈ own.map (·.2)) :
    PE X (.Call (.Name "any" p) [.GeneratorExp elt [⟨tgE, iter, ifs, 0⟩] scope gpos] [] pos) (Rd1 X.K tabs (gxR true it tg (own.map (·.2)) tt te)) :=
  PE.imp (pe_anyG hc hN hroom hg hm TB hcode ok hi hG ht he hs) fun σ H Q h => gx_to hP hsub h
theorem ex_all {c P : Addr} {tgE elt iter : Expr} {ifs : List Expr} {p pos gpos : Pos} {scope : Scope} {own : List (PySem.Str × Nat)} {it : SemL} {tg : Tg} {tt : SemB} {te : Sem1} (hc : X.calm = true) (hN : X.N.Nodup)
    (hroom : X.A.depth < recursionLimit) (hg : Gl X "all") (hm : X.mg "all" = none) (hb : bootBuiltins "all" = some (.builtin "all")) (TB : GxR.TabB X.base X.mg c P) (hcode : X.env.code = .ref c) (hP : P ∈ tabs) (ok : GenOk X.N X.env.scope scope own) (hi : PI X tgE iter (RdIt X.K tabs it))
    (hG : ∀ (s : Shared) (H : Hp) (code : Value) (fp : List Addr), PG (X.gen s H scope code fp) tgE (RdG X.K tg)) (ht : ∀ (s : Shared) (H : Hp) (code : Value) (fp : List Addr), PTs (X.gen s H scope code fp) ifs (RdB X.K tabs tt)) (he : ∀ (s : Shared) (H : Hp) (code : Value) (fp : List Addr), PE (X.gen s H scope code fp) elt (Rd1 X.K tabs te))
    (hs : ∀ v, genFold iter X.env v = pure v) (hsub : ∀ j ∈ tg.slots, j ∈ own.map (·.2)) :
    PE X (.Call (.Name "all" p) [.GeneratorExp elt [⟨tgE, iter, ifs, 0⟩] scope gpos] [] pos) (Rd1 X.K tabs (gxR false it tg (own.map (·.2)) tt te)) :=
  PE.imp (pe_allG hc hN hroom hg hm hb TB hcode ok hi hG ht he hs) fun σ H Q h => gx_to hP hsub h
end
end Fo
/-! the draws -/
namespace Fo
open PySem PySem.Spec PyProof.Rows L2
section
variable {X : Cx} {tabs : List Addr} {δ : Option Addr} {O0 : Addr → Prop} {H0 : Hp}
def drK (st : Dr) : Int → Option Int
  | 1 => some st.i
  | 2 => some st.s
  | 3 => some st.c
  | _ => none
def drR (i : Nat) (k : Int) : Sem1 := fun ρ st => match drO ρ[i]?, drK st k with
  | some _, some n => some (.int n, st)
  | _, _ => none
theorem drR_some {i : Nat} {k : Int} {ρ : Rho} {st st' : Dr} {z : PyData} (h : drR i k ρ st = some (z, st')) : ρ[i]? = some (some .dr) ∧ st' = st ∧ ∃ n, drK st k = some n ∧ z = .int n := by
  unfold drR at h
  split at h
  · rename_i u n e1 e2
    cases h
    exact ⟨drO_some e1, rfl, n, e2, rfl⟩
  · cases h
theorem drK_at {K : PySem.W.Frag} {H : Hp} {sa : Addr} {st : Dr} {k n : Int} (h : drK st k = some n) : atI [V.ref sa, .int st.i, .int st.s, .int st.c] k = some (.int n) := by
  unfold drK at h
  split at h <;> first | (cases h; rfl) | cases h
theorem dr_at {K : PySem.W.Frag} {O : Addr → Prop} {ρ : Rho} {σ : L2.St} {H : Hp} {st : Dr} {i : Nat} (S : Slots K δ O ρ σ H) (W : WOk K tabs δ O st H) (h : ρ[i]? = some (some .dr)) : ∃ a sa, δ = some a ∧ σ[i]? = some (some (.ref a)) ∧ H a = some (.lst [.ref sa, .int st.i, .int st.s, .int st.c]) ∧ SqL K (mask O H) sa (st.sc.map V.int) := by
  obtain ⟨v, h1, a, hδ, rfl⟩ := S.at_ i _ h
  obtain ⟨_, sa, h2, h3⟩ := W.dr a hδ
  exact ⟨a, sa, hδ, h1, h2, h3⟩
theorem ex_dr {i : Nat} {x : PySem.Str} {k : Int} {p p2 pos : Pos} {j : Nat} (hN : X.N[i]? = some x) (hv : Vis X.env.scope x) (hd : (x == ("__debug__" : PySem.Str)) = false) (hcd : (x == ("__classdict__" : PySem.Str)) = false) :
    PE X (.Subscript (.Name x p) (.Constant (.int k) j p2) pos) (Rd1 X.K tabs (drR i k)) :=
  PE.imp (pe_ix ix_list (pe_var hN hv hd hcd) pe_int fun _ _ => rfl) fun σ H Q ⟨δ, O, ρ, st, z, st', S, W, e, c⟩ => by
    obtain ⟨e1, rfl, n, e2, rfl⟩ := drR_some e
    obtain ⟨a, sa, hδ, h1, h2, h3⟩ := dr_at S W e1
    exact ⟨_, h1, a, _, k, .int n, rfl, rfl, SqL.of h2, drK_at (K := X.K) (H := H) e2, c _ H (Ext.refl _ _) W (.int _)⟩
def drLen (i : Nat) : Sem1 := fun ρ st => match drO ρ[i]? with
  | some _ => some (.int st.sc.length, st)
  | _ => none
theorem drLen_some {i : Nat} {ρ : Rho} {st st' : Dr} {z : PyData} (h : drLen i ρ st = some (z, st')) : ρ[i]? = some (some .dr) ∧ st' = st ∧ z = .int st.sc.length := by
  unfold drLen at h
  split at h
  · rename_i u e1
    cases h
    exact ⟨drO_some e1, rfl, rfl⟩
  · cases h
theorem ex_drLen {i : Nat} {x : PySem.Str} {p p1 p2 p3 pos : Pos} {j : Nat} (hN : X.N[i]? = some x) (hv : Vis X.env.scope x) (hd : (x == ("__debug__" : PySem.Str)) = false) (hcd : (x == ("__classdict__" : PySem.Str)) = false) (hg : Gl X "len") (hm : X.mg "len" = none) :
    PE X (.Call (.Name "len" p1) [.Subscript (.Name x p) (.Constant (.int 0) j p2) p3] [] pos) (Rd1 X.K tabs (drLen i)) :=
  PE.imp (pe_callB call_len hg hm (by decide +kernel) (pa_cons (pe_ix ix_list (pe_var hN hv hd hcd) pe_int fun _ _ => rfl) pa_nil rfl) (by decide) (by decide) rfl rfl) fun σ H Q ⟨δ, O, ρ, st, z, st', S, W, e, c⟩ => by
    obtain ⟨e1, rfl, rfl⟩ := drLen_some e
    obtain ⟨a, sa, hδ, h1, h2, h3⟩ := dr_at S W e1
    refine ⟨_, h1, a, _, 0, .ref sa, rfl, rfl, SqL.of h2, rfl, _, (st'.sc.map V.int).length, rfl, .inl ⟨_, rds_mask.seqL h3, rfl⟩, ?_⟩
    rw [List.length_map]
    exact c _ H (Ext.refl _ _) W (.int _)
def drGet (i : Nat) (m : Sem1) : Sem1 := fun ρ st => match drO ρ[i]?, m ρ st with
  | some _, some (.int k, st1) => (atI st.sc k).map fun n => (.int n, st1)
  | _, _ => none
theorem ex_drGet {i : Nat} {x : PySem.Str} {e : Expr} {m : Sem1} {p p2 p3 pos : Pos} {j : Nat} (hN : X.N[i]? = some x) (hv : Vis X.env.scope x) (hd : (x == ("__debug__" : PySem.Str)) = false) (hcd : (x == ("__classdict__" : PySem.Str)) = false) (he : PE X e (RdT X.K tabs m)) (hs : PlainIx e) :
    PE X (.Subscript (.Subscript (.Name x p) (.Constant (.int 0) j p2) p3) e pos) (Rd1 X.K tabs (drGet i m)) :=
  PE.imp (pe_ix ix_list (pe_ix ix_list (pe_var hN hv hd hcd) pe_int fun _ _ => rfl) he hs) fun σ H Q ⟨δ, O, ρ, st, z, st', S, W, e, c⟩ => by
    unfold drGet at e
    split at e
    · rename_i u k st1 e2 e1
      cases e3 : atI st.sc k with
      | none => rw [e3] at e; cases e
      | some n =>
        rw [e3] at e
        cases e
        obtain ⟨a, sa, hδ, h1, h2, h3⟩ := dr_at S W (drO_some e2)
        refine ⟨_, h1, a, _, 0, .ref sa, rfl, rfl, SqL.of h2, rfl, δ, O, ρ, st, .int k, _, S, W, e1, fun w H1 E1 W1 R1 => ?_⟩
        refine ⟨sa, _, k, .int n, rfl, R1.int, rds_mask.seqL ((rds_ext E1 W.dl).seqL h3), ?_, c _ H1 E1 W1 (.int _)⟩
        unfold atI at e3 ⊢
        rw [List.length_map]
        cases e4 : ixN st.sc.length k with
        | none => rw [e4] at e3; cases e3
        | some q =>
          rw [e4] at e3
          show (st.sc.map V.int)[q]? = some (.int n)
          rw [List.getElem?_map, show st.sc[q]? = some n from e3]
          rfl
    · cases e
/-! ### x[k] = e -/
def drPut (st : Dr) : Int → PyData → Option Dr
  | 1, .int n => some { st with i := n }
  | 2, .int n => some { st with s := n }
  | 3, .int n => some { st with c := n }
  | _, _ => none
def drSet (i : Nat) (k : Int) (m : Sem1) : SemS := fun ρ st => match m ρ st, drO ρ[i]? with
  | some (d, st1), some _ => (drPut st1 k d).map fun st2 => (.nx ρ, st2)
  | _, _ => none
theorem s_drSet {i : Nat} {x : PySem.Str} {k : Int} {e : Expr} {m : Sem1} {px p2 tpos pos : Pos} {j : Nat} (hN : X.N[i]? = some x) (hv : Vis X.env.scope x) (hd : (x == ("__debug__" : PySem.Str)) = false) (hcd : (x == ("__classdict__" : PySem.Str)) = false) (he : PE X e (Rd1 X.K tabs m))
    (hs : swapsWithSole [.Subscript (.Name x px) (.Constant (.int k) j p2) tpos] e pos.line X.env = pure false) (hw : swappedStores [.Subscript (.Name x px) (.Constant (.int k) j p2) tpos] e X.env = pure none) :
    PS X (.Assign [.Subscript (.Name x px) (.Constant (.int k) j p2) tpos] e pos) (RdS X.K tabs δ O0 H0 (drSet i k m)) :=
  PS.imp (ps_asg he (pg_sub (pe_var hN hv hd hcd) pe_int set_list fun _ => rfl) hs hw rfl) fun D σ H ⟨O, ρ, st, out, st', B, S, W, e, f⟩ => by
    unfold drSet at e
    split at e
    · rename_i d st1 u e1 e2
      cases e3 : drPut st1 k d with
      | none => rw [e3] at e; cases e
      | some st2 =>
        rw [e3] at e
        cases e
        refine ⟨δ, O, ρ, st, d, _, S, W, e1, fun w H1 E1 W1 R1 => ?_⟩
        have S1 := S.ext E1 W.dl
        obtain ⟨a, sa, hδ, h1, h2, h3⟩ := dr_at S1 W1 (drO_some e2)
        have hu : ∀ ys, Ext δ H1 (L2.upd H1 a (.lst ys)) := fun ys => ⟨fun b o q hb _ => by rw [upd_ne fun z => hb (by rw [z, hδ])]; exact q, fun b ps q => ⟨ps, by rw [upd_ne fun z => by rw [z, h2] at q; cases q]; exact q⟩, fun b q => by
          by_cases hb : b = a
          · subst hb; rw [upd_same] at q; cases q
          · rw [upd_ne hb] at q; exact q⟩
        have go : ∀ st2 : Dr, st2.sc = st1.sc → WOk X.K tabs δ O st2 (L2.upd H1 a (.lst [.ref sa, .int st2.i, .int st2.s, .int st2.c])) := fun st2 hsc => ⟨fun P hP => by
            obtain ⟨ps, q1, q2⟩ := W1.tab P hP
            exact ⟨ps, by rw [upd_ne fun z => by rw [z, h2] at q1; cases q1]; exact q1, q2⟩, fun a' ha' => by
            rw [hδ] at ha'
            cases ha'
            exact ⟨W1.dl a hδ, sa, upd_same, by rw [hsc]; exact (rds_ext (hu _) W1.dl).seqL h3⟩, fun b hb => by
            have := W1.own b hb
            by_cases hba : b = a
            · subst hba; rw [upd_same]; exact fun z => nomatch z
            · rw [upd_ne hba]; exact this⟩
        have fin : ∀ (st2 : Dr), FinAt X.K tabs δ O0 H0 O H ρ st2 D.nx → ∀ ys, st2.sc = st1.sc → ys = [V.ref sa, .int st2.i, .int st2.s, .int st2.c] → D.nx σ (L2.upd H1 a (.lst ys)) := fun st2 f ys hsc hys => by
          subst hys
          exact f O σ _ (B.of ((Lat2.of (O := O) E1).trans (Lat2.of (O := O) (hu _)))) (S1.ext (hu _) W1.dl) (go st2 hsc) ((rds_ext E1 W.dl).trans (rds_ext (hu _) W1.dl))
        unfold drPut at e3
        split at e3
        · cases e3
          cases R1
          exact ⟨_, h1, a, _, _, 1, rfl, rfl, h2, rfl, fin _ f _ rfl rfl⟩
        · cases e3
          cases R1
          exact ⟨_, h1, a, _, _, 2, rfl, rfl, h2, rfl, fin _ f _ rfl rfl⟩
        · cases e3
          cases R1
          exact ⟨_, h1, a, _, _, 3, rfl, rfl, h2, rfl, fin _ f _ rfl rfl⟩
        · cases e3
    · cases e
end
end Fo
/-! the reader of expressions -/
namespace Fo
open PySem PySem.Spec PyProof.Rows L2
structure FnI where
  d : Bool
  n : Nat
  sem : SemF
structure Cfg where
  N : List PySem.Str
  sc : Scope
  fns : List (PySem.Str × FnI)
  cis : List (PySem.Str × Int)
  blts : List PySem.Str
  gen : Bool
  fn : PySem.Str → Bool
  dr : Option PySem.Str
structure CfgOk (X : Cx) (tabs : List Addr) (C : Cfg) : Prop where
  N : X.N = C.N
  nd : C.N.Nodup
  sc : X.env.scope = C.sc
  calm : X.calm = true
  fn : ∀ x, C.fn x = true → X.fn x = true
  room : ∃ k, Room (k + C.gen.toNat) X.A ∧ ∀ p ∈ C.fns, FnS X tabs k p.1 p.2.d p.2.n p.2.sem
  cis : ∀ p ∈ C.cis, ∃ t, X.mg p.1 = some (.int p.2 t)
  blts : ∀ x ∈ C.blts, X.mg x = none
  tab : C.gen = true → ∃ c P, P ∈ tabs ∧ GxR.TabB X.base X.mg c P ∧ X.env.code = .ref c
def Cfg.blk (C : Cfg) (scope : Scope) : Cfg := { C with sc := relS scope C.sc, fn := fun x => scope.names.lookup x == some .cell }
def Cfg.gx (C : Cfg) (scope : Scope) : Cfg := { C with sc := scope, fn := fun _ => false, gen := false }
section
variable {X : Cx} {tabs : List Addr} {C : Cfg}
theorem CfgOk.blk (h : CfgOk X tabs C) (s : Shared) (H : Hp) (scope : Scope) (Cc : Addr) (cl : List (PySem.Str × Addr)) (fp : List Addr) : CfgOk (X.blk s H scope (compEnvC scope cl Cc X.env) fp) tabs (C.blk scope) :=
  ⟨h.N, h.nd, by show relS scope X.env.scope = relS scope C.sc; rw [h.sc], h.calm, fun _ e => e, h.room.elim fun k ⟨r, f⟩ => ⟨k, r, fun p hp => ⟨(f p hp).ok⟩⟩, h.cis, h.blts, h.tab⟩
theorem CfgOk.gx (h : CfgOk X tabs C) (hg : C.gen = true) (s : Shared) (H : Hp) (scope : Scope) (code : Value) (fp : List Addr) : CfgOk (X.gen s H scope code fp) tabs (C.gx scope) :=
  ⟨h.N, h.nd, rfl, h.calm, fun _ e => (by cases e), h.room.elim fun k ⟨r, f⟩ => ⟨k, by
    rw [hg] at r
    have r : Room (k + 1) X.A := r
    refine ⟨r.hd, ?_, ?_⟩
    · have := r.dp
      show X.A.depth + 1 + 3 * k + 5 < _
      omega
    · have := r.un
      show X.A.units + 1 + 1 + 3 + 16 * k + 200 < _
      omega, fun p hp => ⟨(f p hp).ok⟩⟩, h.cis, h.blts, fun z => (by cases z)⟩
theorem CfgOk.un (h : CfgOk X tabs C) : X.A.units + 70 < cLine := by
  obtain ⟨k, r, _⟩ := h.room
  have := r.un
  omega
theorem CfgOk.dp (h : CfgOk X tabs C) : X.A.depth < recursionLimit := by
  obtain ⟨k, r, _⟩ := h.room
  have := r.dp
  omega
/-! ### names -/
def visB (sc : Scope) (x : PySem.Str) : Bool := match sc.names.lookup x with
  | some .local => true
  | some .cell => true
  | some .free => true
  | _ => false
theorem vis_of {sc : Scope} {x : PySem.Str} (h : visB sc x = true) : Vis sc x := by
  unfold visB at h
  split at h
  · rename_i e; exact .inl e
  · rename_i e; exact .inr (.inl e)
  · rename_i e; exact .inr (.inr e)
  · cases h
def ixOf (x : PySem.Str) : List PySem.Str → Option Nat
  | [] => none
  | y :: ys => if y = x then some 0 else (ixOf x ys).map (· + 1)
theorem ixOf_some {x : PySem.Str} : ∀ {l : List PySem.Str} {i : Nat}, ixOf x l = some i → l[i]? = some x
  | [], _, h => by cases h
  | y :: ys, i, h => by
    unfold ixOf at h
    split at h
    · rename_i e
      cases h
      rw [e]
      rfl
    · cases e : ixOf x ys with
      | none => rw [e] at h; cases h
      | some j =>
        rw [e] at h
        cases h
        simpa using ixOf_some e
def okNm (x : PySem.Str) : Bool := !(x == ("__debug__" : PySem.Str)) && !(x == ("__classdict__" : PySem.Str))
def varI (C : Cfg) (x : PySem.Str) : Option Nat := if visB C.sc x = true ∧ okNm x = true then ixOf x C.N else none
theorem varI_some {x : PySem.Str} {i : Nat} (h : CfgOk X tabs C) (e : varI C x = some i) : X.N[i]? = some x ∧ Vis X.env.scope x ∧ (x == ("__debug__" : PySem.Str)) = false ∧ (x == ("__classdict__" : PySem.Str)) = false := by
  unfold varI at e
  split at e
  · rename_i q
    obtain ⟨q1, q2⟩ := q
    unfold okNm at q2
    rw [Bool.and_eq_true, Bool.not_eq_true', Bool.not_eq_true'] at q2
    exact ⟨by rw [h.N]; exact ixOf_some e, by rw [h.sc]; exact vis_of q1, q2.1, q2.2⟩
  · cases e
def glB (C : Cfg) (x : PySem.Str) : Bool := decide (C.sc.names.lookup x = some .globalImplicit)
theorem gl_of {x : PySem.Str} (h : CfgOk X tabs C) (e : glB C x = true) : Gl X x := by
  have := of_decide_eq_true e
  show X.env.scope.names.lookup x = _
  rw [h.sc]
  exact this
theorem lookup_mem {α : Type} {x : PySem.Str} : ∀ {l : List (PySem.Str × α)} {a : α}, l.lookup x = some a → (x, a) ∈ l := fun h => PySem.mem_of_lookup h
def locB (sc : Scope) (x : PySem.Str) : Bool := match sc.names.lookup x with
  | some .local => true
  | some .cell => true
  | _ => false
theorem loc_of {sc : Scope} {x : PySem.Str} (h : locB sc x = true) : Loc sc x := by
  unfold locB at h
  split at h
  · rename_i e; exact .inl e
  · rename_i e; exact .inr e
  · cases h
def tgNm (C : Cfg) : Expr → Option Nat
  | .Name x _ => if locB C.sc x = true ∧ (C.fn x = true ∨ C.sc.names.lookup x = some .local) then ixOf x C.N else none
  | _ => none
theorem tgNm_some {e : Expr} {i : Nat} (h : CfgOk X tabs C) (q : tgNm C e = some i) : NmOk X e i := by
  unfold tgNm at q
  split at q
  · split at q
    · rename_i c
      refine ⟨_, _, rfl, by rw [h.N]; exact ixOf_some q, by rw [h.sc]; exact loc_of c.1, ?_⟩
      rcases c.2 with w | w
      · exact .inl (h.fn _ w)
      · exact .inr (by rw [h.sc]; exact w)
    · cases q
  · cases q
def tgNms (C : Cfg) : List Expr → Option (List Nat)
  | [] => some []
  | e :: es => match tgNm C e, tgNms C es with
    | some i, some is => some (i :: is)
    | _, _ => none
theorem tgNms_some (h : CfgOk X tabs C) : ∀ {es : List Expr} {is : List Nat}, tgNms C es = some is → Paired (NmOk X) es is
  | [], _, q => by cases q; exact .nil
  | e :: es, is, q => by
    unfold tgNms at q
    split at q
    · rename_i e1 e2
      cases q
      exact .cons (tgNm_some h e1) (tgNms_some h e2)
    · cases q
def tgOf (C : Cfg) (e : Expr) : Option Tg := match e with
  | .Name x p => (tgNm C (.Name x p)).map .nm
  | .Tuple es _ _ => (tgNms C es).map .tp
  | _ => none
theorem tgOf_some {e : Expr} {t : Tg} (h : CfgOk X tabs C) (q : tgOf C e = some t) : PG X e (RdG X.K t) := by
  have hN : X.N.Nodup := by rw [h.N]; exact h.nd
  unfold tgOf at q
  split at q
  · rename_i x p
    cases e1 : tgNm C (.Name x p) with
    | none => rw [e1] at q; cases q
    | some i =>
      rw [e1] at q
      cases q
      exact eg_nm hN (tgNm_some h e1)
  · rename_i es k p
    cases e1 : tgNms C es with
    | none => rw [e1] at q; cases q
    | some is =>
      rw [e1] at q
      cases q
      exact eg_tp h.calm hN (tgNms_some h e1)
  · cases q
/-! ### what is not read -/
def bad : Sem1 := fun _ => up none
def badB : SemB := fun _ => up none
def badL : SemL := fun _ => up none
theorem pe_bad {e : Expr} : PE X e (Rd1 X.K tabs bad) := ⟨fun pins s σ H Q I ⟨δ, O, ρ, st, z, st', S, W, e, c⟩ => by cases e⟩
theorem pt_bad {e : Expr} : PT X e (RdB X.K tabs badB) := ⟨fun pins s σ H Q I ⟨δ, O, ρ, st, z, st', S, W, e, c⟩ => by cases e⟩
theorem pa_bad {e : List Expr} : PA X e (RdL X.K tabs badL) := ⟨fun pos pins s σ H Q I ⟨δ, O, ρ, st, z, st', S, W, e, c⟩ => by cases e⟩
theorem pa_badT {e : List Expr} : PA X e (RdLT X.K tabs badL) := ⟨fun pos pins s σ H Q I ⟨δ, O, ρ, st, z, st', S, W, e, c⟩ => by cases e⟩
theorem pi_bad {tg e : Expr} : PI X tg e (RdI X.K tabs badL) := ⟨fun pins s σ H R I ⟨δ, O, ρ, st, z, st', S, W, e, c⟩ => by cases e⟩
def lenR (n : Nat) (r : SemL) : SemL := fun ρ => do let ds ← r ρ; if ds.length = n then pure ds else up none
theorem len_some {n : Nat} {r : SemL} {ρ : Rho} {st st' : Dr} {ds : List PyData} (h : lenR n r ρ st = some (ds, st')) : r ρ st = some (ds, st') ∧ ds.length = n := by
  obtain ⟨es, st1, e1, f1⟩ := bnd_some h
  split at f1
  · rename_i hl
    obtain ⟨rfl, rfl⟩ := pur_some f1
    exact ⟨e1, hl⟩
  · cases f1
theorem ea_len {es : List Expr} {n : Nat} {r : SemL} (h : PA X es (RdL X.K tabs r)) : PA X es (RdL X.K tabs (lenR n r)) := PA.imp h fun σ H Q ⟨δ, O, ρ, st, z, st', S, W, e, c⟩ => ⟨δ, O, ρ, st, z, st', S, W, (len_some e).1, c⟩
theorem eat_len {es : List Expr} {n : Nat} {r : SemL} (h : PA X es (RdLT X.K tabs r)) : PA X es (RdLT X.K tabs (lenR n r)) := PA.imp h fun σ H Q ⟨δ, O, ρ, st, z, st', S, W, e, c⟩ => ⟨δ, O, ρ, st, z, st', S, W, (len_some e).1, c⟩
/-! ### operators -/
def opV : Operator → Option (PyData → PyData → Option PyData)
  | .Add => some addV
  | .Sub => some subV
  | .Mult => some mulV
  | .Mod => some modV
  | .FloorDiv => some fdivV
  | .Pow => some powV
  | _ => none
theorem opV_some {op : Operator} {g : PyData → PyData → Option PyData} (h : opV op = some g) : OpS X (binaryOp op) g := by
  cases op <;> first | cases h | skip
  · exact os_add
  · exact os_sub
  · exact os_mul
  · exact os_mod
  · exact os_pow
  · exact os_fdiv
def cmpG : CmpOp → PyData → PyData → Option PyData
  | .Eq => eqV
  | .NotEq => neV
  | .In => inV false
  | .NotIn => inV true
  | .Is => isV false
  | .IsNot => isV true
  | op => cmpV op
theorem cmpG_os {op : CmpOp} (hu : X.A.units + 65 < cLine) : OpS X (compareOp op) (cmpG op) := by
  cases op
  · exact os_eq hu
  · exact os_ne hu
  · exact os_cmp hu (.inl rfl)
  · exact os_cmp hu (.inr (.inl rfl))
  · exact os_cmp hu (.inr (.inr (.inl rfl)))
  · exact os_cmp hu (.inr (.inr (.inr rfl)))
  · exact os_is false
  · exact os_is true
  · exact os_in hu false
  · exact os_in hu true
theorem ite_bool {c : Prop} [Decidable c] {b : Bool} {z : PyData} (h : (if c then some (PyData.bool b) else none) = some z) : ∃ b, z = .bool b := by
  split at h
  · cases h; exact ⟨_, rfl⟩
  · cases h
theorem cmpG_bool (op : CmpOp) : BoolV (cmpG op) := by
  intro d e z h
  cases op
  · exact ite_bool h
  · exact ite_bool h
  · exact ite_bool h
  · exact ite_bool h
  · exact ite_bool h
  · exact ite_bool h
  · cases e <;> first | cases h | skip
    · exact ⟨_, rfl⟩
    · cases d <;> first | cases h | skip
      exact ⟨_, rfl⟩
  · cases e <;> first | cases h | skip
    · exact ⟨_, rfl⟩
    · cases d <;> first | cases h | skip
      exact ⟨_, rfl⟩
  · cases e <;> first | exact ite_bool h | cases h
  · cases e <;> first | exact ite_bool h | cases h
end
end Fo
namespace Fo
open PySem PySem.Spec PyProof.Rows L2
/-- readers one level down -/
structure Sms where
  E : Cfg → Expr → Sem1
  T : Cfg → Expr → Sem1
  B : Cfg → Expr → SemB
def botS : Sms := ⟨fun _ _ => bad, fun _ _ => bad, fun _ _ => badB⟩
section
variable (s : Sms) (C : Cfg)
def lL : List Expr → SemL
  | [] => nilR
  | e :: es => match e with
    | .Starred e' _ => starR (s.T C e') (lL es)
    | e => if plain e = true then consR (s.E C e) (lL es) else badL
def lLT : List Expr → SemL
  | [] => nilR
  | e :: es => if plain e = true then consR (s.T C e) (lLT es) else badL
def rngArgs (e : Expr) : Option (List Expr) := match e with
  | .Call (.Name f _) args [] _ => if f = "range" ∧ glB C f = true ∧ f ∈ C.blts then (match args with | [a] => if [a].all plain = true then some [a] else none | [a, b] => if [a, b].all plain = true then some [a, b] else none | _ => none) else none
  | _ => none
def itS (e : Expr) : SemL := match rngArgs C e with
  | some as => rngR (lenR as.length (lLT s C as))
  | none => itemsR (s.E C e)
def itT (e : Expr) : SemL := match rngArgs C e with
  | some as => rngR (lenR as.length (lLT s C as))
  | none => itemsR (s.T C e)
def notSet : Expr → Bool
  | .Set .. => false
  | .List .. => false
  | _ => true
def ownOf (N : List PySem.Str) (scope : Scope) : List (PySem.Str × Nat) := scope.names.filterMap fun (x, k) => if k = .local ∨ k = .cell then (ixOf x N).map fun i => (x, i) else none
def ifsB : List Expr → SemB
  | [] => yesB
  | [c] => s.B C c
  | _ => badB
def subB (t : Tg) (vs : List Nat) : Bool := t.slots.all fun j => decide (j ∈ vs)
def lcE (elt tg iter : Expr) (ifs : List Expr) (scope : Scope) : Sem1 := match tgOf (C.blk scope) tg with
  | some t => if blkC C.N C.sc scope (ownOf C.N scope) = true ∧ notSet iter = true ∧ subB t ((ownOf C.N scope).map (·.2)) = true then
      lcR (itT s C iter) t ((ownOf C.N scope).map (·.2)) (ifsB s (C.blk scope) ifs) (s.E (C.blk scope) elt) else bad
  | none => bad
def genC (N : List PySem.Str) (sc scope : Scope) (own : List (PySem.Str × Nat)) : Bool :=
  decide (scope.kind = .function) && !scope.isCoroutine && (scope.names.all fun y => decide (scope.names.lookup y.1 = some y.2)) && (scope.names.all fun y => decide (y.2 ≠ .cell)) && decide (scope.names.lookup (".0" : PySem.Str) = some .local) && (own.all fun p => decide (N[p.2]? = some p.1)) &&
    (scope.names.all fun y => !decide (y.2 = .free) || (decide (sc.names.lookup y.1 = some .cell) || decide (sc.names.lookup y.1 = some .free))) && (scope.names.all fun y => !decide (y.2 = .local) || (decide (y.1 ∈ own.map (·.1)) || decide (y.1 ∉ N)))
def gxE (k : Bool) (f : PySem.Str) (elt tg iter : Expr) (ifs : List Expr) (scope : Scope) : Sem1 := match tgOf (C.gx scope) tg with
  | some t => if C.gen = true ∧ glB C f = true ∧ f ∈ C.blts ∧ genC C.N C.sc scope (ownOf C.N scope) = true ∧ notSet iter = true ∧ subB t ((ownOf C.N scope).map (·.2)) = true then
      gxR k (itT s C iter) t ((ownOf C.N scope).map (·.2)) (ifsB s (C.gx scope) ifs) (s.E (C.gx scope) elt) else bad
  | none => bad
/-- built-ins of plain values -/
def bltG (f : PySem.Str) : Option (List PyData → Option PyData) :=
  if f = "len" then some lenV else if f = "abs" then some absV else if f = "int" then some intV1 else if f = "max" then some max2V else if f = "min" then some min2V else if f = "tuple" then some tupleV else if f = "list" then some listV else if f = "sum" then some sumV else if f = "sorted" then some sortedV else none
def tyOf (x : PySem.Str) : Option String :=
  if x = "int" then some "int" else if x = "bool" then some "bool" else if x = "str" then some "str" else if x = "list" then some "list" else if x = "tuple" then some "tuple" else if x = "dict" then some "dict" else none
def callE (f : PySem.Str) (args : List Expr) : Sem1 := match C.fns.lookup f with
  | some F => if glB C f = true ∧ (f == ("__debug__" : PySem.Str)) = false then
      (if F.d = true then (match args with
        | .Name y _ :: es => (match varI C y with
          | some i => if es.all plain = true ∧ 0 < F.n then callD F.sem i (lenR (F.n - 1) (lL s C es)) else bad
          | none => bad)
        | _ => bad)
       else if args.all plain = true ∧ args ≠ [] then callR F.sem (lenR F.n (lL s C args)) else bad) else bad
  | none => if glB C f = true ∧ f ∈ C.blts ∧ args.all plain = true ∧ args ≠ [] then
      (if f = "isinstance" then (match args with
        | [e, .Name t _] => (match tyOf t with
          | some T => if glB C t = true ∧ t ∈ C.blts then unR (isiV T) (s.T C e) else bad
          | none => bad)
        | _ => bad)
      else match bltG f with
        | some g => bltR g (lLT s C args)
        | none => bad) else bad
def optO : Option Expr → SemO
  | none => noO
  | some e => someO (s.T C e)
def boolE (op : BoolOp) : List Expr → Sem1
  | [] => bad
  | [a] => s.E C a
  | a :: es => match op with
    | .And => andR (s.E C a) (boolE op es)
    | .Or => orR (s.E C a) (boolE op es)
def boolB (op : BoolOp) : List Expr → SemB
  | [] => badB
  | [a] => s.B C a
  | a :: es => match op with
    | .And => andB (s.B C a) (boolB op es)
    | .Or => orB (s.B C a) (boolB op es)
def isSlice : Expr → Bool
  | .Slice .. => true
  | _ => false
def stepE0 (e : Expr) : Sem1 := match e with
  | .Constant (.int i) _ _ => cstR (.int i)
  | .Constant (.bool i) _ _ => cstR (.bool i)
  | .Constant .none _ _ => cstR .none
  | .Constant (.str x) _ _ => cstR (.str x)
  | .Name x _ => (match varI C x with
    | some i => vaR i
    | none => match C.cis.lookup x with
      | some n => if glB C x = true ∧ (x == ("__debug__" : PySem.Str)) = false then cstR (.int n) else bad
      | none => bad)
  | .BinOp a op b _ => (match opV op with
    | some g => binR g (s.T C a) (s.T C b)
    | none => bad)
  | .UnaryOp .Not a _ => notR (s.E C a)
  | .BoolOp op es _ => boolE s C op es
  | .Compare a [op] [b] _ => if behindInMarks op b = false then binR (cmpG op) (s.T C a) (s.T C b) else bad
  | .Compare a [op, op'] [b, d] _ => if lastMarks [op, op'] [b, d] = false then chnR (cmpG op) (cmpG op') (s.T C a) (s.T C b) (s.T C d) else bad
  | .IfExp t a b _ => iteR (s.B C t) (s.E C a) (s.E C b)
  | .Tuple es _ _ => dispR .tuple (lL s C es)
  | .List es _ => dispR .list (lL s C es)
  | .Subscript a (.Slice lo hi none _) _ => slcR (s.T C a) (optO s C lo) (optO s C hi)
  | .Subscript a (.Slice none none (some (.UnaryOp .USub (.Constant (.int 1) _ _) _)) _) _ => unR revV (s.T C a)
  | .Subscript a b _ => if isSlice b = false then binR getV (s.T C a) (s.T C b) else bad
  | .ListComp elt [⟨tg, iter, ifs, 0⟩] scope _ => lcE s C elt tg iter ifs scope
  | .Call (.Name f _) [.GeneratorExp elt [⟨tg, iter, ifs, 0⟩] scope _] [] _ => if f = "any" then gxE s C true f elt tg iter ifs scope else if f = "all" then gxE s C false f elt tg iter ifs scope else bad
  | .Call (.Name f _) args [] _ => callE s C f args
  | _ => bad
/-- the draws' own fields -/
def drE (e : Expr) : Option Sem1 := match C.dr with
  | none => none
  | some x => match varI C x with
    | none => none
    | some i => match e with
      | .Subscript (.Name y _) (.Constant (.int k) _ _) _ => if y = x ∧ k ≠ 0 then some (drR i k) else none
      | .Subscript (.Subscript (.Name y _) (.Constant (.int k) _ _) _) e' _ => if y = x ∧ k = 0 ∧ isSlice e' = false then some (drGet i (s.T C e')) else none
      | .Call (.Name f _) [.Subscript (.Name y _) (.Constant (.int k) _ _) _] [] _ => if f = "len" ∧ y = x ∧ k = 0 ∧ glB C f = true ∧ f ∈ C.blts then some (drLen i) else none
      | _ => none
def stepE (e : Expr) : Sem1 := match drE s C e with
  | some m => m
  | none => stepE0 s C e
def stepT (e : Expr) : Sem1 := match e with
  | .Name x _ => (match varI C x with
    | some i => tvR i
    | none => stepE s C e)
  | e => stepE s C e
def stepB (e : Expr) : SemB := match e with
  | .UnaryOp .Not a _ => notB (s.B C a)
  | .BoolOp op es _ => boolB s C op es
  | .IfExp _ _ _ _ => badB
  | .Compare a [op] [b] _ => if behindInMarks op b = false then tstR (binR (cmpG op) (s.T C a) (s.T C b)) else badB
  | .Compare a [op, op'] [b, d] _ => if lastMarks [op, op'] [b, d] = false then tstR (chnR (cmpG op) (cmpG op') (s.T C a) (s.T C b) (s.T C d)) else badB
  | .Compare .. => badB
  | .UnaryOp .. => badB
  | e => tstR (stepT s C e)
end
def step (s : Sms) : Sms := ⟨stepE s, stepT s, stepB s⟩
def rd : Nat → Sms
  | 0 => botS
  | n + 1 => step (rd n)
structure Good (s : Sms) : Prop where
  E : ∀ {X : Cx} {tabs : List Addr} {C : Cfg}, CfgOk X tabs C → ∀ e, PE X e (Rd1 X.K tabs (s.E C e))
  T : ∀ {X : Cx} {tabs : List Addr} {C : Cfg}, CfgOk X tabs C → ∀ e, PE X e (RdT X.K tabs (s.T C e))
  B : ∀ {X : Cx} {tabs : List Addr} {C : Cfg}, CfgOk X tabs C → ∀ e, PT X e (RdB X.K tabs (s.B C e))
theorem good_bot : Good botS := ⟨fun _ _ => pe_bad, fun _ _ => ex_T pe_bad, fun _ _ => pt_bad⟩
section
variable {s : Sms} {X : Cx} {tabs : List Addr} {C : Cfg}
theorem pa_lL (G : Good s) (h : CfgOk X tabs C) : ∀ es : List Expr, PA X es (RdL X.K tabs (lL s C es))
  | [] => by unfold lL; exact ea_nil
  | e :: es => by
    unfold lL
    split
    · exact ea_star (G.T h _) (pa_lL G h es)
    · split
      · rename_i hp
        exact ea_cons hp (G.E h _) (pa_lL G h es)
      · exact pa_bad
theorem pa_lLT (G : Good s) (h : CfgOk X tabs C) : ∀ es : List Expr, PA X es (RdLT X.K tabs (lLT s C es))
  | [] => by unfold lLT; exact eat_nil
  | e :: es => by
    unfold lLT
    split
    · rename_i hp
      exact eat_cons hp (G.T h _) (pa_lLT G h es)
    · exact pa_badT
theorem bad_all {P : Prop} (h : False) : P := h.elim
theorem rng_ok (h : CfgOk X tabs C) {tg e : Expr} {as : List Expr} {r : SemL} (q : rngArgs C e = some as) (hr : PA X as (RdLT X.K tabs r)) : PI X tg e (RdI X.K tabs (rngR (lenR as.length r))) := by
  unfold rngArgs at q
  split at q
  · split at q
    · rename_i c
      obtain ⟨rfl, c2, c3⟩ := c
      split at q
      · split at q
        · rename_i hp
          cases q
          exact ei_rng1 (gl_of h c2) (h.blts _ c3) hp (eat_len hr) fun ρ st ds st' w => (len_some w).2
        · cases q
      · split at q
        · rename_i hp
          cases q
          exact ei_rng2 (gl_of h c2) (h.blts _ c3) hp (eat_len hr) fun ρ st ds st' w => (len_some w).2
        · cases q
      · cases q
    · cases q
  · cases q
theorem pi_itS (G : Good s) (h : CfgOk X tabs C) (tg e : Expr) : PI X tg e (RdI X.K tabs (itS s C e)) := by
  unfold itS
  split
  · rename_i as q
    exact rng_ok h q (pa_lLT G h as)
  · exact ei_val (G.E h e)
theorem pi_itT (G : Good s) (h : CfgOk X tabs C) (tg e : Expr) : PI X tg e (RdIt X.K tabs (itT s C e)) := by
  unfold itT
  split
  · rename_i as q
    exact ei_T (rng_ok h q (pa_lLT G h as))
  · exact ei_valT (G.T h e)
theorem notSet_f {e : Expr} {env : Env} (h : notSet e = true) : ∀ x, foldedSetIterable e env x = pure x := by
  intro x
  cases e <;> first | rfl | cases h
theorem notSet_g {e : Expr} {env : Env} (h : notSet e = true) : ∀ x, genFold e env x = pure x := by
  intro x
  cases e <;> first | rfl | cases h
theorem pts_ifs (G : Good s) (h : CfgOk X tabs C) (ifs : List Expr) : PTs X ifs (RdB X.K tabs (ifsB s C ifs)) := by
  unfold ifsB
  split
  · exact ets_nil
  · exact ets_one (G.B h _)
  · exact ⟨fun pins s σ H Q I ⟨δ, O, ρ, st, z, st', S, W, e, c⟩ => by cases e⟩
theorem sub_of {t : Tg} {vs : List Nat} (h : subB t vs = true) : ∀ j ∈ t.slots, j ∈ vs := by
  unfold subB at h
  rw [List.all_eq_true] at h
  exact fun j hj => of_decide_eq_true (h j hj)
theorem nd_of (h : CfgOk X tabs C) : X.N.Nodup := by rw [h.N]; exact h.nd
theorem pe_lcE (G : Good s) (h : CfgOk X tabs C) {elt tg iter : Expr} {ifs : List Expr} {scope : Scope} {pos : Pos} : PE X (.ListComp elt [⟨tg, iter, ifs, 0⟩] scope pos) (Rd1 X.K tabs (lcE s C elt tg iter ifs scope)) := by
  unfold lcE
  split
  · rename_i t ht
    split
    · rename_i c
      obtain ⟨c1, c2, c3⟩ := c
      exact ex_lc h.calm (nd_of h) (pi_itT G h _ _) (by rw [h.N, h.sc]; exact blkOk_by c1) (fun s H Cc cl fp => tgOf_some (h.blk s H scope Cc cl fp) ht) (fun s H Cc cl fp => pts_ifs G (h.blk s H scope Cc cl fp) ifs) (fun s H Cc cl fp => G.E (h.blk s H scope Cc cl fp) elt) (notSet_f c2) (sub_of c3)
    · exact pe_bad
  · exact pe_bad
theorem genOk_by {N : List PySem.Str} {sc scope : Scope} {own : List (PySem.Str × Nat)} (h : genC N sc scope own = true) : GenOk N sc scope own := by
  unfold genC at h
  simp only [Bool.and_eq_true, List.all_eq_true, decide_eq_true_eq, Bool.not_eq_true', Bool.or_eq_true, decide_eq_false_iff_not] at h
  obtain ⟨⟨⟨⟨⟨⟨⟨h1, h2⟩, h3⟩, h4⟩, h5⟩, h6⟩, h7⟩, h8⟩ := h
  exact ⟨h1, h2, h3, h4, h5, h6, fun y hy e => (h7 y hy).elim (fun w => absurd e w) id, fun y hy e => (h8 y hy).elim (fun w => absurd e w) id⟩
theorem pe_gxE (G : Good s) (h : CfgOk X tabs C) {k : Bool} {f : PySem.Str} (hf : f = if k then "any" else "all") {elt tg iter : Expr} {ifs : List Expr} {scope : Scope} {p gpos pos : Pos} : PE X (.Call (.Name f p) [.GeneratorExp elt [⟨tg, iter, ifs, 0⟩] scope gpos] [] pos) (Rd1 X.K tabs (gxE s C k f elt tg iter ifs scope)) := by
  unfold gxE
  split
  · rename_i t ht
    split
    · rename_i c
      obtain ⟨c0, c1, c2, c3, c4, c5⟩ := c
      obtain ⟨cd, P, hP, TB, hcode⟩ := h.tab c0
      have ok : GenOk X.N X.env.scope scope (ownOf C.N scope) := by rw [h.N, h.sc]; exact genOk_by c3
      cases k with
      | true =>
        have hf : f = "any" := hf
        subst hf
        exact ex_any h.calm (nd_of h) h.dp (gl_of h c1) (h.blts _ c2) TB hcode hP ok (pi_itT G h _ _) (fun s H code fp => tgOf_some (h.gx c0 s H scope code fp) ht) (fun s H code fp => pts_ifs G (h.gx c0 s H scope code fp) ifs) (fun s H code fp => G.E (h.gx c0 s H scope code fp) elt) (notSet_g c4) (sub_of c5)
      | false =>
        have hf : f = "all" := hf
        subst hf
        exact ex_all h.calm (nd_of h) h.dp (gl_of h c1) (h.blts _ c2) (by decide +kernel) TB hcode hP ok (pi_itT G h _ _) (fun s H code fp => tgOf_some (h.gx c0 s H scope code fp) ht) (fun s H code fp => pts_ifs G (h.gx c0 s H scope code fp) ifs) (fun s H code fp => G.E (h.gx c0 s H scope code fp) elt) (notSet_g c4) (sub_of c5)
    · exact pe_bad
  · exact pe_bad
end
end Fo
namespace Fo
open PySem PySem.Spec PyProof.Rows L2
section
variable {s : Sms} {X : Cx} {tabs : List Addr} {C : Cfg}
theorem pe_blt (G : Good s) (h : CfgOk X tabs C) {f : PySem.Str} {e : Expr} {es : List Expr} {p pos : Pos} {g : List PyData → Option PyData} (q : bltG f = some g) (c1 : glB C f = true) (c2 : f ∈ C.blts) (c3 : (e :: es).all plain = true) :
    PE X (.Call (.Name f p) (e :: es) [] pos) (Rd1 X.K tabs (bltR g (lLT s C (e :: es)))) := by
  have hu := h.un
  have ha := pa_lLT G h (e :: es)
  unfold bltG at q
  split at q
  · rename_i e; subst e; cases q
    exact ex_bltB (id := "len") cs_len (gl_of h c1) (h.blts _ c2) (by decide +kernel) c3 ha (by decide) (by decide)
  split at q
  · rename_i e; subst e; cases q
    exact ex_bltB (id := "abs") cs_abs (gl_of h c1) (h.blts _ c2) (by decide +kernel) c3 ha (by decide) (by decide)
  split at q
  · rename_i e; subst e; cases q
    exact ex_bltT (T := "int") cs_int (gl_of h c1) (h.blts _ c2) (by decide +kernel) c3 ha (by decide) (by decide)
  split at q
  · rename_i e; subst e; cases q
    exact ex_bltB (id := "max") (cs_max2 h.calm) (gl_of h c1) (h.blts _ c2) (by decide +kernel) c3 ha (by decide) (by decide)
  split at q
  · rename_i e; subst e; cases q
    exact ex_bltB (id := "min") (cs_min2 h.calm) (gl_of h c1) (h.blts _ c2) (by decide +kernel) c3 ha (by decide) (by decide)
  split at q
  · rename_i e; subst e; cases q
    exact ex_bltT (T := "tuple") cs_tuple (gl_of h c1) (h.blts _ c2) (by decide +kernel) c3 ha (by decide) (by decide)
  split at q
  · rename_i e; subst e; cases q
    exact ex_bltT (T := "list") cs_list (gl_of h c1) (h.blts _ c2) (by decide +kernel) c3 ha (by decide) (by decide)
  split at q
  · rename_i e; subst e; cases q
    exact ex_bltB (id := "sum") (cs_sum h.calm) (gl_of h c1) (h.blts _ c2) (by decide +kernel) c3 ha (by decide) (by decide)
  split at q
  · rename_i e; subst e; cases q
    exact ex_bltB (id := "sorted") (cs_sorted hu) (gl_of h c1) (h.blts _ c2) (by decide +kernel) c3 ha (by decide) (by decide)
  cases q
theorem tyOf_some {x : PySem.Str} {T : String} (h : tyOf x = some T) : T ∈ ["int", "bool", "str", "list", "tuple", "dict"] ∧ bootBuiltins x = some (.type T) ∧ x ≠ "__name__" ∧ (x == ("__debug__" : PySem.Str)) = false := by
  unfold tyOf at h
  split at h
  · rename_i e; subst e; cases h; decide +kernel
  split at h
  · rename_i e; subst e; cases h; decide +kernel
  split at h
  · rename_i e; subst e; cases h; decide +kernel
  split at h
  · rename_i e; subst e; cases h; decide +kernel
  split at h
  · rename_i e; subst e; cases h; decide +kernel
  split at h
  · rename_i e; subst e; cases h; decide +kernel
  cases h
theorem pe_callE (G : Good s) (h : CfgOk X tabs C) {f : PySem.Str} {args : List Expr} {p pos : Pos} : PE X (.Call (.Name f p) args [] pos) (Rd1 X.K tabs (callE s C f args)) := by
  unfold callE
  split
  · rename_i F hF
    obtain ⟨k, r, hf⟩ := h.room
    have fs := hf _ (lookup_mem hF)
    have rk : Room k X.A := r.mono (by omega)
    split
    · rename_i c
      obtain ⟨c1, c2⟩ := c
      split
      · rename_i hd
        rw [hd] at fs
        split
        · split
          · rename_i i hi
            obtain ⟨v1, v2, v3, v4⟩ := varI_some h hi
            split
            · rename_i hp
              obtain ⟨hp, hn⟩ := hp
              obtain ⟨n, hn'⟩ : ∃ n, F.n = n + 1 := ⟨F.n - 1, by omega⟩
              rw [hn'] at fs ⊢
              exact ex_callD fs rk (gl_of h c1) c2 v1 v2 v3 v4 hp (ea_len (pa_lL G h _)) fun ρ st ds st' w => (len_some w).2
            · exact pe_bad
          · exact pe_bad
        · exact pe_bad
      · rename_i hd
        have hd : F.d = false := by simpa using hd
        rw [hd] at fs
        split
        · rename_i hp
          obtain ⟨hp, hne⟩ := hp
          cases args with
          | nil => exact absurd rfl hne
          | cons e es => exact ex_call fs rk (gl_of h c1) c2 hp (ea_len (pa_lL G h _)) fun ρ st ds st' w => (len_some w).2
        · exact pe_bad
    · exact pe_bad
  · split
    · rename_i c
      obtain ⟨c1, c2, c3, c4⟩ := c
      split
      · rename_i hf
        subst hf
        split
        · split
          · rename_i T hT
            obtain ⟨t1, t2, t3, t4⟩ := tyOf_some hT
            split
            · rename_i c
              have hp : plain _ = true := (plain_hd c3).1
              exact ex_isi (G.T h _) hp t1 (gl_of h c1) (h.blts _ c2) (gl_of h c.1) (h.blts _ c.2) t2 t3 t4
            · exact pe_bad
          · exact pe_bad
        · exact pe_bad
      · split
        · rename_i g hg
          cases args with
          | nil => exact absurd rfl c4
          | cons e es => exact pe_blt G h hg c1 c2 c3
        · exact pe_bad
    · exact pe_bad
theorem pw_boolB (G : Good s) (h : CfgOk X tabs C) (op : BoolOp) {pos : Pos} : ∀ es : List Expr, PW X (.BoolOp op es pos) (RdB X.K tabs (boolB s C op es))
  | [] => ⟨fun w pins s σ H Q I ⟨δ, O, ρ, st, z, st', S, W, e, c⟩ => by cases e⟩
  | [a] => by
    unfold boolB
    cases op with
    | And => exact pw_and1 (G.B h a)
    | Or => exact pw_or1 (G.B h a)
  | a :: b :: es => by
    unfold boolB
    cases op with
    | And => exact ew_and (G.B h a) (pw_boolB G h .And (b :: es))
    | Or => exact ew_or (G.B h a) (pw_boolB G h .Or (b :: es))
theorem eval_bool1 {op : BoolOp} {a : Expr} {pos : Pos} {env : Env} : eval (.BoolOp op [a] pos) env = eval a env := rfl
theorem pe_boolE (G : Good s) (h : CfgOk X tabs C) (op : BoolOp) {pos : Pos} : ∀ es : List Expr, PE X (.BoolOp op es pos) (Rd1 X.K tabs (boolE s C op es))
  | [] => pe_bad
  | [a] => ⟨fun pins s σ H Q I q => by
    rw [eval_bool1]
    exact (G.E h a).run pins s σ H Q I (by unfold boolE at q; exact q)⟩
  | a :: b :: es => by
    unfold boolE
    cases op with
    | And => exact ex_and (G.E h a) (pe_boolE G h .And (b :: es))
    | Or => exact ex_or (G.E h a) (pe_boolE G h .Or (b :: es))
theorem po_optO (G : Good s) (h : CfgOk X tabs C) (o : Option Expr) : PO X o (RdO X.K tabs (optO s C o)) := by
  unfold optO
  split
  · exact eo_none
  · exact eo_some (G.T h _)
theorem plainIx_of {b : Expr} (h : isSlice b = false) : PlainIx b := by
  intro o i
  cases b <;> first | rfl | cases h
theorem pe_stepE0 (G : Good s) (h : CfgOk X tabs C) (e : Expr) : PE X e (Rd1 X.K tabs (stepE0 s C e)) := by
  have hu : X.A.units + 65 < cLine := by have := h.un; omega
  unfold stepE0
  split
  · exact ex_int
  · exact ex_bl
  · exact ex_non
  · exact ex_str
  · split
    · rename_i i hi
      obtain ⟨v1, v2, v3, v4⟩ := varI_some h hi
      exact ex_var v1 v2 v3 v4
    · split
      · rename_i n hn
        split
        · rename_i c
          obtain ⟨t, ht⟩ := h.cis _ (lookup_mem hn)
          exact ex_cst (pe_glob (v := .int n) (gl_of h c.1) ht ⟨_, rfl⟩ c.2) fun _ => .int _
        · exact pe_bad
      · exact pe_bad
  · split
    · rename_i g hg
      exact ex_bin (opV_some hg) (G.T h _) (G.T h _)
    · exact pe_bad
  · exact ex_not (G.E h _)
  · exact pe_boolE G h _ _
  · split
    · rename_i hm
      exact ex_cmp (cmpG_os hu) (G.T h _) (G.T h _) hm
    · exact pe_bad
  · split
    · rename_i hm
      exact ex_chain (cmpG_os hu) (cmpG_os hu) (G.T h _) (G.T h _) (G.T h _) hm
    · exact pe_bad
  · exact ex_ite (G.B h _) (G.E h _) (G.E h _)
  · exact ex_tup (pa_lL G h _)
  · exact ex_lst (pa_lL G h _)
  · exact ex_slc (G.T h _) (po_optO G h _) (po_optO G h _)
  · exact ex_rev (G.T h _)
  · split
    · rename_i hs
      exact ex_ix (G.T h _) (G.T h _) (plainIx_of hs)
    · exact pe_bad
  · exact pe_lcE G h
  · split
    · rename_i hf
      exact pe_gxE G h (k := true) hf
    · split
      · rename_i hf
        exact pe_gxE G h (k := false) hf
      · exact pe_bad
  · exact pe_callE G h
  · exact pe_bad
theorem pe_drE (h : CfgOk X tabs C) (G : Good s) {e : Expr} {m : Sem1} (q : drE s C e = some m) : PE X e (Rd1 X.K tabs m) := by
  unfold drE at q
  split at q
  · cases q
  · split at q
    · cases q
    · rename_i x _ i hi
      obtain ⟨v1, v2, v3, v4⟩ := varI_some h hi
      split at q
      · split at q
        · rename_i c
          obtain ⟨rfl, c2⟩ := c
          cases q
          exact ex_dr v1 v2 v3 v4
        · cases q
      · split at q
        · rename_i c
          obtain ⟨rfl, rfl, c3⟩ := c
          cases q
          exact ex_drGet v1 v2 v3 v4 (G.T h _) (plainIx_of c3)
        · cases q
      · split at q
        · rename_i c
          obtain ⟨rfl, rfl, rfl, c4, c5⟩ := c
          cases q
          exact ex_drLen v1 v2 v3 v4 (gl_of h c4) (h.blts _ c5)
        · cases q
      · cases q
theorem pe_stepE (G : Good s) (h : CfgOk X tabs C) (e : Expr) : PE X e (Rd1 X.K tabs (stepE s C e)) := by
  unfold stepE
  split
  · rename_i m hm
    exact pe_drE h G hm
  · exact pe_stepE0 G h e
theorem pe_stepT (G : Good s) (h : CfgOk X tabs C) (e : Expr) : PE X e (RdT X.K tabs (stepT s C e)) := by
  unfold stepT
  split
  · split
    · rename_i i hi
      obtain ⟨v1, v2, v3, v4⟩ := varI_some h hi
      exact ex_tv v1 v2 v3 v4
    · exact ex_T (pe_stepE G h _)
  · exact ex_T (pe_stepE G h _)
theorem pt_stepB (G : Good s) (h : CfgOk X tabs C) (e : Expr) : PT X e (RdB X.K tabs (stepB s C e)) := by
  have hu : X.A.units + 65 < cLine := by have := h.un; omega
  unfold stepB
  split
  · exact et_not (G.B h _)
  · exact (pw_boolB G h _ _).pt
  · exact pt_bad
  · split
    · rename_i hm
      exact et_cmp (cmpG_os hu) (cmpG_bool _) (G.T h _) (G.T h _) hm
    · exact pt_bad
  · split
    · rename_i hm
      exact et_chain (cmpG_os hu) (cmpG_os hu) (cmpG_bool _) (G.T h _) (G.T h _) (G.T h _) hm
    · exact pt_bad
  · exact pt_bad
  · exact pt_bad
  · rename_i n1 n2 n3 n4 n5 n6 n7
    refine et_tru (pe_stepT G h e) fun whole => ?_
    cases e <;> first
      | rfl
      | exact absurd rfl (n2 _ _ _)
      | exact absurd rfl (n3 _ _ _ _)
      | exact absurd rfl (n6 _ _ _ _)
      | exact absurd rfl (n7 _ _ _)
theorem good_step (G : Good s) : Good (step s) := ⟨fun h e => pe_stepE G h e, fun h e => pe_stepT G h e, fun h e => pt_stepB G h e⟩
theorem good_rd : ∀ n, Good (rd n)
  | 0 => good_bot
  | n + 1 => good_step (good_rd n)
end
end Fo
namespace Fo
open PySem PySem.Spec PyProof.Rows L2
def isComp : Expr → Bool
  | .ListComp .. => true
  | .SetComp .. => true
  | .DictComp .. => true
  | _ => false
def isTupL : Expr → Bool
  | .Tuple .. => true
  | .List .. => true
  | _ => false
theorem sw_none {e : Expr} {t : Option Expr} {l : Nat} {env : Env} (h : isComp e = false) : swapsWith e t l env = pure false := by
  cases e <;> first | rfl | cases h
theorem sw_tg {e : Expr} {t : Expr} {l : Nat} {env : Env} (h : ∀ x p, t ≠ .Name x p) : swapsWith e (some t) l env = pure false := by
  cases e <;> first
    | rfl
    | (cases t <;> first | rfl | exact absurd rfl (h _ _))
theorem ss_e {tg e : Expr} {env : Env} (h : isTupL tg = false) : swappedStores [tg] e env = pure none := by
  unfold swappedStores
  cases tg <;> first | rfl | cases h
def isTup : Expr → Bool
  | .Tuple .. => true
  | _ => false
theorem ss_v {tg e : Expr} {env : Env} (h : isTup e = false) : swappedStores [tg] e env = pure none := by
  unfold swappedStores
  cases tg <;> first
    | rfl
    | (cases e <;> first | rfl | cases h)
def swC (C : Cfg) (x : PySem.Str) (p : Pos) (scope : Scope) (p2 : Pos) : Bool := (C.sc.names.lookup x == some .local) && (p.line == p2.line) && !(scope.names.any fun (n, k) => n == x && (k == .local || k == .cell))
theorem sw_lc {C : Cfg} {env : Env} (hs : env.scope = C.sc) (hk : C.sc.kind = .function) {x : PySem.Str} {p p2 : Pos} {l : Nat} {elt : Expr} {gs : List Comprehension} {scope : Scope} : swapsWith (.ListComp elt gs scope p2) (some (.Name x p)) l env = pure (swC C x p scope p2) := by
  have hb : env.blockKind = .function := by unfold Env.blockKind; rw [hs, hk]; rfl
  unfold swapsWith swC
  show (pure (env.blockKind == .function && env.kindOf x == some .local && p.line == p2.line && !(scope.names.any fun (n, k) => n == x && (k == .local || k == .cell))) : Sem Bool) = _
  rw [hb]
  unfold Env.kindOf
  rw [hs]
  rfl
def tNames (C : Cfg) (ts : List Expr) : List PySem.Str := ts.filterMap fun
  | .Name id pos => if C.sc.names.lookup id == some .local && pos.line == (ts.head?.map (·.pos.line)).getD 0 then some id else none
  | _ => none
/-- how several names are stored: none: not read; some none: in order; some l: from the right -/
def swT (C : Cfg) (ts vs : List Expr) : Option (Option (List PySem.Str)) :=
  if (!(ts.length == 2 || ts.length == 3) || vs.length != ts.length) = true then some none
  else if (vs.any fun | .Starred .. => true | _ => false) = true then some none
  else if ((tNames C ts).length != ts.length || (tNames C ts).eraseDups.length != (tNames C ts).length) = true then some none
  else if vs.all (foldedForSure 8) = true then some none
  else if vs.all (constantsAlone 8) = true then none
  else some (some (tNames C ts))
theorem swT_some {C : Cfg} {env : Env} (hs : env.scope = C.sc) (hk : C.sc.kind = .function) {ts vs : List Expr} {k k' : Nat} {p p' : Pos} {r : Option (List PySem.Str)} (h : swT C ts vs = some r) : swappedStores [.Tuple ts k p] (.Tuple vs k' p') env = pure r := by
  have hb : (env.blockKind != .function) = false := by
    have : env.blockKind = .function := by unfold Env.blockKind; rw [hs, hk]; rfl
    rw [this]; rfl
  have hn : (ts.filterMap fun
    | .Name id pos => if env.kindOf id == some .local && pos.line == (ts.head?.map (·.pos.line)).getD 0 then some id else none
    | _ => none) = tNames C ts := by
    unfold Env.kindOf
    rw [hs]
    rfl
  unfold swT at h
  unfold swappedStores
  simp only [hb, Bool.or_false]
  split at h
  · rename_i c
    cases h
    rw [if_pos c]
  rename_i c1
  rw [if_neg c1]
  split at h
  · rename_i c
    cases h
    exact if_pos c
  rename_i c2
  refine (if_neg c2).trans ?_
  split at h
  · rename_i c
    cases h
    rw [← hn] at c
    exact if_pos c
  rename_i c3
  rw [← hn] at c3
  refine (if_neg c3).trans ?_
  split at h
  · rename_i c
    cases h
    exact if_pos c
  rename_i c4
  refine (if_neg c4).trans ?_
  split at h
  · cases h
  rename_i c5
  cases h
  refine (if_neg c5).trans ?_
  exact congrArg (fun l => (pure (some l) : Sem (Option (List PySem.Str)))) hn
/-! the reader of statements -/
def isIn (x : PySem.Str) (l : List PySem.Str) : Bool := l.any fun y => decide (y = x)
/-- names that are handed on as they are -/
def stN (C : Cfg) : Nat → Bool → Expr → List PySem.Str
  | 0, _, _ => []
  | n + 1, b, e => match e with
    | .Name x _ => if b = true then [x] else []
    | .Tuple es _ _ => es.flatMap (stN C n true)
    | .List es _ => es.flatMap (stN C n true)
    | .Starred e _ => stN C n false e
    | .IfExp t a c _ => stN C n false t ++ stN C n true a ++ stN C n true c
    | .BoolOp _ es _ => es.flatMap (stN C n b)
    | .BinOp a _ c _ => stN C n false a ++ stN C n false c
    | .UnaryOp _ a _ => stN C n b a
    | .Compare l _ rs _ => stN C n false l ++ rs.flatMap (stN C n false)
    | .Subscript a i _ => stN C n false a ++ stN C n false i
    | .Call (.Name f _) args _ _ => args.flatMap (stN C n (C.fns.lookup f).isSome)
    | .ListComp elt gens _ _ => stN C n true elt ++ gens.flatMap fun g => stN C n false g.iter ++ g.ifs.flatMap (stN C n false)
    | .GeneratorExp elt gens _ _ => stN C n false elt ++ gens.flatMap fun g => stN C n false g.iter ++ g.ifs.flatMap (stN C n false)
    | _ => []
def frzN (C : Cfg) (mu : List PySem.Str) : List PySem.Str → SemS → SemS
  | [], m => m
  | x :: xs, m => if isIn x mu = true then (match varI C x with
    | some i => frzS i (frzN C mu xs m)
    | none => frzN C mu xs m) else frzN C mu xs m
def freshE (s : Sms) (C : Cfg) (e : Expr) : Option Sem1 := match e with
  | .List es _ => some (dispR .list (lL s C es))
  | .ListComp elt [⟨tg, iter, ifs, 0⟩] scope _ => some (lcE s C elt tg iter ifs scope)
  | _ => none
/-- what is stored under x -/
def entE (s : Sms) (C : Cfg) (mu : List PySem.Str) (x : PySem.Str) (e : Expr) (r : SemE) : SemE := match (if isIn x mu = true then freshE s C e else none) with
  | some m => owE m r
  | none => vaE (s.E C e) r
def fnB (C : Cfg) (x : PySem.Str) : Bool := C.fn x || decide (C.sc.names.lookup x = some .local)
def asgE (s : Sms) (C : Cfg) (mu : List PySem.Str) (tg e : Expr) : SemS := match tg with
  | .Name x p => (match e with
    | .ListComp elt [⟨tg', iter, ifs, 0⟩] scope p2 => (match ixOf x C.N with
      | some i => if C.sc.kind = .function ∧ locB C.sc x = true ∧ fnB C x = true then
          (if isIn x mu = true then ownS (lcE s C elt tg' iter ifs scope) i else asgS (lcE s C elt tg' iter ifs scope) (.nm i)) else neverS
      | none => neverS)
    | e => if isComp e = true then neverS else match ixOf x C.N with
      | some i => if locB C.sc x = true ∧ fnB C x = true then
          (match (if isIn x mu = true then freshE s C e else none) with
          | some m => ownS m i
          | none => asgS (s.E C e) (.nm i)) else neverS
      | none => neverS)
  | .Tuple ts k p => (match e with
    | .Tuple vs _ _ => if C.sc.kind = .function then (match swT C ts vs with
      | some none => (match tgOf C (.Tuple ts k p) with
        | some t => asgS (dispR .tuple (lL s C vs)) t
        | none => neverS)
      | some (some l) => (match ts, vs with
        | [.Name x _, .Name y _], [a, b] => (match ixOf x C.N, ixOf y C.N with
          | some i, some j => if l = [x, y] ∧ i ≠ j ∧ C.sc.names.lookup x = some .local ∧ C.sc.names.lookup y = some .local ∧ plain a = true ∧ plain b = true then parS [i, j] (entE s C mu x a (entE s C mu y b nilE)) else neverS
          | _, _ => neverS)
        | [.Name x _, .Name y _, .Name z _], [a, b, c] => (match ixOf x C.N, ixOf y C.N, ixOf z C.N with
          | some i, some j, some l' => if l = [x, y, z] ∧ i ≠ j ∧ i ≠ l' ∧ j ≠ l' ∧ C.sc.names.lookup x = some .local ∧ C.sc.names.lookup y = some .local ∧ C.sc.names.lookup z = some .local ∧ plain a = true ∧ plain b = true ∧ plain c = true then
              parS [i, j, l'] (entE s C mu x a (entE s C mu y b (entE s C mu z c nilE))) else neverS
          | _, _, _ => neverS)
        | _, _ => neverS)
      | none => neverS) else neverS
    | e => (match tgOf C (.Tuple ts k p) with
      | some t => asgS (s.E C e) t
      | none => neverS))
  | .Subscript (.Name x _) (.Constant (.int k) j p2) _ => (match varI C x with
    | some i => if C.dr = some x then drSet i k (s.E C e) else setS i (s.T C (.Constant (.int k) j p2)) (s.E C e)
    | none => neverS)
  | .Subscript (.Name x _) ix _ => (match varI C x with
    | some i => if isSlice ix = false then setS i (s.T C ix) (s.E C e) else neverS
    | none => neverS)
  | _ => neverS
def stm (s : Sms) (C : Cfg) (mu : List PySem.Str) (r : List Stmt → SemS) (st : Stmt) : SemS := match st with
  | .Pass _ => nxS
  | .Break _ => bkS
  | .Continue _ => ctS
  | .Return none _ => rtN
  | .Return (some e) _ => frzN C mu (stN C 50 true e) (rtS (s.E C e))
  | .If c a b _ => frzN C mu (stN C 50 false c) (ifS (s.B C c) (r a) (r b))
  | .For tg it body [] _ => (match tgOf C tg with
    | some t => if notSet it = true then frzN C mu (stN C 50 true it) (forS (itS s C it) t (r body)) else neverS
    | none => neverS)
  | .While c body [] _ => whileS (s.B C c) (r body) 1000000
  | .Expr (.Constant (.str _) _ _) _ => nxS
  | .Expr (.Call (.Attribute (.Name x _) a ap) [e] [] cp) _ => (match varI C x with
    | some i => if a = "append" ∧ plain e = true ∧ (ap.endLine == cp.line) = true then frzN C mu (stN C 50 true e) (appS i (s.E C e)) else neverS
    | none => neverS)
  | .Expr e _ => if isComp e = false then frzN C mu (stN C 50 false e) (exS (s.E C e)) else neverS
  | .Assign [tg] e _ => frzN C mu (stN C 50 true e) (asgE s C mu tg e)
  | _ => neverS
def stmL (f : Stmt → SemS) : List Stmt → SemS
  | [] => nxS
  | st :: r => seqS (f st) (stmL f r)
def rdS (s : Sms) (C : Cfg) (mu : List PySem.Str) : Nat → List Stmt → SemS
  | 0 => fun _ => neverS
  | n + 1 => stmL (stm s C mu (rdS s C mu n))
section
variable {s : Sms} {X : Cx} {tabs : List Addr} {C : Cfg} {δ : Option Addr} {O0 : Addr → Prop} {H0 : Hp} {mu : List PySem.Str}
theorem ps_frzN {st : Stmt} {m : SemS} (h : PS X st (RdS X.K tabs δ O0 H0 m)) : ∀ xs : List PySem.Str, PS X st (RdS X.K tabs δ O0 H0 (frzN C mu xs m))
  | [] => by unfold frzN; exact h
  | x :: xs => by
    unfold frzN
    split
    · split
      · exact s_frz (ps_frzN h xs)
      · exact ps_frzN h xs
    · exact ps_frzN h xs
theorem pe_badF {e : Expr} : PE X e (RdF X.K tabs bad) := ⟨fun pins s σ H Q I ⟨δ, O, ρ, st, z, st', S, W, e, c⟩ => by cases e⟩
theorem pe_freshE (G : Good s) (h : CfgOk X tabs C) {e : Expr} {m : Sem1} (q : freshE s C e = some m) : PE X e (RdF X.K tabs m) := by
  unfold freshE at q
  split at q
  · cases q; exact ef_lst (pa_lL G h _)
  · cases q
    unfold lcE
    split
    · rename_i t ht
      split
      · rename_i c
        obtain ⟨c1, c2, c3⟩ := c
        exact ef_lc h.calm (nd_of h) (pi_itT G h _ _) (by rw [h.N, h.sc]; exact blkOk_by c1) (fun s H Cc cl fp => tgOf_some (h.blk s H _ Cc cl fp) ht) (fun s H Cc cl fp => pts_ifs G (h.blk s H _ Cc cl fp) _) (fun s H Cc cl fp => G.E (h.blk s H _ Cc cl fp) _) (notSet_f c2) (sub_of c3)
      · exact pe_badF
    · exact pe_badF
  · cases q
theorem pa_entE (G : Good s) (h : CfgOk X tabs C) {x : PySem.Str} {e : Expr} {es : List Expr} {r : SemE} (hp : plain e = true) (hr : PA X es (RdM X.K tabs r)) : PA X (e :: es) (RdM X.K tabs (entE s C mu x e r)) := by
  unfold entE
  split
  · rename_i m hm
    split at hm
    · exact em_ow hp (pe_freshE G h hm) hr
    · cases hm
  · exact em_va hp (G.E h e) hr
theorem isTup_of {e : Expr} (h : ∀ vs k p, e ≠ .Tuple vs k p) : isTup e = false := by
  cases e <;> first | rfl | exact absurd rfl (h _ _ _)
theorem fn_of' (h : CfgOk X tabs C) {x : PySem.Str} (q : fnB C x = true) : X.fn x = true ∨ X.env.scope.names.lookup x = some .local := by
  unfold fnB at q
  rw [Bool.or_eq_true] at q
  rcases q with q | q
  · exact .inl (h.fn _ q)
  · exact .inr (by rw [h.sc]; exact of_decide_eq_true q)
theorem s_badO {st : Stmt} {i : Nat} : PS X st (RdS X.K tabs δ O0 H0 (ownS bad i)) := PS.imp ps_never fun D σ H ⟨O, ρ, st, out, st', B, S, W, e, f⟩ => by
  obtain ⟨_, _, e1, _⟩ := bnd_some e
  cases e1
theorem s_badA {st : Stmt} {t : Tg} : PS X st (RdS X.K tabs δ O0 H0 (asgS bad t)) := PS.imp ps_never fun D σ H ⟨O, ρ, st, out, st', B, S, W, e, f⟩ => by
  obtain ⟨_, _, e1, _⟩ := bnd_some e
  cases e1
theorem ps_lcA (G : Good s) (h : CfgOk X tabs C) {x : PySem.Str} {p p2 pos : Pos} {elt tg iter : Expr} {ifs : List Expr} {scope : Scope} {i : Nat} (hk : C.sc.kind = .function) (hi : ixOf x C.N = some i) (hl : locB C.sc x = true) (hf : fnB C x = true) :
    PS X (.Assign [.Name x p] (.ListComp elt [⟨tg, iter, ifs, 0⟩] scope p2) pos) (RdS X.K tabs δ O0 H0 (if isIn x mu = true then ownS (lcE s C elt tg iter ifs scope) i else asgS (lcE s C elt tg iter ifs scope) (.nm i))) := by
  have hN := nd_of h
  have hi' : X.N[i]? = some x := by rw [h.N]; exact ixOf_some hi
  have hx : Loc X.env.scope x := by rw [h.sc]; exact loc_of hl
  have hs := sw_lc (x := x) (p := p) (p2 := p2) (l := pos.line) (elt := elt) (gs := [⟨tg, iter, ifs, 0⟩]) (scope := scope) h.sc hk
  cases hb : swC C x p scope p2 with
  | false =>
    rw [hb] at hs
    split
    · exact s_own hN hi' hx (pe_freshE G h rfl) hs (fn_of' h hf)
    · exact PS.imp (ps_set hN hi' hx (pe_lcE G h) hs (fn_of' h hf)) fun D σ H q => asg_nm q
  | true =>
    rw [hb] at hs
    have hy : X.env.scope.names.lookup x = some .local := by
      unfold swC at hb
      rw [Bool.and_eq_true, Bool.and_eq_true] at hb
      rw [h.sc]
      exact eq_of_beq hb.1.1
    split
    · unfold lcE
      split
      · rename_i t ht
        split
        · rename_i c
          obtain ⟨c1, c2, c3⟩ := c
          exact s_ownLc h.calm hN hi' hy hs (pi_itT G h _ _) (by rw [h.N, h.sc]; exact blkOk_by c1) (fun s H Cc cl fp => tgOf_some (h.blk s H _ Cc cl fp) ht) (fun s H Cc cl fp => pts_ifs G (h.blk s H _ Cc cl fp) _) (fun s H Cc cl fp => G.E (h.blk s H _ Cc cl fp) _) (notSet_f c2) (sub_of c3)
        · exact s_badO
      · exact s_badO
    · unfold lcE
      split
      · rename_i t ht
        split
        · rename_i c
          obtain ⟨c1, c2, c3⟩ := c
          exact s_setLc h.calm hN hi' hy hs (pi_itT G h _ _) (by rw [h.N, h.sc]; exact blkOk_by c1) (fun s H Cc cl fp => tgOf_some (h.blk s H _ Cc cl fp) ht) (fun s H Cc cl fp => pts_ifs G (h.blk s H _ Cc cl fp) _) (fun s H Cc cl fp => G.E (h.blk s H _ Cc cl fp) _) (notSet_f c2) (sub_of c3)
        · exact s_badA
      · exact s_badA
theorem tg_each {tg : Expr} {t : Tg} {env : Env} (q : tgOf C tg = some t) : (assignEach [tg] env).map (·.2) = [assign tg env] := by
  unfold tgOf at q
  split at q
  · rfl
  · rfl
  · cases q
theorem tg_sole {ts : List Expr} {k : Nat} {p : Pos} {e : Expr} {l : Nat} {env : Env} : swapsWithSole [.Tuple ts k p] e l env = pure false := sw_tg (e := e) (t := .Tuple ts k p) (l := l) (env := env) fun _ _ z => Expr.noConfusion z
theorem sub_sole {o i e : Expr} {p : Pos} {l : Nat} {env : Env} : swapsWithSole [.Subscript o i p] e l env = pure false := sw_tg (e := e) (t := .Subscript o i p) (l := l) (env := env) fun _ _ z => Expr.noConfusion z
theorem asg_sub {o ix : Expr} {p : Pos} {env : Env} (h : isSlice ix = false) : ∀ v, assign (.Subscript o ix p) env v = (do
      let ov ← holding [v] (eval o env)
      let iv ← holding [v, ov] (eval ix env)
      standAt p
      holding [v, ov, iv] (setItem ov iv v)
      release [v, ov, iv] []) := by
  intro v
  cases ix <;> first | rfl | cases h
theorem ps_asgE (G : Good s) (h : CfgOk X tabs C) (tg e : Expr) (pos : Pos) : PS X (.Assign [tg] e pos) (RdS X.K tabs δ O0 H0 (asgE s C mu tg e)) := by
  have hN := nd_of h
  unfold asgE
  split
  · split
    · split
      · rename_i i hi
        split
        · rename_i c
          exact ps_lcA G h c.1 hi c.2.1 c.2.2
        · exact s_never
      · exact s_never
    · split
      · exact s_never
      · rename_i hc
        have hc : isComp e = false := by simpa using hc
        split
        · rename_i i hi
          have hi' := ixOf_some hi
          rw [← h.N] at hi'
          split
          · rename_i c
            have hx := loc_of c.1
            rw [← h.sc] at hx
            split
            · rename_i m hm
              split at hm
              · exact s_own hN hi' hx (pe_freshE G h hm) (sw_none hc) (fn_of' h c.2)
              · cases hm
            · exact PS.imp (ps_set hN hi' hx (G.E h e) (sw_none hc) (fn_of' h c.2)) fun D σ H q => asg_nm q
          · exact s_never
        · exact s_never
  · split
    · split
      · rename_i hk
        split
        · rename_i hs
          split
          · rename_i t ht
            exact s_asg (ex_tup (pa_lL G h _)) (tgOf_some h ht) tg_sole (swT_some h.sc hk hs) (tg_each ht)
          · exact s_never
        · rename_i l hs
          split
          · split
            · rename_i i j hi hj
              split
              · rename_i c
                obtain ⟨rfl, c2, c3, c4, c5, c6⟩ := c
                exact s_par h.calm hN (by rw [h.N]; exact ixOf_some hi) (by rw [h.N]; exact ixOf_some hj) c2 (by rw [h.sc]; exact c3) (by rw [h.sc]; exact c4) (pa_entE G h c5 (pa_entE G h c6 em_nil)) (swT_some h.sc hk hs) tg_sole
              · exact s_never
            · exact s_never
          · split
            · rename_i i j l' hi hj hl
              split
              · rename_i c
                obtain ⟨rfl, c2, c3, c4, c5, c6, c7, c8, c9, c10⟩ := c
                exact s_par3 h.calm hN (by rw [h.N]; exact ixOf_some hi) (by rw [h.N]; exact ixOf_some hj) (by rw [h.N]; exact ixOf_some hl) c2 c3 c4 (by rw [h.sc]; exact c5) (by rw [h.sc]; exact c6) (by rw [h.sc]; exact c7) (pa_entE G h c8 (pa_entE G h c9 (pa_entE G h c10 em_nil))) (swT_some h.sc hk hs) tg_sole
              · exact s_never
            · exact s_never
          · exact s_never
        · exact s_never
      · exact s_never
    · rename_i hne
      split
      · rename_i t ht
        exact s_asg (G.E h e) (tgOf_some h ht) tg_sole (ss_v (isTup_of fun vs k p z => hne vs k p z)) (tg_each ht)
      · exact s_never
  · split
    · rename_i i hi
      obtain ⟨v1, v2, v3, v4⟩ := varI_some h hi
      split
      · exact s_drSet v1 v2 v3 v4 (G.E h e) sub_sole (ss_e rfl)
      · exact s_set v1 v2 v3 v4 (G.E h e) (G.T h _) sub_sole (ss_e rfl) (asg_sub rfl)
    · exact s_never
  · split
    · rename_i i hi
      obtain ⟨v1, v2, v3, v4⟩ := varI_some h hi
      split
      · rename_i hsl
        exact s_set v1 v2 v3 v4 (G.E h e) (G.T h _) sub_sole (ss_e rfl) (asg_sub hsl)
      · exact s_never
    · exact s_never
  · exact s_never
theorem ps_stm (G : Good s) (h : CfgOk X tabs C) (hx : PassesOwn (model X.prog X.w) X.A X.env X.xe) {r : List Stmt → SemS} (hr : ∀ sts, PSs X sts (RdS X.K tabs δ O0 H0 (r sts))) (st : Stmt) : PS X st (RdS X.K tabs δ O0 H0 (stm s C mu r st)) := by
  unfold stm
  split
  · exact s_pass
  · exact s_break
  · exact s_cont
  · exact s_retN
  · exact ps_frzN (s_ret (G.E h _)) _
  · exact ps_frzN (s_if (G.B h _) (hr _) (hr _)) _
  · split
    · rename_i t ht
      split
      · rename_i hs
        exact ps_frzN (s_for hx h.calm (pi_itS G h _ _) (tgOf_some h ht) (hr _) (notSet_f hs)) _
      · exact s_never
    · exact s_never
  · exact s_while 1000000 hx (G.B h _) (hr _)
  · exact s_doc
  · split
    · rename_i i hi
      obtain ⟨v1, v2, v3, v4⟩ := varI_some h hi
      split
      · rename_i c
        obtain ⟨rfl, c2, c3⟩ := c
        exact ps_frzN (s_app v1 v2 v3 v4 c2 (G.E h _) rfl c3 rfl) _
      · exact s_never
    · exact s_never
  · split
    · rename_i hc
      exact ps_frzN (s_expr (G.E h _) (sw_none hc)) _
    · exact s_never
  · exact ps_frzN (ps_asgE G h _ _ _) _
  · exact s_never
theorem pss_stmL {f : Stmt → SemS} (hf : ∀ st, PS X st (RdS X.K tabs δ O0 H0 (f st))) : ∀ sts : List Stmt, PSs X sts (RdS X.K tabs δ O0 H0 (stmL f sts))
  | [] => by unfold stmL; exact ss_nil
  | st :: r => by unfold stmL; exact ss_cons (hf st) (pss_stmL hf r)
theorem pss_never' {sts : List Stmt} : PSs X sts (RdS X.K tabs δ O0 H0 neverS) := ⟨fun pins s σ H D I ⟨O, ρ, st, out, st', B, S, W, e, f⟩ => by cases e⟩
theorem pss_rdS (G : Good s) (h : CfgOk X tabs C) (hx : PassesOwn (model X.prog X.w) X.A X.env X.xe) : ∀ (n : Nat) (sts : List Stmt), PSs X sts (RdS X.K tabs δ O0 H0 (rdS s C mu n sts))
  | 0, _ => pss_never'
  | n + 1, sts => by unfold rdS; exact pss_stmL (ps_stm G h hx (pss_rdS G h hx n)) sts
end
end Fo
/-! defs, tables of defs, the law's own def -/
namespace Fo
open PySem PySem.Spec PyProof.Rows L2
def startR (N : List PySem.Str) (d : Bool) (ds : List PyData) : Rho := (if d then [some .dr] else []) ++ ds.map (fun x => some (.va x)) ++ List.replicate (N.length - (d.toNat + ds.length)) none
def outD : Out → Option PyData
  | .rt v => some v
  | .nx _ => some .none
  | _ => none
def semD (C : Cfg) (mu : List PySem.Str) (d : Bool) (body : List Stmt) : SemF := fun ds => do
  let o ← rdS (rd 40) C mu 30 body (startR C.N d ds)
  up (outD o)
theorem FunD.okC {P : Program} {w : World} {K : PySem.W.Frag} {mg : Str → Option Value} {base : Heap} {x qual : Str} {params : Arguments} {body : List Stmt} {scope : Scope} {dvs : List V} {kws : List (Str × V)} {p : He.Defn} {fd : FuncData} {CX : CXT} {N ps : List Str} {k : Nat} {sp : Sp} (F : FunD K x qual params body scope dvs kws (He.fAd K p) fd) (S : FnScope N ps scope) (len : ∀ vs H Q E, sp vs H Q E → vs.length = ps.length)
    (hbody : ∀ (A : Around) (outer : List Env) (s : Shared) (H : Hp) (vs : List V) (Q : VK) (E : XK), Room k (A.deeper (envOfC qual scope s.heap.objs.size (He.fAd K p) (.ref (He.codeOf K p)))) → sp vs H Q E →
      ∃ t, PSs (cxOf CX P w K mg base N qual scope (He.fAd K p) (.ref (He.codeOf K p)) A outer s H E) body t ∧ t { nx := fun _ H' => Q .non H', rt := Q } (L2.start N vs) H) : FnOk P w K mg base CX (k + 1) (He.fAd K p) fd ps sp := by
  obtain ⟨oc, od, dV, kV, doc, pm, an, cdv, ct, osl, rfl, lk, hcd, _, _⟩ := F.ex
  obtain ⟨c, rfl⟩ := He.codeIn_ref hcd
  have e : He.codeOf K p = c := He.codeOf_eq lk rfl
  rw [e] at hbody
  exact fn_of lk hcd S len fun A outer s H vs Q E hr hsp => hbody A outer s H vs Q E hr hsp
/-- the module's name x stands for a def that does sem -/
def FnT (P : Program) (w : World) (K : PySem.W.Frag) (mg : Str → Option Value) (base : Heap) (tabs : List Addr) (k : Nat) (x : PySem.Str) (d : Bool) (n : Nat) (sem : SemF) : Prop :=
  ∃ f fd ps, mg x = some (.ref f) ∧ PySem.W.keepIn K (.ref f) = true ∧ Binds K fd ps [] ∧ FnOk P w K mg base CX0 k f fd ps (spOf K tabs d n sem)
structure Mdl (K : PySem.W.Frag) (mg : Str → Option Value) (cis : List (PySem.Str × Int)) (blts : List PySem.Str) : Prop where
  cis : ∀ p ∈ cis, ∃ t, mg p.1 = some (.int p.2 t)
  blts : ∀ x ∈ blts, mg x = none
def AllOk (P : Program) (w : World) (K : PySem.W.Frag) (mg : Str → Option Value) (base : Heap) (tabs : List Addr) (k : Nat) (fns : List (PySem.Str × FnI)) : Prop := ∀ p ∈ fns, FnT P w K mg base tabs k p.1 p.2.d p.2.n p.2.sem
section
variable {P : Program} {w : World} {K : PySem.W.Frag} {mg : Str → Option Value} {base : Heap} {tabs : List Addr} {fns : List (PySem.Str × FnI)} {cis : List (PySem.Str × Int)} {blts : List PySem.Str}
theorem AllOk.mono {j k : Nat} (h : AllOk P w K mg base tabs j fns) (hk : j ≤ k) : AllOk P w K mg base tabs k fns := fun p hp => by
  obtain ⟨f, fd, ps, h1, h2, h3, h4⟩ := h p hp
  exact ⟨f, fd, ps, h1, h2, h3, h4.mono hk⟩
theorem AllOk.nil {k : Nat} : AllOk P w K mg base tabs k [] := fun p hp => by simp at hp
theorem AllOk.cons {k : Nat} {x : PySem.Str} {F : FnI} (h : AllOk P w K mg base tabs k fns) (hf : FnT P w K mg base tabs k x F.d F.n F.sem) : AllOk P w K mg base tabs k ((x, F) :: fns) := fun p hp => by
  rcases List.mem_cons.mp hp with z | z
  · rw [z]; exact hf
  · exact h p z
theorem ite_none {en : En} (c : Prop) [Decidable c] : (if c then some (none : Option En) else none) ≠ some (some en) := fun h => by split at h <;> cases h
theorem slots_start {δ : Option Addr} {O : Addr → Prop} {H : Hp} {N : List PySem.Str} {d : Bool} {ws : List V} {ds : List PyData} {a : Addr} (hδ : d = true → δ = some a) (hl : d.toNat + ws.length ≤ N.length) (hr : RpAll K (mask O H) ws ds) :
    Slots K δ O (startR N d ds) (L2.start N ((if d = true then [V.ref a] else []) ++ ws)) H := by
  have hlen := hr.length
  have no : ∀ (i : Nat) (e : PyData), (startR N d ds)[i]? ≠ some (some (.ow e)) := fun i e h => by
    unfold startR at h
    have hm := List.mem_of_getElem? h
    rcases List.mem_append.mp hm with z | z
    · rcases List.mem_append.mp z with z | z
      · cases d with
        | true => simp at z
        | false => simp at z
      · obtain ⟨q, _, e⟩ := List.mem_map.mp z
        cases e
    · have := List.eq_of_mem_replicate z
      cases this
  refine ⟨fun i en h => ?_, fun i j d' e v hne h1 => absurd h1 (no i d'), ?_⟩
  · have part : ∀ (j : Nat) (en : En), (ds.map fun x => some (En.va x))[j]? = some (some en) → ∃ v, (ws.map some)[j]? = some (some v) ∧ Slot1 K δ O H v en := fun j en h => by
      rw [List.getElem?_map] at h
      cases e : ds[j]? with
      | none => rw [e] at h; cases h
      | some dd =>
        rw [e] at h
        cases h
        obtain ⟨v, q1, q2⟩ := hr.get e
        exact ⟨v, by rw [List.getElem?_map, q1]; rfl, q2⟩
    have lt : ∀ (i : Nat), (startR N d ds)[i]? = some (some en) → i < d.toNat + ds.length := fun i h => by
      unfold startR at h
      by_cases hi : i < ((if d then [some En.dr] else []) ++ ds.map fun x => some (En.va x)).length
      · rw [List.length_append, List.length_map] at hi
        cases d <;> simpa using hi
      · rw [List.getElem?_append_right (by omega), List.getElem?_replicate] at h
        exact absurd h (ite_none _)
    have hi := lt i h
    unfold L2.start
    unfold startR at h
    cases d with
    | true =>
      rw [List.getElem?_append_left (by simp; simp at hi; omega)] at h
      rw [List.getElem?_append_left (by simp; simp at hi; omega)]
      cases i with
      | zero =>
        have h : some (some En.dr) = some (some en) := h
        cases h
        exact ⟨V.ref a, rfl, a, hδ rfl, rfl⟩
      | succ i => exact part i en h
    | false =>
      rw [List.getElem?_append_left (by simp; simp at hi; omega)] at h
      rw [List.getElem?_append_left (by simp; simp at hi; omega)]
      exact part i en h
  · unfold startR L2.start
    cases d <;> simp <;> omega
theorem def_ok {k : Nat} {C : Cfg} {mu ps : List PySem.Str} {d : Bool} {x qual : Str} {params : Arguments} {body : List Stmt} {p : He.Defn} {fd : FuncData} (M : Mdl K mg cis blts) (hA : AllOk P w K mg base tabs k C.fns) (hci : C.cis = cis) (hbl : C.blts = blts) (hfn : ∀ x, C.fn x = true)
    (F : FunD K x qual params body C.sc [] [] (He.fAd K p) fd) (S : FnScope C.N ps C.sc) (hT : C.gen = true → ∃ Pt, Pt ∈ tabs ∧ GxR.TabB base mg (He.codeOf K p) Pt) (hd : d = true → ps ≠ []) :
    FnOk P w K mg base CX0 (k + C.gen.toNat + 1) (He.fAd K p) fd ps (spOf K tabs d ps.length (semD C mu d body)) := by
  have hpl : ps.length ≤ C.N.length := by
    have := congrArg List.length S.pre
    rw [List.length_take] at this
    omega
  refine FunD.okC F S (fun vs H Q E h => ?_) fun A outer s H vs Q E hr hsp => ?_
  · cases d with
    | true => exact (show spD K tabs ps.length (semD C mu true body) vs H Q E from h).1
    | false => exact (show spM K tabs ps.length (semD C mu false body) vs H Q E from h).1
  have key : ∃ (δ : Option Addr) (O : Addr → Prop) (st : Dr) (ds : List PyData) (v : PyData) (st' : Dr), Slots K δ O (startR C.N d ds) (L2.start C.N vs) H ∧ WOk K tabs δ O st H ∧ semD C mu d body ds st = some (v, st') ∧ Cont K tabs δ O st' H v Q := by
    cases d with
    | true =>
      obtain ⟨hl, a, ws, O, st, ds, v, st', rfl, W, r, e, c⟩ := (show spD K tabs ps.length (semD C mu true body) vs H Q E from hsp)
      refine ⟨some a, O, st, ds, v, st', ?_, W, e, c⟩
      have := slots_start (N := C.N) (d := true) (a := a) (δ := some a) (fun _ => rfl) (by rw [List.length_cons] at hl; show 1 + _ ≤ _; omega) r
      exact this
    | false =>
      obtain ⟨hl, δ, O, st, ds, v, st', W, r, e, c⟩ := (show spM K tabs ps.length (semD C mu false body) vs H Q E from hsp)
      refine ⟨δ, O, st, ds, v, st', ?_, W, e, c⟩
      have := slots_start (N := C.N) (d := false) (a := 0) (δ := δ) (fun z => by cases z) (by show 0 + _ ≤ _; omega) r
      exact this
  obtain ⟨δ, O, st, ds, v, st', Sl, W, e, c⟩ := key
  obtain ⟨o, st1, e1, f1⟩ := bnd_some e
  obtain ⟨e2, rfl⟩ := up_some f1
  have ok : CfgOk (cxOf CX0 P w K mg base C.N qual C.sc (He.fAd K p) (.ref (He.codeOf K p)) A outer s H E).nox tabs C :=
    ⟨rfl, S.nd, rfl, rfl, fun _ _ => rfl, ⟨k, hr, fun q hq => ⟨hA q hq⟩⟩, by rw [hci]; exact M.cis, by rw [hbl]; exact M.blts, fun hg => by
      obtain ⟨Pt, h1, h2⟩ := hT hg
      exact ⟨_, Pt, h1, h2, rfl⟩⟩
  refine ⟨RdS K tabs δ O H (rdS (rd 40) C mu 30 body), PSs.nox (pss_rdS (good_rd 40) ok PassesOwn.never 30 body), O, startR C.N d ds, st, o, _, ⟨Lat2.refl, fun i dd a h1 h2 => ?_, W.own⟩, Sl, W, e1, ?_⟩
  · exfalso
    unfold startR at h1
    have hm := List.mem_of_getElem? h1
    rcases List.mem_append.mp hm with z | z
    · rcases List.mem_append.mp z with z | z
      · cases d with
        | true => simp at z
        | false => simp at z
      · obtain ⟨q, _, e⟩ := List.mem_map.mp z
        cases e
    · have := List.eq_of_mem_replicate z
      cases this
  · cases o with
    | nx ρ' =>
      cases e2
      exact fun O' σ' H' B' S' W' R' => c .non H' B'.lat.ext (W'.less W.dl B'.lat.up) .non
    | rt d' =>
      cases e2
      exact fun O' u H' L' W' r' => c u H' L'.ext (W'.less W.dl L'.up) (r'.mono (rds_less L'.up))
    | bk ρ' => cases e2
    | ct ρ' => cases e2
end
end Fo
/-! the law's own def, the law -/
namespace Fo
open PySem PySem.Spec PyProof.Rows L2
def cisOf (fa : List He.Fa) : List (PySem.Str × Int) := fa.filterMap fun
  | .int x i => some (x, i)
  | _ => none
def bltsOf (fa : List He.Fa) : List PySem.Str := fa.filterMap fun
  | .free x => some x
  | _ => none
section
variable {P : Program} {w : World} {K : PySem.W.Frag} {mg : Str → Option Value} {base : Heap} {tabs : List Addr} {fns : List (PySem.Str × FnI)} {fa : List He.Fa} {fn : List He.DefD} {tf : List He.Defn} {ex : PySem.W.Frag → Bool} {h : Heap}
theorem fact_all (c : He.SaysX fa fn [] tf ex w h K) : ∀ f ∈ fa, f.ok K = true := fun f hf => by
  have c1 : (fa.all fun f => f.ok K) = true := (He.ba (show ((fa.all fun f => f.ok K) && fn.all fun d => d.ok K) = true from congrArg (fun z : He.AlD => z.1) c.t.d)).1
  exact List.all_eq_true.mp c1 f hf
theorem mdl_of (X : K.In base) (G : base.Ns mainGlobals mg) (c : He.SaysX fa fn [] tf ex w h K) : Mdl K mg (cisOf fa) (bltsOf fa) := by
  refine ⟨fun p hp => ?_, fun x hx => ?_⟩
  · obtain ⟨f, hf, e⟩ := List.mem_filterMap.mp hp
    cases f <;> first | cases e | skip
    exact He.int_ok X G (fact_all c _ hf)
  · obtain ⟨f, hf, e⟩ := List.mem_filterMap.mp hx
    cases f <;> first | cases e | skip
    exact He.free_ok X G (fact_all c _ hf)
theorem AllOk.add {k k2 : Nat} {cis : List (PySem.Str × Int)} {blts : List PySem.Str} {x : Str} {C : Cfg} {mu ps : List PySem.Str} {d : Bool} {params : Arguments} {body : List Stmt} {fd : FuncData} (hA : AllOk P w K mg base tabs k C.fns) (hk : k + C.gen.toNat + 1 ≤ k2) (M : Mdl K mg cis blts) (hci : C.cis = cis) (hbl : C.blts = blts) (hfn : ∀ x, C.fn x = true)
    (F : FunD K x x params body C.sc [] [] (He.fAd K (x, none)) fd) (hb : Binds K fd ps []) (hm : mg x = some (.ref (He.fAd K (x, none)))) (S : FnScope C.N ps C.sc) (hT : C.gen = true → ∃ Pt, Pt ∈ tabs ∧ GxR.TabB base mg (He.codeOf K (x, none)) Pt) (hd : d = true → ps ≠ []) :
    AllOk P w K mg base tabs k2 ((x, ⟨d, ps.length, semD C mu d body⟩) :: C.fns) :=
  (hA.mono (by omega)).cons ⟨_, fd, ps, hm, F.kp, hb, (def_ok M hA hci hbl hfn F S hT hd).mono hk⟩
/-- what the law's def is asked for -/
def spLaw (K : PySem.W.Frag) (tabs : List Addr) (n : Nat) : Sp := fun vs H Q _ => ∃ (a : Addr) (ns : List Int), vs = [.ref a] ∧ SqL K H a (ns.map V.int) ∧ ns.length ≤ n ∧ (∀ z ∈ ns, Builtin.Int.intBits z ≤ 1048576) ∧ (∀ Pt ∈ tabs, GxR.TabG H Pt) ∧ ∀ H', Q (.bl true) H'
def law0 (N : List PySem.Str) : Rho := none :: some .dr :: List.replicate (N.length - 2) none
theorem law_ok {k n : Nat} {cis : List (PySem.Str × Int)} {blts : List PySem.Str} {C : Cfg} {mu : List PySem.Str} {x y row : Str} {params : Arguments} {rest : List Stmt} {p : He.Defn} {fd : FuncData} {seed : Int} {px p1 p2 p3 p4 pl pos : Pos} {j1 j2 j3 : Nat} (M : Mdl K mg cis blts) (hA : AllOk P w K mg base tabs k C.fns) (hci : C.cis = cis) (hbl : C.blts = blts) (hfn : ∀ x, C.fn x = true)
    (F : FunD K x x params (.Assign [.Name row px] (.List [.Name y p1, .Constant (.int 0) j1 p2, .Constant (.int seed) j2 p3, .Constant (.int 0) j3 p4] pl) pos :: rest) C.sc [] [] (He.fAd K p) fd) (S : FnScope C.N [y] C.sc) (hT : C.gen = true → ∃ Pt, Pt ∈ tabs ∧ GxR.TabB base mg (He.codeOf K p) Pt)
    (h0 : C.N[0]? = some y) (h1 : C.N[1]? = some row) (hy : visB C.sc y = true ∧ okNm y = true) (hrow : locB C.sc row = true)
    (hsem : ∀ ns : List Int, ns.length ≤ n → (∀ z ∈ ns, Builtin.Int.intBits z ≤ 1048576) → ∃ st', rdS (rd 40) C mu 30 rest (law0 C.N) ⟨ns, 0, seed, 0⟩ = some (.rt (.bool true), st')) :
    FnOk P w K mg base CX0 (k + C.gen.toNat + 1) (He.fAd K p) fd [y] (spLaw K tabs n) := by
  refine FunD.okC F S (fun vs H Q E h => ?_) fun A outer s H vs Q E hr hsp => ?_
  · obtain ⟨a, ns, rfl, _⟩ := h
    rfl
  obtain ⟨a, ns, rfl, hS, hl, hbits, htab, hQ⟩ := hsp
  obtain ⟨st', hm⟩ := hsem ns hl hbits
  have ok : CfgOk (cxOf CX0 P w K mg base C.N x C.sc (He.fAd K p) (.ref (He.codeOf K p)) A outer s H E).nox tabs C :=
    ⟨rfl, S.nd, rfl, rfl, fun _ _ => rfl, ⟨k, hr, fun q hq => ⟨hA q hq⟩⟩, by rw [hci]; exact M.cis, by rw [hbl]; exact M.blts, fun hg => by
      obtain ⟨Pt, h1, h2⟩ := hT hg
      exact ⟨_, Pt, h1, h2, rfl⟩⟩
  have vy : Vis C.sc y := vis_of hy.1
  have ny := hy.2
  unfold okNm at ny
  rw [Bool.and_eq_true, Bool.not_eq_true', Bool.not_eq_true'] at ny
  have hlen : 2 ≤ C.N.length := by
    have := (List.getElem?_eq_some_iff.mp h1).1
    omega
  let X := (cxOf CX0 P w K mg base C.N x C.sc (He.fAd K p) (.ref (He.codeOf K p)) A outer s H E).nox
  have hst : PS X (.Assign [.Name row px] (.List [.Name y p1, .Constant (.int 0) j1 p2, .Constant (.int seed) j2 p3, .Constant (.int 0) j3 p4] pl) pos) _ :=
    ps_set (X := X) (i := 1) S.nd h1 (loc_of hrow) (pe_lst (pa_cons (pe_var h0 vy ny.1 ny.2) (pa_cons pe_int (pa_cons pe_int (pa_cons pe_int pa_nil rfl) rfl) rfl) rfl)) (sw_none rfl) (.inl rfl)
  have hrs : PSs X rest (fun D σ H => ∃ δ O0 H0, RdS K tabs δ O0 H0 (rdS (rd 40) C mu 30 rest) D σ H) := ⟨fun pins s σ H D I ⟨δ, O0, H0, q⟩ => (pss_rdS (good_rd 40) ok PassesOwn.never 30 rest).run pins s σ H D I q⟩
  refine ⟨_, PSs.nox (pss_cons hst hrs), ?_⟩
  refine ⟨_, rfl, by show 4 ≤ sizeLine; exact Nat.le_trans (by decide) (line_le (Nat.le_refl _)), fun q hq => ?_⟩
  have rd1 : Rds H (mask (fun b => b = q) (L2.upd H q (.lst [.ref a, .int 0, .int seed, .int 0]))) := ⟨fun b o e _ => by
    have hb : b ≠ q := ne_of_none e hq
    exact mask_some.mpr ⟨hb, by rw [upd_ne hb]; exact e⟩⟩
  refine ⟨some q, fun b => b = q, L2.upd H q (.lst [.ref a, .int 0, .int seed, .int 0]), fun b => b = q, law0 C.N, ⟨ns, 0, seed, 0⟩, .rt (.bool true), st', ⟨Lat2.refl, fun i dd b h1 h2 => ?_, fun b hb => by rw [hb, upd_same]; exact fun z => nomatch z⟩, ?_, ⟨fun Pt hP => ?_, fun b hb => ?_, fun b hb => by rw [hb, upd_same]; exact fun z => nomatch z⟩, hm, ?_⟩
  · exfalso
    have hm := List.mem_of_getElem? h1
    unfold law0 at hm
    rcases List.mem_cons.mp hm with z | z
    · cases z
    · rcases List.mem_cons.mp z with z | z
      · cases z
      · cases List.eq_of_mem_replicate z
  · refine ⟨fun i en h => ?_, fun i j d e v hne h => ?_, ?_⟩
    · cases i with
      | zero => cases h
      | succ i =>
        cases i with
        | zero =>
          cases h
          refine ⟨.ref q, ?_, q, rfl, rfl⟩
          show ((L2.start C.N [V.ref a]).set 1 (some (V.ref q)))[1]? = _
          refine List.getElem?_set_self ?_
          unfold L2.start
          simp
          omega
        | succ i =>
          have h : (List.replicate (C.N.length - 2) (none : Option En))[i]? = some (some en) := h
          rw [List.getElem?_replicate] at h
          exact absurd h (ite_none _)
    · exfalso
      have hm := List.mem_of_getElem? h
      unfold law0 at hm
      rcases List.mem_cons.mp hm with z | z
      · cases z
      · rcases List.mem_cons.mp z with z | z
        · cases z
        · cases List.eq_of_mem_replicate z
    · show (law0 C.N).length = ((L2.start C.N [V.ref a]).set 1 (some (V.ref q))).length
      rw [List.length_set]
      unfold law0 L2.start
      simp
      omega
  · obtain ⟨ps, e1, e2⟩ := htab Pt hP
    exact ⟨ps, by rw [upd_ne (ne_of_none e1 hq)]; exact e1, e2⟩
  · cases hb
    exact ⟨rfl, a, upd_same, rd1.seqL hS⟩
  · intro O' v H' L' W' r'
    cases r'
    exact hQ H'
/-- the law as the head wants it -/
theorem law_at {l : PySem.W.OpenLaw} {k n : Nat} {x : Str} {fAdr : Addr} {fd : FuncData} (KX : K.In h) (c : He.SaysX fa fn [] tf ex w h K) (hb : ∀ (s : Shared) (u : Value), BindsTo s fd ⟨[u], []⟩ [(x, u)])
    (hF : ∀ base : Heap, K.In base → base.Ns mainGlobals mg → (∀ p ∈ tf, GxR.TabB base mg (He.codeOf K p) (He.cT K p).2) → FnOk l.prog w K mg base CX0 k fAdr fd [x] (spLaw K (tf.map fun p => (He.cT K p).2) n)) : LamX.LawAtS l w K CX0 k n x mg fAdr h := by
  refine ⟨fd, tf.map (He.cT K), spLaw K (tf.map fun p => (He.cT K p).2) n, fun p hp => ?_, fun p hp => ?_, fun p hp => ?_, hb, fun H a ns hl hbits hH hS => ⟨a, ns, rfl, hS, hl, hbits, fun Pt hP => ?_, fun _ => rfl⟩, fun base X G hT => hF base X G fun p hp => ?_⟩
  · obtain ⟨q, hq, rfl⟩ := List.mem_map.mp hp
    exact c.empty q hq
  · obtain ⟨q, hq, rfl⟩ := List.mem_map.mp hp
    exact c.out q hq
  · obtain ⟨q, hq, rfl⟩ := List.mem_map.mp hp
    exact PySem.W.codeHd_of_K KX (c.hd q hq)
  · obtain ⟨q, hq, rfl⟩ := List.mem_map.mp hP
    exact ⟨#[], hH _ (List.mem_map.mpr ⟨q, hq, rfl⟩), trivial⟩
  · have t := hT _ (List.mem_map.mpr ⟨p, hp, rfl⟩)
    exact ⟨t.code, t.bm, t.gP⟩
end
end Fo
/-! tools for the plain law -/
namespace Fo
open PySem PySem.Spec PyProof.Rows
theorem bnd_ap {α β : Type} (m : M α) (f : α → M β) (st : Dr) : (m >>= f) st = (m st).bind fun p => f p.1 p.2 := by
  show (StateT.bind m f st) = _
  unfold StateT.bind
  cases m st <;> rfl
theorem map_ap {α β : Type} (f : α → β) (m : M α) (st : Dr) : (f <$> m) st = (m st).map fun p => (f p.1, p.2) := by
  show (StateT.map f m st) = _
  unfold StateT.map
  cases m st <;> rfl
theorem pur_ap {α : Type} (a : α) (st : Dr) : (pure a : M α) st = some (a, st) := rfl
theorem up_ap {α : Type} (o : Option α) (st : Dr) : up o st = o.map fun a => (a, st) := rfl
theorem ob_some {α β : Type} (a : α) (f : α → Option β) : (some a).bind f = f a := rfl
theorem om_some {α β : Type} (a : α) (f : α → β) : (some a).map f = some (f a) := rfl
theorem ite_ap {α : Type} (c : Prop) [Decidable c] (m n : M α) (st : Dr) : (if c then m else n) st = if c then m st else n st := by split <;> rfl
theorem cmp_i (op : CmpOp) (a b : Int) : cmpV op (.int a) (.int b) = some (.bool (cmpI op a b)) := rfl
theorem cG_lt (a b : Int) : cmpG .Lt (.int a) (.int b) = some (.bool (decide (a < b))) := rfl
theorem cG_le (a b : Int) : cmpG .LtE (.int a) (.int b) = some (.bool (decide (a ≤ b))) := rfl
theorem cG_gt (a b : Int) : cmpG .Gt (.int a) (.int b) = some (.bool (decide (b < a))) := rfl
theorem cG_ge (a b : Int) : cmpG .GtE (.int a) (.int b) = some (.bool (decide (b ≤ a))) := rfl
theorem cG_eq (a b : Int) : cmpG .Eq (.int a) (.int b) = some (.bool (decide (a = b))) := by
  show some (PyData.bool (PyData.eqv (.int a) (.int b))) = _
  rfl
theorem cG_ne (a b : Int) : cmpG .NotEq (.int a) (.int b) = some (.bool (!decide (a = b))) := rfl
theorem add_i (a b : Int) : addV (.int a) (.int b) = some (.int (a + b)) := rfl
theorem sub_i (a b : Int) : subV (.int a) (.int b) = some (.int (a - b)) := rfl
theorem at0 {α : Type} (a : α) (l : List α) : L2.atI (a :: l) 0 = some a := by
  unfold L2.atI L2.ixN
  simp
theorem atN {α : Type} {l : List α} {i : Int} {a : α} (h0 : 0 ≤ i) (h : l[i.toNat]? = some a) : L2.atI l i = some a := by
  have hl := (List.getElem?_eq_some_iff.mp h).1
  unfold L2.atI L2.ixN
  rw [if_pos h0, if_pos (by omega)]
  exact h
theorem at1 {α : Type} (a b : α) (l : List α) : L2.atI (a :: b :: l) 1 = some b := atN (by decide) rfl
theorem forGo_inv {t : Tg} {b : SemS} (I : List PyData → Rho → Dr → Prop) (h : ∀ d ds ρ st, I (d :: ds) ρ st → ∃ ρ1 ρ2 st2, storeT t d ρ = some ρ1 ∧ b ρ1 st = some (.nx ρ2, st2) ∧ I ds ρ2 st2) : ∀ ds ρ st, I ds ρ st → ∃ ρ' st', forGo t b ds ρ st = some (.nx ρ', st') ∧ I [] ρ' st'
  | [], ρ, st, q => ⟨ρ, st, rfl, q⟩
  | d :: ds, ρ, st, q => by
    obtain ⟨ρ1, ρ2, st2, h1, h2, h3⟩ := h d ds ρ st q
    obtain ⟨ρ', st', k1, k2⟩ := forGo_inv I h ds ρ2 st2 h3
    refine ⟨ρ', st', ?_, k2⟩
    unfold forGo
    simp only [bnd_ap, up_ap, h1, h2, om_some, ob_some]
    exact k1
theorem gxGo_spec {k : Bool} {tg : Tg} {tt : SemB} {te : Sem1} {ρ : Rho} {st : Dr} (f : PyData → Bool) : ∀ ds, (∀ d ∈ ds, ∃ ρ1, storeT tg d ρ = some ρ1 ∧ tt ρ1 st = some (true, st) ∧ te ρ1 st = some (.bool (f d), st)) → gxGo k tg tt te ρ ds st = some (.bool (if k then ds.any f else ds.all f), st)
  | [], _ => by cases k <;> rfl
  | d :: ds, h => by
    obtain ⟨ρ1, h1, h2, h3⟩ := h d (List.mem_cons_self ..)
    have ih := gxGo_spec (k := k) f ds fun x hx => h x (List.mem_cons_of_mem _ hx)
    unfold gxGo
    simp only [bnd_ap, up_ap, h1, h2, h3, om_some, ob_some, ite_ap, if_true, gxGo.truB, pur_ap, ih]
    cases k <;> cases e : f d <;> simp [e]
theorem lcGo_spec {tg : Tg} {tt : SemB} {te : Sem1} {ρ : Rho} {st : Dr} (f : PyData → Bool) (g : PyData → PyData) : ∀ ds, (∀ d ∈ ds, ∃ ρ1, storeT tg d ρ = some ρ1 ∧ tt ρ1 st = some (f d, st) ∧ (f d = true → te ρ1 st = some (g d, st))) → lcGo tg tt te ρ ds st = some ((ds.filter f).map g, st)
  | [], _ => rfl
  | d :: ds, h => by
    obtain ⟨ρ1, h1, h2, h3⟩ := h d (List.mem_cons_self ..)
    have ih := lcGo_spec f g ds fun x hx => h x (List.mem_cons_of_mem _ hx)
    unfold lcGo
    simp only [bnd_ap, up_ap, h1, h2, om_some, ob_some, ite_ap, ih]
    cases e : f d with
    | true =>
      rw [h3 e]
      simp [e, ob_some, pur_ap, ih]
    | false => simp [e]
/-! ### steps -/
theorem ev_def {t : SemS} {ρ : Rho} {st st1 : Dr} {o : Out} {v : PyData} (h : t ρ st = some (o, st1)) (h2 : outD o = some v) : (do let o ← t ρ; up (outD o) : M PyData) st = some (v, st1) := by
  rw [bnd_ap, h, ob_some]
  show up (outD o) st1 = _
  rw [h2]
  rfl
theorem ev_seq {a b : SemS} {ρ ρ1 : Rho} {st st1 : Dr} {r : Option (Out × Dr)} (h : a ρ st = some (.nx ρ1, st1)) (h2 : b ρ1 st1 = r) : seqS a b ρ st = r := by
  show (a ρ >>= _) st = r
  rw [bnd_ap, h, ob_some]
  exact h2
theorem ev_seqR {a b : SemS} {ρ : Rho} {st st1 : Dr} {d : PyData} (h : a ρ st = some (.rt d, st1)) : seqS a b ρ st = some (.rt d, st1) := by
  show (a ρ >>= _) st = _
  rw [bnd_ap, h, ob_some]
  rfl
theorem ev_rt {m : Sem1} {ρ : Rho} {st st1 : Dr} {v : PyData} (h : m ρ st = some (v, st1)) : rtS m ρ st = some (.rt v, st1) := by
  show (m ρ >>= _) st = _
  rw [bnd_ap, h, ob_some]
  rfl
theorem ev_ex {m : Sem1} {ρ : Rho} {st st1 : Dr} {v : PyData} (h : m ρ st = some (v, st1)) : exS m ρ st = some (.nx ρ, st1) := by
  show (m ρ >>= _) st = _
  rw [bnd_ap, h, ob_some]
  rfl
theorem ev_asg {m : Sem1} {t : Tg} {ρ ρ1 : Rho} {st st1 : Dr} {v : PyData} (h : m ρ st = some (v, st1)) (h2 : storeT t v ρ = some ρ1) : asgS m t ρ st = some (.nx ρ1, st1) := by
  show (m ρ >>= _) st = _
  rw [bnd_ap, h, ob_some]
  show (up (storeT t v ρ) >>= _) st1 = _
  rw [bnd_ap, h2]
  rfl
theorem ev_ifT {c : SemB} {a b : SemS} {ρ : Rho} {st st1 : Dr} {r : Option (Out × Dr)} (h : c ρ st = some (true, st1)) (h2 : a ρ st1 = r) : ifS c a b ρ st = r := by
  show (c ρ >>= _) st = _
  rw [bnd_ap, h, ob_some]
  exact h2
theorem ev_ifF {c : SemB} {a b : SemS} {ρ : Rho} {st st1 : Dr} {r : Option (Out × Dr)} (h : c ρ st = some (false, st1)) (h2 : b ρ st1 = r) : ifS c a b ρ st = r := by
  show (c ρ >>= _) st = _
  rw [bnd_ap, h, ob_some]
  exact h2
theorem ev_for {it : SemL} {t : Tg} {b : SemS} {ρ : Rho} {st st1 : Dr} {ds : List PyData} {r : Option (Out × Dr)} (h : it ρ st = some (ds, st1)) (h2 : forGo t b ds ρ st1 = r) : forS it t b ρ st = r := by
  show (it ρ >>= _) st = _
  rw [bnd_ap, h, ob_some]
  exact h2
theorem ev_call {f : SemF} {r : SemL} {ρ : Rho} {st st1 : Dr} {ds : List PyData} {o : Option (PyData × Dr)} (h : r ρ st = some (ds, st1)) (h2 : f ds st1 = o) : callR f r ρ st = o := by
  show (r ρ >>= _) st = _
  rw [bnd_ap, h, ob_some]
  exact h2
theorem ev_callD {f : SemF} {r : SemL} {i : Nat} {ρ : Rho} {st st1 : Dr} {ds : List PyData} {o : Option (PyData × Dr)} (hi : ρ[i]? = some (some .dr)) (h : r ρ st = some (ds, st1)) (h2 : f ds st1 = o) : callD f i r ρ st = o := by
  show (up (drO ρ[i]?) >>= _) st = _
  rw [bnd_ap, hi]
  show (r ρ >>= _) st = _
  rw [bnd_ap, h, ob_some]
  exact h2
theorem ev_blt {g : List PyData → Option PyData} {r : SemL} {ρ : Rho} {st st1 : Dr} {ds : List PyData} {v : PyData} (h : r ρ st = some (ds, st1)) (h2 : g ds = some v) : bltR g r ρ st = some (v, st1) := by
  show (r ρ >>= _) st = _
  rw [bnd_ap, h, ob_some]
  show up (g ds) st1 = _
  rw [h2]
  rfl
theorem ev_bin {g : PyData → PyData → Option PyData} {a b : Sem1} {ρ : Rho} {st st1 st2 : Dr} {x y v : PyData} (h : a ρ st = some (x, st1)) (h2 : b ρ st1 = some (y, st2)) (h3 : g x y = some v) : binR g a b ρ st = some (v, st2) := by
  show (a ρ >>= _) st = _
  rw [bnd_ap, h, ob_some]
  show (b ρ >>= _) st1 = _
  rw [bnd_ap, h2, ob_some]
  show up (g x y) st2 = _
  rw [h3]
  rfl
theorem ev_nil {ρ : Rho} {st : Dr} : nilR ρ st = some ([], st) := rfl
theorem ev_cons {m : Sem1} {r : SemL} {ρ : Rho} {st st1 st2 : Dr} {v : PyData} {ds : List PyData} (h : m ρ st = some (v, st1)) (h2 : r ρ st1 = some (ds, st2)) : consR m r ρ st = some (v :: ds, st2) := by
  show (m ρ >>= _) st = _
  rw [bnd_ap, h, ob_some]
  show (r ρ >>= _) st1 = _
  rw [bnd_ap, h2, ob_some]
  rfl
theorem ev_len {n : Nat} {r : SemL} {ρ : Rho} {st st1 : Dr} {ds : List PyData} (h : r ρ st = some (ds, st1)) (h2 : ds.length = n) : lenR n r ρ st = some (ds, st1) := by
  show (r ρ >>= _) st = _
  rw [bnd_ap, h, ob_some]
  show (if ds.length = n then pure ds else up none : M (List PyData)) st1 = _
  rw [if_pos h2]
  rfl
theorem ev_va {i : Nat} {ρ : Rho} {st : Dr} {v : PyData} (h : ρ[i]? = some (some (.va v))) : vaR i ρ st = some (v, st) := by
  show up (vaO ρ[i]?) st = _
  rw [h]
  rfl
theorem ev_tv {i : Nat} {ρ : Rho} {st : Dr} {v : PyData} (h : ρ[i]? = some (some (.va v))) : tvR i ρ st = some (v, st) := by
  show up (tvO ρ[i]?) st = _
  rw [h]
  rfl
theorem ev_cst {v : PyData} {ρ : Rho} {st : Dr} : cstR v ρ st = some (v, st) := rfl
theorem ev_tst {m : Sem1} {ρ : Rho} {st st1 : Dr} {v : PyData} {b : Bool} (h : m ρ st = some (v, st1)) (h2 : truV v = some b) : tstR m ρ st = some (b, st1) := by
  show (m ρ >>= _) st = _
  rw [bnd_ap, h, ob_some]
  show up (truV v) st1 = _
  rw [h2]
  rfl
theorem ev_disp {f : List PyData → PyData} {r : SemL} {ρ : Rho} {st st1 : Dr} {ds : List PyData} (h : r ρ st = some (ds, st1)) (h2 : ds.length ≤ 1000000) : dispR f r ρ st = some (f ds, st1) := by
  show (r ρ >>= _) st = _
  rw [bnd_ap, h, ob_some]
  show up (mkO f ds) st1 = _
  unfold mkO
  rw [if_pos h2]
  rfl
theorem ev_items {m : Sem1} {ρ : Rho} {st st1 : Dr} {v : PyData} {ds : List PyData} (h : m ρ st = some (v, st1)) (h2 : itemsO v = some ds) : itemsR m ρ st = some (ds, st1) := by
  show (m ρ >>= _) st = _
  rw [bnd_ap, h, ob_some]
  show up (itemsO v) st1 = _
  rw [h2]
  rfl
theorem ev_rng {r : SemL} {ρ : Rho} {st st1 : Dr} {as ds : List PyData} (h : r ρ st = some (as, st1)) (h2 : rangeO as = some ds) : rngR r ρ st = some (ds, st1) := by
  show (r ρ >>= _) st = _
  rw [bnd_ap, h, ob_some]
  show up (rangeO as) st1 = _
  rw [h2]
  rfl
theorem ev_lc {it : SemL} {tg : Tg} {vs : List Nat} {tt : SemB} {te : Sem1} {ρ : Rho} {st st1 st2 : Dr} {ds out : List PyData} (h : it ρ st = some (ds, st1)) (hl : ds.length ≤ 1000000) (h2 : lcGo tg tt te (wipeR ρ vs) ds st1 = some (out, st2)) : lcR it tg vs tt te ρ st = some (.list out, st2) := by
  show (it ρ >>= _) st = _
  rw [bnd_ap, h, ob_some]
  show (up (if ds.length ≤ 1000000 then some ds else none) >>= _) st1 = _
  rw [bnd_ap, if_pos hl]
  show (lcGo tg tt te (wipeR ρ vs) ds >>= _) st1 = _
  rw [bnd_ap, h2, ob_some]
  rfl
theorem ev_gx {k : Bool} {it : SemL} {tg : Tg} {vs : List Nat} {tt : SemB} {te : Sem1} {ρ : Rho} {st st1 : Dr} {ds : List PyData} {r : Option (PyData × Dr)} (h : it ρ st = some (ds, st1)) (h2 : gxGo k tg tt te (wipeR ρ vs) ds st1 = r) : gxR k it tg vs tt te ρ st = r := by
  show (it ρ >>= _) st = _
  rw [bnd_ap, h, ob_some]
  exact h2
theorem ev_dr {i : Nat} {k n : Int} {ρ : Rho} {st : Dr} (h : ρ[i]? = some (some .dr)) (h2 : drK st k = some n) : drR i k ρ st = some (.int n, st) := by
  unfold drR
  rw [h, h2]
  rfl
theorem ev_drLen {i : Nat} {ρ : Rho} {st : Dr} (h : ρ[i]? = some (some .dr)) : drLen i ρ st = some (.int st.sc.length, st) := by
  unfold drLen
  rw [h]
  rfl
theorem ev_drGet {i : Nat} {m : Sem1} {k n : Int} {ρ : Rho} {st st1 : Dr} (h : ρ[i]? = some (some .dr)) (h1 : m ρ st = some (.int k, st1)) (h2 : L2.atI st.sc k = some n) : drGet i m ρ st = some (.int n, st1) := by
  unfold drGet
  rw [h, h1]
  show (L2.atI st.sc k).map _ = _
  rw [h2]
  rfl
theorem ev_drSet {i : Nat} {k : Int} {m : Sem1} {d : PyData} {ρ : Rho} {st st1 st2 : Dr} (h : ρ[i]? = some (some .dr)) (h1 : m ρ st = some (d, st1)) (h2 : drPut st1 k d = some st2) : drSet i k m ρ st = some (.nx ρ, st2) := by
  unfold drSet
  rw [h1, h]
  show (drPut st1 k d).map _ = _
  rw [h2]
  rfl
theorem mod_i {a b : Int} (h : 0 < b) : modV (.int a) (.int b) = some (.int (a % b)) := by
  unfold modV intV
  simp [h]
theorem fdiv_i {a b : Int} (h : 0 < b) (h2 : b < 2 ^ 64) : fdivV (.int a) (.int b) = some (.int (a / b)) := by
  have h3 : b.natAbs.log2 < 9000 := by
    have : b.natAbs.log2 < 64 := (Nat.log2_lt (by omega)).mpr (by omega)
    omega
  unfold fdivV intV
  simp [h, h3]
theorem log_small {a : Int} (h : a.natAbs < 2 ^ 64) : a.natAbs.log2 < 64 := by
  by_cases h0 : a.natAbs = 0
  · rw [h0]; decide
  · exact (Nat.log2_lt h0).mpr h
theorem mul_i {a b : Int} (h : a.natAbs < 2 ^ 64) (h2 : b.natAbs < 2 ^ 64) : mulV (.int a) (.int b) = some (.int (a * b)) := by
  have h3 := log_small h
  have h4 := log_small h2
  have h5 : a.natAbs.log2 + b.natAbs.log2 < 1000000 := by omega
  show mulI (.int a) (.int b) = _
  unfold mulI intV
  simp [h5]
/-! ### the draws are plain -/
structure Gd (st : Dr) : Prop where
  i : 0 ≤ st.i
  s : 0 ≤ st.s
  s2 : st.s < 2147483647
theorem ev_app {i : Nat} {m : Sem1} {d : PyData} {ρ ρ1 : Rho} {st st1 : Dr} (h : m ρ st = some (d, st1)) (h2 : appO ρ i d = some ρ1) : appS i m ρ st = some (.nx ρ1, st1) := by
  show (m ρ >>= _) st = _
  rw [bnd_ap, h, ob_some]
  show (up (appO ρ i d) >>= _) st1 = _
  rw [bnd_ap, h2]
  rfl
theorem ev_par {is : List Nat} {r : SemE} {ens : List En} {ρ : Rho} {st st1 : Dr} (h : r ρ st = some (ens, st1)) (h2 : ens.length = is.length) : parS is r ρ st = some (.nx (storeE ρ is ens), st1) := by
  show (r ρ >>= _) st = _
  rw [bnd_ap, h, ob_some]
  show (if ens.length = is.length then pure (Out.nx (storeE ρ is ens)) else up none : M Out) st1 = _
  rw [if_pos h2]
  rfl
theorem ev_nilE {ρ : Rho} {st : Dr} : nilE ρ st = some ([], st) := rfl
theorem ev_vaE {m : Sem1} {r : SemE} {ρ : Rho} {st st1 st2 : Dr} {v : PyData} {es : List En} (h : m ρ st = some (v, st1)) (h2 : r ρ st1 = some (es, st2)) : vaE m r ρ st = some (.va v :: es, st2) := by
  show (m ρ >>= _) st = _
  rw [bnd_ap, h, ob_some]
  show (r ρ >>= _) st1 = _
  rw [bnd_ap, h2]
  rfl
theorem ev_owE {m : Sem1} {r : SemE} {ρ : Rho} {st st1 st2 : Dr} {v : PyData} {es : List En} (h : m ρ st = some (v, st1)) (h2 : r ρ st1 = some (es, st2)) : owE m r ρ st = some (.ow v :: es, st2) := by
  show (m ρ >>= _) st = _
  rw [bnd_ap, h, ob_some]
  show (r ρ >>= _) st1 = _
  rw [bnd_ap, h2]
  rfl
theorem ev_tvo {i : Nat} {ρ : Rho} {st : Dr} {v : PyData} (h : ρ[i]? = some (some (.ow v))) : tvR i ρ st = some (v, st) := by
  show up (tvO ρ[i]?) st = _
  rw [h]
  rfl
/-! ### a test comes out, some way -/
def TotB (c : SemB) (ρ : Rho) (st : Dr) : Prop := ∃ b st', c ρ st = some (b, st') ∧ Gd st'
theorem totB_and {a b : SemB} {ρ : Rho} {st : Dr} (h : TotB a ρ st) (h2 : ∀ st', Gd st' → TotB b ρ st') : TotB (andB a b) ρ st := by
  obtain ⟨x, st1, e1, g1⟩ := h
  obtain ⟨y, st2, e2, g2⟩ := h2 st1 g1
  cases x with
  | true =>
    refine ⟨y, st2, ?_, g2⟩
    show (a ρ >>= _) st = _
    rw [bnd_ap, e1]
    exact e2
  | false =>
    refine ⟨false, st1, ?_, g1⟩
    show (a ρ >>= _) st = _
    rw [bnd_ap, e1]
    rfl
theorem totB_or {a b : SemB} {ρ : Rho} {st : Dr} (h : TotB a ρ st) (h2 : ∀ st', Gd st' → TotB b ρ st') : TotB (orB a b) ρ st := by
  obtain ⟨x, st1, e1, g1⟩ := h
  obtain ⟨y, st2, e2, g2⟩ := h2 st1 g1
  cases x with
  | false =>
    refine ⟨y, st2, ?_, g2⟩
    show (a ρ >>= _) st = _
    rw [bnd_ap, e1]
    exact e2
  | true =>
    refine ⟨true, st1, ?_, g1⟩
    show (a ρ >>= _) st = _
    rw [bnd_ap, e1]
    rfl
theorem totB_tst {m : Sem1} {ρ : Rho} {st st' : Dr} {b : Bool} (h : m ρ st = some (.bool b, st')) (g : Gd st') : TotB (tstR m) ρ st := ⟨b, st', ev_tst h rfl, g⟩
def TotV (m : Sem1) (ρ : Rho) (st : Dr) : Prop := ∃ b, m ρ st = some (.bool b, st)
theorem totV_and {a b : Sem1} {ρ : Rho} {st : Dr} (h : TotV a ρ st) (h2 : TotV b ρ st) : TotV (andR a b) ρ st := by
  obtain ⟨x, e1⟩ := h
  obtain ⟨y, e2⟩ := h2
  cases x with
  | true =>
    refine ⟨y, ?_⟩
    show (a ρ >>= _) st = _
    rw [bnd_ap, e1]
    exact e2
  | false =>
    refine ⟨false, ?_⟩
    show (a ρ >>= _) st = _
    rw [bnd_ap, e1]
    rfl
theorem totV_or {a b : Sem1} {ρ : Rho} {st : Dr} (h : TotV a ρ st) (h2 : TotV b ρ st) : TotV (orR a b) ρ st := by
  obtain ⟨x, e1⟩ := h
  obtain ⟨y, e2⟩ := h2
  cases x with
  | false =>
    refine ⟨y, ?_⟩
    show (a ρ >>= _) st = _
    rw [bnd_ap, e1]
    exact e2
  | true =>
    refine ⟨true, ?_⟩
    show (a ρ >>= _) st = _
    rw [bnd_ap, e1]
    rfl
theorem rngD_zero (lo : Int) : rngD lo 1 0 = [] := rfl
theorem rngD_succ (lo : Int) (m : Nat) : rngD lo 1 (m + 1) = .int lo :: rngD (lo + 1) 1 m := by
  unfold rngD
  rw [List.range_succ_eq_map, List.map_cons, List.map_map]
  congr 1
  · simp
  · refine List.map_congr_left fun k _ => ?_
    simp only [Function.comp]
    congr 1
    omega
theorem log_big {a : Int} (h : a.natAbs < 2 ^ 1000) : a.natAbs.log2 < 1000 := by
  by_cases h0 : a.natAbs = 0
  · rw [h0]; decide
  · exact (Nat.log2_lt h0).mpr h
theorem mul_j {a b : Int} (h : a.natAbs < 2 ^ 1000) (h2 : b.natAbs < 2 ^ 1000) : mulV (.int a) (.int b) = some (.int (a * b)) := by
  have h3 := log_big h
  have h4 := log_big h2
  have h5 : a.natAbs.log2 + b.natAbs.log2 < 1000000 := by omega
  show mulI (.int a) (.int b) = _
  unfold mulI intV
  simp [h5]
theorem ev_chn {g g' : PyData → PyData → Option PyData} {a b c : Sem1} {ρ : Rho} {st st1 st2 st3 : Dr} {x y z v : PyData} (h : a ρ st = some (x, st1)) (h2 : b ρ st1 = some (y, st2)) (h3 : g x y = some (.bool true)) (h4 : c ρ st2 = some (z, st3)) (h5 : g' y z = some v) : chnR g g' a b c ρ st = some (v, st3) := by
  show (a ρ >>= _) st = _
  rw [bnd_ap, h, ob_some]
  show (b ρ >>= _) st1 = _
  rw [bnd_ap, h2, ob_some]
  show (up (g x y) >>= _) st2 = _
  rw [bnd_ap, h3]
  show (c ρ >>= _) st2 = _
  rw [bnd_ap, h4, ob_some]
  show up (g' y z) st3 = _
  rw [h5]
  rfl
theorem ev_orF {a b : SemB} {ρ : Rho} {st st1 : Dr} {o : Option (Bool × Dr)} (h : a ρ st = some (false, st1)) (h2 : b ρ st1 = o) : orB a b ρ st = o := by
  show (a ρ >>= _) st = _
  rw [bnd_ap, h]
  exact h2
theorem ev_andT {a b : SemB} {ρ : Rho} {st st1 : Dr} {o : Option (Bool × Dr)} (h : a ρ st = some (true, st1)) (h2 : b ρ st1 = o) : andB a b ρ st = o := by
  show (a ρ >>= _) st = _
  rw [bnd_ap, h]
  exact h2
theorem ev_andF {a b : SemB} {ρ : Rho} {st st1 : Dr} (h : a ρ st = some (false, st1)) : andB a b ρ st = some (false, st1) := by
  show (a ρ >>= _) st = _
  rw [bnd_ap, h]
  rfl
theorem ne_no {a b : Int} (h : a = b) : cmpG .NotEq (.int a) (.int b) = some (.bool false) := by
  rw [cG_ne, h]
  simp
end Fo
namespace Hd
open PySem PySem.Spec PyProof.Rows L2
def top (i : Nat) : Stmt := PySem.Challenge.pw_foescome_k47_across_special_gatherings.main.body.getD i (.Pass ⟨0, 0, 0, 0⟩)
def dfn (x : Str) (i : Nat) : He.DefD := ⟨(x, none), x, x, defArgs (top i), defBody (top i), defScope (top i), [], []⟩
def fn : List He.DefD := [dfn "is_in" 7, dfn "need_web" 8, dfn "is_lot" 9, dfn "is_gathering" 10, dfn "all_lots" 11, dfn "all_gatherings" 12, dfn "gathering_count" 13, dfn "need_size" 16, dfn "row_web" 17, dfn "ring_web" 18, dfn "star_web" 19, dfn "full_web" 20, dfn "row_number" 21, dfn "need_many" 22, dfn "row_gatherings" 23, dfn "ring_gatherings" 24, dfn "_law_taken" 26, dfn "_law_web" 29, dfn "_law_times" 39, dfn "law" 40]
def fa : List He.Fa := [.glo "is_in", .glo "need_web", .glo "is_lot", .glo "is_gathering", .glo "all_lots", .glo "all_gatherings", .glo "gathering_count", .glo "need_size", .glo "row_web", .glo "ring_web", .glo "star_web", .glo "full_web", .glo "row_number", .glo "need_many", .glo "row_gatherings", .glo "ring_gatherings", .glo "_law_taken", .glo "_law_web", .glo "_law_times", .glo "law", .free "all", .free "any", .free "bool", .free "int", .free "isinstance", .free "len", .free "range", .free "sorted", .free "tuple", .int "MOST_MANY" 100, .int "MOST_PEOPLE" 7]
def tf : List He.Defn := [("need_web", none), ("is_lot", none), ("is_gathering", none)]
def ex (K : PySem.W.Frag) : Bool := true
abbrev R : PySem.W.OpenRow := PySem.W.OpenLaw.row PySem.Challenge.rw_foescome_k47_across_special_gatherings
def lo0 : List Str := ["FoeError", "BadWeb", "BadCount", "BadSize", "MOST_PEOPLE", "is_in", "need_web", "is_lot", "is_gathering", "all_lots", "all_gatherings", "gathering_count", "MOST_MANY", "need_size", "row_web", "ring_web", "star_web", "full_web", "row_number", "need_many"]
def lo1 : List Str := ["row_gatherings", "ring_gatherings", "_law_taken", "_law_pick", "_law_alike", "_law_web", "_law_foes", "_law_come", "_law_done", "_law_lots", "_law_is_gathering", "_law_gatherings", "_law_row", "_law_deed", "_law_made", "_law_times"]
def lo : List Str := lo0 ++ lo1
abbrev hk : PySem.W.Hook := He.hookX 5 fa fn [] tf ex
def ob (s : PySem.W.SharedT) : He.AlX := He.obsX 5 fa fn [] tf ex (HandSHeadRun.getT s)
theorem ob_eq (s : PySem.W.SharedT) : ob s = hk.obs s.abs := He.obsX_eq (HandSHeadRun.getT_eq s)
theorem run (w : World) : HandSHeadRun.RunEq R (PySem.W.view R.prog [40]) hk ob 4000 lo w := by
  intro os
  kernel_rfl
end Hd
namespace Hd
open PySem PySem.Spec PyProof.Rows L2
def cs : List (Str × Int) := Fo.cisOf fa
def bs : List Str := Fo.bltsOf fa
def F0 : List (Str × Fo.FnI) := []
def C1 : Fo.Cfg := ⟨["value", "least", "most"], defScope (top 7), F0, cs, bs, false, fun _ => true, none⟩
def s_is_in : Fo.SemF := Fo.semD C1 [] false (defBody (top 7))
def F1 : List (Str × Fo.FnI) := ("is_in", ⟨false, 3, s_is_in⟩) :: F0
def C2 : Fo.Cfg := ⟨["web", "pair", "k"], defScope (top 8), F1, cs, bs, true, fun _ => true, none⟩
def s_need_web : Fo.SemF := Fo.semD C2 [] false (defBody (top 8))
def F2 : List (Str × Fo.FnI) := ("need_web", ⟨false, 1, s_need_web⟩) :: F1
def C3 : Fo.Cfg := ⟨["web", "value", "k", "one"], defScope (top 9), F2, cs, bs, true, fun _ => true, none⟩
def s_is_lot : Fo.SemF := Fo.semD C3 [] false (defBody (top 9))
def F3 : List (Str × Fo.FnI) := ("is_lot", ⟨false, 2, s_is_lot⟩) :: F2
def C4 : Fo.Cfg := ⟨["web", "value", "one", "other"], defScope (top 10), F3, cs, bs, true, fun _ => true, none⟩
def s_is_gathering : Fo.SemF := Fo.semD C4 [] false (defBody (top 10))
def F4 : List (Str × Fo.FnI) := ("is_gathering", ⟨false, 2, s_is_gathering⟩) :: F3
def C5 : Fo.Cfg := ⟨["web", "found", "person", "one"], defScope (top 11), F4, cs, bs, false, fun _ => true, none⟩
def s_all_lots : Fo.SemF := Fo.semD C5 [] false (defBody (top 11))
def F5 : List (Str × Fo.FnI) := ("all_lots", ⟨false, 1, s_all_lots⟩) :: F4
def C6 : Fo.Cfg := ⟨["web", "one"], defScope (top 12), F5, cs, bs, false, fun _ => true, none⟩
def s_all_gatherings : Fo.SemF := Fo.semD C6 [] false (defBody (top 12))
def F6 : List (Str × Fo.FnI) := ("all_gatherings", ⟨false, 1, s_all_gatherings⟩) :: F5
def C7 : Fo.Cfg := ⟨["web"], defScope (top 13), F6, cs, bs, false, fun _ => true, none⟩
def s_gathering_count : Fo.SemF := Fo.semD C7 [] false (defBody (top 13))
def F7 : List (Str × Fo.FnI) := ("gathering_count", ⟨false, 1, s_gathering_count⟩) :: F6
def C8 : Fo.Cfg := ⟨["size"], defScope (top 16), F7, cs, bs, false, fun _ => true, none⟩
def s_need_size : Fo.SemF := Fo.semD C8 [] false (defBody (top 16))
def F8 : List (Str × Fo.FnI) := ("need_size", ⟨false, 1, s_need_size⟩) :: F7
def C9 : Fo.Cfg := ⟨["size", "one"], defScope (top 17), F8, cs, bs, false, fun _ => true, none⟩
def s_row_web : Fo.SemF := Fo.semD C9 [] false (defBody (top 17))
def F9 : List (Str × Fo.FnI) := ("row_web", ⟨false, 1, s_row_web⟩) :: F8
def C10 : Fo.Cfg := ⟨["size", "pairs", "one"], defScope (top 18), F9, cs, bs, false, fun _ => true, none⟩
def s_ring_web : Fo.SemF := Fo.semD C10 [] false (defBody (top 18))
def F10 : List (Str × Fo.FnI) := ("ring_web", ⟨false, 1, s_ring_web⟩) :: F9
def C11 : Fo.Cfg := ⟨["size", "other"], defScope (top 19), F10, cs, bs, false, fun _ => true, none⟩
def s_star_web : Fo.SemF := Fo.semD C11 [] false (defBody (top 19))
def F11 : List (Str × Fo.FnI) := ("star_web", ⟨false, 1, s_star_web⟩) :: F10
def C12 : Fo.Cfg := ⟨["size", "pairs", "one", "other"], defScope (top 20), F11, cs, bs, false, fun _ => true, none⟩
def s_full_web : Fo.SemF := Fo.semD C12 [] false (defBody (top 20))
def F12 : List (Str × Fo.FnI) := ("full_web", ⟨false, 1, s_full_web⟩) :: F11
def C13 : Fo.Cfg := ⟨["many", "turn", "here", "there"], defScope (top 21), F12, cs, bs, false, fun _ => true, none⟩
def s_row_number : Fo.SemF := Fo.semD C13 [] false (defBody (top 21))
def F13 : List (Str × Fo.FnI) := ("row_number", ⟨false, 1, s_row_number⟩) :: F12
def C14 : Fo.Cfg := ⟨["many"], defScope (top 22), F13, cs, bs, false, fun _ => true, none⟩
def s_need_many : Fo.SemF := Fo.semD C14 [] false (defBody (top 22))
def F14 : List (Str × Fo.FnI) := ("need_many", ⟨false, 1, s_need_many⟩) :: F13
def C15 : Fo.Cfg := ⟨["many"], defScope (top 23), F14, cs, bs, false, fun _ => true, none⟩
def s_row_gatherings : Fo.SemF := Fo.semD C15 [] false (defBody (top 23))
def F15 : List (Str × Fo.FnI) := ("row_gatherings", ⟨false, 1, s_row_gatherings⟩) :: F14
def C16 : Fo.Cfg := ⟨["many"], defScope (top 24), F15, cs, bs, false, fun _ => true, none⟩
def s_ring_gatherings : Fo.SemF := Fo.semD C16 [] false (defBody (top 24))
def F16 : List (Str × Fo.FnI) := ("ring_gatherings", ⟨false, 1, s_ring_gatherings⟩) :: F15
def C17 : Fo.Cfg := ⟨["_law_row_here", "_law_many", "_law_cell", "_law_found"], defScope (top 26), F16, cs, bs, false, fun _ => true, (some "_law_row_here")⟩
def s__law_taken : Fo.SemF := Fo.semD C17 [] true (defBody (top 26))
def F17 : List (Str × Fo.FnI) := ("_law_taken", ⟨true, 2, s__law_taken⟩) :: F16
def C18 : Fo.Cfg := ⟨["_law_row_here", "_law_most", "_law_way", "_law_one", "_law_size", "_law_pairs", "_law_other", "_law_near"], defScope (top 29), F17, cs, bs, false, fun _ => true, none⟩
def s__law_web : Fo.SemF := Fo.semD C18 ["_law_pairs"] true (defBody (top 29))
def F18 : List (Str × Fo.FnI) := ("_law_web", ⟨true, 2, s__law_web⟩) :: F17
def C19 : Fo.Cfg := ⟨["_law_base", "_law_many", "_law_found", "_law_turn"], defScope (top 39), F18, cs, bs, false, fun _ => true, none⟩
def s__law_times : Fo.SemF := Fo.semD C19 [] false (defBody (top 39))
def F19 : List (Str × Fo.FnI) := ("_law_times", ⟨false, 2, s__law_times⟩) :: F18
def C20 : Fo.Cfg := ⟨["_law_script", "_law_row_here", "_law_two", "_law_web_here", "_law_size", "_law_many"], defScope (top 40), F19, cs, bs, false, fun _ => true, none⟩
def lawRest : List Stmt := (defBody (top 40)).tail
def s_law (ns : List Int) (seed : Int) : Option (Fo.Out × Fo.Dr) := Fo.rdS (Fo.rd 40) C20 [] 30 lawRest (Fo.law0 C20.N) ⟨ns, 0, seed, 0⟩
end Hd
namespace Hd
open PySem PySem.Spec PyProof.Rows Fo
theorem semD_eq {C : Cfg} {mu : List PySem.Str} {d : Bool} {body : List Stmt} {t : SemS} (h : rdS (rd 40) C mu 30 body = t) : semD C mu d body = fun ds => (do let o ← t (startR C.N d ds); up (outD o)) := by unfold semD; rw [h]
def t_is_in : SemS := (seqS (rtS (andR (unR (isiV "int") (tvR 0)) (andR (notR (unR (isiV "bool") (tvR 0))) (chnR (cmpG .LtE) (cmpG .LtE) (tvR 1) (tvR 0) (tvR 2))))) nxS)
theorem e_is_in : s_is_in = fun ds => (do let o ← t_is_in (startR ["value", "least", "most"] false ds); up (outD o)) := semD_eq (C := C1) (by kernel_rfl)
def x_need_web_1 : Sem1 := (binR (cmpG .GtE) (binR getV (binR getV (tvR 0) (cstR (.int 1))) (tvR 2)) (binR getV (binR getV (tvR 0) (cstR (.int 1))) (binR addV (tvR 2) (cstR (.int 1)))))
def b_need_web_2 : SemS := (seqS (ifS (orB (notB (tstR (unR (isiV "tuple") (tvR 1)))) (orB (tstR (binR (cmpG .NotEq) (bltR lenV (consR (tvR 1) nilR)) (cstR (.int 2)))) (notB (tstR (callR s_is_in (lenR 3 (consR (binR getV (tvR 1) (cstR (.int 0))) (consR (cstR (.int 0)) (consR (binR subV (binR getV (tvR 0) (cstR (.int 0))) (cstR (.int 1))) nilR))))))))) (seqS neverS nxS) nxS) (seqS (ifS (notB (tstR (callR s_is_in (lenR 3 (consR (binR getV (tvR 1) (cstR (.int 1))) (consR (binR addV (binR getV (tvR 1) (cstR (.int 0))) (cstR (.int 1))) (consR (binR subV (binR getV (tvR 0) (cstR (.int 0))) (cstR (.int 1))) nilR))))))) (seqS neverS nxS) nxS) nxS))
def t_need_web : SemS := (seqS (ifS (orB (notB (tstR (unR (isiV "tuple") (tvR 0)))) (orB (tstR (binR (cmpG .NotEq) (bltR lenV (consR (tvR 0) nilR)) (cstR (.int 2)))) (notB (tstR (callR s_is_in (lenR 3 (consR (binR getV (tvR 0) (cstR (.int 0))) (consR (cstR (.int 1)) (consR (cstR (.int 7)) nilR))))))))) (seqS neverS nxS) nxS) (seqS (ifS (notB (tstR (unR (isiV "tuple") (binR getV (tvR 0) (cstR (.int 1)))))) (seqS neverS nxS) nxS) (seqS (forS (itemsR (binR getV (tvR 0) (cstR (.int 1)))) (.nm 1) b_need_web_2) (seqS (ifS (tstR (gxR true (rngR (lenR 1 (consR (binR subV (bltR lenV (consR (binR getV (tvR 0) (cstR (.int 1))) nilR)) (cstR (.int 1))) nilR))) (.nm 2) [2] yesB x_need_web_1)) (seqS neverS nxS) nxS) nxS))))
theorem e_need_web : s_need_web = fun ds => (do let o ← t_need_web (startR ["web", "pair", "k"] false ds); up (outD o)) := semD_eq (C := C2) (by kernel_rfl)
def x_is_lot_1 : Sem1 := (binR (cmpG .Lt) (binR getV (tvR 1) (tvR 2)) (binR getV (tvR 1) (binR addV (tvR 2) (cstR (.int 1)))))
def x_is_lot_2 : Sem1 := (callR s_is_in (lenR 3 (consR (vaR 3) (consR (cstR (.int 0)) (consR (binR subV (binR getV (tvR 0) (cstR (.int 0))) (cstR (.int 1))) nilR)))))
def t_is_lot : SemS := (seqS (ifS (orB (notB (tstR (unR (isiV "tuple") (tvR 1)))) (notB (tstR (gxR false (itemsR (tvR 1)) (.nm 3) [3] yesB x_is_lot_2)))) (seqS (rtS (cstR (.bool false))) nxS) nxS) (seqS (rtS (gxR false (rngR (lenR 1 (consR (binR subV (bltR lenV (consR (tvR 1) nilR)) (cstR (.int 1))) nilR))) (.nm 2) [2] yesB x_is_lot_1)) nxS))
theorem e_is_lot : s_is_lot = fun ds => (do let o ← t_is_lot (startR ["web", "value", "k", "one"] false ds); up (outD o)) := semD_eq (C := C3) (by kernel_rfl)
def x_is_gathering_1 : Sem1 := (andR (binR (cmpG .In) (tvR 2) (tvR 1)) (binR (cmpG .In) (tvR 3) (tvR 1)))
def t_is_gathering : SemS := (seqS (rtS (andR (callR s_is_lot (lenR 2 (consR (vaR 0) (consR (vaR 1) nilR)))) (notR (gxR true (itemsR (binR getV (tvR 0) (cstR (.int 1)))) (.tp [2, 3]) [2, 3] yesB x_is_gathering_1)))) nxS)
theorem e_is_gathering : s_is_gathering = fun ds => (do let o ← t_is_gathering (startR ["web", "value", "one", "other"] false ds); up (outD o)) := semD_eq (C := C4) (by kernel_rfl)
def x_all_lots_1 : Sem1 := (dispR .tuple (starR (tvR 3) (consR (vaR 2) nilR)))
def b_all_lots_2 : SemS := (seqS (asgS (binR addV (tvR 1) (lcR (itemsR (tvR 1)) (.nm 3) [3] yesB x_all_lots_1)) (.nm 1)) nxS)
def t_all_lots : SemS := (seqS (asgS (dispR .list (consR (dispR .tuple nilR) nilR)) (.nm 1)) (seqS (forS (rngR (lenR 1 (consR (binR getV (tvR 0) (cstR (.int 0))) nilR))) (.nm 2) b_all_lots_2) (seqS (rtS (bltR sortedV (consR (tvR 1) nilR))) nxS)))
theorem e_all_lots : s_all_lots = fun ds => (do let o ← t_all_lots (startR ["web", "found", "person", "one"] false ds); up (outD o)) := semD_eq (C := C5) (by kernel_rfl)
def c_all_gatherings_1 : SemB := (tstR (callR s_is_gathering (lenR 2 (consR (vaR 0) (consR (vaR 1) nilR)))))
def x_all_gatherings_2 : Sem1 := (vaR 1)
def t_all_gatherings : SemS := (seqS (rtS (lcR (itemsR (callR s_all_lots (lenR 1 (consR (vaR 0) nilR)))) (.nm 1) [1] c_all_gatherings_1 x_all_gatherings_2)) nxS)
theorem e_all_gatherings : s_all_gatherings = fun ds => (do let o ← t_all_gatherings (startR ["web", "one"] false ds); up (outD o)) := semD_eq (C := C6) (by kernel_rfl)
def t_gathering_count : SemS := (seqS (exS (callR s_need_web (lenR 1 (consR (vaR 0) nilR)))) (seqS (rtS (bltR lenV (consR (callR s_all_gatherings (lenR 1 (consR (vaR 0) nilR))) nilR))) nxS))
theorem e_gathering_count : s_gathering_count = fun ds => (do let o ← t_gathering_count (startR ["web"] false ds); up (outD o)) := semD_eq (C := C7) (by kernel_rfl)
def t_need_size : SemS := (seqS (ifS (notB (tstR (callR s_is_in (lenR 3 (consR (vaR 0) (consR (cstR (.int 1)) (consR (cstR (.int 7)) nilR))))))) (seqS neverS nxS) nxS) nxS)
theorem e_need_size : s_need_size = fun ds => (do let o ← t_need_size (startR ["size"] false ds); up (outD o)) := semD_eq (C := C8) (by kernel_rfl)
def x_row_web_1 : Sem1 := (dispR .tuple (consR (vaR 1) (consR (binR addV (tvR 1) (cstR (.int 1))) nilR)))
def t_row_web : SemS := (seqS (exS (callR s_need_size (lenR 1 (consR (vaR 0) nilR)))) (seqS (rtS (dispR .tuple (consR (vaR 0) (consR (bltR tupleV (consR (lcR (rngR (lenR 1 (consR (binR subV (tvR 0) (cstR (.int 1))) nilR))) (.nm 1) [1] yesB x_row_web_1) nilR)) nilR)))) nxS))
theorem e_row_web : s_row_web = fun ds => (do let o ← t_row_web (startR ["size", "one"] false ds); up (outD o)) := semD_eq (C := C9) (by kernel_rfl)
def x_ring_web_1 : Sem1 := (dispR .tuple (consR (vaR 2) (consR (binR addV (tvR 2) (cstR (.int 1))) nilR)))
def t_ring_web : SemS := (seqS (exS (callR s_need_size (lenR 1 (consR (vaR 0) nilR)))) (seqS (asgS (lcR (rngR (lenR 1 (consR (binR subV (tvR 0) (cstR (.int 1))) nilR))) (.nm 2) [2] yesB x_ring_web_1) (.nm 1)) (seqS (rtS (dispR .tuple (consR (vaR 0) (consR (bltR tupleV (consR (bltR sortedV (consR (iteR (tstR (binR (cmpG .Gt) (tvR 0) (cstR (.int 2)))) (dispR .list (starR (tvR 1) (consR (dispR .tuple (consR (cstR (.int 0)) (consR (binR subV (tvR 0) (cstR (.int 1))) nilR))) nilR))) (vaR 1)) nilR)) nilR)) nilR)))) nxS)))
theorem e_ring_web : s_ring_web = fun ds => (do let o ← t_ring_web (startR ["size", "pairs", "one"] false ds); up (outD o)) := semD_eq (C := C10) (by kernel_rfl)
def x_star_web_1 : Sem1 := (dispR .tuple (consR (cstR (.int 0)) (consR (vaR 1) nilR)))
def t_star_web : SemS := (seqS (exS (callR s_need_size (lenR 1 (consR (vaR 0) nilR)))) (seqS (rtS (dispR .tuple (consR (vaR 0) (consR (bltR tupleV (consR (lcR (rngR (lenR 2 (consR (cstR (.int 1)) (consR (tvR 0) nilR)))) (.nm 1) [1] yesB x_star_web_1) nilR)) nilR)))) nxS))
theorem e_star_web : s_star_web = fun ds => (do let o ← t_star_web (startR ["size", "other"] false ds); up (outD o)) := semD_eq (C := C11) (by kernel_rfl)
def x_full_web_1 : Sem1 := (dispR .tuple (consR (vaR 2) (consR (vaR 3) nilR)))
def b_full_web_2 : SemS := (seqS (asgS (binR addV (tvR 1) (lcR (rngR (lenR 2 (consR (binR addV (tvR 2) (cstR (.int 1))) (consR (tvR 0) nilR)))) (.nm 3) [3] yesB x_full_web_1)) (.nm 1)) nxS)
def t_full_web : SemS := (seqS (exS (callR s_need_size (lenR 1 (consR (vaR 0) nilR)))) (seqS (asgS (dispR .list nilR) (.nm 1)) (seqS (forS (rngR (lenR 1 (consR (tvR 0) nilR))) (.nm 2) b_full_web_2) (seqS (rtS (dispR .tuple (consR (vaR 0) (consR (bltR tupleV (consR (tvR 1) nilR)) nilR)))) nxS))))
theorem e_full_web : s_full_web = fun ds => (do let o ← t_full_web (startR ["size", "pairs", "one", "other"] false ds); up (outD o)) := semD_eq (C := C12) (by kernel_rfl)
def b_row_number_1 : SemS := (seqS (parS [2, 3] (vaE (binR addV (tvR 2) (tvR 3)) (vaE (vaR 2) nilE))) nxS)
def t_row_number : SemS := (seqS (asgS (dispR .tuple (consR (cstR (.int 1)) (consR (cstR (.int 1)) nilR))) (.tp [2, 3])) (seqS (forS (rngR (lenR 1 (consR (tvR 0) nilR))) (.nm 1) b_row_number_1) (seqS (rtS (vaR 2)) nxS)))
theorem e_row_number : s_row_number = fun ds => (do let o ← t_row_number (startR ["many", "turn", "here", "there"] false ds); up (outD o)) := semD_eq (C := C13) (by kernel_rfl)
def t_need_many : SemS := (seqS (ifS (notB (tstR (callR s_is_in (lenR 3 (consR (vaR 0) (consR (cstR (.int 1)) (consR (cstR (.int 100)) nilR))))))) (seqS neverS nxS) nxS) nxS)
theorem e_need_many : s_need_many = fun ds => (do let o ← t_need_many (startR ["many"] false ds); up (outD o)) := semD_eq (C := C14) (by kernel_rfl)
def t_row_gatherings : SemS := (seqS (exS (callR s_need_many (lenR 1 (consR (vaR 0) nilR)))) (seqS (rtS (callR s_row_number (lenR 1 (consR (vaR 0) nilR)))) nxS))
theorem e_row_gatherings : s_row_gatherings = fun ds => (do let o ← t_row_gatherings (startR ["many"] false ds); up (outD o)) := semD_eq (C := C15) (by kernel_rfl)
def t_ring_gatherings : SemS := (seqS (exS (callR s_need_many (lenR 1 (consR (vaR 0) nilR)))) (seqS (ifS (tstR (binR (cmpG .Lt) (tvR 0) (cstR (.int 3)))) (seqS (rtS (callR s_row_number (lenR 1 (consR (vaR 0) nilR)))) nxS) nxS) (seqS (rtS (binR addV (callR s_row_number (lenR 1 (consR (binR subV (tvR 0) (cstR (.int 1))) nilR))) (callR s_row_number (lenR 1 (consR (binR subV (tvR 0) (cstR (.int 3))) nilR))))) nxS)))
theorem e_ring_gatherings : s_ring_gatherings = fun ds => (do let o ← t_ring_gatherings (startR ["many"] false ds); up (outD o)) := semD_eq (C := C16) (by kernel_rfl)
def t__law_taken : SemS := (seqS (ifS (tstR (binR (cmpG .Gt) (drR 0 3) (cstR (.int 0)))) (seqS (asgS (binR modV (bltR intV1 (consR (drR 0 3) nilR)) (tvR 1)) (.nm 3)) (seqS (drSet 0 3 (binR fdivV (drR 0 3) (tvR 1))) (seqS (rtS (vaR 3)) nxS))) nxS) (seqS (drSet 0 1 (binR addV (drR 0 1) (cstR (.int 1)))) (seqS (ifS (tstR (binR (cmpG .Gt) (drR 0 1) (drLen 0))) (seqS (drSet 0 2 (binR modV (bltR intV1 (consR (binR addV (binR mulV (drR 0 2) (cstR (.int 48271))) (cstR (.int 11))) nilR)) (cstR (.int 2147483647)))) (seqS (rtS (binR modV (bltR intV1 (consR (binR fdivV (drR 0 2) (cstR (.int 7))) nilR)) (tvR 1))) nxS)) nxS) (seqS (asgS (drGet 0 (binR subV (drR 0 1) (cstR (.int 1)))) (.nm 2)) (seqS (drSet 0 2 (binR modV (bltR intV1 (consR (binR addV (binR addV (binR mulV (drR 0 2) (cstR (.int 48271))) (tvR 2)) (cstR (.int 11))) nilR)) (cstR (.int 2147483647)))) (seqS (ifS (tstR (binR (cmpG .GtE) (tvR 2) (binR powV (cstR (.int 10)) (cstR (.int 18))))) (seqS (drSet 0 3 (binR fdivV (tvR 2) (tvR 1))) nxS) nxS) (seqS (rtS (binR modV (bltR intV1 (consR (tvR 2) nilR)) (tvR 1))) nxS)))))))
theorem e__law_taken : s__law_taken = fun ds => (do let o ← t__law_taken (startR ["_law_row_here", "_law_many", "_law_cell", "_law_found"] true ds); up (outD o)) := semD_eq (C := C17) (by kernel_rfl)
def b__law_web_1 : SemS := (seqS (asgS (orR (binR (cmpG .Eq) (tvR 6) (binR addV (tvR 3) (cstR (.int 1)))) (andR (binR (cmpG .Eq) (tvR 3) (cstR (.int 0))) (andR (binR (cmpG .Eq) (tvR 6) (binR subV (tvR 4) (cstR (.int 1)))) (binR (cmpG .Eq) (tvR 2) (cstR (.int 1)))))) (.nm 7)) (seqS (ifS (orB (andB (tstR (binR (cmpG .Eq) (callD s__law_taken 0 (lenR (2 - 1) (consR (cstR (.int 3)) nilR))) (cstR (.int 0)))) (tstR (binR (cmpG .Gt) (tvR 2) (cstR (.int 1))))) (orB (andB (tstR (tvR 7)) (tstR (binR (cmpG .Lt) (tvR 2) (cstR (.int 2))))) (andB (tstR (binR (cmpG .Eq) (tvR 2) (cstR (.int 3)))) (tstR (binR (cmpG .Eq) (callD s__law_taken 0 (lenR (2 - 1) (consR (cstR (.int 2)) nilR))) (cstR (.int 0))))))) (seqS (appS 5 (dispR .tuple (consR (vaR 3) (consR (vaR 6) nilR)))) nxS) nxS) nxS))
def b__law_web_2 : SemS := (seqS (forS (rngR (lenR 2 (consR (binR addV (tvR 3) (cstR (.int 1))) (consR (tvR 4) nilR)))) (.nm 6) b__law_web_1) nxS)
def t__law_web : SemS := (seqS (parS [4, 5] (vaE (binR addV (cstR (.int 1)) (callD s__law_taken 0 (lenR (2 - 1) (consR (vaR 1) nilR)))) (owE (dispR .list nilR) nilE))) (seqS (asgS (callD s__law_taken 0 (lenR (2 - 1) (consR (cstR (.int 4)) nilR))) (.nm 2)) (seqS (forS (rngR (lenR 1 (consR (tvR 4) nilR))) (.nm 3) b__law_web_2) (seqS (rtS (dispR .tuple (consR (vaR 4) (consR (bltR tupleV (consR (tvR 5) nilR)) nilR)))) nxS))))
theorem e__law_web : s__law_web = fun ds => (do let o ← t__law_web (startR ["_law_row_here", "_law_most", "_law_way", "_law_one", "_law_size", "_law_pairs", "_law_other", "_law_near"] true ds); up (outD o)) := semD_eq (C := C18) (by kernel_rfl)
def b__law_times_1 : SemS := (seqS (asgS (binR mulV (tvR 2) (tvR 0)) (.nm 2)) nxS)
def t__law_times : SemS := (seqS (asgS (cstR (.int 1)) (.nm 2)) (seqS (forS (rngR (lenR 1 (consR (tvR 1) nilR))) (.nm 3) b__law_times_1) (seqS (rtS (vaR 2)) nxS)))
theorem e__law_times : s__law_times = fun ds => (do let o ← t__law_times (startR ["_law_base", "_law_many", "_law_found", "_law_turn"] false ds); up (outD o)) := semD_eq (C := C19) (by kernel_rfl)
def t_law : SemS := (seqS (parS [4, 5] (vaE (binR addV (cstR (.int 1)) (callD s__law_taken 1 (lenR (2 - 1) (consR (cstR (.int 7)) nilR)))) (vaE (binR addV (cstR (.int 1)) (callD s__law_taken 1 (lenR (2 - 1) (consR (cstR (.int 98)) nilR)))) nilE))) (seqS (ifS (orB (tstR (binR (cmpG .NotEq) (callR s_gathering_count (lenR 1 (consR (callR s_row_web (lenR 1 (consR (vaR 4) nilR))) nilR))) (callR s_row_gatherings (lenR 1 (consR (vaR 4) nilR))))) (tstR (binR (cmpG .NotEq) (callR s_gathering_count (lenR 1 (consR (callR s_ring_web (lenR 1 (consR (vaR 4) nilR))) nilR))) (callR s_ring_gatherings (lenR 1 (consR (vaR 4) nilR)))))) (seqS (rtS (cstR (.bool false))) nxS) nxS) (seqS (ifS (orB (tstR (binR (cmpG .NotEq) (callR s_gathering_count (lenR 1 (consR (callR s_full_web (lenR 1 (consR (vaR 4) nilR))) nilR))) (binR addV (tvR 4) (cstR (.int 1))))) (tstR (binR (cmpG .NotEq) (callR s_gathering_count (lenR 1 (consR (callR s_star_web (lenR 1 (consR (vaR 4) nilR))) nilR))) (binR addV (callR s__law_times (lenR 2 (consR (cstR (.int 2)) (consR (binR subV (tvR 4) (cstR (.int 1))) nilR)))) (cstR (.int 1)))))) (seqS (rtS (cstR (.bool false))) nxS) nxS) (seqS (ifS (orB (tstR (binR (cmpG .NotEq) (callR s_gathering_count (lenR 1 (consR (dispR .tuple (consR (vaR 4) (consR (dispR .tuple nilR) nilR))) nilR))) (callR s__law_times (lenR 2 (consR (cstR (.int 2)) (consR (vaR 4) nilR)))))) (tstR (binR (cmpG .NotEq) (callR s_row_gatherings (lenR 1 (consR (binR addV (tvR 5) (cstR (.int 2))) nilR))) (binR addV (callR s_row_gatherings (lenR 1 (consR (binR addV (tvR 5) (cstR (.int 1))) nilR))) (callR s_row_gatherings (lenR 1 (consR (vaR 5) nilR))))))) (seqS (rtS (cstR (.bool false))) nxS) nxS) (seqS (ifS (andB (tstR (binR (cmpG .Gt) (tvR 5) (cstR (.int 3)))) (tstR (binR (cmpG .NotEq) (callR s_ring_gatherings (lenR 1 (consR (vaR 5) nilR))) (binR addV (callR s_row_gatherings (lenR 1 (consR (binR subV (tvR 5) (cstR (.int 1))) nilR))) (callR s_row_gatherings (lenR 1 (consR (binR subV (tvR 5) (cstR (.int 3))) nilR))))))) (seqS (rtS (cstR (.bool false))) nxS) nxS) (seqS (ifS (andB (tstR (binR (cmpG .Gt) (tvR 5) (cstR (.int 4)))) (andB (tstR (binR (cmpG .Lt) (tvR 5) (cstR (.int 99)))) (tstR (binR (cmpG .NotEq) (callR s_ring_gatherings (lenR 1 (consR (binR addV (tvR 5) (cstR (.int 2))) nilR))) (binR addV (callR s_ring_gatherings (lenR 1 (consR (binR addV (tvR 5) (cstR (.int 1))) nilR))) (callR s_ring_gatherings (lenR 1 (consR (vaR 5) nilR)))))))) (seqS (rtS (cstR (.bool false))) nxS) nxS) (seqS (asgS (binR mulV (callR s_row_gatherings (lenR 1 (consR (vaR 5) nilR))) (callR s_row_gatherings (lenR 1 (consR (vaR 4) nilR)))) (.nm 2)) (seqS (ifS (andB (tstR (binR (cmpG .Lt) (binR addV (tvR 5) (tvR 4)) (cstR (.int 100)))) (tstR (binR (cmpG .Gt) (callR s_row_gatherings (lenR 1 (consR (binR addV (tvR 5) (tvR 4)) nilR))) (tvR 2)))) (seqS (rtS (cstR (.bool false))) nxS) nxS) (seqS (asgS (callD s__law_web 1 (lenR (2 - 1) (consR (cstR (.int 7)) nilR))) (.nm 3)) (seqS (rtS (chnR (cmpG .LtE) (cmpG .LtE) (binR addV (binR getV (tvR 3) (cstR (.int 0))) (cstR (.int 1))) (callR s_gathering_count (lenR 1 (consR (vaR 3) nilR))) (callR s__law_times (lenR 2 (consR (cstR (.int 2)) (consR (binR getV (tvR 3) (cstR (.int 0))) nilR)))))) nxS))))))))))
theorem e_law (ns : List Int) (seed : Int) : s_law ns seed = t_law (law0 ["_law_script", "_law_row_here", "_law_two", "_law_web_here", "_law_size", "_law_many"]) ⟨ns, 0, seed, 0⟩ := by kernel_rfl
end Hd
namespace Hd
open PySem PySem.Spec PyProof.Rows Fo
theorem is_in_ok (v a b : Int) (st : Dr) : s_is_in [.int v, .int a, .int b] st = some (.bool (decide (a ≤ v) && decide (v ≤ b)), st) := by
  rw [e_is_in]
  by_cases h1 : a ≤ v <;> by_cases h2 : v ≤ b <;> simp [t_is_in, -bind_pure_comp, map_ap, seqS, asgS, rtS, rtN, ifS, forS, nxS, bkS, ctS, appS, ownS, setS, parS, frzS, exS, vaE, owE, nilE, vaR, tvR, cstR, binR, chnR, andR, orR, notR, andB, orB, notB, tstR, iteR, dispR, consR, starR, nilR, lenR, callR, callD, bltR, unR, slcR, someO, noO, rngR, itemsR, lcR, gxR, yesB, vaO, tvO, thenB, elseB, notV, isiV, tyN, isiB, truV, mkO, outD, drO, getV, intO, itemsO, lenV, tupleV, listV, intV1, gxGo.truB, startR, setAll, storeT, storeE, wipeR, frz, appO, owL, bnd_ap, pur_ap, up_ap, ob_some, om_some, ite_ap, cG_lt, cG_le, cG_gt, cG_ge, cG_eq, cG_ne, add_i, sub_i, at0, at1, h1, h2]
def pD (p : Int × Int) : PyData := .tuple [.int p.1, .int p.2]
def wD (n : Int) (ps : List (Int × Int)) : PyData := .tuple [.int n, .tuple (ps.map pD)]
def plt (p q : Int × Int) : Prop := p.1 < q.1 ∨ p.1 = q.1 ∧ p.2 < q.2
structure Valid (n : Int) (ps : List (Int × Int)) : Prop where
  lo : 1 ≤ n
  hi : n ≤ 7
  at_ : ∀ p ∈ ps, 0 ≤ p.1 ∧ p.1 + 1 ≤ p.2 ∧ p.2 ≤ n - 1
  lt : ps.Pairwise plt
  len : ps.length ≤ 1000
theorem nw_body (n : Int) (x : PyData) (q : Int × Int) (st : Dr) (h1 : 0 ≤ q.1) (h2 : q.1 + 1 ≤ q.2) (h3 : q.2 ≤ n - 1) : b_need_web_2 [some (.va (.tuple [.int n, x])), some (.va (pD q)), none] st = some (.nx [some (.va (.tuple [.int n, x])), some (.va (pD q)), none], st) := by
  have h4 : q.1 ≤ n - 1 := by omega
  simp [-bind_pure_comp, map_ap, seqS, asgS, rtS, rtN, ifS, forS, nxS, bkS, ctS, appS, ownS, setS, parS, frzS, exS, vaE, owE, nilE, vaR, tvR, cstR, binR, chnR, andR, orR, notR, andB, orB, notB, tstR, iteR, dispR, consR, starR, nilR, lenR, callR, callD, bltR, unR, slcR, someO, noO, rngR, itemsR, lcR, gxR, yesB, vaO, tvO, thenB, elseB, notV, isiV, tyN, isiB, truV, mkO, outD, drO, getV, intO, itemsO, lenV, tupleV, listV, intV1, gxGo.truB, startR, setAll, storeT, storeE, wipeR, frz, appO, owL, bnd_ap, pur_ap, up_ap, ob_some, om_some, ite_ap, cG_lt, cG_le, cG_gt, cG_ge, cG_eq, cG_ne, add_i, sub_i, at0, at1, b_need_web_2, pD, is_in_ok, h1, h2, h3, h4]
theorem nw_loop (n : Int) (x : PyData) (st : Dr) (qs : List (Int × Int)) (h : ∀ p ∈ qs, 0 ≤ p.1 ∧ p.1 + 1 ≤ p.2 ∧ p.2 ≤ n - 1) : ∃ z, forGo (.nm 1) b_need_web_2 (qs.map pD) [some (.va (.tuple [.int n, x])), none, none] st = some (.nx [some (.va (.tuple [.int n, x])), z, none], st) := by
  have hh := forGo_inv (t := .nm 1) (b := b_need_web_2) (fun ds ρ st2 => (st2 = st ∧ ∃ z, ρ = [some (.va (.tuple [.int n, x])), z, none]) ∧ ∃ qs : List (Int × Int), ds = qs.map pD ∧ ∀ p ∈ qs, 0 ≤ p.1 ∧ p.1 + 1 ≤ p.2 ∧ p.2 ≤ n - 1) (fun d ds ρ st2 ⟨⟨e1, z, e2⟩, qs, e3, h⟩ => by
    cases qs with
    | nil => cases e3
    | cons q qs =>
      cases e3
      subst e1 e2
      obtain ⟨h1, h2, h3⟩ := h q (List.mem_cons_self ..)
      exact ⟨_, _, _, rfl, nw_body n x q st2 h1 h2 h3, ⟨rfl, _, rfl⟩, qs, rfl, fun p hp => h p (List.mem_cons_of_mem _ hp)⟩) (qs.map pD) [some (.va (.tuple [.int n, x])), none, none] st ⟨⟨rfl, none, rfl⟩, qs, rfl, h⟩
  obtain ⟨ρ', st', e, ⟨e1, z, e2⟩, _⟩ := hh
  subst e1 e2
  exact ⟨z, e⟩
theorem shaped_p (p : Int × Int) : SeqAt.shaped (pD p) = true := rfl
theorem ge_p (p q : Int × Int) (h : plt p q) : cmpG .GtE (pD p) (pD q) = some (.bool false) := by
  show some (PyData.bool (if decide (p.1 = q.1) = true then (if decide (p.2 = q.2) = true then true else decide (q.2 ≤ p.2)) else decide (q.1 ≤ p.1))) = _
  rcases h with h | ⟨h1, h2⟩
  · have h1 : ¬ p.1 = q.1 := by omega
    have h2 : ¬ q.1 ≤ p.1 := by omega
    simp [h1, h2]
  · have h3 : ¬ p.2 = q.2 := by omega
    have h4 : ¬ q.2 ≤ p.2 := by omega
    simp [h1, h3, h4]
theorem nw_elt (n : Int) (ps : List (Int × Int)) (y : Option En) (k : Nat) (hk : k + 1 < ps.length) (h : ps.Pairwise plt) (st : Dr) : x_need_web_1 [some (.va (wD n ps)), y, some (.va (.int k))] st = some (.bool false, st) := by
  have e1 : L2.atI (ps.map pD) (k : Int) = some (pD ps[k]) := atN (by omega) (by rw [Int.toNat_natCast, List.getElem?_map, List.getElem?_eq_getElem (by omega)]; rfl)
  have e2 : L2.atI (ps.map pD) ((k : Int) + 1) = some (pD ps[k + 1]) := atN (by omega) (by
    have : ((k : Int) + 1).toNat = k + 1 := by omega
    rw [this, List.getElem?_map, List.getElem?_eq_getElem hk]; rfl)
  have hp : plt ps[k] ps[k + 1] := List.pairwise_iff_getElem.mp h k (k + 1) (by omega) hk (by omega)
  simp [x_need_web_1, wD, -bind_pure_comp, map_ap, seqS, asgS, rtS, rtN, ifS, forS, nxS, bkS, ctS, appS, ownS, setS, parS, frzS, exS, vaE, owE, nilE, vaR, tvR, cstR, binR, chnR, andR, orR, notR, andB, orB, notB, tstR, iteR, dispR, consR, starR, nilR, lenR, callR, callD, bltR, unR, slcR, someO, noO, rngR, itemsR, lcR, gxR, yesB, vaO, tvO, thenB, elseB, notV, isiV, tyN, isiB, truV, mkO, outD, drO, getV, intO, itemsO, lenV, tupleV, listV, intV1, gxGo.truB, startR, setAll, storeT, storeE, wipeR, frz, appO, owL, bnd_ap, pur_ap, up_ap, ob_some, om_some, ite_ap, cG_lt, cG_le, cG_gt, cG_ge, cG_eq, cG_ne, add_i, sub_i, at0, at1, e1, e2, ge_p _ _ hp]
theorem rng_ok (j : Int) (h1 : -100000 ≤ j) (h2 : j ≤ 100000) : rangeO [.int j] = some (rngD 0 1 j.toNat) := by
  have : small62 j = true := decide_eq_true ⟨Int.le_trans (by decide) h1, Int.lt_of_le_of_lt h2 (by decide)⟩
  show (if small62 j = true then some (rngD 0 1 j.toNat) else none) = _
  rw [if_pos this]
theorem rng2_ok (i j : Int) (h1 : -100000 ≤ i ∧ i ≤ 100000) (h2 : -100000 ≤ j ∧ j ≤ 100000) : rangeO [.int i, .int j] = some (rngD i 1 (j - i).toNat) := by
  have a : small62 i = true := decide_eq_true ⟨Int.le_trans (by decide) h1.1, Int.lt_of_le_of_lt h1.2 (by decide)⟩
  have b : small62 j = true := decide_eq_true ⟨Int.le_trans (by decide) h2.1, Int.lt_of_le_of_lt h2.2 (by decide)⟩
  show (if (small62 i && small62 j) = true then some (rngD i 1 (j - i).toNat) else none) = _
  rw [a, b]
  rfl
theorem rng_mem {lo : Int} {n : Nat} {d : PyData} (h : d ∈ rngD lo 1 n) : ∃ k : Nat, k < n ∧ d = .int (lo + k) := by
  obtain ⟨k, hk, e⟩ := List.mem_map.mp h
  exact ⟨k, List.mem_range.mp hk, by rw [← e, Int.one_mul]⟩
theorem need_web_ok (n : Int) (ps : List (Int × Int)) (V : Valid n ps) (st : Dr) : s_need_web [wD n ps] st = some (.none, st) := by
  rw [e_need_web]
  obtain ⟨z, hz⟩ := nw_loop n (.tuple (ps.map pD)) st ps V.at_
  have h1 := V.lo
  have h2 := V.hi
  have hr := rng_ok ((ps.length : Int) - 1) (by omega) (by have := V.len; omega)
  have ht : ((ps.length : Int) - 1).toNat = ps.length - 1 := by omega
  rw [ht] at hr
  have hg : gxGo true (.nm 2) yesB x_need_web_1 [some (.va (.tuple [.int n, .tuple (ps.map pD)])), z, none] (rngD 0 1 (ps.length - 1)) st = some (.bool false, st) := by
    rw [gxGo_spec (fun _ => false)]
    · simp
    · intro d hd
      obtain ⟨k, hk, rfl⟩ := rng_mem hd
      refine ⟨_, rfl, rfl, ?_⟩
      have hk' : k + 1 < ps.length := by omega
      have := nw_elt n ps z k hk' V.lt st
      rw [Int.zero_add]
      exact this
  simp [t_need_web, wD, -bind_pure_comp, map_ap, seqS, asgS, rtS, rtN, ifS, forS, nxS, bkS, ctS, appS, ownS, setS, parS, frzS, exS, vaE, owE, nilE, vaR, tvR, cstR, binR, chnR, andR, orR, notR, andB, orB, notB, tstR, iteR, dispR, consR, starR, nilR, lenR, callR, callD, bltR, unR, slcR, someO, noO, rngR, itemsR, lcR, gxR, yesB, vaO, tvO, thenB, elseB, notV, isiV, tyN, isiB, truV, mkO, outD, drO, getV, intO, itemsO, lenV, tupleV, listV, intV1, gxGo.truB, startR, setAll, storeT, storeE, wipeR, frz, appO, owL, bnd_ap, pur_ap, up_ap, ob_some, om_some, ite_ap, cG_lt, cG_le, cG_gt, cG_ge, cG_eq, cG_ne, add_i, sub_i, at0, at1, is_in_ok, h1, h2, hz, hr, hg]
end Hd
namespace Hd
open PySem PySem.Spec PyProof.Rows Fo
def lxS : Nat → Int → List (List Int)
  | 0, _ => []
  | r + 1, k => (([] : List Int) :: lxS r (k + 1)).map (fun l => k :: l) ++ lxS r (k + 1)
def lots (n : Nat) : List (List Int) := [] :: lxS n 0
def lD (l : List Int) : PyData := .tuple (l.map .int)
def lotB (n : Nat) (l : List Int) : Bool := (l.all fun a => decide (0 ≤ a) && decide (a ≤ (n : Int) - 1)) && decide (l.Pairwise fun a b => a < b) && decide (l.length ≤ 1000) && SeqAt.shaped (lD l)
/-- what is told of size n -/
structure Sz (n : Nat) : Prop where
  al : ∀ (x : PyData) (st : Dr), s_all_lots [.tuple [.int n, x]] st = some (.list ((lots n).map lD), st)
  ok : (lots n).all (lotB n) = true
  sub : (([] : List Int) :: (List.range n).map fun (k : Nat) => [(k : Int)]).Sublist (lots n)
  len : (lots n).length = 2 ^ n
  le : n ≤ 7
end Hd
namespace Hd
open PySem PySem.Spec PyProof.Rows Fo
theorem sz1 : Sz 1 := ⟨fun _ _ => by kernel_rfl, by decide +kernel, by decide +kernel, by decide +kernel, by decide⟩
theorem sz2 : Sz 2 := ⟨fun _ _ => by kernel_rfl, by decide +kernel, by decide +kernel, by decide +kernel, by decide⟩
theorem sz3 : Sz 3 := ⟨fun _ _ => by kernel_rfl, by decide +kernel, by decide +kernel, by decide +kernel, by decide⟩
theorem sz4 : Sz 4 := ⟨fun _ _ => by kernel_rfl, by decide +kernel, by decide +kernel, by decide +kernel, by decide⟩
theorem sz5 : Sz 5 := ⟨fun _ _ => by kernel_rfl, by decide +kernel, by decide +kernel, by decide +kernel, by decide⟩
theorem sz6 : Sz 6 := ⟨fun _ _ => by kernel_rfl, by decide +kernel, by decide +kernel, by decide +kernel, by decide⟩
theorem sz7 : Sz 7 := ⟨fun _ _ => by kernel_rfl, by decide +kernel, by decide +kernel, by decide +kernel, by decide⟩
end Hd
namespace Hd
open PySem PySem.Spec PyProof.Rows Fo
theorem lot_at {n : Nat} {l : List Int} (h : lotB n l = true) : (∀ a ∈ l, 0 ≤ a ∧ a ≤ (n : Int) - 1) ∧ l.Pairwise (fun a b => a < b) ∧ l.length ≤ 1000 ∧ SeqAt.shaped (lD l) = true := by
  unfold lotB at h
  simp only [Bool.and_eq_true, List.all_eq_true, decide_eq_true_eq] at h
  exact ⟨h.1.1.1, h.1.1.2, h.1.2, h.2⟩
theorem il_1 (n : Nat) (l : List Int) (h : lotB n l = true) (x : PyData) (st : Dr) : gxGo false (.nm 3) yesB x_is_lot_2 [some (.va (.tuple [.int n, x])), some (.va (.tuple (l.map .int))), none, none] (l.map .int) st = some (.bool true, st) := by
  obtain ⟨h1, _⟩ := lot_at h
  rw [gxGo_spec (fun _ => true)]
  · simp
  · intro d hd
    obtain ⟨a, ha, rfl⟩ := List.mem_map.mp hd
    obtain ⟨h2, h3⟩ := h1 a ha
    refine ⟨_, rfl, rfl, ?_⟩
    simp [x_is_lot_2, -bind_pure_comp, map_ap, seqS, asgS, rtS, rtN, ifS, forS, nxS, bkS, ctS, appS, ownS, setS, parS, frzS, exS, vaE, owE, nilE, vaR, tvR, cstR, binR, chnR, andR, orR, notR, andB, orB, notB, tstR, iteR, dispR, consR, starR, nilR, lenR, callR, callD, bltR, unR, slcR, someO, noO, rngR, itemsR, lcR, gxR, yesB, vaO, tvO, thenB, elseB, notV, isiV, tyN, isiB, truV, mkO, outD, drO, getV, intO, itemsO, lenV, tupleV, listV, intV1, gxGo.truB, startR, setAll, storeT, storeE, wipeR, frz, appO, owL, bnd_ap, pur_ap, up_ap, ob_some, om_some, ite_ap, cG_lt, cG_le, cG_gt, cG_ge, cG_eq, cG_ne, add_i, sub_i, at0, at1, is_in_ok, h2, h3]
theorem il_2 (n : Nat) (l : List Int) (h : lotB n l = true) (x : PyData) (st : Dr) : gxGo false (.nm 2) yesB x_is_lot_1 [some (.va (.tuple [.int n, x])), some (.va (.tuple (l.map .int))), none, none] (rngD 0 1 (l.length - 1)) st = some (.bool true, st) := by
  obtain ⟨_, h1, _⟩ := lot_at h
  rw [gxGo_spec (fun _ => true)]
  · simp
  · intro d hd
    obtain ⟨k, hk, rfl⟩ := rng_mem hd
    rw [Int.zero_add]
    have hk' : k + 1 < l.length := by omega
    have e1 : L2.atI (l.map PyData.int) (k : Int) = some (.int l[k]) := atN (by omega) (by rw [Int.toNat_natCast, List.getElem?_map, List.getElem?_eq_getElem (by omega)]; rfl)
    have e2 : L2.atI (l.map PyData.int) ((k : Int) + 1) = some (.int l[k + 1]) := atN (by omega) (by
      have : ((k : Int) + 1).toNat = k + 1 := by omega
      rw [this, List.getElem?_map, List.getElem?_eq_getElem hk']; rfl)
    have hp : l[k] < l[k + 1] := List.pairwise_iff_getElem.mp h1 k (k + 1) (by omega) hk' (by omega)
    refine ⟨_, rfl, rfl, ?_⟩
    simp [x_is_lot_1, -bind_pure_comp, map_ap, seqS, asgS, rtS, rtN, ifS, forS, nxS, bkS, ctS, appS, ownS, setS, parS, frzS, exS, vaE, owE, nilE, vaR, tvR, cstR, binR, chnR, andR, orR, notR, andB, orB, notB, tstR, iteR, dispR, consR, starR, nilR, lenR, callR, callD, bltR, unR, slcR, someO, noO, rngR, itemsR, lcR, gxR, yesB, vaO, tvO, thenB, elseB, notV, isiV, tyN, isiB, truV, mkO, outD, drO, getV, intO, itemsO, lenV, tupleV, listV, intV1, gxGo.truB, startR, setAll, storeT, storeE, wipeR, frz, appO, owL, bnd_ap, pur_ap, up_ap, ob_some, om_some, ite_ap, cG_lt, cG_le, cG_gt, cG_ge, cG_eq, cG_ne, add_i, sub_i, at0, at1, e1, e2, hp]
theorem il_ok (n : Nat) (l : List Int) (h : lotB n l = true) (x : PyData) (st : Dr) : s_is_lot [.tuple [.int n, x], lD l] st = some (.bool true, st) := by
  obtain ⟨_, _, h1, _⟩ := lot_at h
  have g1 := il_1 n l h x st
  have g2 := il_2 n l h x st
  have hr := rng_ok ((l.length : Int) - 1) (by omega) (by omega)
  have ht : ((l.length : Int) - 1).toNat = l.length - 1 := by omega
  rw [ht] at hr
  rw [e_is_lot]
  unfold lD
  simp [t_is_lot, -bind_pure_comp, map_ap, seqS, asgS, rtS, rtN, ifS, forS, nxS, bkS, ctS, appS, ownS, setS, parS, frzS, exS, vaE, owE, nilE, vaR, tvR, cstR, binR, chnR, andR, orR, notR, andB, orB, notB, tstR, iteR, dispR, consR, starR, nilR, lenR, callR, callD, bltR, unR, slcR, someO, noO, rngR, itemsR, lcR, gxR, yesB, vaO, tvO, thenB, elseB, notV, isiV, tyN, isiB, truV, mkO, outD, drO, getV, intO, itemsO, lenV, tupleV, listV, intV1, gxGo.truB, startR, setAll, storeT, storeE, wipeR, frz, appO, owL, bnd_ap, pur_ap, up_ap, ob_some, om_some, ite_ap, cG_lt, cG_le, cG_gt, cG_ge, cG_eq, cG_ne, add_i, sub_i, at0, at1, g1, g2, hr]
theorem map_at {α β : Type} {f g : α → β} {l : List α} (h : l.map f = l.map g) {a : α} (ha : a ∈ l) : f a = g a := (List.map_inj_left.mp h) a ha
def hasI (l : List Int) (a : Int) : Bool := l.any fun z => decide (z = a)
theorem in_l (l : List Int) (a : Int) (h : SeqAt.shaped (lD l) = true) : cmpG .In (.int a) (lD l) = some (.bool (hasI l a)) := by
  show (if SeqAt.shaped (.int a) = true ∧ SeqAt.shaped (lD l) = true then some (PyData.bool (memD (.int a) (l.map .int))) else none) = _
  rw [if_pos ⟨rfl, h⟩]
  have e : memD (.int a) (l.map .int) = hasI l a := by
    unfold memD hasI
    rw [List.any_map]
    rfl
  rw [e]
/-- a pair stands in the lot -/
def bothI (l : List Int) (p : Int × Int) : Bool := hasI l p.1 && hasI l p.2
def bothD (l : List Int) : PyData → Bool
  | .tuple [.int a, .int b] => bothI l (a, b)
  | _ => false
theorem isg_elt (n : Int) (x : PyData) (l : List Int) (h : SeqAt.shaped (lD l) = true) (a b : Int) (st : Dr) : x_is_gathering_1 [some (.va (.tuple [.int n, x])), some (.va (lD l)), some (.va (.int a)), some (.va (.int b))] st = some (.bool (bothI l (a, b)), st) := by
  have h1 := in_l l a h
  have h2 := in_l l b h
  cases e1 : hasI l a <;> cases e2 : hasI l b <;> simp [x_is_gathering_1, -bind_pure_comp, map_ap, seqS, asgS, rtS, rtN, ifS, forS, nxS, bkS, ctS, appS, ownS, setS, parS, frzS, exS, vaE, owE, nilE, vaR, tvR, cstR, binR, chnR, andR, orR, notR, andB, orB, notB, tstR, iteR, dispR, consR, starR, nilR, lenR, callR, callD, bltR, unR, slcR, someO, noO, rngR, itemsR, lcR, gxR, yesB, vaO, tvO, thenB, elseB, notV, isiV, tyN, isiB, truV, mkO, outD, drO, getV, intO, itemsO, lenV, tupleV, listV, intV1, gxGo.truB, startR, setAll, storeT, storeE, wipeR, frz, appO, owL, bnd_ap, pur_ap, up_ap, ob_some, om_some, ite_ap, cG_lt, cG_le, cG_gt, cG_ge, cG_eq, cG_ne, add_i, sub_i, at0, at1, bothI, h1, h2, e1, e2]
theorem isg_any (n : Int) (l : List Int) (h : SeqAt.shaped (lD l) = true) (ps : List (Int × Int)) (x : PyData) (st : Dr) : gxGo true (.tp [2, 3]) yesB x_is_gathering_1 [some (.va (.tuple [.int n, x])), some (.va (lD l)), none, none] (ps.map pD) st = some (.bool (ps.any (bothI l)), st) := by
  rw [gxGo_spec (bothD l)]
  · simp only [if_true, List.any_map]
    rfl
  · intro d hd
    obtain ⟨p, _, rfl⟩ := List.mem_map.mp hd
    exact ⟨_, rfl, rfl, isg_elt n x l h p.1 p.2 st⟩
theorem isg_ok (n : Nat) (Z : Sz n) (ps : List (Int × Int)) (l : List Int) (hl : l ∈ lots n) (st : Dr) : s_is_gathering [wD n ps, lD l] st = some (.bool (!ps.any (bothI l)), st) := by
  have h1 : s_is_lot [.tuple [.int n, .tuple (ps.map pD)], lD l] st = some (.bool true, st) := il_ok n l (List.all_eq_true.mp Z.ok l hl) _ st
  have h2 := isg_any n l (lot_at (List.all_eq_true.mp Z.ok l hl)).2.2.2 ps (.tuple (ps.map pD)) st
  rw [e_is_gathering]
  unfold lD at h1 h2 ⊢
  simp [t_is_gathering, wD, -bind_pure_comp, map_ap, seqS, asgS, rtS, rtN, ifS, forS, nxS, bkS, ctS, appS, ownS, setS, parS, frzS, exS, vaE, owE, nilE, vaR, tvR, cstR, binR, chnR, andR, orR, notR, andB, orB, notB, tstR, iteR, dispR, consR, starR, nilR, lenR, callR, callD, bltR, unR, slcR, someO, noO, rngR, itemsR, lcR, gxR, yesB, vaO, tvO, thenB, elseB, notV, isiV, tyN, isiB, truV, mkO, outD, drO, getV, intO, itemsO, lenV, tupleV, listV, intV1, gxGo.truB, startR, setAll, storeT, storeE, wipeR, frz, appO, owL, bnd_ap, pur_ap, up_ap, ob_some, om_some, ite_ap, cG_lt, cG_le, cG_gt, cG_ge, cG_eq, cG_ne, add_i, sub_i, at0, at1, h1, h2]
def gath (n : Nat) (ps : List (Int × Int)) : List (List Int) := (lots n).filter fun l => !ps.any (bothI l)
def lotOf : PyData → List Int
  | .tuple ds => ds.map fun
    | .int a => a
    | _ => 0
  | _ => []
theorem lotOf_lD (l : List Int) : lotOf (lD l) = l := by
  show (l.map PyData.int).map _ = l
  rw [List.map_map]
  conv => rhs; rw [← List.map_id l]
  rfl
theorem gath_eq (n : Nat) (ps : List (Int × Int)) : ((lots n).map lD).filter (fun d => !ps.any (bothI (lotOf d))) = (gath n ps).map lD := by
  rw [List.filter_map]
  have : ((fun d => !ps.any (bothI (lotOf d))) ∘ lD) = fun l => !ps.any (bothI l) := by
    funext l
    simp only [Function.comp, lotOf_lD]
  rw [this]
  rfl
end Hd
namespace Hd
open PySem PySem.Spec PyProof.Rows Fo
theorem ag_test (n : Nat) (Z : Sz n) (ps : List (Int × Int)) (l : List Int) (hl : l ∈ lots n) (st : Dr) : c_all_gatherings_1 [some (.va (wD n ps)), some (.va (lD l))] st = some (!ps.any (bothI l), st) := by
  have h := isg_ok n Z ps l hl st
  cases e : ps.any (bothI l) <;> rw [e] at h <;> simp [c_all_gatherings_1, -bind_pure_comp, map_ap, seqS, asgS, rtS, rtN, ifS, forS, nxS, bkS, ctS, appS, ownS, setS, parS, frzS, exS, vaE, owE, nilE, vaR, tvR, cstR, binR, chnR, andR, orR, notR, andB, orB, notB, tstR, iteR, dispR, consR, starR, nilR, lenR, callR, callD, bltR, unR, slcR, someO, noO, rngR, itemsR, lcR, gxR, yesB, vaO, tvO, thenB, elseB, notV, isiV, tyN, isiB, truV, mkO, outD, drO, getV, intO, itemsO, lenV, tupleV, listV, intV1, gxGo.truB, startR, setAll, storeT, storeE, wipeR, frz, appO, owL, bnd_ap, pur_ap, up_ap, ob_some, om_some, ite_ap, cG_lt, cG_le, cG_gt, cG_ge, cG_eq, cG_ne, add_i, sub_i, at0, at1, h]
theorem ag_go (n : Nat) (Z : Sz n) (ps : List (Int × Int)) (st : Dr) : lcGo (.nm 1) c_all_gatherings_1 x_all_gatherings_2 [some (.va (wD n ps)), none] ((lots n).map lD) st = some ((gath n ps).map lD, st) := by
  rw [← gath_eq]
  have h := lcGo_spec (tg := .nm 1) (tt := c_all_gatherings_1) (te := x_all_gatherings_2) (ρ := [some (.va (wD n ps)), none]) (st := st) (fun d => !ps.any (bothI (lotOf d))) id ((lots n).map lD) (fun d hd => by
    obtain ⟨l, hl, rfl⟩ := List.mem_map.mp hd
    refine ⟨_, rfl, ?_, fun _ => rfl⟩
    rw [lotOf_lD]
    exact ag_test n Z ps l hl st)
  rw [List.map_id] at h
  exact h
theorem len_ok {n : Nat} (Z : Sz n) : (lots n).length ≤ 1000 := by
  rw [Z.len]
  exact Nat.le_trans (Nat.pow_le_pow_right (by decide) Z.le) (by decide)
theorem ag_ok (n : Nat) (Z : Sz n) (ps : List (Int × Int)) (st : Dr) : s_all_gatherings [wD n ps] st = some (.list ((gath n ps).map lD), st) := by
  have h1 : s_all_lots [wD n ps] st = some (.list ((lots n).map lD), st) := Z.al _ _
  have hlen : (lots n).length ≤ 1000000 := Nat.le_trans (len_ok Z) (by decide)
  have h2 := ag_go n Z ps st
  rw [e_all_gatherings]
  exact ev_def (ev_seqR (ev_rt (ev_lc (ev_items (ev_call (ev_len (ev_cons (ev_va rfl) ev_nil) rfl) h1) rfl) (by rw [List.length_map]; exact hlen) h2))) rfl
theorem gc_ok (n : Nat) (Z : Sz n) (ps : List (Int × Int)) (V : Valid n ps) (st : Dr) : s_gathering_count [wD n ps] st = some (.int (gath n ps).length, st) := by
  have h1 := need_web_ok n ps V st
  have h2 := ag_ok n Z ps st
  rw [e_gathering_count]
  refine ev_def (ev_seq (ev_ex (ev_call (ev_len (ev_cons (ev_va rfl) ev_nil) rfl) h1)) (ev_seqR (ev_rt (ev_blt (ev_cons (ev_call (ev_len (ev_cons (ev_va rfl) ev_nil) rfl) h2) ev_nil) rfl)))) ?_
  rw [List.length_map]
  rfl
theorem gath_hi (n : Nat) (Z : Sz n) (ps : List (Int × Int)) : (gath n ps).length ≤ 2 ^ n := by
  rw [← Z.len]
  exact List.length_filter_le _ _
theorem gath_lo (n : Nat) (Z : Sz n) (ps : List (Int × Int)) (h : ∀ p ∈ ps, p.1 < p.2) : n + 1 ≤ (gath n ps).length := by
  have h1 := Z.sub.filter (fun l => !ps.any (bothI l))
  have h2 := h1.length_le
  have h3 : ((([] : List Int) :: (List.range n).map fun (k : Nat) => [(k : Int)]).filter fun l => !ps.any (bothI l)) = (([] : List Int) :: (List.range n).map fun (k : Nat) => [(k : Int)]) := by
    rw [List.filter_eq_self]
    intro l hl
    rw [Bool.not_eq_true', List.any_eq_false]
    intro p hp
    have hlt := h p hp
    rcases List.mem_cons.mp hl with z | z
    · subst z
      simp [bothI, hasI]
    · obtain ⟨k, _, rfl⟩ := List.mem_map.mp z
      simp [bothI, hasI]
      omega
  rw [h3] at h2
  simpa [gath] using h2
end Hd
namespace Hd
open PySem PySem.Spec PyProof.Rows Fo
theorem taken_ok (m : Int) (h1 : 0 < m) (h2 : m < 2 ^ 64) (st : Dr) (G : Gd st) : ∃ r st', s__law_taken [.int m] st = some (.int r, st') ∧ 0 ≤ r ∧ r < m ∧ Gd st' := by
  have hm : ∀ a : Int, 0 ≤ a % m ∧ a % m < m := fun a => ⟨Int.emod_nonneg _ (by omega), Int.emod_lt_of_pos _ h1⟩
  have hs : ∀ a : Int, 0 ≤ a % 2147483647 ∧ a % 2147483647 < 2147483647 := fun a => ⟨Int.emod_nonneg _ (by decide), Int.emod_lt_of_pos _ (by decide)⟩
  have G1 := G.i
  have G2 := G.s
  have G3 := G.s2
  have hmul := mul_i (a := st.s) (b := 48271) (by omega) (by decide)
  rw [e__law_taken]
  by_cases hc : 0 < st.c
  · refine ⟨st.c % m, { st with c := st.c / m }, ?_, (hm _).1, (hm _).2, ⟨G1, G2, G3⟩⟩
    exact ev_def (ev_seqR (ev_ifT (ev_tst (ev_bin (ev_dr rfl rfl) ev_cst (cG_gt _ _)) (by simp [truV, hc])) (ev_seq (ev_asg (ev_bin (ev_blt (ev_cons (ev_dr rfl rfl) ev_nil) rfl) (ev_tv rfl) (mod_i h1)) rfl)
      (ev_seq (ev_drSet rfl (ev_bin (ev_dr rfl rfl) (ev_tv rfl) (fdiv_i h1 h2)) rfl) (ev_seqR (ev_rt (ev_va rfl))))))) rfl
  · have c1 : ∀ ρ : Rho, ρ[0]? = some (some .dr) → tstR (binR (cmpG .Gt) (drR 0 3) (cstR (.int 0))) ρ st = some (false, st) := fun ρ h => ev_tst (ev_bin (ev_dr h rfl) ev_cst (cG_gt _ _)) (by simp [truV, hc])
    by_cases hl : (st.sc.length : Int) < st.i + 1
    · refine ⟨(st.s * 48271 + 11) % 2147483647 / 7 % m, { st with i := st.i + 1, s := (st.s * 48271 + 11) % 2147483647 }, ?_, (hm _).1, (hm _).2, ⟨by show 0 ≤ st.i + 1; omega, (hs _).1, (hs _).2⟩⟩
      exact ev_def (ev_seq (ev_ifF (c1 _ rfl) rfl) (ev_seq (ev_drSet rfl (ev_bin (ev_dr rfl rfl) ev_cst (add_i _ _)) rfl) (ev_seqR (ev_ifT (ev_tst (ev_bin (ev_dr rfl rfl) (ev_drLen rfl) (cG_gt _ _)) (by simp [truV, hl]))
        (ev_seq (ev_drSet rfl (ev_bin (ev_blt (ev_cons (ev_bin (ev_bin (ev_dr rfl rfl) ev_cst hmul) ev_cst (add_i _ _)) ev_nil) rfl) ev_cst (mod_i (by decide))) rfl)
          (ev_seqR (ev_rt (ev_bin (ev_blt (ev_cons (ev_bin (ev_dr rfl rfl) ev_cst (fdiv_i (by decide) (by decide))) ev_nil) rfl) (ev_tv rfl) (mod_i h1))))))))) rfl
    · obtain ⟨n, hn⟩ : ∃ n, st.sc[(st.i + 1 - 1).toNat]? = some n := ⟨_, List.getElem?_eq_getElem (by omega)⟩
      have hat : L2.atI st.sc (st.i + 1 - 1) = some n := atN (by omega) hn
      have st2 : ∀ c : Int, Gd { st with i := st.i + 1, s := (st.s * 48271 + n + 11) % 2147483647, c := c } := fun c => ⟨by show 0 ≤ st.i + 1; omega, (hs _).1, (hs _).2⟩
      have hp : powV (.int 10) (.int 18) = some (.int (10 ^ 18)) := by rfl
      by_cases hb : 10 ^ 18 ≤ n
      · refine ⟨n % m, _, ?_, (hm _).1, (hm _).2, st2 (n / m)⟩
        exact ev_def (ev_seq (ev_ifF (c1 _ rfl) rfl) (ev_seq (ev_drSet rfl (ev_bin (ev_dr rfl rfl) ev_cst (add_i _ _)) rfl) (ev_seq (ev_ifF (ev_tst (ev_bin (ev_dr rfl rfl) (ev_drLen rfl) (cG_gt _ _)) (by simp [truV]; omega)) rfl)
          (ev_seq (ev_asg (ev_drGet rfl (ev_bin (ev_dr rfl rfl) ev_cst (sub_i _ _)) hat) rfl)
          (ev_seq (ev_drSet rfl (ev_bin (ev_blt (ev_cons (ev_bin (ev_bin (ev_bin (ev_dr rfl rfl) ev_cst hmul) (ev_tv rfl) (add_i _ _)) ev_cst (add_i _ _)) ev_nil) rfl) ev_cst (mod_i (by decide))) rfl)
          (ev_seq (ev_ifT (ev_tst (ev_bin (ev_tv rfl) (ev_bin ev_cst ev_cst hp) (cG_ge _ _)) (by simp [truV]; exact hb)) (ev_seq (ev_drSet rfl (ev_bin (ev_tv rfl) (ev_tv rfl) (fdiv_i h1 h2)) rfl) rfl))
          (ev_seqR (ev_rt (ev_bin (ev_blt (ev_cons (ev_tv rfl) ev_nil) rfl) (ev_tv rfl) (mod_i h1)))))))))) rfl
      · refine ⟨n % m, _, ?_, (hm _).1, (hm _).2, st2 st.c⟩
        exact ev_def (ev_seq (ev_ifF (c1 _ rfl) rfl) (ev_seq (ev_drSet rfl (ev_bin (ev_dr rfl rfl) ev_cst (add_i _ _)) rfl) (ev_seq (ev_ifF (ev_tst (ev_bin (ev_dr rfl rfl) (ev_drLen rfl) (cG_gt _ _)) (by simp [truV]; omega)) rfl)
          (ev_seq (ev_asg (ev_drGet rfl (ev_bin (ev_dr rfl rfl) ev_cst (sub_i _ _)) hat) rfl)
          (ev_seq (ev_drSet rfl (ev_bin (ev_blt (ev_cons (ev_bin (ev_bin (ev_bin (ev_dr rfl rfl) ev_cst hmul) (ev_tv rfl) (add_i _ _)) ev_cst (add_i _ _)) ev_nil) rfl) ev_cst (mod_i (by decide))) rfl)
          (ev_seq (ev_ifF (ev_tst (ev_bin (ev_tv rfl) (ev_bin ev_cst ev_cst hp) (cG_ge _ _)) (by simp [truV]; omega)) rfl)
          (ev_seqR (ev_rt (ev_bin (ev_blt (ev_cons (ev_tv rfl) ev_nil) rfl) (ev_tv rfl) (mod_i h1)))))))))) rfl
end Hd
namespace Hd
open PySem PySem.Spec PyProof.Rows Fo
def rhoW (most w i n : Int) (qs : List (Int × Int)) (y6 y7 : Option En) : Rho := [some .dr, some (.va (.int most)), some (.va (.int w)), some (.va (.int i)), some (.va (.int n)), some (.ow (.list (qs.map pD))), y6, y7]
theorem tk (m : Int) (h1 : 0 < m) (h2 : m < 2 ^ 64) (ρ : Rho) (hρ : ρ[0]? = some (some .dr)) (a : Sem1) (st : Dr) (ha : ∀ st, a ρ st = some (.int m, st)) (G : Gd st) : ∃ r st', callD s__law_taken 0 (lenR (2 - 1) (consR a nilR)) ρ st = some (.int r, st') ∧ 0 ≤ r ∧ r < m ∧ Gd st' := by
  obtain ⟨r, st', e, h⟩ := taken_ok m h1 h2 st G
  exact ⟨r, st', ev_callD hρ (ev_len (ev_cons (ha st) ev_nil) rfl) e, h⟩
theorem tkB (m : Int) (h1 : 0 < m) (h2 : m < 2 ^ 64) (ρ : Rho) (hρ : ρ[0]? = some (some .dr)) (st : Dr) (G : Gd st) : TotB (tstR (binR (cmpG .Eq) (callD s__law_taken 0 (lenR (2 - 1) (consR (cstR (.int m)) nilR))) (cstR (.int 0)))) ρ st := by
  obtain ⟨r, st', e, _, _, g⟩ := tk m h1 h2 ρ hρ (cstR (.int m)) st (fun _ => rfl) G
  exact totB_tst (ev_bin e ev_cst (cG_eq _ _)) g
theorem web_in (most w i n o : Int) (qs : List (Int × Int)) (y7 : Option En) (st : Dr) (G : Gd st) (hl : qs.length < 1000000) : ∃ b z st', b__law_web_1 (rhoW most w i n qs (some (.va (.int o))) y7) st = some (.nx (rhoW most w i n (if b = true then qs ++ [(i, o)] else qs) (some (.va (.int o))) z), st') ∧ Gd st' := by
  obtain ⟨nb, hn⟩ : TotV (orR (binR (cmpG .Eq) (tvR 6) (binR addV (tvR 3) (cstR (.int 1)))) (andR (binR (cmpG .Eq) (tvR 3) (cstR (.int 0))) (andR (binR (cmpG .Eq) (tvR 6) (binR subV (tvR 4) (cstR (.int 1)))) (binR (cmpG .Eq) (tvR 2) (cstR (.int 1)))))) (rhoW most w i n qs (some (.va (.int o))) y7) st :=
    totV_or ⟨_, ev_bin (ev_tv rfl) (ev_bin (ev_tv rfl) ev_cst (add_i _ _)) (cG_eq _ _)⟩ (totV_and ⟨_, ev_bin (ev_tv rfl) ev_cst (cG_eq _ _)⟩ (totV_and ⟨_, ev_bin (ev_tv rfl) (ev_bin (ev_tv rfl) ev_cst (sub_i _ _)) (cG_eq _ _)⟩ ⟨_, ev_bin (ev_tv rfl) ev_cst (cG_eq _ _)⟩))
  obtain ⟨b, st', e, g⟩ : TotB (orB (andB (tstR (binR (cmpG .Eq) (callD s__law_taken 0 (lenR (2 - 1) (consR (cstR (.int 3)) nilR))) (cstR (.int 0)))) (tstR (binR (cmpG .Gt) (tvR 2) (cstR (.int 1))))) (orB (andB (tstR (tvR 7)) (tstR (binR (cmpG .Lt) (tvR 2) (cstR (.int 2))))) (andB (tstR (binR (cmpG .Eq) (tvR 2) (cstR (.int 3)))) (tstR (binR (cmpG .Eq) (callD s__law_taken 0 (lenR (2 - 1) (consR (cstR (.int 2)) nilR))) (cstR (.int 0))))))) (rhoW most w i n qs (some (.va (.int o))) (some (.va (.bool nb)))) st :=
    totB_or (totB_and (tkB 3 (by decide) (by decide) _ rfl st G) fun st' g => totB_tst (ev_bin (ev_tv rfl) ev_cst (cG_gt _ _)) g) fun st' g => totB_or (totB_and (totB_tst (ev_tv rfl) g) fun st' g => totB_tst (ev_bin (ev_tv rfl) ev_cst (cG_lt _ _)) g) fun st' g => totB_and (totB_tst (ev_bin (ev_tv rfl) ev_cst (cG_eq _ _)) g) fun st' g => tkB 2 (by decide) (by decide) _ rfl st' g
  refine ⟨b, some (.va (.bool nb)), st', ?_, g⟩
  cases b with
  | true =>
    refine ev_seq (ev_asg hn rfl) (ev_seq (ev_ifT e (ev_seq (ev_app (ev_disp (ev_cons (ev_va rfl) (ev_cons (ev_va rfl) ev_nil)) (by show 2 ≤ 1000000; decide)) ?_) rfl)) rfl)
    show (if (qs.map pD).length < 1000000 then some _ else none) = _
    rw [List.length_map, if_pos hl]
    unfold rhoW
    rw [if_pos rfl, List.map_append]
    rfl
  | false => exact ev_seq (ev_asg hn rfl) (ev_seq (ev_ifF e rfl) rfl)
/-- the pairs so far, ahead of (i, o) -/
structure Upto (n i o : Int) (qs : List (Int × Int)) : Prop where
  at_ : ∀ p ∈ qs, 0 ≤ p.1 ∧ p.1 + 1 ≤ p.2 ∧ p.2 ≤ n - 1
  lt : qs.Pairwise plt
  to : ∀ p ∈ qs, p.1 < i ∨ p.1 = i ∧ p.2 < o
theorem Upto.add {n i o : Int} {qs : List (Int × Int)} (U : Upto n i o qs) (h0 : 0 ≤ i) (h1 : i + 1 ≤ o) (h2 : o ≤ n - 1) : Upto n i (o + 1) (qs ++ [(i, o)]) := by
  refine ⟨fun p hp => ?_, ?_, fun p hp => ?_⟩
  · rcases List.mem_append.mp hp with z | z
    · exact U.at_ p z
    · rw [List.mem_singleton.mp z]
      exact ⟨h0, h1, h2⟩
  · rw [List.pairwise_append]
    refine ⟨U.lt, List.pairwise_singleton _ _, fun p hp q hq => ?_⟩
    rw [List.mem_singleton.mp hq]
    exact U.to p hp
  · rcases List.mem_append.mp hp with z | z
    · rcases U.to p z with q | ⟨q1, q2⟩
      · exact .inl q
      · exact .inr ⟨q1, by omega⟩
    · rw [List.mem_singleton.mp z]
      exact .inr ⟨rfl, by show o < o + 1; omega⟩
theorem Upto.skip {n i o o' : Int} {qs : List (Int × Int)} (U : Upto n i o qs) (h : o ≤ o') : Upto n i o' qs :=
  ⟨U.at_, U.lt, fun p hp => (U.to p hp).elim .inl fun ⟨a, b⟩ => .inr ⟨a, by omega⟩⟩
theorem Upto.next {n i o o' : Int} {qs : List (Int × Int)} (U : Upto n i o qs) : Upto n (i + 1) o' qs :=
  ⟨U.at_, U.lt, fun p hp => .inl ((U.to p hp).elim (fun a => by omega) fun ⟨a, b⟩ => by omega)⟩
theorem web_row (most w i n : Int) (h0 : 0 ≤ i) (hn : n ≤ 7) (L : Nat) (hL : L ≤ 100) (m : Nat) (hm : i + 1 + m = n ∨ m = 0) (qs : List (Int × Int)) (y6 y7 : Option En) (st : Dr) (G : Gd st) (U : Upto n i (i + 1) qs) (hl : qs.length + m ≤ L) :
    ∃ qs' z6 z7 st', forGo (.nm 6) b__law_web_1 (rngD (i + 1) 1 m) (rhoW most w i n qs y6 y7) st = some (.nx (rhoW most w i n qs' z6 z7), st') ∧ Gd st' ∧ (∃ o, Upto n i o qs') ∧ qs'.length ≤ L := by
  obtain ⟨ρ', st', e, I⟩ := forGo_inv (t := .nm 6) (b := b__law_web_1) (fun ds ρ st => ∃ o k qs y6 y7, ds = rngD o 1 k ∧ (o + (k : Int) = n ∨ k = 0) ∧ i + 1 ≤ o ∧ ρ = rhoW most w i n qs y6 y7 ∧ Gd st ∧ Upto n i o qs ∧ qs.length + k ≤ L) (fun d ds ρ st ⟨o, k, qs, y6, y7, e1, e2, e3, e4, e5, e6, e7⟩ => by
    cases k with
    | zero => cases e1
    | succ k =>
      rw [rngD_succ] at e1
      cases e1
      subst e4
      obtain ⟨b, z, st', f1, f2⟩ := web_in most w i n o qs y7 st e5 (by omega)
      refine ⟨_, _, st', rfl, f1, o + 1, k, _, _, _, rfl, by omega, by omega, rfl, f2, ?_, ?_⟩
      · cases b with
        | true =>
          rw [if_pos rfl]
          exact e6.add h0 e3 (by omega)
        | false =>
          rw [if_neg (by decide)]
          exact e6.skip (by omega)
      · cases b with
        | true =>
          rw [if_pos rfl, List.length_append, List.length_singleton]
          omega
        | false =>
          rw [if_neg (by decide)]
          omega) _ _ st ⟨i + 1, m, qs, y6, y7, rfl, hm, Int.le_refl _, rfl, G, U, hl⟩
  obtain ⟨o, k, qs', z6, z7, e1, e2, e3, e4, e5, e6, e7⟩ := I
  subst e4
  exact ⟨qs', z6, z7, st', e, e5, ⟨o, e6⟩, by omega⟩
theorem web_all (most w n : Int) (h1 : 1 ≤ n) (hn : n ≤ 7) (y3 : Option En) (y6 y7 : Option En) (st : Dr) (G : Gd st) :
    ∃ qs' z3 z6 z7 st', forGo (.nm 3) b__law_web_2 (rngD 0 1 n.toNat) [some .dr, some (.va (.int most)), some (.va (.int w)), y3, some (.va (.int n)), some (.ow (.list [])), y6, y7] st = some (.nx [some .dr, some (.va (.int most)), some (.va (.int w)), z3, some (.va (.int n)), some (.ow (.list (qs'.map pD))), z6, z7], st') ∧ Gd st' ∧ Valid n qs' := by
  obtain ⟨ρ', st', e, I⟩ := forGo_inv (t := .nm 3) (b := b__law_web_2) (fun ds ρ st => ∃ (i : Int) (k : Nat) (qs : List (Int × Int)) (y3 y6 y7 : Option En), ds = rngD i 1 k ∧ i + (k : Int) = n ∧ 0 ≤ i ∧ ρ = [some .dr, some (.va (.int most)), some (.va (.int w)), y3, some (.va (.int n)), some (.ow (.list (qs.map pD))), y6, y7] ∧ Gd st ∧ Upto n i (i + 1) qs ∧ (qs.length : Int) ≤ 7 * i) (fun d ds ρ st ⟨i, k, qs, y3, y6, y7, e1, e2, e3, e4, e5, e6, e7⟩ => by
    cases k with
    | zero => cases e1
    | succ k =>
      rw [rngD_succ] at e1
      cases e1
      subst e4
      obtain ⟨qs', z6, z7, st', f1, f2, ⟨o, f3⟩, f4⟩ := web_row most w i n e3 hn (7 * (i + 1)).toNat (by omega) (n - (i + 1)).toNat (by omega) qs y6 y7 st e5 e6 (by omega)
      refine ⟨_, _, st', rfl, ev_seq (ev_for (ev_rng (ev_len (ev_cons (ev_bin (ev_tv rfl) ev_cst (add_i _ _)) (ev_cons (ev_tv rfl) ev_nil)) rfl) (rng2_ok (i + 1) n (by omega) (by omega))) f1) rfl, i + 1, k, qs', _, _, _, rfl, by omega, by omega, rfl, f2, f3.next, by omega⟩) _ _ st ⟨0, n.toNat, [], y3, y6, y7, rfl, by omega, Int.le_refl _, rfl, G, ⟨fun p hp => by simp at hp, .nil, fun p hp => by simp at hp⟩, by simp⟩
  obtain ⟨i, k, qs', z3, z6, z7, e1, e2, e3, e4, e5, e6, e7⟩ := I
  subst e4
  exact ⟨qs', z3, z6, z7, st', e, e5, ⟨h1, hn, e6.at_, e6.lt, by omega⟩⟩
theorem law_web_ok (st : Dr) (G : Gd st) : ∃ (n : Int) (ps : List (Int × Int)) (st' : Dr), s__law_web [.int 7] st = some (wD n ps, st') ∧ Valid n ps ∧ Gd st' := by
  obtain ⟨r, st1, e1, r0, r7, g1⟩ := taken_ok 7 (by decide) (by decide) st G
  obtain ⟨w, st2, e2, w0, w4, g2⟩ := taken_ok 4 (by decide) (by decide) st1 g1
  obtain ⟨qs, z3, z6, z7, st3, e3, g3, V⟩ := web_all 7 w (1 + r) (by omega) (by omega) none none none st2 g2
  refine ⟨1 + r, qs, st3, ?_, V, g3⟩
  have hl := V.len
  rw [e__law_web]
  refine ev_def (o := .rt (wD (1 + r) qs)) (ev_seq (ev_par (ev_vaE (ev_bin ev_cst (ev_callD rfl (ev_len (ev_cons (ev_va rfl) ev_nil) rfl) e1) (add_i _ _)) (ev_owE (ev_disp ev_nil (by decide)) ev_nilE)) rfl) (ev_seq (ev_asg (ev_callD rfl (ev_len (ev_cons ev_cst ev_nil) rfl) e2) rfl)
    (ev_seq (ev_for (ev_rng (ev_len (ev_cons (ev_tv rfl) ev_nil) rfl) (rng_ok (1 + r) (by omega) (by omega))) e3) (ev_seqR (ev_rt (ev_disp (ev_cons (ev_va rfl) (ev_cons (ev_blt (ev_cons (ev_tvo rfl) ev_nil) rfl) ev_nil)) (by show 2 ≤ 1000000; decide))))))) rfl
end Hd
namespace Hd
open PySem PySem.Spec PyProof.Rows Fo
def fibN : Nat → Int × Int
  | 0 => (1, 1)
  | k + 1 => ((fibN k).1 + (fibN k).2, (fibN k).1)
def rowN (n : Nat) : Int := (fibN n).1
theorem rowN_rec (k : Nat) : rowN (k + 2) = rowN (k + 1) + rowN k := rfl
def ringN (n : Nat) : Int := if n < 3 then rowN n else rowN (n - 1) + rowN (n - 3)
theorem row_number_ok (n : Nat) (hn : n ≤ 200) (st : Dr) : s_row_number [.int n] st = some (.int (rowN n), st) := by
  obtain ⟨ρ', st', e, I⟩ := forGo_inv (t := .nm 1) (b := b_row_number_1) (fun ds ρ s2 => ∃ (i k : Nat) (y : Option En), ds = rngD i 1 k ∧ i + k = n ∧ ρ = [some (.va (.int n)), y, some (.va (.int (fibN i).1)), some (.va (.int (fibN i).2))] ∧ s2 = st) (fun d ds ρ s2 ⟨i, k, y, e1, e2, e3, e4⟩ => by
    cases k with
    | zero => cases e1
    | succ k =>
      rw [rngD_succ] at e1
      cases e1
      subst e3 e4
      exact ⟨_, _, _, rfl, ev_seq (ev_par (ev_vaE (ev_bin (ev_tv rfl) (ev_tv rfl) (add_i _ _)) (ev_vaE (ev_va rfl) ev_nilE)) rfl) rfl, i + 1, k, _, rfl, by omega, rfl, rfl⟩) (rngD 0 1 n) [some (.va (.int n)), none, some (.va (.int 1)), some (.va (.int 1))] st ⟨0, n, none, rfl, by omega, rfl, rfl⟩
  obtain ⟨i, k, y, e1, e2, e3, e4⟩ := I
  cases k with
  | succ k => rw [rngD_succ] at e1; cases e1
  | zero =>
    have : i = n := by omega
    subst this
    subst e3 e4
    rw [e_row_number]
    have hr := rng_ok (i : Int) (by omega) (by omega)
    rw [Int.toNat_natCast] at hr
    exact ev_def (ev_seq (ev_asg (ev_disp (ev_cons ev_cst (ev_cons ev_cst ev_nil)) (by decide)) rfl) (ev_seq (ev_for (ev_rng (ev_len (ev_cons (ev_tv rfl) ev_nil) rfl) hr) e) (ev_seqR (ev_rt (ev_va rfl))))) rfl
theorem need_many_ok (n : Int) (h1 : 1 ≤ n) (h2 : n ≤ 100) (st : Dr) : s_need_many [.int n] st = some (.none, st) := by
  rw [e_need_many]
  simp [t_need_many, -bind_pure_comp, map_ap, seqS, asgS, rtS, rtN, ifS, forS, nxS, bkS, ctS, appS, ownS, setS, parS, frzS, exS, vaE, owE, nilE, vaR, tvR, cstR, binR, chnR, andR, orR, notR, andB, orB, notB, tstR, iteR, dispR, consR, starR, nilR, lenR, callR, callD, bltR, unR, slcR, someO, noO, rngR, itemsR, lcR, gxR, yesB, vaO, tvO, thenB, elseB, notV, isiV, tyN, isiB, truV, mkO, outD, drO, getV, intO, itemsO, lenV, tupleV, listV, intV1, gxGo.truB, startR, setAll, storeT, storeE, wipeR, frz, appO, owL, bnd_ap, pur_ap, up_ap, ob_some, om_some, ite_ap, cG_lt, cG_le, cG_gt, cG_ge, cG_eq, cG_ne, add_i, sub_i, at0, at1, is_in_ok, h1, h2]
theorem row_g (n : Nat) (h1 : 1 ≤ n) (h2 : n ≤ 100) (st : Dr) : s_row_gatherings [.int n] st = some (.int (rowN n), st) := by
  have a := need_many_ok n (by omega) (by omega) st
  have b := row_number_ok n (by omega) st
  rw [e_row_gatherings]
  exact ev_def (ev_seq (ev_ex (ev_call (ev_len (ev_cons (ev_va rfl) ev_nil) rfl) a)) (ev_seqR (ev_rt (ev_call (ev_len (ev_cons (ev_va rfl) ev_nil) rfl) b)))) rfl
theorem ring_g (n : Nat) (h1 : 1 ≤ n) (h2 : n ≤ 100) (st : Dr) : s_ring_gatherings [.int n] st = some (.int (ringN n), st) := by
  have a := need_many_ok n (by omega) (by omega) st
  rw [e_ring_gatherings]
  unfold ringN
  by_cases h : n < 3
  · rw [if_pos h]
    have b := row_number_ok n (by omega) st
    exact ev_def (ev_seq (ev_ex (ev_call (ev_len (ev_cons (ev_va rfl) ev_nil) rfl) a)) (ev_seqR (ev_ifT (ev_tst (ev_bin (ev_tv rfl) ev_cst (cG_lt _ _)) (by simp [truV]; omega)) (ev_seqR (ev_rt (ev_call (ev_len (ev_cons (ev_va rfl) ev_nil) rfl) b)))))) rfl
  · rw [if_neg h]
    have b := row_number_ok (n - 1) (by omega) st
    have c := row_number_ok (n - 3) (by omega) st
    have e1 : ((n - 1 : Nat) : Int) = (n : Int) - 1 := by omega
    have e3 : ((n - 3 : Nat) : Int) = (n : Int) - 3 := by omega
    rw [e1] at b
    rw [e3] at c
    exact ev_def (ev_seq (ev_ex (ev_call (ev_len (ev_cons (ev_va rfl) ev_nil) rfl) a)) (ev_seq (ev_ifF (ev_tst (ev_bin (ev_tv rfl) ev_cst (cG_lt _ _)) (by simp [truV]; omega)) rfl) (ev_seqR (ev_rt (ev_bin (ev_call (ev_len (ev_cons (ev_bin (ev_tv rfl) ev_cst (sub_i _ _)) ev_nil) rfl) b) (ev_call (ev_len (ev_cons (ev_bin (ev_tv rfl) ev_cst (sub_i _ _)) ev_nil) rfl) c) (add_i _ _)))))) rfl
instance : DecidableRel plt := fun p q => by unfold plt; exact inferInstance
def validB (n : Int) (ps : List (Int × Int)) : Bool := decide (1 ≤ n) && decide (n ≤ 7) && (ps.all fun p => decide (0 ≤ p.1) && decide (p.1 + 1 ≤ p.2) && decide (p.2 ≤ n - 1)) && decide (ps.Pairwise plt) && decide (ps.length ≤ 1000)
theorem valid_of {n : Int} {ps : List (Int × Int)} (h : validB n ps = true) : Valid n ps := by
  unfold validB at h
  simp only [Bool.and_eq_true, List.all_eq_true, decide_eq_true_eq] at h
  exact ⟨h.1.1.1.1, h.1.1.1.2, fun p hp => ⟨(h.1.1.2 p hp).1.1, (h.1.1.2 p hp).1.2, (h.1.1.2 p hp).2⟩, h.1.2, h.2⟩
def rowP (n : Nat) : List (Int × Int) := (List.range (n - 1)).map fun (k : Nat) => ((k : Int), (k : Int) + 1)
def ringP (n : Nat) : List (Int × Int) := match rowP n with
  | a :: b :: r => a :: (0, (n : Int) - 1) :: b :: r
  | l => l
def starP (n : Nat) : List (Int × Int) := (List.range (n - 1)).map fun (k : Nat) => ((0 : Int), (k : Int) + 1)
def fullP (n : Nat) : List (Int × Int) := (List.range n).flatMap fun (i : Nat) => (List.range (n - i - 1)).map fun (k : Nat) => ((i : Int), (i : Int) + (k : Int) + 1)
structure WB (f : SemF) (n : Nat) (ps : List (Int × Int)) (c : Int) : Prop where
  ev : ∀ st, f [.int n] st = some (wD n ps, st)
  ok : validB n ps = true
  ct : ((gath n ps).length : Int) = c
structure SzW (n : Nat) : Prop where
  row : WB s_row_web n (rowP n) (rowN n)
  ring : WB s_ring_web n (ringP n) (ringN n)
  full : WB s_full_web n (fullP n) ((n : Int) + 1)
  star : WB s_star_web n (starP n) (2 ^ (n - 1) + 1)
  none : validB n [] = true ∧ ((gath n []).length : Int) = 2 ^ n
  t1 : ∀ st, s__law_times [.int 2, .int ((n : Int) - 1)] st = some (.int (2 ^ (n - 1)), st)
  t2 : ∀ st, s__law_times [.int 2, .int n] st = some (.int (2 ^ n), st)
  mu : ∀ m < 100, m + n < 100 → rowN (m + n) ≤ rowN m * rowN n
  le : 1 ≤ n ∧ n ≤ 7
theorem szw1 : SzW 1 := ⟨⟨fun _ => by kernel_rfl, by decide +kernel, by decide +kernel⟩, ⟨fun _ => by kernel_rfl, by decide +kernel, by decide +kernel⟩, ⟨fun _ => by kernel_rfl, by decide +kernel, by decide +kernel⟩, ⟨fun _ => by kernel_rfl, by decide +kernel, by decide +kernel⟩, ⟨by decide +kernel, by decide +kernel⟩, fun _ => by kernel_rfl, fun _ => by kernel_rfl, by decide +kernel, by decide⟩
theorem szw2 : SzW 2 := ⟨⟨fun _ => by kernel_rfl, by decide +kernel, by decide +kernel⟩, ⟨fun _ => by kernel_rfl, by decide +kernel, by decide +kernel⟩, ⟨fun _ => by kernel_rfl, by decide +kernel, by decide +kernel⟩, ⟨fun _ => by kernel_rfl, by decide +kernel, by decide +kernel⟩, ⟨by decide +kernel, by decide +kernel⟩, fun _ => by kernel_rfl, fun _ => by kernel_rfl, by decide +kernel, by decide⟩
theorem szw3 : SzW 3 := ⟨⟨fun _ => by kernel_rfl, by decide +kernel, by decide +kernel⟩, ⟨fun _ => by kernel_rfl, by decide +kernel, by decide +kernel⟩, ⟨fun _ => by kernel_rfl, by decide +kernel, by decide +kernel⟩, ⟨fun _ => by kernel_rfl, by decide +kernel, by decide +kernel⟩, ⟨by decide +kernel, by decide +kernel⟩, fun _ => by kernel_rfl, fun _ => by kernel_rfl, by decide +kernel, by decide⟩
theorem szw4 : SzW 4 := ⟨⟨fun _ => by kernel_rfl, by decide +kernel, by decide +kernel⟩, ⟨fun _ => by kernel_rfl, by decide +kernel, by decide +kernel⟩, ⟨fun _ => by kernel_rfl, by decide +kernel, by decide +kernel⟩, ⟨fun _ => by kernel_rfl, by decide +kernel, by decide +kernel⟩, ⟨by decide +kernel, by decide +kernel⟩, fun _ => by kernel_rfl, fun _ => by kernel_rfl, by decide +kernel, by decide⟩
theorem szw5 : SzW 5 := ⟨⟨fun _ => by kernel_rfl, by decide +kernel, by decide +kernel⟩, ⟨fun _ => by kernel_rfl, by decide +kernel, by decide +kernel⟩, ⟨fun _ => by kernel_rfl, by decide +kernel, by decide +kernel⟩, ⟨fun _ => by kernel_rfl, by decide +kernel, by decide +kernel⟩, ⟨by decide +kernel, by decide +kernel⟩, fun _ => by kernel_rfl, fun _ => by kernel_rfl, by decide +kernel, by decide⟩
theorem szw6 : SzW 6 := ⟨⟨fun _ => by kernel_rfl, by decide +kernel, by decide +kernel⟩, ⟨fun _ => by kernel_rfl, by decide +kernel, by decide +kernel⟩, ⟨fun _ => by kernel_rfl, by decide +kernel, by decide +kernel⟩, ⟨fun _ => by kernel_rfl, by decide +kernel, by decide +kernel⟩, ⟨by decide +kernel, by decide +kernel⟩, fun _ => by kernel_rfl, fun _ => by kernel_rfl, by decide +kernel, by decide⟩
theorem szw7 : SzW 7 := ⟨⟨fun _ => by kernel_rfl, by decide +kernel, by decide +kernel⟩, ⟨fun _ => by kernel_rfl, by decide +kernel, by decide +kernel⟩, ⟨fun _ => by kernel_rfl, by decide +kernel, by decide +kernel⟩, ⟨fun _ => by kernel_rfl, by decide +kernel, by decide +kernel⟩, ⟨by decide +kernel, by decide +kernel⟩, fun _ => by kernel_rfl, fun _ => by kernel_rfl, by decide +kernel, by decide⟩
theorem row_big : ∀ m < 101, (rowN m).natAbs < 2 ^ 1000 := by decide +kernel
end Hd
namespace Hd
open PySem PySem.Spec PyProof.Rows Fo
theorem szs (n : Nat) (h1 : 1 ≤ n) (h2 : n ≤ 7) : Sz n ∧ SzW n := by
  match n, h1, h2 with
  | 1, _, _ => exact ⟨sz1, szw1⟩
  | 2, _, _ => exact ⟨sz2, szw2⟩
  | 3, _, _ => exact ⟨sz3, szw3⟩
  | 4, _, _ => exact ⟨sz4, szw4⟩
  | 5, _, _ => exact ⟨sz5, szw5⟩
  | 6, _, _ => exact ⟨sz6, szw6⟩
  | 7, _, _ => exact ⟨sz7, szw7⟩
theorem row_gi (k : Nat) (i : Int) (e : i = k) (h1 : 1 ≤ k) (h2 : k ≤ 100) (st : Dr) : s_row_gatherings [.int i] st = some (.int (rowN k), st) := by
  subst e
  exact row_g k h1 h2 st
theorem ring_gi (k : Nat) (i : Int) (e : i = k) (h1 : 1 ≤ k) (h2 : k ≤ 100) (st : Dr) : s_ring_gatherings [.int i] st = some (.int (ringN k), st) := by
  subst e
  exact ring_g k h1 h2 st
theorem gcW {f : SemF} {n : Nat} {ps : List (Int × Int)} {c : Int} (Z : Sz n) (B : WB f n ps c) (ρ : Rho) (h : ρ[4]? = some (some (.va (.int n)))) (st : Dr) : callR s_gathering_count (lenR 1 (consR (callR f (lenR 1 (consR (vaR 4) nilR))) nilR)) ρ st = some (.int (gath n ps).length, st) :=
  ev_call (ev_len (ev_cons (ev_call (ev_len (ev_cons (ev_va h) ev_nil) rfl) (B.ev _)) ev_nil) rfl) (gc_ok n Z ps (valid_of B.ok) st)
theorem ringN_hi (k : Nat) (h : 3 ≤ k) : ringN k = rowN (k - 1) + rowN (k - 3) := by
  unfold ringN
  rw [if_neg (by omega)]
theorem ring_rec (k : Nat) (h : 4 < k) : ringN (k + 2) = ringN (k + 1) + ringN k := by
  obtain ⟨j, rfl⟩ : ∃ j, k = j + 3 := ⟨k - 3, by omega⟩
  rw [ringN_hi _ (by omega), ringN_hi _ (by omega), ringN_hi _ (by omega)]
  show rowN (j + 4) + rowN (j + 2) = rowN (j + 3) + rowN (j + 1) + (rowN (j + 2) + rowN j)
  have a : rowN (j + 4) = rowN (j + 3) + rowN (j + 2) := rfl
  have b : rowN (j + 2) = rowN (j + 1) + rowN j := rfl
  omega
abbrev rA (n m : Nat) (a b : Option En) : Rho := [none, some .dr, a, b, some (.va (.int n)), some (.va (.int m))]
theorem law_core (n m : Nat) (Z : Sz n) (W : SzW n) (h1 : 1 ≤ m) (h2 : m ≤ 98) (st0 st : Dr) (G : Gd st) (hp : parS [4, 5] (vaE (binR addV (cstR (.int 1)) (callD s__law_taken 1 (lenR (2 - 1) (consR (cstR (.int 7)) nilR)))) (vaE (binR addV (cstR (.int 1)) (callD s__law_taken 1 (lenR (2 - 1) (consR (cstR (.int 98)) nilR)))) nilE)) [none, some .dr, none, none, none, none] st0 = some (.nx (rA n m none none), st)) :
    ∃ st', t_law [none, some .dr, none, none, none, none] st0 = some (.rt (.bool true), st') := by
  obtain ⟨n', ps, st', ew, V, G'⟩ := law_web_ok st G
  obtain ⟨k, rfl⟩ : ∃ k : Nat, n' = k := ⟨n'.toNat, by have := V.lo; omega⟩
  have hk1 : 1 ≤ k := by have := V.lo; omega
  have hk7 : k ≤ 7 := by have := V.hi; omega
  obtain ⟨Z', W'⟩ := szs k hk1 hk7
  have hn := W.le
  have lo := gath_lo k Z' ps fun p hp => by have := V.at_ p hp; omega
  have hi := gath_hi k Z' ps
  have hi' : ((gath k ps).length : Int) ≤ 2 ^ k := by exact_mod_cast hi
  have lo' : (k : Int) + 1 ≤ ((gath k ps).length : Int) := by exact_mod_cast lo
  have h99 : (m : Int) < 99 := by omega
  have rwn : ∀ ρ : Rho, ρ[4]? = some (some (.va (.int n))) → callR s_row_gatherings (lenR 1 (consR (vaR 4) nilR)) ρ st = some (.int (rowN n), st) := fun ρ h => ev_call (ev_len (ev_cons (ev_va h) ev_nil) rfl) (row_g n hn.1 (by omega) st)
  have rm : ∀ ρ : Rho, ρ[5]? = some (some (.va (.int m))) → callR s_row_gatherings (lenR 1 (consR (vaR 5) nilR)) ρ st = some (.int (rowN m), st) := fun ρ h => ev_call (ev_len (ev_cons (ev_va h) ev_nil) rfl) (row_g m h1 (by omega) st)
  have c4 : andB (tstR (binR (cmpG .Gt) (tvR 5) (cstR (.int 3)))) (tstR (binR (cmpG .NotEq) (callR s_ring_gatherings (lenR 1 (consR (vaR 5) nilR))) (binR addV (callR s_row_gatherings (lenR 1 (consR (binR subV (tvR 5) (cstR (.int 1))) nilR))) (callR s_row_gatherings (lenR 1 (consR (binR subV (tvR 5) (cstR (.int 3))) nilR)))))) (rA n m none none) st = some (false, st) := by
    by_cases h : (3 : Int) < m
    · exact ev_andT (ev_tst (ev_bin (ev_tv rfl) ev_cst (cG_gt _ _)) (by simp only [truV, h, decide_true])) (ev_tst (ev_bin (ev_call (ev_len (ev_cons (ev_va rfl) ev_nil) rfl) (ring_g m h1 (by omega) st)) (ev_bin (ev_call (ev_len (ev_cons (ev_bin (ev_tv rfl) ev_cst (sub_i _ _)) ev_nil) rfl) (row_gi (m - 1) _ (by omega) (by omega) (by omega) st)) (ev_call (ev_len (ev_cons (ev_bin (ev_tv rfl) ev_cst (sub_i _ _)) ev_nil) rfl) (row_gi (m - 3) _ (by omega) (by omega) (by omega) st)) (add_i _ _)) (ne_no (ringN_hi m (by omega)))) rfl)
    · exact ev_andF (ev_tst (ev_bin (ev_tv rfl) ev_cst (cG_gt _ _)) (by simp only [truV, h, decide_false]))
  have c5 : andB (tstR (binR (cmpG .Gt) (tvR 5) (cstR (.int 4)))) (andB (tstR (binR (cmpG .Lt) (tvR 5) (cstR (.int 99)))) (tstR (binR (cmpG .NotEq) (callR s_ring_gatherings (lenR 1 (consR (binR addV (tvR 5) (cstR (.int 2))) nilR))) (binR addV (callR s_ring_gatherings (lenR 1 (consR (binR addV (tvR 5) (cstR (.int 1))) nilR))) (callR s_ring_gatherings (lenR 1 (consR (vaR 5) nilR))))))) (rA n m none none) st = some (false, st) := by
    by_cases h : (4 : Int) < m
    · exact ev_andT (ev_tst (ev_bin (ev_tv rfl) ev_cst (cG_gt _ _)) (by simp only [truV, h, decide_true])) (ev_andT (ev_tst (ev_bin (ev_tv rfl) ev_cst (cG_lt _ _)) (by simp only [truV, h99, decide_true])) (ev_tst (ev_bin (ev_call (ev_len (ev_cons (ev_bin (ev_tv rfl) ev_cst (add_i _ _)) ev_nil) rfl) (ring_gi (m + 2) _ (by omega) (by omega) (by omega) st)) (ev_bin (ev_call (ev_len (ev_cons (ev_bin (ev_tv rfl) ev_cst (add_i _ _)) ev_nil) rfl) (ring_gi (m + 1) _ (by omega) (by omega) (by omega) st)) (ev_call (ev_len (ev_cons (ev_va rfl) ev_nil) rfl) (ring_g m h1 (by omega) st)) (add_i _ _)) (ne_no (ring_rec m (by omega)))) rfl))
    · exact ev_andF (ev_tst (ev_bin (ev_tv rfl) ev_cst (cG_gt _ _)) (by simp only [truV, h, decide_false]))
  have c6 : andB (tstR (binR (cmpG .Lt) (binR addV (tvR 5) (tvR 4)) (cstR (.int 100)))) (tstR (binR (cmpG .Gt) (callR s_row_gatherings (lenR 1 (consR (binR addV (tvR 5) (tvR 4)) nilR))) (tvR 2))) (rA n m (some (.va (.int (rowN m * rowN n)))) none) st = some (false, st) := by
    by_cases h : (m : Int) + n < 100
    · have hmu := W.mu m (by omega) (by omega)
      have hng : ¬ rowN m * rowN n < rowN (m + n) := by omega
      exact ev_andT (ev_tst (ev_bin (ev_bin (ev_tv rfl) (ev_tv rfl) (add_i _ _)) ev_cst (cG_lt _ _)) (by simp only [truV, h, decide_true])) (ev_tst (ev_bin (ev_call (ev_len (ev_cons (ev_bin (ev_tv rfl) (ev_tv rfl) (add_i _ _)) ev_nil) rfl) (row_gi (m + n) _ (by omega) (by omega) (by omega) st)) (ev_tv rfl) (cG_gt _ _)) (by simp only [truV, hng, decide_false]))
    · exact ev_andF (ev_tst (ev_bin (ev_bin (ev_tv rfl) (ev_tv rfl) (add_i _ _)) ev_cst (cG_lt _ _)) (by simp only [truV, h, decide_false]))
  refine ⟨st', ev_seq hp (ev_seq (ev_ifF (ev_orF (ev_tst (ev_bin (gcW Z W.row _ rfl st) (rwn _ rfl) (ne_no W.row.ct)) rfl) (ev_tst (ev_bin (gcW Z W.ring _ rfl st) (ev_call (ev_len (ev_cons (ev_va rfl) ev_nil) rfl) (ring_g n hn.1 (by omega) st)) (ne_no W.ring.ct)) rfl)) rfl)
    (ev_seq (ev_ifF (ev_orF (ev_tst (ev_bin (gcW Z W.full _ rfl st) (ev_bin (ev_tv rfl) ev_cst (add_i _ _)) (ne_no W.full.ct)) rfl) (ev_tst (ev_bin (gcW Z W.star _ rfl st) (ev_bin (ev_call (ev_len (ev_cons ev_cst (ev_cons (ev_bin (ev_tv rfl) ev_cst (sub_i _ _)) ev_nil)) rfl) (W.t1 st)) ev_cst (add_i _ _)) (ne_no W.star.ct)) rfl)) rfl)
    (ev_seq (ev_ifF (ev_orF (ev_tst (ev_bin (ev_call (ev_len (ev_cons (ev_disp (ev_cons (ev_va rfl) (ev_cons (ev_disp ev_nil (by decide)) ev_nil)) (by show 2 ≤ 1000000; decide)) ev_nil) rfl) (gc_ok n Z [] (valid_of W.none.1) st)) (ev_call (ev_len (ev_cons ev_cst (ev_cons (ev_va rfl) ev_nil)) rfl) (W.t2 st)) (ne_no W.none.2)) rfl)
        (ev_tst (ev_bin (ev_call (ev_len (ev_cons (ev_bin (ev_tv rfl) ev_cst (add_i _ _)) ev_nil) rfl) (row_gi (m + 2) _ (by omega) (by omega) (by omega) st)) (ev_bin (ev_call (ev_len (ev_cons (ev_bin (ev_tv rfl) ev_cst (add_i _ _)) ev_nil) rfl) (row_gi (m + 1) _ (by omega) (by omega) (by omega) st)) (rm _ rfl) (add_i _ _)) (ne_no (rowN_rec m))) rfl)) rfl)
    (ev_seq (ev_ifF c4 rfl) (ev_seq (ev_ifF c5 rfl) (ev_seq (ev_asg (ev_bin (rm _ rfl) (rwn _ rfl) (mul_j (row_big m (by omega)) (row_big n (by omega)))) rfl) (ev_seq (ev_ifF c6 rfl)
    (ev_seq (ev_asg (ev_callD rfl (ev_len (ev_cons ev_cst ev_nil) rfl) ew) rfl) (ev_seqR (ev_rt (ev_chn (ev_bin (ev_bin (ev_tv rfl) ev_cst rfl) ev_cst (add_i _ _)) (ev_call (ev_len (ev_cons (ev_va rfl) ev_nil) rfl) (gc_ok k Z' ps V st')) ?_ (ev_call (ev_len (ev_cons ev_cst (ev_cons (ev_bin (ev_tv rfl) ev_cst rfl) ev_nil)) rfl) (W'.t2 st')) ?_)))))))))))⟩
  · rw [cG_le]
    simp only [lo', decide_true]
  · rw [cG_le]
    simp only [hi', decide_true]
theorem sem_ok (ns : List Int) : ∃ st', s_law ns 13547 = some (.rt (.bool true), st') := by
  rw [e_law]
  obtain ⟨r, st1, e1, r0, r7, g1⟩ := taken_ok 7 (by decide) (by decide) ⟨ns, 0, 13547, 0⟩ ⟨by show (0 : Int) ≤ 0; decide, by show (0 : Int) ≤ 13547; decide, by show (13547 : Int) < 2147483647; decide⟩
  obtain ⟨q, st2, e2, q0, q7, g2⟩ := taken_ok 98 (by decide) (by decide) st1 g1
  obtain ⟨n, hn⟩ : ∃ n : Nat, 1 + r = n := ⟨(1 + r).toNat, by omega⟩
  obtain ⟨m, hm⟩ : ∃ m : Nat, 1 + q = m := ⟨(1 + q).toNat, by omega⟩
  obtain ⟨Z, W⟩ := szs n (by omega) (by omega)
  refine law_core n m Z W (by omega) (by omega) _ st2 g2 ?_
  have h := ev_par (is := [4, 5]) (ρ := [none, some En.dr, none, none, none, none]) (ev_vaE (ev_bin ev_cst (ev_callD (i := 1) rfl (ev_len (n := 2 - 1) (ev_cons ev_cst ev_nil) rfl) e1) (add_i 1 _)) (ev_vaE (ev_bin ev_cst (ev_callD (i := 1) rfl (ev_len (n := 2 - 1) (ev_cons ev_cst ev_nil) rfl) e2) (add_i 1 _)) ev_nilE)) rfl
  rw [hn, hm] at h
  exact h
end Hd
namespace Hd
open PySem PySem.Spec PyProof.Rows L2
section
variable {P : Program} {w : World} {K : PySem.W.Frag} {mg : Str → Option Value} {base : Heap} {h : Heap}
abbrev tb (K : PySem.W.Frag) : List Addr := tf.map fun p => (He.cT K p).2
theorem tb_of (hT : ∀ p ∈ tf, GxR.TabB base mg (He.codeOf K p) (He.cT K p).2) (p : He.Defn) (hp : p ∈ tf) : ∃ Pt, Pt ∈ tb K ∧ GxR.TabB base mg (He.codeOf K p) Pt := ⟨_, List.mem_map.mpr ⟨p, hp, rfl⟩, hT p hp⟩
theorem A0 : Fo.AllOk P w K mg base (tb K) 1 F0 := Fo.AllOk.nil
theorem A1 (X : K.In base) (G : base.Ns mainGlobals mg) (c : He.SaysX fa fn [] tf ex w h K) (hT : ∀ p ∈ tf, GxR.TabB base mg (He.codeOf K p) (He.cT K p).2) : Fo.AllOk P w K mg base (tb K) 2 F1 := by
  obtain ⟨fd, F⟩ := c.t.d.def_ 0 rfl
  exact Fo.AllOk.add (C := C1) (ps := ["value", "least", "most"]) (A0) (by decide) (Fo.mdl_of X G c) rfl rfl (fun _ => rfl) F (F.bindsN fun _ _ _ _ _ _ us hl => match us, hl with | [_, _, _], _ => rfl) (He.glo_ok X G (c.t.d.fact 0 rfl))
    ⟨rfl, rfl, rfl, by decide +kernel, rfl, by decide +kernel, by decide +kernel⟩ (fun z => Bool.noConfusion z) (fun z => Bool.noConfusion z)
theorem A2 (X : K.In base) (G : base.Ns mainGlobals mg) (c : He.SaysX fa fn [] tf ex w h K) (hT : ∀ p ∈ tf, GxR.TabB base mg (He.codeOf K p) (He.cT K p).2) : Fo.AllOk P w K mg base (tb K) 4 F2 := by
  obtain ⟨fd, F⟩ := c.t.d.def_ 1 rfl
  exact Fo.AllOk.add (C := C2) (ps := ["web"]) (A1 X G c hT) (by decide) (Fo.mdl_of X G c) rfl rfl (fun _ => rfl) F (F.bindsN fun _ _ _ _ _ _ us hl => match us, hl with | [_], _ => rfl) (He.glo_ok X G (c.t.d.fact 1 rfl))
    ⟨rfl, rfl, rfl, by decide +kernel, rfl, by decide +kernel, by decide +kernel⟩ (fun _ => tb_of hT ("need_web", none) (by decide)) (fun z => Bool.noConfusion z)
theorem A3 (X : K.In base) (G : base.Ns mainGlobals mg) (c : He.SaysX fa fn [] tf ex w h K) (hT : ∀ p ∈ tf, GxR.TabB base mg (He.codeOf K p) (He.cT K p).2) : Fo.AllOk P w K mg base (tb K) 6 F3 := by
  obtain ⟨fd, F⟩ := c.t.d.def_ 2 rfl
  exact Fo.AllOk.add (C := C3) (ps := ["web", "value"]) (A2 X G c hT) (by decide) (Fo.mdl_of X G c) rfl rfl (fun _ => rfl) F (F.bindsN fun _ _ _ _ _ _ us hl => match us, hl with | [_, _], _ => rfl) (He.glo_ok X G (c.t.d.fact 2 rfl))
    ⟨rfl, rfl, rfl, by decide +kernel, rfl, by decide +kernel, by decide +kernel⟩ (fun _ => tb_of hT ("is_lot", none) (by decide)) (fun z => Bool.noConfusion z)
theorem A4 (X : K.In base) (G : base.Ns mainGlobals mg) (c : He.SaysX fa fn [] tf ex w h K) (hT : ∀ p ∈ tf, GxR.TabB base mg (He.codeOf K p) (He.cT K p).2) : Fo.AllOk P w K mg base (tb K) 8 F4 := by
  obtain ⟨fd, F⟩ := c.t.d.def_ 3 rfl
  exact Fo.AllOk.add (C := C4) (ps := ["web", "value"]) (A3 X G c hT) (by decide) (Fo.mdl_of X G c) rfl rfl (fun _ => rfl) F (F.bindsN fun _ _ _ _ _ _ us hl => match us, hl with | [_, _], _ => rfl) (He.glo_ok X G (c.t.d.fact 3 rfl))
    ⟨rfl, rfl, rfl, by decide +kernel, rfl, by decide +kernel, by decide +kernel⟩ (fun _ => tb_of hT ("is_gathering", none) (by decide)) (fun z => Bool.noConfusion z)
theorem A5 (X : K.In base) (G : base.Ns mainGlobals mg) (c : He.SaysX fa fn [] tf ex w h K) (hT : ∀ p ∈ tf, GxR.TabB base mg (He.codeOf K p) (He.cT K p).2) : Fo.AllOk P w K mg base (tb K) 9 F5 := by
  obtain ⟨fd, F⟩ := c.t.d.def_ 4 rfl
  exact Fo.AllOk.add (C := C5) (ps := ["web"]) (A4 X G c hT) (by decide) (Fo.mdl_of X G c) rfl rfl (fun _ => rfl) F (F.bindsN fun _ _ _ _ _ _ us hl => match us, hl with | [_], _ => rfl) (He.glo_ok X G (c.t.d.fact 4 rfl))
    ⟨rfl, rfl, rfl, by decide +kernel, rfl, by decide +kernel, by decide +kernel⟩ (fun z => Bool.noConfusion z) (fun z => Bool.noConfusion z)
theorem A6 (X : K.In base) (G : base.Ns mainGlobals mg) (c : He.SaysX fa fn [] tf ex w h K) (hT : ∀ p ∈ tf, GxR.TabB base mg (He.codeOf K p) (He.cT K p).2) : Fo.AllOk P w K mg base (tb K) 10 F6 := by
  obtain ⟨fd, F⟩ := c.t.d.def_ 5 rfl
  exact Fo.AllOk.add (C := C6) (ps := ["web"]) (A5 X G c hT) (by decide) (Fo.mdl_of X G c) rfl rfl (fun _ => rfl) F (F.bindsN fun _ _ _ _ _ _ us hl => match us, hl with | [_], _ => rfl) (He.glo_ok X G (c.t.d.fact 5 rfl))
    ⟨rfl, rfl, rfl, by decide +kernel, rfl, by decide +kernel, by decide +kernel⟩ (fun z => Bool.noConfusion z) (fun z => Bool.noConfusion z)
theorem A7 (X : K.In base) (G : base.Ns mainGlobals mg) (c : He.SaysX fa fn [] tf ex w h K) (hT : ∀ p ∈ tf, GxR.TabB base mg (He.codeOf K p) (He.cT K p).2) : Fo.AllOk P w K mg base (tb K) 11 F7 := by
  obtain ⟨fd, F⟩ := c.t.d.def_ 6 rfl
  exact Fo.AllOk.add (C := C7) (ps := ["web"]) (A6 X G c hT) (by decide) (Fo.mdl_of X G c) rfl rfl (fun _ => rfl) F (F.bindsN fun _ _ _ _ _ _ us hl => match us, hl with | [_], _ => rfl) (He.glo_ok X G (c.t.d.fact 6 rfl))
    ⟨rfl, rfl, rfl, by decide +kernel, rfl, by decide +kernel, by decide +kernel⟩ (fun z => Bool.noConfusion z) (fun z => Bool.noConfusion z)
theorem A8 (X : K.In base) (G : base.Ns mainGlobals mg) (c : He.SaysX fa fn [] tf ex w h K) (hT : ∀ p ∈ tf, GxR.TabB base mg (He.codeOf K p) (He.cT K p).2) : Fo.AllOk P w K mg base (tb K) 12 F8 := by
  obtain ⟨fd, F⟩ := c.t.d.def_ 7 rfl
  exact Fo.AllOk.add (C := C8) (ps := ["size"]) (A7 X G c hT) (by decide) (Fo.mdl_of X G c) rfl rfl (fun _ => rfl) F (F.bindsN fun _ _ _ _ _ _ us hl => match us, hl with | [_], _ => rfl) (He.glo_ok X G (c.t.d.fact 7 rfl))
    ⟨rfl, rfl, rfl, by decide +kernel, rfl, by decide +kernel, by decide +kernel⟩ (fun z => Bool.noConfusion z) (fun z => Bool.noConfusion z)
theorem A9 (X : K.In base) (G : base.Ns mainGlobals mg) (c : He.SaysX fa fn [] tf ex w h K) (hT : ∀ p ∈ tf, GxR.TabB base mg (He.codeOf K p) (He.cT K p).2) : Fo.AllOk P w K mg base (tb K) 13 F9 := by
  obtain ⟨fd, F⟩ := c.t.d.def_ 8 rfl
  exact Fo.AllOk.add (C := C9) (ps := ["size"]) (A8 X G c hT) (by decide) (Fo.mdl_of X G c) rfl rfl (fun _ => rfl) F (F.bindsN fun _ _ _ _ _ _ us hl => match us, hl with | [_], _ => rfl) (He.glo_ok X G (c.t.d.fact 8 rfl))
    ⟨rfl, rfl, rfl, by decide +kernel, rfl, by decide +kernel, by decide +kernel⟩ (fun z => Bool.noConfusion z) (fun z => Bool.noConfusion z)
theorem A10 (X : K.In base) (G : base.Ns mainGlobals mg) (c : He.SaysX fa fn [] tf ex w h K) (hT : ∀ p ∈ tf, GxR.TabB base mg (He.codeOf K p) (He.cT K p).2) : Fo.AllOk P w K mg base (tb K) 14 F10 := by
  obtain ⟨fd, F⟩ := c.t.d.def_ 9 rfl
  exact Fo.AllOk.add (C := C10) (ps := ["size"]) (A9 X G c hT) (by decide) (Fo.mdl_of X G c) rfl rfl (fun _ => rfl) F (F.bindsN fun _ _ _ _ _ _ us hl => match us, hl with | [_], _ => rfl) (He.glo_ok X G (c.t.d.fact 9 rfl))
    ⟨rfl, rfl, rfl, by decide +kernel, rfl, by decide +kernel, by decide +kernel⟩ (fun z => Bool.noConfusion z) (fun z => Bool.noConfusion z)
theorem A11 (X : K.In base) (G : base.Ns mainGlobals mg) (c : He.SaysX fa fn [] tf ex w h K) (hT : ∀ p ∈ tf, GxR.TabB base mg (He.codeOf K p) (He.cT K p).2) : Fo.AllOk P w K mg base (tb K) 15 F11 := by
  obtain ⟨fd, F⟩ := c.t.d.def_ 10 rfl
  exact Fo.AllOk.add (C := C11) (ps := ["size"]) (A10 X G c hT) (by decide) (Fo.mdl_of X G c) rfl rfl (fun _ => rfl) F (F.bindsN fun _ _ _ _ _ _ us hl => match us, hl with | [_], _ => rfl) (He.glo_ok X G (c.t.d.fact 10 rfl))
    ⟨rfl, rfl, rfl, by decide +kernel, rfl, by decide +kernel, by decide +kernel⟩ (fun z => Bool.noConfusion z) (fun z => Bool.noConfusion z)
theorem A12 (X : K.In base) (G : base.Ns mainGlobals mg) (c : He.SaysX fa fn [] tf ex w h K) (hT : ∀ p ∈ tf, GxR.TabB base mg (He.codeOf K p) (He.cT K p).2) : Fo.AllOk P w K mg base (tb K) 16 F12 := by
  obtain ⟨fd, F⟩ := c.t.d.def_ 11 rfl
  exact Fo.AllOk.add (C := C12) (ps := ["size"]) (A11 X G c hT) (by decide) (Fo.mdl_of X G c) rfl rfl (fun _ => rfl) F (F.bindsN fun _ _ _ _ _ _ us hl => match us, hl with | [_], _ => rfl) (He.glo_ok X G (c.t.d.fact 11 rfl))
    ⟨rfl, rfl, rfl, by decide +kernel, rfl, by decide +kernel, by decide +kernel⟩ (fun z => Bool.noConfusion z) (fun z => Bool.noConfusion z)
theorem A13 (X : K.In base) (G : base.Ns mainGlobals mg) (c : He.SaysX fa fn [] tf ex w h K) (hT : ∀ p ∈ tf, GxR.TabB base mg (He.codeOf K p) (He.cT K p).2) : Fo.AllOk P w K mg base (tb K) 17 F13 := by
  obtain ⟨fd, F⟩ := c.t.d.def_ 12 rfl
  exact Fo.AllOk.add (C := C13) (ps := ["many"]) (A12 X G c hT) (by decide) (Fo.mdl_of X G c) rfl rfl (fun _ => rfl) F (F.bindsN fun _ _ _ _ _ _ us hl => match us, hl with | [_], _ => rfl) (He.glo_ok X G (c.t.d.fact 12 rfl))
    ⟨rfl, rfl, rfl, by decide +kernel, rfl, by decide +kernel, by decide +kernel⟩ (fun z => Bool.noConfusion z) (fun z => Bool.noConfusion z)
theorem A14 (X : K.In base) (G : base.Ns mainGlobals mg) (c : He.SaysX fa fn [] tf ex w h K) (hT : ∀ p ∈ tf, GxR.TabB base mg (He.codeOf K p) (He.cT K p).2) : Fo.AllOk P w K mg base (tb K) 18 F14 := by
  obtain ⟨fd, F⟩ := c.t.d.def_ 13 rfl
  exact Fo.AllOk.add (C := C14) (ps := ["many"]) (A13 X G c hT) (by decide) (Fo.mdl_of X G c) rfl rfl (fun _ => rfl) F (F.bindsN fun _ _ _ _ _ _ us hl => match us, hl with | [_], _ => rfl) (He.glo_ok X G (c.t.d.fact 13 rfl))
    ⟨rfl, rfl, rfl, by decide +kernel, rfl, by decide +kernel, by decide +kernel⟩ (fun z => Bool.noConfusion z) (fun z => Bool.noConfusion z)
theorem A15 (X : K.In base) (G : base.Ns mainGlobals mg) (c : He.SaysX fa fn [] tf ex w h K) (hT : ∀ p ∈ tf, GxR.TabB base mg (He.codeOf K p) (He.cT K p).2) : Fo.AllOk P w K mg base (tb K) 19 F15 := by
  obtain ⟨fd, F⟩ := c.t.d.def_ 14 rfl
  exact Fo.AllOk.add (C := C15) (ps := ["many"]) (A14 X G c hT) (by decide) (Fo.mdl_of X G c) rfl rfl (fun _ => rfl) F (F.bindsN fun _ _ _ _ _ _ us hl => match us, hl with | [_], _ => rfl) (He.glo_ok X G (c.t.d.fact 14 rfl))
    ⟨rfl, rfl, rfl, by decide +kernel, rfl, by decide +kernel, by decide +kernel⟩ (fun z => Bool.noConfusion z) (fun z => Bool.noConfusion z)
theorem A16 (X : K.In base) (G : base.Ns mainGlobals mg) (c : He.SaysX fa fn [] tf ex w h K) (hT : ∀ p ∈ tf, GxR.TabB base mg (He.codeOf K p) (He.cT K p).2) : Fo.AllOk P w K mg base (tb K) 20 F16 := by
  obtain ⟨fd, F⟩ := c.t.d.def_ 15 rfl
  exact Fo.AllOk.add (C := C16) (ps := ["many"]) (A15 X G c hT) (by decide) (Fo.mdl_of X G c) rfl rfl (fun _ => rfl) F (F.bindsN fun _ _ _ _ _ _ us hl => match us, hl with | [_], _ => rfl) (He.glo_ok X G (c.t.d.fact 15 rfl))
    ⟨rfl, rfl, rfl, by decide +kernel, rfl, by decide +kernel, by decide +kernel⟩ (fun z => Bool.noConfusion z) (fun z => Bool.noConfusion z)
theorem A17 (X : K.In base) (G : base.Ns mainGlobals mg) (c : He.SaysX fa fn [] tf ex w h K) (hT : ∀ p ∈ tf, GxR.TabB base mg (He.codeOf K p) (He.cT K p).2) : Fo.AllOk P w K mg base (tb K) 21 F17 := by
  obtain ⟨fd, F⟩ := c.t.d.def_ 16 rfl
  exact Fo.AllOk.add (C := C17) (ps := ["_law_row_here", "_law_many"]) (A16 X G c hT) (by decide) (Fo.mdl_of X G c) rfl rfl (fun _ => rfl) F (F.bindsN fun _ _ _ _ _ _ us hl => match us, hl with | [_, _], _ => rfl) (He.glo_ok X G (c.t.d.fact 16 rfl))
    ⟨rfl, rfl, rfl, by decide +kernel, rfl, by decide +kernel, by decide +kernel⟩ (fun z => Bool.noConfusion z) (fun _ z => nomatch z)
theorem A18 (X : K.In base) (G : base.Ns mainGlobals mg) (c : He.SaysX fa fn [] tf ex w h K) (hT : ∀ p ∈ tf, GxR.TabB base mg (He.codeOf K p) (He.cT K p).2) : Fo.AllOk P w K mg base (tb K) 22 F18 := by
  obtain ⟨fd, F⟩ := c.t.d.def_ 17 rfl
  exact Fo.AllOk.add (C := C18) (ps := ["_law_row_here", "_law_most"]) (A17 X G c hT) (by decide) (Fo.mdl_of X G c) rfl rfl (fun _ => rfl) F (F.bindsN fun _ _ _ _ _ _ us hl => match us, hl with | [_, _], _ => rfl) (He.glo_ok X G (c.t.d.fact 17 rfl))
    ⟨rfl, rfl, rfl, by decide +kernel, rfl, by decide +kernel, by decide +kernel⟩ (fun z => Bool.noConfusion z) (fun _ z => nomatch z)
theorem A19 (X : K.In base) (G : base.Ns mainGlobals mg) (c : He.SaysX fa fn [] tf ex w h K) (hT : ∀ p ∈ tf, GxR.TabB base mg (He.codeOf K p) (He.cT K p).2) : Fo.AllOk P w K mg base (tb K) 23 F19 := by
  obtain ⟨fd, F⟩ := c.t.d.def_ 18 rfl
  exact Fo.AllOk.add (C := C19) (ps := ["_law_base", "_law_many"]) (A18 X G c hT) (by decide) (Fo.mdl_of X G c) rfl rfl (fun _ => rfl) F (F.bindsN fun _ _ _ _ _ _ us hl => match us, hl with | [_, _], _ => rfl) (He.glo_ok X G (c.t.d.fact 18 rfl))
    ⟨rfl, rfl, rfl, by decide +kernel, rfl, by decide +kernel, by decide +kernel⟩ (fun z => Bool.noConfusion z) (fun z => Bool.noConfusion z)
end
theorem sem (ns : List Int) (hl : ns.length ≤ 63) (hb : ∀ z ∈ ns, Builtin.Int.intBits z ≤ 1048576) : ∃ st', s_law ns 13547 = some (.rt (.bool true), st') := _root_.Hd.sem_ok ns
theorem law_done (sem : ∀ ns : List Int, ns.length ≤ 63 → (∀ z ∈ ns, Builtin.Int.intBits z ≤ 1048576) → ∃ st', s_law ns 13547 = some (.rt (.bool true), st')) {w : World} {K : PySem.W.Frag} {mg : Str → Option Value} {h : Heap} {fAdr : Addr} (KX : K.In h) (G0 : h.Ns mainGlobals mg) (hfa : mg ("law" : Str) = some (.ref fAdr)) (c : He.SaysX fa fn [] tf ex w h K) : LamX.LawAtS PySem.Challenge.rw_foescome_k47_across_special_gatherings w K L2.CX0 24 63 "_law_script" mg fAdr h := by
  obtain ⟨fd, F⟩ := c.t.d.def_ 19 rfl
  have e := hfa.symm.trans (He.glo_ok KX G0 (c.t.d.fact 19 (f := .glo "law") rfl))
  cases e
  refine Fo.law_at KX c (fun s u => FunD.bindsA (ps := ["_law_script"]) F (fun _ _ _ _ _ _ us hl => match us, hl with | [_], _ => rfl) s [u] rfl) fun base X G hT => ?_
  exact Fo.law_ok (C := C20) (row := "_law_row_here") (seed := 13547) (rest := lawRest) (mu := []) (Fo.mdl_of X G c) (A19 X G c hT) rfl rfl (fun _ => rfl) F ⟨rfl, rfl, rfl, by decide +kernel, rfl, by decide +kernel, by decide +kernel⟩ (fun z => Bool.noConfusion z) rfl rfl (by decide +kernel) (by decide +kernel) sem
end Hd
open PySem PySem.W PySem.Calls PyProof.Rows
theorem PySem.Challenge.cw_foescome_k47_across_special_gatherings_holds : PySem.Challenge.rw_foescome_k47_across_special_gatherings.Holds := by
  w_on; o_law
  refine HandSHeadRun.head_any (r := OpenLaw.row PySem.Challenge.rw_foescome_k47_across_special_gatherings) (q := view (OpenLaw.row PySem.Challenge.rw_foescome_k47_across_special_gatherings).prog [40]) (H := Hd.hk) (ob := Hd.ob) (M := 4000) (loose := Hd.lo) (d := HandSHeadRun.topDef (OpenLaw.row PySem.Challenge.rw_foescome_k47_across_special_gatherings).prog 40) (kwd := []) Hd.ob_eq
    (by kernel_rfl) (fun s => by kernel_rfl) Hd.run (by kernel_rfl) (by kernel_rfl) (by kernel_rfl) (by rfl) (by first | assumption | decide +kernel) (by decide +kernel) ⟨rfl, rfl, rfl, rfl, rfl, by decide +kernel⟩ ?hw ?hc
  case hw => w_witness2
  case hc =>
    refine LamX.walk_ofTsE (l := PySem.Challenge.rw_foescome_k47_across_special_gatherings) (n := 63) (k := 24) (x := "_law_script") (CX := fun _ => L2.CX0) rfl (by decide) (by kernel_rfl) ⟨rfl, by decide, by decide⟩ ?F (fun _ _ _ _ _ z => z)
    intro w mg fa h Y G hmg0
    obtain ⟨K, KX, c⟩ := Y
    have hmg : mg ("law" : PySem.Str) = some (.ref fa) := by
      have e : (HandSHeadRun.topDef (OpenLaw.row PySem.Challenge.rw_foescome_k47_across_special_gatherings).prog 40).name = ("law" : PySem.Str) := by kernel_rfl
      rw [← e]
      exact hmg0
    exact ⟨K, KX, Hd.law_done Hd.sem KX G hmg c⟩
