import PyProof.Rows.All
import Wide.All
import OpenK.AllK
import Wide.FinOn
import KE.KStateDown
import HandS.ForMost
import HandS.Exc
import HandS.Defaults
import HandS.Deep
import HandS.Wide
import HandS.EndTab
import HandS.AnyAll
import KE.KDictKeyed
import KE.KeyNested
import HandS.TupAny
import HandS.TupLe
import HandS.Style
import HandS.IsInst
import KE.KStar
import HandS.More
import HandS.Star
import KE.SortData
import KE.SortLaws
import KE.OsSortAny
import HandS.SetFor
import HandS.Strs
import HandS.Conv
import HandS.GenList
import HandS.GenOver
import PyProof.SumWalkG
import HandS.DictComp
import HandS.WordsDict
import HandS.TupLen
import KE.DataMinMax
import KE.GoesNew
import HandS.TupMul
import HandS.Gcd
import HandS.HeadHook4
import HandS.HeadWalk
import KE.KNestM
import HandS.Head0
import HandS.Head1
import HandS.Head2
import HandS.Head3
import HandS.HeadEnd
import HandS.HeadHook1
import HandS.HeadHook2
import HandS.HeadHook3
import PySem.Challenge.RW_foescome_k81_across_sizes
set_option Elab.async false
set_option linter.all false
set_option maxRecDepth 100000
set_option maxHeartbeats 0
namespace Fo
open PySem PySem.Spec PyProof.Rows L2
/-- the state of the draws: the script, the place, the mixer, the cell's rest -/
structure Dr where
  sc : List Int
  i : Int
  s : Int
  c : Int
abbrev M := StateT Dr Option
inductive En where
  | va (d : PyData)
  | ow (d : PyData)
  | dr
abbrev Rho := List (Option En)
open Classical in
noncomputable def mask (O : Addr → Prop) (H : Hp) : Hp := fun a => if O a then none else H a
theorem mask_some {O : Addr → Prop} {H : Hp} {a : Addr} {o : HO} : mask O H a = some o ↔ ¬ O a ∧ H a = some o := by
  unfold mask
  by_cases h : O a
  · simp [h]
  · simp [h]
def notTbl (o : HO) : Prop := ∀ ps, o ≠ .tbl ps
structure Ext (δ : Option Addr) (H H' : Hp) : Prop where
  keep : ∀ b o, H b = some o → some b ≠ δ → notTbl o → H' b = some o
  tbl : ∀ b ps, H b = some (.tbl ps) → ∃ qs, H' b = some (.tbl qs)
  dom : ∀ b, H' b = none → H b = none
theorem Ext.refl (δ : Option Addr) (H : Hp) : Ext δ H H := ⟨fun _ _ h _ _ => h, fun _ ps h => ⟨ps, h⟩, fun _ h => h⟩
theorem Ext.trans {δ : Option Addr} {H H1 H2 : Hp} (a : Ext δ H H1) (b : Ext δ H1 H2) : Ext δ H H2 :=
  ⟨fun c o h hd ht => b.keep c o (a.keep c o h hd ht) hd ht, fun c ps h => by obtain ⟨qs, h1⟩ := a.tbl c ps h; exact b.tbl c qs h1, fun c h => a.dom c (b.dom c h)⟩
/-- a new object -/
theorem Ext.new {δ : Option Addr} {H : Hp} {p : Addr} {o : HO} (h : H p = none) : Ext δ H (upd H p o) :=
  ⟨fun b u e _ _ => by rw [upd_ne (ne_of_none e h)]; exact e, fun b ps e => ⟨ps, by rw [upd_ne (ne_of_none e h)]; exact e⟩, fun b e => by
    by_cases hb : b = p
    · subst hb; exact h
    · rw [upd_ne hb] at e; exact e⟩
/-! ### what a value stands for -/
def keyD : Key → PyData
  | .inl i => .int i
  | .inr x => .str x
/-- the dict at a holds these entries -/
def dnP (a : Addr) (es : Obj) : Heap → Prop := fun h => h.get? a = some es
/-- an entry of a dict whose keys are tuples: the key, where it stands, the value -/
abbrev NE := NestedKey × Addr × Value
structure DNc (a : Addr) (es : Obj) (xs : List NE) : Prop where
  lo : (a == sysModules) = false
  xd : es.ExactDict
  eq : ∃ ar ep, es.data = .dict ar ep ∧ ∀ w : World, ar.toList = xs.map fun x => ⟨x.1.hash w, .ref x.2.1, x.2.2⟩
  nd : (xs.map (·.1)).Nodup
  dp : ∀ x ∈ xs, x.1.depth ≤ 8
  ne : xs ≠ []
  tp : ∀ x ∈ xs, ∃ l, x.1 = .tup l
def nkD (xs : List NE) : List PyData := xs.map fun x => x.1.data
def nkV (xs : List NE) : List V := xs.map fun x => V.ref x.2.1
mutual
inductive Rp (K : PySem.W.Frag) (H : Hp) : V → PyData → Prop
  | non : Rp K H .non .none
  | bl (b : Bool) : Rp K H (.bl b) (.bool b)
  | int (i : Int) : Rp K H (.int i) (.int i)
  | str (x : Str) : Rp K H (.str x) (.str x)
  | lst {a : Addr} {xs : List V} {ds : List PyData} : H a = some (.lst xs) → RpAll K H xs ds → Rp K H (.ref a) (.list ds)
  | tup {a : Addr} {xs : List V} {ds : List PyData} : H a = some (.tup xs) → RpAll K H xs ds → Rp K H (.ref a) (.tuple ds)
  | dK {a : Addr} {ks : List Key} {xs : List V} {ds : List PyData} : H a = some (.dK (ks.zip xs)) → ks.length = xs.length → RpAll K H xs ds → Rp K H (.ref a) (.dict ((ks.map keyD).zip ds))
  | dN {a : Addr} {es : Obj} {xs : List NE} {vs : List V} {ds : List PyData} : H a = some (.ext (dnP a es)) → DNc a es xs → RpAll K H (nkV xs) (nkD xs) → Vals vs (xs.map (·.2.2)) → RpAll K H vs ds → Rp K H (.ref a) (.dict ((nkD xs).zip ds))
inductive RpAll (K : PySem.W.Frag) (H : Hp) : List V → List PyData → Prop
  | nil : RpAll K H [] []
  | cons {v : V} {vs : List V} {d : PyData} {ds : List PyData} : Rp K H v d → RpAll K H vs ds → RpAll K H (v :: vs) (d :: ds)
end
section
variable {K : PySem.W.Frag} {H H' : Hp}
/-- what is read off H is read off H' -/
structure Rds (H H' : Hp) : Prop where
  keep : ∀ b o, H b = some o → notTbl o → H' b = some o
theorem Rds.seqL (e : Rds H H') {a : Addr} {xs : List V} (h : SqL K H a xs) : SqL K H' a xs := by
  rcases h with (h | ⟨o, h⟩) | h
  · exact .inl (.inl (e.keep _ _ h fun ps => by intro z; cases z))
  · exact .inl (.inr ⟨o, e.keep _ _ h fun ps => by intro z; cases z⟩)
  · exact .inr h
theorem Rds.seqT (e : Rds H H') {a : Addr} {xs : List V} (h : SqT K H a xs) : SqT K H' a xs := by
  rcases h with (h | ⟨o, h⟩) | h
  · exact .inl (.inl (e.keep _ _ h fun ps => by intro z; cases z))
  · exact .inl (.inr ⟨o, e.keep _ _ h fun ps => by intro z; cases z⟩)
  · exact .inr h
mutual
theorem Rp.mono (e : Rds H H') : ∀ {v : V} {d : PyData}, Rp K H v d → Rp K H' v d
  | _, _, .non => .non
  | _, _, .bl b => .bl b
  | _, _, .int i => .int i
  | _, _, .str x => .str x
  | _, _, .lst h r => .lst (e.keep _ _ h fun ps => by intro z; cases z) (RpAll.mono e r)
  | _, _, .tup h r => .tup (e.keep _ _ h fun ps => by intro z; cases z) (RpAll.mono e r)
  | _, _, .dK h l r => .dK (e.keep _ _ h fun ps => by intro z; cases z) l (RpAll.mono e r)
  | _, _, .dN h c k v r => .dN (e.keep _ _ h fun ps => by intro z; cases z) c (RpAll.mono e k) v (RpAll.mono e r)
theorem RpAll.mono (e : Rds H H') : ∀ {vs : List V} {ds : List PyData}, RpAll K H vs ds → RpAll K H' vs ds
  | _, _, .nil => .nil
  | _, _, .cons h r => .cons (Rp.mono e h) (RpAll.mono e r)
end
mutual
theorem Rp.dp : ∀ {d : PyData} {v : V}, Rp K H v d → d.canLay0 = true → Dp K H v d
  | .none, _, h, _ => by cases h; exact .non
  | .bool b, _, h, _ => by cases h; exact .bl b
  | .int i, _, h, _ => by cases h; exact .int i
  | .str x, _, h, _ => by cases h; exact .str x
  | .list ds, _, h, c => by
    cases h with
    | lst h r => exact .lst (SqL.of h) (RpAll.dp r (by simpa [PyData.canLay0] using c))
  | .tuple ds, _, h, c => by
    cases h with
    | tup h r => exact .tup (SqT.of h) (RpAll.dp r (by simpa [PyData.canLay0] using c))
  | .dict kvs, _, h, c => by simp [PyData.canLay0] at c
theorem RpAll.dp : ∀ {ds : List PyData} {vs : List V}, RpAll K H vs ds → PyData.canLayAll0 ds = true → DpAll K H vs ds
  | [], _, h, _ => by cases h; exact .nil
  | d :: ds, _, h, c => by
    cases h with
    | cons h r =>
      simp only [PyData.canLayAll0, Bool.and_eq_true] at c
      exact .cons (Rp.dp h c.1) (RpAll.dp r c.2)
end
theorem RpAll.length : ∀ {vs : List V} {ds : List PyData}, RpAll K H vs ds → vs.length = ds.length
  | [], [], _ => rfl
  | _ :: _, _ :: _, .cons _ r => by rw [List.length_cons, List.length_cons, RpAll.length r]
theorem RpAll.append : ∀ {vs ws : List V} {ds es : List PyData}, RpAll K H vs ds → RpAll K H ws es → RpAll K H (vs ++ ws) (ds ++ es)
  | [], _, [], _, _, s => s
  | _ :: _, _, _ :: _, _, .cons h r, s => .cons h (RpAll.append r s)
theorem RpAll.get : ∀ {vs : List V} {ds : List PyData} {i : Nat} {d : PyData}, RpAll K H vs ds → ds[i]? = some d → ∃ v, vs[i]? = some v ∧ Rp K H v d
  | _, [], i, d, _, e => by simp at e
  | _ :: _, _ :: _, 0, d, .cons h _, e => by simp at e; subst e; exact ⟨_, rfl, h⟩
  | _ :: _, _ :: _, i + 1, d, .cons _ r, e => by
    obtain ⟨v, h1, h2⟩ := RpAll.get (i := i) (d := d) r (by simpa using e)
    exact ⟨v, by simpa using h1, h2⟩
theorem RpAll.getV : ∀ {vs : List V} {ds : List PyData} {i : Nat} {v : V}, RpAll K H vs ds → vs[i]? = some v → ∃ d, ds[i]? = some d ∧ Rp K H v d
  | [], _, i, d, _, e => by simp at e
  | _ :: _, _ :: _, 0, d, .cons h _, e => by simp at e; subst e; exact ⟨_, rfl, h⟩
  | _ :: _, _ :: _, i + 1, d, .cons _ r, e => by
    obtain ⟨v, h1, h2⟩ := RpAll.getV (i := i) (v := d) r (by simpa using e)
    exact ⟨v, by simpa using h1, h2⟩
theorem RpAll.take : ∀ {vs : List V} {ds : List PyData} (n : Nat), RpAll K H vs ds → RpAll K H (vs.take n) (ds.take n)
  | _, _, 0, _ => .nil
  | [], [], _ + 1, .nil => .nil
  | _ :: _, _ :: _, n + 1, .cons h r => .cons h (RpAll.take n r)
theorem RpAll.drop : ∀ {vs : List V} {ds : List PyData} (n : Nat), RpAll K H vs ds → RpAll K H (vs.drop n) (ds.drop n)
  | _, _, 0, h => h
  | [], [], _ + 1, .nil => .nil
  | _ :: _, _ :: _, n + 1, .cons _ r => RpAll.drop n r
theorem RpAll.reverse : ∀ {vs : List V} {ds : List PyData}, RpAll K H vs ds → RpAll K H vs.reverse ds.reverse
  | [], [], _ => .nil
  | v :: vs, d :: ds, .cons h r => by
    rw [List.reverse_cons, List.reverse_cons]
    exact (RpAll.reverse r).append (.cons h .nil)
theorem RpAll.set : ∀ {vs : List V} {ds : List PyData} (i : Nat) {v : V} {d : PyData}, RpAll K H vs ds → Rp K H v d → RpAll K H (vs.set i v) (ds.set i d)
  | [], [], _, _, _, .nil, _ => .nil
  | _ :: _, _ :: _, 0, _, _, .cons _ r, h => .cons h r
  | _ :: _, _ :: _, i + 1, _, _, .cons q r, h => .cons q (RpAll.set i r h)
end
theorem rds_mask {O : Addr → Prop} {H : Hp} : Rds (mask O H) H := ⟨fun _ _ h _ => (mask_some.mp h).2⟩
theorem rds_ext {δ : Option Addr} {O : Addr → Prop} {H H' : Hp} (e : Ext δ H H') (hd : ∀ a, δ = some a → O a) : Rds (mask O H) (mask O H') :=
  ⟨fun b o h ht => by
    obtain ⟨h1, h2⟩ := mask_some.mp h
    exact mask_some.mpr ⟨h1, e.keep b o h2 (fun z => h1 (hd b z.symm)) ht⟩⟩
/-- fewer are owned -/
theorem rds_less {O O' : Addr → Prop} {H : Hp} (h : ∀ a, O' a → O a) : Rds (mask O H) (mask O' H) :=
  ⟨fun b o e _ => by
    obtain ⟨h1, h2⟩ := mask_some.mp e
    exact mask_some.mpr ⟨fun z => h1 (h b z), h2⟩⟩
/-- a new one is owned -/
theorem rds_own {O O' : Addr → Prop} {H : Hp} (h : ∀ a, O' a → O a ∨ H a = none) : Rds (mask O H) (mask O' H) :=
  ⟨fun b o e _ => by
    obtain ⟨h1, h2⟩ := mask_some.mp e
    have h3 : ¬ O' b := fun z => by
      rcases h b z with q | q
      · exact h1 q
      · rw [q] at h2; cases h2
    exact mask_some.mpr ⟨h3, h2⟩⟩
/-- an owned one is changed -/
theorem rds_upd {O : Addr → Prop} {H : Hp} {a : Addr} {o : HO} (h : O a) : Rds (mask O H) (mask O (upd H a o)) :=
  ⟨fun b u e _ => by
    obtain ⟨h1, h2⟩ := mask_some.mp e
    have hb : b ≠ a := fun z => h1 (z ▸ h)
    exact mask_some.mpr ⟨h1, by rw [upd_ne hb]; exact h2⟩⟩
/-! ### the world -/
def DrawAt (K : PySem.W.Frag) (st : Dr) (O : Addr → Prop) (H : Hp) (a : Addr) : Prop :=
  ∃ sa, H a = some (.lst [.ref sa, .int st.i, .int st.s, .int st.c]) ∧ SqL K (mask O H) sa (st.sc.map V.int)
/-- the tables of the defs' code, and those of a generator's own code -/
structure Tb where
  l : List Addr
  m : List Addr
/-- an object that is known as it is -/
def uT : HO := .ext fun _ => True
/-- a code object, its table at P -/
def CodeOb (oc : Obj) (c P : Addr) : Prop := ∃ (vs : Array Value) (file : Str) (tf : Tok) (flags : Int) (tg : Tok) (inF : Bool) (text : Int) (tt : Tok), oc.cls = .type "code" ∧ oc.data = .fields vs ∧ vs[11]? = some (.ref P) ∧ vs.getD 11 .none = .ref P ∧ vs.getD 18 .none = .str file tf ∧
  vs.getD 7 .none = .int flags tg ∧ vs.getD 9 .none = .bool inF ∧ vs.getD 10 .none = .int text tt ∧ c ≠ P
theorem codeHd_of {h : Heap} {oc : Obj} {c P : Addr} (e : h.get? c = some oc) (k : CodeOb oc c P) : PySem.W.CodeHd h c P := by
  obtain ⟨vs, file, tf, flags, tg, inF, text, tt, r⟩ := k
  exact ⟨oc, vs, file, tf, flags, tg, inF, text, tt, e, r⟩
theorem codeOb_of {h : Heap} {c P : Addr} (k : PySem.W.CodeHd h c P) : ∃ oc, h.get? c = some oc ∧ CodeOb oc c P := by
  obtain ⟨oc, vs, file, tf, flags, tg, inF, text, tt, e, r⟩ := k
  exact ⟨oc, e, vs, file, tf, flags, tg, inF, text, tt, r⟩
/-- a table whose codes are known, with their tables -/
def TabT (l : List Addr) (H : Hp) (P : Addr) : Prop := ∃ ps : Array Value, H P = some (.tbl ps) ∧ TriplesOk ps.toList ∧ ∀ (pos : Pos) (cv : Value), codeAmong pos ps.toList = some cv →
  ∃ (c' P' : Addr) (oc : Obj), cv = .ref c' ∧ H c' = some (.frz oc uT) ∧ CodeOb oc c' P' ∧ P' ∉ l ∧ GxR.TabG H P'
theorem TabT.g {l : List Addr} {H : Hp} {P : Addr} (t : TabT l H P) : GxR.TabG H P := by
  obtain ⟨ps, e, h, _⟩ := t
  exact ⟨ps, e, h⟩
theorem TabG.keep {H H' : Hp} {P : Addr} (t : GxR.TabG H P) (k : ∀ b ps, H b = some (.tbl ps) → H' b = some (.tbl ps)) : GxR.TabG H' P := by
  obtain ⟨ps, e, h⟩ := t
  exact ⟨ps, k _ _ e, h⟩
theorem TabT.keep {l : List Addr} {H H' : Hp} {P : Addr} (t : TabT l H P) (k : ∀ b ps, H b = some (.tbl ps) → H' b = some (.tbl ps)) (k2 : ∀ b o, H b = some (.frz o uT) → H' b = some (.frz o uT)) : TabT l H' P := by
  obtain ⟨ps, e, h, a⟩ := t
  refine ⟨ps, k _ _ e, h, fun pos cv hc => ?_⟩
  obtain ⟨c', P', oc, e1, e2, e3, e4, e5⟩ := a pos cv hc
  exact ⟨c', P', oc, e1, k2 _ _ e2, e3, e4, TabG.keep e5 k⟩
theorem TabT.nil {l : List Addr} {H : Hp} {P : Addr} (e : H P = some (.tbl #[])) : TabT l H P := ⟨#[], e, True.intro, fun pos cv h => by
  simp [codeAmong] at h⟩
structure WOk (K : PySem.W.Frag) (tabs : Tb) (δ : Option Addr) (O : Addr → Prop) (st : Dr) (H : Hp) : Prop where
  tab : ∀ P ∈ tabs.l, TabT tabs.l H P
  tab2 : ∀ P ∈ tabs.m, P ∉ tabs.l ∧ GxR.TabG H P
  dr : ∀ a, δ = some a → O a ∧ DrawAt K st O H a
  own : ∀ a, O a → H a ≠ none
/-- owned: those of O, and p -/
def plus (O : Addr → Prop) (p : Addr) : Addr → Prop := fun a => O a ∨ a = p
theorem rds_newOwn {O : Addr → Prop} {H : Hp} {p : Addr} {o : HO} (h : H p = none) : Rds (mask O H) (mask (plus O p) (upd H p o)) :=
  ⟨fun b u e _ => by
    obtain ⟨h1, h2⟩ := mask_some.mp e
    have hb : b ≠ p := ne_of_none h2 h
    exact mask_some.mpr ⟨fun z => z.elim h1 hb, by rw [upd_ne hb]; exact h2⟩⟩
theorem rds_new0 {O : Addr → Prop} {H : Hp} {p : Addr} {o : HO} (h : H p = none) : Rds (mask O H) (mask O (upd H p o)) :=
  ⟨fun b u e _ => by
    obtain ⟨h1, h2⟩ := mask_some.mp e
    have hb : b ≠ p := ne_of_none h2 h
    exact mask_some.mpr ⟨h1, by rw [upd_ne hb]; exact h2⟩⟩
theorem WOk.newOwn {K : PySem.W.Frag} {tabs : Tb} {δ : Option Addr} {O : Addr → Prop} {st : Dr} {H : Hp} {p : Addr} {o : HO} (w : WOk K tabs δ O st H) (h : H p = none) : WOk K tabs δ (plus O p) st (upd H p o) := by
  refine ⟨fun P hP => (w.tab P hP).keep (fun b ps e => by rw [upd_ne (ne_of_none e h)]; exact e) (fun b o e => by rw [upd_ne (ne_of_none e h)]; exact e), fun P hP => ⟨(w.tab2 P hP).1, TabG.keep (w.tab2 P hP).2 (fun b ps e => by rw [upd_ne (ne_of_none e h)]; exact e)⟩, fun a ha => ?_, fun a ha => ?_⟩
  · obtain ⟨h1, sa, e, hs⟩ := w.dr a ha
    exact ⟨.inl h1, sa, by rw [upd_ne (ne_of_none e h)]; exact e, (rds_newOwn h).seqL hs⟩
  · by_cases hb : a = p
    · subst hb; rw [upd_same]; exact fun z => nomatch z
    · rw [upd_ne hb]
      exact ha.elim (w.own a) fun z => absurd z hb
theorem WOk.new {K : PySem.W.Frag} {tabs : Tb} {δ : Option Addr} {O : Addr → Prop} {st : Dr} {H : Hp} {p : Addr} {o : HO} (w : WOk K tabs δ O st H) (h : H p = none) : WOk K tabs δ O st (upd H p o) := by
  refine ⟨fun P hP => (w.tab P hP).keep (fun b ps e => by rw [upd_ne (ne_of_none e h)]; exact e) (fun b o e => by rw [upd_ne (ne_of_none e h)]; exact e), fun P hP => ⟨(w.tab2 P hP).1, TabG.keep (w.tab2 P hP).2 (fun b ps e => by rw [upd_ne (ne_of_none e h)]; exact e)⟩, fun a ha => ?_, fun a ha => ?_⟩
  · obtain ⟨h1, sa, e, hs⟩ := w.dr a ha
    exact ⟨h1, sa, by rw [upd_ne (ne_of_none e h)]; exact e, (rds_new0 h).seqL hs⟩
  · have h1 := w.own a ha
    have h2 : a ≠ p := fun z => h1 (z ▸ h)
    rw [upd_ne h2]; exact h1
theorem WOk.less {K : PySem.W.Frag} {tabs : Tb} {δ : Option Addr} {O O' : Addr → Prop} {st : Dr} {H : Hp} (w : WOk K tabs δ O' st H) (h : ∀ a, δ = some a → O a) (h2 : ∀ a, O a → O' a) : WOk K tabs δ O st H :=
  ⟨w.tab, w.tab2, fun a ha => by
    obtain ⟨_, sa, e, hs⟩ := w.dr a ha
    exact ⟨h a ha, sa, e, (rds_less h2).seqL hs⟩, fun a ha => w.own a (h2 a ha)⟩
/-- a dict, by its object -/
def DkAt (K : PySem.W.Frag) (M : Hp) (a : Addr) (o : Option HO) (kvs : List (PyData × PyData)) : Prop :=
  (∃ (ks : List Key) (xs : List V) (ds : List PyData), o = some (.dK (ks.zip xs)) ∧ ks.length = xs.length ∧ RpAll K M xs ds ∧ kvs = (ks.map keyD).zip ds) ∨
  (∃ (es : Obj) (xs : List NE) (vs : List V) (ds : List PyData), o = some (.ext (dnP a es)) ∧ DNc a es xs ∧ RpAll K M (nkV xs) (nkD xs) ∧ Vals vs (xs.map (·.2.2)) ∧ RpAll K M vs ds ∧ kvs = (nkD xs).zip ds)
theorem DkAt.mono {K : PySem.W.Frag} {M M' : Hp} {a : Addr} {o : Option HO} {kvs : List (PyData × PyData)} (r : Rds M M') (h : DkAt K M a o kvs) : DkAt K M' a o kvs := by
  rcases h with ⟨ks, xs, ds, h1, h2, h3, h4⟩ | ⟨es, xs, vs, ds, h1, h2, h3, h4, h5, h6⟩
  · exact .inl ⟨ks, xs, ds, h1, h2, h3.mono r, h4⟩
  · exact .inr ⟨es, xs, vs, ds, h1, h2, h3.mono r, h4, h5.mono r, h6⟩
theorem DkAt.to {K : PySem.W.Frag} {M : Hp} {a : Addr} {o o2 : Option HO} {kvs : List (PyData × PyData)} (h : DkAt K M a o kvs) (k : ∀ u, o = some u → notTbl u → o2 = some u) : DkAt K M a o2 kvs := by
  rcases h with ⟨ks, xs, ds, h1, h2, h3, h4⟩ | ⟨es, xs, vs, ds, h1, h2, h3, h4, h5, h6⟩
  · exact .inl ⟨ks, xs, ds, k _ h1 (fun ps z => by cases z), h2, h3, h4⟩
  · exact .inr ⟨es, xs, vs, ds, k _ h1 (fun ps z => by cases z), h2, h3, h4, h5, h6⟩
theorem DkAt.rp {K : PySem.W.Frag} {M : Hp} {a : Addr} {kvs : List (PyData × PyData)} (h : DkAt K M a (M a) kvs) : Rp K M (.ref a) (.dict kvs) := by
  rcases h with ⟨ks, xs, ds, h1, h2, h3, h4⟩ | ⟨es, xs, vs, ds, h1, h2, h3, h4, h5, h6⟩
  · subst h4; exact .dK h1 h2 h3
  · subst h6; exact .dN h1 h2 h3 h4 h5
theorem Rp.dk {K : PySem.W.Frag} {M : Hp} {w : V} {kvs : List (PyData × PyData)} (h : Rp K M w (.dict kvs)) : ∃ a, w = .ref a ∧ DkAt K M a (M a) kvs := by
  cases h with
  | dK h1 h2 h3 => exact ⟨_, rfl, .inl ⟨_, _, _, h1, h2, h3, rfl⟩⟩
  | dN h1 h2 h3 h4 h5 => exact ⟨_, rfl, .inr ⟨_, _, _, _, h1, h2, h3, h4, h5, rfl⟩⟩
/-- a slot's entry -/
def Slot1 (K : PySem.W.Frag) (δ : Option Addr) (O : Addr → Prop) (H : Hp) (v : V) : En → Prop
  | .va d => Rp K (mask O H) v d
  | .dr => ∃ a, δ = some a ∧ v = .ref a
  | .ow (.list ds) => ∃ a xs, v = .ref a ∧ O a ∧ δ ≠ some a ∧ H a = some (.lst xs) ∧ RpAll K (mask O H) xs ds
  | .ow (.dict kvs) => ∃ a, v = .ref a ∧ O a ∧ δ ≠ some a ∧ DkAt K (mask O H) a (H a) kvs
  | .ow _ => False
theorem Slot1.mono {K : PySem.W.Frag} {δ : Option Addr} {O : Addr → Prop} {H H' : Hp} (r : Rds (mask O H) (mask O H')) (k : ∀ a o, O a → δ ≠ some a → H a = some o → notTbl o → H' a = some o) {v : V} {en : En} (h : Slot1 K δ O H v en) : Slot1 K δ O H' v en := by
  cases en with
  | va d => exact Rp.mono r h
  | dr => exact h
  | ow d =>
    cases d with
    | list ds =>
      obtain ⟨a, xs, e, o, n, h1, h2⟩ := h
      exact ⟨a, xs, e, o, n, k _ _ o n h1 (fun ps z => by cases z), h2.mono r⟩
    | dict kvs =>
      obtain ⟨a, e, o, n, h⟩ := h
      exact ⟨a, e, o, n, (h.mono r).to fun u q t => k _ _ o n q t⟩
    | _ => exact h
structure Slots (K : PySem.W.Frag) (δ : Option Addr) (O : Addr → Prop) (ρ : Rho) (σ : L2.St) (H : Hp) : Prop where
  at_ : ∀ (i : Nat) (en : En), ρ[i]? = some (some en) → ∃ v, σ[i]? = some (some v) ∧ Slot1 K δ O H v en
  inj : ∀ (i j : Nat) (d e : PyData) (v : V), i ≠ j → ρ[i]? = some (some (.ow d)) → ρ[j]? = some (some (.ow e)) → σ[i]? = some (some v) → σ[j]? ≠ some (some v)
  len : ρ.length = σ.length
theorem Slots.ext {K : PySem.W.Frag} {δ : Option Addr} {O : Addr → Prop} {ρ : Rho} {σ : L2.St} {H H' : Hp} (s : Slots K δ O ρ σ H) (e : Ext δ H H') (hd : ∀ a, δ = some a → O a) : Slots K δ O ρ σ H' :=
  ⟨fun i en h => by
    obtain ⟨v, h1, h2⟩ := s.at_ i en h
    exact ⟨v, h1, h2.mono (rds_ext e hd) fun a o _ n q t => e.keep a o q (fun z => n z.symm) t⟩, s.inj, s.len⟩
/-! ### readings -/
/-- the outcome of a plain expression -/
abbrev Sem1 := Rho → M PyData
abbrev SemL := Rho → M (List PyData)
abbrev SemB := Rho → M Bool
section
variable (K : PySem.W.Frag) (tabs : Tb)
def Rd1 (m : Sem1) : TE := fun σ H Q => ∃ δ O ρ st v st', Slots K δ O ρ σ H ∧ WOk K tabs δ O st H ∧ m ρ st = some (v, st') ∧ ∀ w H', Ext δ H H' → WOk K tabs δ O st' H' → Rp K (mask O H') w v → Q w H'
/-- a value, or what an owned name holds -/
def TRp (δ : Option Addr) (O : Addr → Prop) (H : Hp) (w : V) (d : PyData) : Prop := Rp K (mask O H) w d ∨ Slot1 K δ O H w (.ow d)
def RdT (m : Sem1) : TE := fun σ H Q => ∃ δ O ρ st v st', Slots K δ O ρ σ H ∧ WOk K tabs δ O st H ∧ m ρ st = some (v, st') ∧ ∀ w H', Ext δ H H' → WOk K tabs δ O st' H' → TRp K δ O H' w v → Q w H'
def RdB (m : SemB) : TT := fun σ H Q => ∃ δ O ρ st v st', Slots K δ O ρ σ H ∧ WOk K tabs δ O st H ∧ m ρ st = some (v, st') ∧ ∀ H', Ext δ H H' → WOk K tabs δ O st' H' → Q v H'
def RdL (m : SemL) : TA := fun σ H Q => ∃ δ O ρ st v st', Slots K δ O ρ σ H ∧ WOk K tabs δ O st H ∧ m ρ st = some (v, st') ∧ ∀ ws H', Ext δ H H' → WOk K tabs δ O st' H' → RpAll K (mask O H') ws v → Q ws H'
end
end Fo
namespace Fo
open PySem PySem.Spec PyProof.Rows L2
def up {α : Type} (o : Option α) : M α := fun st => o.map fun a => (a, st)
theorem up_some {α : Type} {o : Option α} {st st' : Dr} {v : α} (h : up o st = some (v, st')) : o = some v ∧ st' = st := by
  unfold up at h
  cases o with
  | none => cases h
  | some a =>
    have e := Option.some.inj h
    injection e with e1 e2
    exact ⟨by rw [e1], e2.symm⟩
theorem bnd_some {α β : Type} {m : M α} {f : α → M β} {st st' : Dr} {v : β} (h : (m >>= f) st = some (v, st')) : ∃ a st1, m st = some (a, st1) ∧ f a st1 = some (v, st') := by
  have h2 : (m st).bind (fun p => f p.1 p.2) = some (v, st') := h
  cases e : m st with
  | none => rw [e] at h2; cases h2
  | some p => rw [e] at h2; exact ⟨p.1, p.2, rfl, h2⟩
theorem pur_some {α : Type} {a : α} {st st' : Dr} {v : α} (h : (pure a : M α) st = some (v, st')) : a = v ∧ st' = st := by
  have e := Option.some.inj (show some (a, st) = some (v, st') from h)
  injection e with e1 e2
  exact ⟨e1, e2.symm⟩
section
variable {K : PySem.W.Frag} {tabs : Tb} {δ : Option Addr} {O : Addr → Prop} {st : Dr} {H : Hp}
theorem WOk.dl (W : WOk K tabs δ O st H) : ∀ a, δ = some a → O a := fun a h => (W.dr a h).1
theorem rds_new (W : WOk K tabs δ O st H) {p : Addr} {o : HO} (hp : H p = none) : Rds (mask O H) (mask O (upd H p o)) :=
  rds_ext (δ := δ) (Ext.new hp) W.dl
theorem WOk.fresh (W : WOk K tabs δ O st H) {p : Addr} (hp : H p = none) : ¬ O p := fun z => W.own p z hp
def Cont (K : PySem.W.Frag) (tabs : Tb) (δ : Option Addr) (O : Addr → Prop) (st : Dr) (H : Hp) (v : PyData) (Q : VK) : Prop :=
  ∀ w H', Ext δ H H' → WOk K tabs δ O st H' → Rp K (mask O H') w v → Q w H'
theorem Cont.same {v : PyData} {Q : VK} {w : V} (c : Cont K tabs δ O st H v Q) (W : WOk K tabs δ O st H) (r : Rp K (mask O H) w v) : Q w H := c w H (Ext.refl _ _) W r
theorem Cont.tup {ds : List PyData} {xs : List V} {Q : VK} (c : Cont K tabs δ O st H (.tuple ds) Q) (W : WOk K tabs δ O st H) (r : RpAll K (mask O H) xs ds) : ∀ p, H p = none → Q (.ref p) (upd H p (.tup xs)) :=
  fun p hp => c _ _ (Ext.new hp) (W.new hp) (.tup (mask_some.mpr ⟨W.fresh hp, upd_same⟩) (r.mono (rds_new W hp)))
theorem Cont.lst {ds : List PyData} {xs : List V} {Q : VK} (c : Cont K tabs δ O st H (.list ds) Q) (W : WOk K tabs δ O st H) (r : RpAll K (mask O H) xs ds) : ∀ p, H p = none → Q (.ref p) (upd H p (.lst xs)) :=
  fun p hp => c _ _ (Ext.new hp) (W.new hp) (.lst (mask_some.mpr ⟨W.fresh hp, upd_same⟩) (r.mono (rds_new W hp)))
theorem TRp.of {w : V} {d : PyData} (h : Rp K (mask O H) w d) : TRp K δ O H w d := .inl h
theorem TRp.int {w : V} {i : Int} (h : TRp K δ O H w (.int i)) : w = .int i := by
  rcases h with h | h
  · cases h; rfl
  · exact h.elim
theorem TRp.bl {w : V} {b : Bool} (h : TRp K δ O H w (.bool b)) : w = .bl b := by
  rcases h with h | h
  · cases h; rfl
  · exact h.elim
theorem TRp.non {w : V} (h : TRp K δ O H w .none) : w = .non := by
  rcases h with h | h
  · cases h; rfl
  · exact h.elim
theorem TRp.str {w : V} {x : PySem.Str} (h : TRp K δ O H w (.str x)) : w = .str x := by
  rcases h with h | h
  · cases h; rfl
  · exact h.elim
theorem TRp.lst {w : V} {ds : List PyData} (h : TRp K δ O H w (.list ds)) : ∃ a xs, w = .ref a ∧ H a = some (.lst xs) ∧ RpAll K (mask O H) xs ds := by
  rcases h with h | h
  · cases h with
    | lst h r => exact ⟨_, _, rfl, (mask_some.mp h).2, r⟩
  · obtain ⟨a, xs, e, _, _, h1, h2⟩ := h
    exact ⟨a, xs, e, h1, h2⟩
theorem TRp.tup {w : V} {ds : List PyData} (h : TRp K δ O H w (.tuple ds)) : ∃ a xs, w = .ref a ∧ H a = some (.tup xs) ∧ RpAll K (mask O H) xs ds ∧ Rp K (mask O H) w (.tuple ds) := by
  rcases h with h | h
  · cases h with
    | tup h r => exact ⟨_, _, rfl, (mask_some.mp h).2, r, .tup h r⟩
  · exact h.elim
theorem TRp.dp {w : V} {d : PyData} (h : TRp K δ O H w d) (c : d.canLay0 = true) : Dp K H w d := by
  cases d with
  | list ds =>
    obtain ⟨a, xs, rfl, h1, h2⟩ := h.lst
    exact .lst (SqL.of h1) ((h2.mono rds_mask).dp (by simpa [PyData.canLay0] using c))
  | dict kvs => simp [PyData.canLay0] at c
  | none => rw [h.non]; exact .non
  | bool b => rw [h.bl]; exact .bl b
  | int i => rw [h.int]; exact .int i
  | str x => rw [h.str]; exact .str x
  | tuple ds =>
    obtain ⟨a, xs, rfl, h1, h2, _⟩ := h.tup
    exact .tup (SqT.of h1) ((h2.mono rds_mask).dp (by simpa [PyData.canLay0] using c))
theorem TRp.ext {H' : Hp} {w : V} {d : PyData} (e : Ext δ H H') (W : WOk K tabs δ O st H) (h : TRp K δ O H w d) : TRp K δ O H' w d := by
  rcases h with h | h
  · exact .inl (h.mono (rds_ext e W.dl))
  · exact .inr (h.mono (rds_ext e W.dl) fun a o _ n q t => e.keep a o q (fun z => n z.symm) t)
end
end Fo
namespace Fo
open PySem PySem.Spec PyProof.Rows L2
theorem line_le {n : Nat} (h : n ≤ 1000000) : n ≤ sizeLine := Nat.le_trans h (by rw [sizeLine_eq]; decide)
section
variable {X : Cx} {tabs : Tb}
/-! ### parts that run -/
section
variable {δ : Option Addr} {O : Addr → Prop} {ρ : Rho} {st st1 : Dr} {pins : List (Addr × Obj)} {s : Shared} {σ : L2.St} {H : Hp} {a : Expr}
/-- what is known behind a part -/
abbrev PoT (X : Cx) (tabs : Tb) (δ : Option Addr) (O : Addr → Prop) (H : Hp) (st : Dr) (v : PyData) : VK := fun w H1 => Ext δ H H1 ∧ WOk X.K tabs δ O st H1 ∧ TRp X.K δ O H1 w v
abbrev Po1 (X : Cx) (tabs : Tb) (δ : Option Addr) (O : Addr → Prop) (H : Hp) (st : Dr) (v : PyData) : VK := fun w H1 => Ext δ H H1 ∧ WOk X.K tabs δ O st H1 ∧ Rp X.K (mask O H1) w v
theorem runT {ma : Sem1} {v : PyData} (ha : PE X a (RdT X.K tabs ma)) (I : Inv X pins σ H s) (S : Slots X.K δ O ρ σ H) (W : WOk X.K tabs δ O st H) (e : ma ρ st = some (v, st1)) :
    wpAny (model X.prog X.w) X.A (eval a X.env) (EP X pins σ (PoT X tabs δ O H st1 v)) X.xe s :=
  ha.run pins s σ H _ I ⟨δ, O, ρ, st, v, st1, S, W, e, fun _ _ E1 W1 R1 => ⟨E1, W1, R1⟩⟩
theorem run1 {ma : Sem1} {v : PyData} (ha : PE X a (Rd1 X.K tabs ma)) (I : Inv X pins σ H s) (S : Slots X.K δ O ρ σ H) (W : WOk X.K tabs δ O st H) (e : ma ρ st = some (v, st1)) :
    wpAny (model X.prog X.w) X.A (eval a X.env) (EP X pins σ (Po1 X tabs δ O H st1 v)) X.xe s :=
  ha.run pins s σ H _ I ⟨δ, O, ρ, st, v, st1, S, W, e, fun _ _ E1 W1 R1 => ⟨E1, W1, R1⟩⟩
theorem runB {ma : SemB} {v : Bool} (ha : PT X a (RdB X.K tabs ma)) (I : Inv X pins σ H s) (S : Slots X.K δ O ρ σ H) (W : WOk X.K tabs δ O st H) (e : ma ρ st = some (v, st1)) :
    wpAny (model X.prog X.w) X.A (isTrue a X.env (eval a X.env)) (TP X pins σ fun b H1 => b = v ∧ Ext δ H H1 ∧ WOk X.K tabs δ O st1 H1) X.xe s :=
  ha.run pins s σ H _ I ⟨δ, O, ρ, st, v, st1, S, W, e, fun _ E1 W1 => ⟨rfl, E1, W1⟩⟩
end
/-- strict is transient -/
theorem ex_T {a : Expr} {ma : Sem1} (ha : PE X a (Rd1 X.K tabs ma)) : PE X a (RdT X.K tabs ma) :=
  ⟨fun pins s σ H Q I ⟨δ, O, ρ, st, v, st', S, W, e, c⟩ => ha.run pins s σ H Q I ⟨δ, O, ρ, st, v, st', S, W, e, fun w H' E W' R => c w H' E W' (.inl R)⟩⟩
/-! ### names, constants -/
def vaO : Option (Option En) → Option PyData
  | some (some (.va d)) => some d
  | _ => none
def tvO : Option (Option En) → Option PyData
  | some (some (.va d)) => some d
  | some (some (.ow d)) => some d
  | _ => none
def vaR (i : Nat) : Sem1 := fun ρ => up (vaO ρ[i]?)
def tvR (i : Nat) : Sem1 := fun ρ => up (tvO ρ[i]?)
theorem vaO_some {o : Option (Option En)} {d : PyData} (h : vaO o = some d) : o = some (some (.va d)) := by
  unfold vaO at h
  split at h
  · cases h; rfl
  · cases h
theorem tvO_some {o : Option (Option En)} {d : PyData} (h : tvO o = some d) : o = some (some (.va d)) ∨ o = some (some (.ow d)) := by
  unfold tvO at h
  split at h
  · cases h; exact .inl rfl
  · cases h; exact .inr rfl
  · cases h
theorem ex_var {i : Nat} {x : PySem.Str} {pos : Pos} (hN : X.N[i]? = some x) (hv : Vis X.env.scope x) (hd : (x == ("__debug__" : PySem.Str)) = false) (hcd : (x == ("__classdict__" : PySem.Str)) = false) : PE X (.Name x pos) (Rd1 X.K tabs (vaR i)) :=
  ⟨fun pins s σ H Q I ⟨δ, O, ρ, st, v, st', S, W, e, c⟩ => by
    refine (pe_var hN hv hd hcd).run pins s σ H Q I ?_
    obtain ⟨e2, rfl⟩ := up_some e
    obtain ⟨w, h1, h2⟩ := S.at_ i _ (vaO_some e2)
    exact ⟨w, h1, c w H (Ext.refl _ _) W h2⟩⟩
theorem ex_tv {i : Nat} {x : PySem.Str} {pos : Pos} (hN : X.N[i]? = some x) (hv : Vis X.env.scope x) (hd : (x == ("__debug__" : PySem.Str)) = false) (hcd : (x == ("__classdict__" : PySem.Str)) = false) : PE X (.Name x pos) (RdT X.K tabs (tvR i)) :=
  ⟨fun pins s σ H Q I ⟨δ, O, ρ, st, v, st', S, W, e, c⟩ => by
    refine (pe_var hN hv hd hcd).run pins s σ H Q I ?_
    obtain ⟨e2, rfl⟩ := up_some e
    rcases tvO_some e2 with q | q
    · obtain ⟨w, h1, h2⟩ := S.at_ i _ q
      exact ⟨w, h1, c w H (Ext.refl _ _) W (.inl h2)⟩
    · obtain ⟨w, h1, h2⟩ := S.at_ i _ q
      exact ⟨w, h1, c w H (Ext.refl _ _) W (.inr h2)⟩⟩
def cstR (d : PyData) : Sem1 := fun _ => pure d
theorem ex_cst {e : Expr} {w : V} {d : PyData} (h : PE X e (tC w)) (r : ∀ H, Rp X.K H w d) : PE X e (Rd1 X.K tabs (cstR d)) :=
  ⟨fun pins s σ H Q I ⟨δ, O, ρ, st, v, st', S, W, e, c⟩ => by
    obtain ⟨rfl, rfl⟩ := pur_some e
    exact h.run pins s σ H Q I (c w H (Ext.refl _ _) W (r _))⟩
theorem ex_int {i j pos} : PE X (.Constant (.int i) j pos) (Rd1 X.K tabs (cstR (.int i))) := ex_cst pe_int fun _ => .int _
theorem ex_bl {i j pos} : PE X (.Constant (.bool i) j pos) (Rd1 X.K tabs (cstR (.bool i))) := ex_cst pe_bl fun _ => .bl _
theorem ex_non {j pos} : PE X (.Constant .none j pos) (Rd1 X.K tabs (cstR .none)) := ex_cst pe_non fun _ => .non
theorem ex_str {i j pos} : PE X (.Constant (.str i) j pos) (Rd1 X.K tabs (cstR (.str i))) := ex_cst pe_str fun _ => .str _
/-! ### operators by values -/
def OpS (X : Cx) (f : Value → Value → Sem Value) (g : PyData → PyData → Option PyData) : Prop :=
  ∀ (pins : List (Addr × Obj)) (s : Shared) (σ : L2.St) (H : Hp) (x y : V) (v u : Value) (tabs : Tb) (δ : Option Addr) (O : Addr → Prop) (st : Dr) (d e z : PyData) (Q : VK), Inv X pins σ H s → RelV x v → RelV y u →
    WOk X.K tabs δ O st H → TRp X.K δ O H x d → TRp X.K δ O H y e → g d e = some z → Cont X.K tabs δ O st H z Q → wpAny (model X.prog X.w) X.A (f v u) (EP X pins σ Q) X.xe s
def binR (g : PyData → PyData → Option PyData) (ma mb : Sem1) : Sem1 := fun ρ => do let x ← ma ρ; let y ← mb ρ; up (g x y)
theorem bin_run {f : Value → Value → Sem Value} {g : PyData → PyData → Option PyData} (ho : OpS X f g) {a b : Expr} {ma mb : Sem1} (ha : PE X a (RdT X.K tabs ma)) (hb : PE X b (RdT X.K tabs mb))
    {pins : List (Addr × Obj)} {s : Shared} {σ : L2.St} {H : Hp} {Q : VK} (I : Inv X pins σ H s) (h : Rd1 X.K tabs (binR g ma mb) σ H Q) :
    wpAny (model X.prog X.w) X.A (eval a X.env) (fun v s₁ => wpAny (model X.prog X.w) X.A (eval b X.env) (fun u s₂ => wpAny (model X.prog X.w) X.A (f v u) (EP X pins σ Q) X.xe s₂) X.xe s₁) X.xe s := by
  obtain ⟨δ, O, ρ, st, z, st', S, W, e, c⟩ := h
  obtain ⟨x, st1, e1, e⟩ := bnd_some e
  obtain ⟨y, st2, e2, e⟩ := bnd_some e
  obtain ⟨e3, rfl⟩ := up_some e
  refine thn (runT ha I S W e1) fun v s1 ⟨x', H1, I1, r1, E1, W1, R1⟩ => ?_
  refine thn (runT hb I1 (S.ext E1 W.dl) W1 e2) fun u s2 ⟨y', H2, I2, r2, E2, W2, R2⟩ => ?_
  exact ho pins s2 σ H2 x' y' v u tabs δ O _ x y z Q I2 r1 r2 W2 (R1.ext E2 W1) R2 e3 fun w H' E' W' R' => c w H' ((E1.trans E2).trans E') W' R'
theorem ex_bin {op : Operator} {g : PyData → PyData → Option PyData} (ho : OpS X (binaryOp op) g) {a b : Expr} {ma mb : Sem1} {pos : Pos} (ha : PE X a (RdT X.K tabs ma)) (hb : PE X b (RdT X.K tabs mb)) : PE X (.BinOp a op b pos) (Rd1 X.K tabs (binR g ma mb)) :=
  ⟨fun pins s σ H Q I h => wpAny_BinOp (bin_run ho ha hb I h)⟩
def addV : PyData → PyData → Option PyData
  | .int i, .int j => some (.int (i + j))
  | .list xs, .list ys => if xs.length + ys.length ≤ 1000000 then some (.list (xs ++ ys)) else none
  | .tuple xs, .tuple ys => if xs.length + ys.length ≤ 1000000 then some (.tuple (xs ++ ys)) else none
  | _, _ => none
theorem os_add : OpS X (binaryOp .Add) addV := by
  intro pins s σ H x y v u tabs δ O st d e z Q I rx ry W hx hy hz c
  unfold addV at hz
  split at hz
  · cases hz
    exact op_add pins s σ H x y v u Q I rx ry ⟨_, _, hx.int, hy.int, c.same W (.int _)⟩
  · split at hz
    · rename_i hb
      cases hz
      obtain ⟨a, vs, rfl, h1, h2⟩ := hx.lst
      obtain ⟨b, us, rfl, k1, k2⟩ := hy.lst
      refine op_cat pins s σ H _ _ v u Q I rx ry ⟨a, b, vs, us, rfl, rfl, h1, k1, ?_, c.lst W (h2.append k2)⟩
      rw [h2.length, k2.length]; exact line_le hb
    · cases hz
  · split at hz
    · rename_i hb
      cases hz
      obtain ⟨a, vs, rfl, h1, h2, h3⟩ := hx.tup
      obtain ⟨b, us, rfl, k1, k2, k3⟩ := hy.tup
      refine op_catA pins s σ H _ _ v u Q I rx ry ⟨a, b, vs, us, rfl, rfl, SqT.of h1, SqT.of k1, ?_, fun z => ?_, fun _ z => ?_, fun _ _ => c.tup W (h2.append k2)⟩
      · rw [h2.length, k2.length]; exact line_le hb
      · subst z
        cases h2
        exact c.same W k3
      · subst z
        cases k2
        rw [List.append_nil] at c
        exact c.same W h3
    · cases hz
  · cases hz
def intV (C : Int → Int → Bool) (g : Int → Int → Int) : PyData → PyData → Option PyData
  | .int i, .int j => if C i j then some (.int (g i j)) else none
  | _, _ => none
theorem os_int {op : Operator} {C : Int → Int → Bool} {P : Int → Int → Prop} {g : Int → Int → Int} (h : OpR X (binaryOp op) (rI P fun i j => .int (g i j))) (hp : ∀ i j, C i j = true → P i j) : OpS X (binaryOp op) (intV C g) := by
  intro pins s σ H x y v u tabs δ O st d e z Q I rx ry W hx hy hz c
  unfold intV at hz
  split at hz
  · split at hz
    · rename_i hc
      cases hz
      exact h pins s σ H x y v u Q I rx ry ⟨_, _, hx.int, hy.int, hp _ _ hc, c.same W (.int _)⟩
    · cases hz
  · cases hz
def subV := intV (fun _ _ => true) fun i j => i - j
def mulI := intV (fun i j => decide (i.natAbs.log2 + j.natAbs.log2 < 1000000)) fun i j => i * j
def modV := intV (fun _ j => decide (0 < j)) fun i j => i % j
def fdivV := intV (fun _ j => decide (0 < j ∧ j.natAbs.log2 < 9000)) fun i j => i / j
def powV := intV (fun i j => decide (0 ≤ j ∧ j ≤ 1000000 ∧ i.natAbs < 2 ^ 64)) fun i j => i ^ j.toNat
theorem os_sub : OpS X (binaryOp .Sub) subV := by
  intro pins s σ H x y v u tabs δ O st d e z Q I rx ry W hx hy hz c
  unfold subV intV at hz
  split at hz
  · cases hz
    exact op_sub pins s σ H x y v u Q I rx ry ⟨_, _, hx.int, hy.int, c.same W (.int _)⟩
  · cases hz
theorem os_mod : OpS X (binaryOp .Mod) modV := os_int op_mod fun _ _ h => of_decide_eq_true h
theorem os_fdiv : OpS X (binaryOp .FloorDiv) fdivV := os_int op_fdivW fun i j h => (of_decide_eq_true h : 0 < j ∧ j.natAbs.log2 < 9000)
theorem os_pow : OpS X (binaryOp .Pow) powV := os_int op_pow fun i j h => (of_decide_eq_true h : 0 ≤ j ∧ j ≤ 1000000 ∧ i.natAbs < 2 ^ 64)
def mulV : PyData → PyData → Option PyData
  | .list xs, .int k => if 0 ≤ k ∧ k ≤ 1000 ∧ xs.length ≤ 1000 then some (.list (List.replicate k.toNat xs).flatten) else none
  | d, e => mulI d e
theorem RpAll.rep {K : PySem.W.Frag} {H : Hp} {xs : List V} {ds : List PyData} (h : RpAll K H xs ds) : ∀ n, RpAll K H (List.replicate n xs).flatten (List.replicate n ds).flatten
  | 0 => .nil
  | n + 1 => by
    rw [List.replicate_succ, List.replicate_succ, List.flatten_cons, List.flatten_cons]
    exact h.append (RpAll.rep h n)
theorem os_mul : OpS X (binaryOp .Mult) mulV := by
  intro pins s σ H x y v u tabs δ O st d e z Q I rx ry W hx hy hz c
  unfold mulV at hz
  split at hz
  · split at hz
    · rename_i hb
      cases hz
      obtain ⟨a, vs, rfl, h1, h2⟩ := hx.lst
      refine op_rep pins s σ H _ _ v u Q I rx ry ⟨a, _, vs, rfl, hy.int, h1, by omega, by omega, ?_, c.lst W (h2.rep _)⟩
      rw [h2.length, sizeLine_eq]
      refine Nat.le_trans (Nat.mul_le_mul hb.2.2 (show _ ≤ 1000 by omega)) (by decide)
    · cases hz
  · exact os_int (C := fun i j => decide (i.natAbs.log2 + j.natAbs.log2 < 1000000)) op_mulW (fun i j h => (of_decide_eq_true h : i.natAbs.log2 + j.natAbs.log2 < 1000000)) pins s σ H x y v u tabs δ O st d e z Q I rx ry W hx hy hz c
end
end Fo
namespace Fo
open PySem PySem.Spec PyProof.Rows L2
def cmpI (op : CmpOp) (i j : Int) : Bool := match op with
  | .Lt => decide (i < j)
  | .LtE => decide (i ≤ j)
  | .Gt => decide (j < i)
  | .GtE => decide (j ≤ i)
  | _ => false
mutual
def cmpB (op : CmpOp) : PyData → PyData → Bool
  | .int i, .int j => cmpI op i j
  | .tuple ds, .tuple es => cmpL op ds es
  | _, _ => false
def cmpL (op : CmpOp) : List PyData → List PyData → Bool
  | [], es => cmpI op 0 (es.length : Nat)
  | d :: ds, [] => cmpI op ((d :: ds).length : Nat) 0
  | d :: ds, e :: es => if PyData.eqv d e = true then cmpL op ds es else cmpB op d e
end
mutual
def cmpOk : PyData → PyData → Bool
  | .int _, .int _ => true
  | .tuple ds, .tuple es => cmpOkL ds es
  | _, _ => false
def cmpOkL : List PyData → List PyData → Bool
  | d :: ds, e :: es => cmpOk d e && cmpOkL ds es
  | _, _ => true
end
def eF (ds es : List PyData) (j : Nat) : Bool := PyData.eqv (ds.getD j .none) (es.getD j .none)
def rF (op : CmpOp) (ds es : List PyData) (j : Nat) : Bool := cmpB op (ds.getD j .none) (es.getD j .none)
theorem lexAt_shift {e r : Nat → Bool} {z : Bool} : ∀ (k i : Nat), Ob.lexAt e r z (i + 1) k = Ob.lexAt (fun j => e (j + 1)) (fun j => r (j + 1)) z i k
  | 0, _ => rfl
  | k + 1, i => by
    rw [Ob.lexAt_succ, Ob.lexAt_succ, lexAt_shift k (i + 1)]
theorem cmpI_succ (op : CmpOp) (m n : Nat) : cmpI op ((m + 1 : Nat) : Int) ((n + 1 : Nat) : Int) = cmpI op (m : Int) (n : Int) := by
  cases op <;> simp only [cmpI] <;> simp <;> omega
theorem lexAt_cmp (op : CmpOp) : ∀ ds es : List PyData, Ob.lexAt (eF ds es) (rF op ds es) (cmpI op (ds.length : Nat) (es.length : Nat)) 0 (min ds.length es.length) = cmpL op ds es
  | [], es => by
    rw [show min ([] : List PyData).length es.length = 0 by simp, Ob.lexAt_zero]
    simp [cmpL]
  | d :: ds, [] => by
    rw [show min (d :: ds).length ([] : List PyData).length = 0 by simp, Ob.lexAt_zero]
    simp [cmpL]
  | d :: ds, e :: es => by
    rw [show min (d :: ds).length (e :: es).length = min ds.length es.length + 1 by simp only [List.length_cons]; omega, Ob.lexAt_succ, lexAt_shift]
    have ih := lexAt_cmp op ds es
    simp only [cmpL, List.length_cons, cmpI_succ]
    rw [← ih]
    rfl
theorem readsAll_len {h : Heap} : ∀ {vs : List Value} {ds : List PyData} {as : List Addr}, ReadsAll h vs ds as → vs.length = ds.length
  | _, _, _, .nil => rfl
  | _, _, _, .cons _ r => by rw [List.length_cons, List.length_cons, readsAll_len r]
mutual
theorem rc_D (op : CmpOp) (hop : op = .Lt ∨ op = .LtE ∨ op = .Gt ∨ op = .GtE) : ∀ (d e : PyData) (A : Around) (s : Shared) (u v : Value) (as bs : List Addr), Reads s.heap u d as → Reads s.heap v e bs → d.canLay0 = true → e.canLay0 = true → cmpOk d e = true →
    A.units + d.depth < cLine → Ob.RcOp op A s u v (cmpB op d e)
  | .int i, .int j, A, s, u, v, as, bs, hu, hv, _, _, _, _ => by
    cases hu
    cases hv
    rename_i t t'
    rcases hop with rfl | rfl | rfl | rfl
    · exact Ob.RcOp.lt_int i j t t'
    · exact Ob.RcOp.le_int i j t t'
    · exact Ob.RcOp.gt_int i j t t'
    · exact Ob.RcOp.ge_int i j t t'
  | .tuple ds, .tuple es, A, s, u, v, as, bs, hu, hv, cd, ce, ok, hr => by
    cases hu with
    | tuple a1 a2 a3 a4 =>
    rename_i l o vs n
    cases hv with
    | tuple b1 b2 b3 b4 =>
    rename_i b o' us n'
    simp only [PyData.canLay0] at cd ce
    simp only [cmpOk] at ok
    simp only [PyData.depth] at hr
    have key := rc_L op hop ds es A.in1 s vs.toList us.toList as bs a4 b4 cd ce ok (by show A.units + 1 + _ < _; omega)
    have l1 : vs.size = ds.length := by
      have := readsAll_len a4
      simpa using this
    have l2 : us.size = es.length := by
      have := readsAll_len b4
      simpa using this
    have hl : s.heap.IsTuple l vs := ⟨o, a1, a2, n, a3⟩
    have hb : s.heap.IsTuple b us := ⟨o', b1, b2, n', b3⟩
    have fin := lexAt_cmp op ds es
    have e1 : ∀ j (h1 : j < vs.size) (h2 : j < us.size), SeqAt.EqAt A.in1 s vs[j] us[j] (eF ds es j) := fun j h1 h2 => (key j (by simpa using h1) (by simpa using h2)).1
    have e2 : ∀ j (h1 : j < vs.size) (h2 : j < us.size), eF ds es j = false → Ob.RcOp op A.in1 s vs[j] us[j] (rF op ds es j) := fun j h1 h2 _ => (key j (by simpa using h1) (by simpa using h2)).2
    rcases hop with rfl | rfl | rfl | rfl
    · have q := Ob.RcOp.tuples_lt hl hb (by omega) e1 e2
      rw [l1, l2] at q
      simp only [cmpI] at fin
      simp only [cmpB]
      rw [← fin]
      simpa using q
    · have q := Ob.RcOp.tuples_le hl hb (by omega) e1 e2
      rw [l1, l2] at q
      simp only [cmpI] at fin
      simp only [cmpB]
      rw [← fin]
      simpa using q
    · have q := Ob.RcOp.tuples_gt hl hb (by omega) e1 e2
      rw [l1, l2] at q
      simp only [cmpI] at fin
      simp only [cmpB]
      rw [← fin]
      simpa using q
    · have q := Ob.RcOp.tuples_ge hl hb (by omega) e1 e2
      rw [l1, l2] at q
      simp only [cmpI] at fin
      simp only [cmpB]
      rw [← fin]
      simpa using q
  | .none, _, _, _, _, _, _, _, _, _, _, _, ok, _ => by simp [cmpOk] at ok
  | .bool _, _, _, _, _, _, _, _, _, _, _, _, ok, _ => by simp [cmpOk] at ok
  | .str _, _, _, _, _, _, _, _, _, _, _, _, ok, _ => by simp [cmpOk] at ok
  | .list _, _, _, _, _, _, _, _, _, _, _, _, ok, _ => by simp [cmpOk] at ok
  | .dict _, _, _, _, _, _, _, _, _, _, _, _, ok, _ => by simp [cmpOk] at ok
  | .int _, .none, _, _, _, _, _, _, _, _, _, _, ok, _ => by simp [cmpOk] at ok
  | .int _, .bool _, _, _, _, _, _, _, _, _, _, _, ok, _ => by simp [cmpOk] at ok
  | .int _, .str _, _, _, _, _, _, _, _, _, _, _, ok, _ => by simp [cmpOk] at ok
  | .int _, .list _, _, _, _, _, _, _, _, _, _, _, ok, _ => by simp [cmpOk] at ok
  | .int _, .dict _, _, _, _, _, _, _, _, _, _, _, ok, _ => by simp [cmpOk] at ok
  | .int _, .tuple _, _, _, _, _, _, _, _, _, _, _, ok, _ => by simp [cmpOk] at ok
  | .tuple _, .none, _, _, _, _, _, _, _, _, _, _, ok, _ => by simp [cmpOk] at ok
  | .tuple _, .bool _, _, _, _, _, _, _, _, _, _, _, ok, _ => by simp [cmpOk] at ok
  | .tuple _, .str _, _, _, _, _, _, _, _, _, _, _, ok, _ => by simp [cmpOk] at ok
  | .tuple _, .list _, _, _, _, _, _, _, _, _, _, _, ok, _ => by simp [cmpOk] at ok
  | .tuple _, .dict _, _, _, _, _, _, _, _, _, _, _, ok, _ => by simp [cmpOk] at ok
  | .tuple _, .int _, _, _, _, _, _, _, _, _, _, _, ok, _ => by simp [cmpOk] at ok
theorem rc_L (op : CmpOp) (hop : op = .Lt ∨ op = .LtE ∨ op = .Gt ∨ op = .GtE) : ∀ (ds es : List PyData) (A : Around) (s : Shared) (us vs : List Value) (as bs : List Addr), ReadsAll s.heap us ds as → ReadsAll s.heap vs es bs → PyData.canLayAll0 ds = true → PyData.canLayAll0 es = true → cmpOkL ds es = true →
    A.units + PyData.depthAll ds < cLine → ∀ j (h1 : j < us.length) (h2 : j < vs.length), SeqAt.EqAt A s us[j] vs[j] (eF ds es j) ∧ Ob.RcOp op A s us[j] vs[j] (rF op ds es j)
  | [], _, _, _, _, _, _, _, hu, _, _, _, _, _, j, h1, _ => by cases hu; simp at h1
  | _ :: _, [], _, _, _, _, _, _, _, hv, _, _, _, _, j, _, h2 => by cases hv; simp at h2
  | d :: ds, e :: es, A, s, _, _, _, _, hu, hv, cd, ce, ok, hr, j, h1, h2 => by
    cases hu with
    | cons q1 q2 =>
    cases hv with
    | cons r1 r2 =>
    simp only [PyData.canLayAll0, Bool.and_eq_true] at cd ce
    simp only [cmpOkL, Bool.and_eq_true] at ok
    simp only [PyData.depthAll] at hr
    cases j with
    | zero =>
      refine ⟨SeqAt.eqAt_reads d e A s _ _ _ _ q1 r1 cd.1 ce.1 ?_, rc_D op hop d e A s _ _ _ _ q1 r1 cd.1 ce.1 ok.1 ?_⟩
      · omega
      · omega
    | succ j =>
      exact rc_L op hop ds es A s _ _ _ _ q2 r2 cd.2 ce.2 ok.2 (by omega) j (by simpa using h1) (by simpa using h2)
end
section
variable {X : Cx} {tabs : Tb}
def eqV (d e : PyData) : Option PyData := if SeqAt.shaped d = true ∧ SeqAt.shaped e = true then some (.bool (PyData.eqv d e)) else none
def neV (d e : PyData) : Option PyData := if SeqAt.shaped d = true ∧ SeqAt.shaped e = true then some (.bool (!PyData.eqv d e)) else none
def cmpV (op : CmpOp) (d e : PyData) : Option PyData := if SeqAt.shaped d = true ∧ SeqAt.shaped e = true ∧ cmpOk d e = true then some (.bool (cmpB op d e)) else none
theorem os_eq (hu : X.A.units + 65 < cLine) : OpS X (compareOp .Eq) eqV := by
  intro pins s σ H x y v u tabs δ O st d e z Q I rx ry W hx hy hz c
  unfold eqV at hz
  split at hz
  · rename_i hb
    cases hz
    exact op_eqD (by omega) pins s σ H x y v u Q I rx ry ⟨d, e, hx.dp (SeqAt.canLay_of_shaped hb.1), hy.dp (SeqAt.canLay_of_shaped hb.2), hb.1, hb.2, c.same W (.bl _)⟩
  · cases hz
theorem os_ne (hu : X.A.units + 65 < cLine) : OpS X (compareOp .NotEq) neV := by
  intro pins s σ H x y v u tabs δ O st d e z Q I rx ry W hx hy hz c
  unfold neV at hz
  split at hz
  · rename_i hb
    cases hz
    exact op_neD (by omega) pins s σ H x y v u Q I rx ry ⟨d, e, hx.dp (SeqAt.canLay_of_shaped hb.1), hy.dp (SeqAt.canLay_of_shaped hb.2), hb.1, hb.2, c.same W (.bl _)⟩
  · cases hz
theorem compareOp_rich {op : CmpOp} (hop : op = .Lt ∨ op = .LtE ∨ op = .Gt ∨ op = .GtE) (v u : Value) : compareOp op v u = richCompare op v u := by
  rcases hop with rfl | rfl | rfl | rfl <;> rfl
theorem os_cmp (hu : X.A.units + 65 < cLine) {op : CmpOp} (hop : op = .Lt ∨ op = .LtE ∨ op = .Gt ∨ op = .GtE) : OpS X (compareOp op) (cmpV op) := by
  intro pins s σ H x y v u tabs δ O st d e z Q I rx ry W hx hy hz c
  unfold cmpV at hz
  split at hz
  · rename_i hb
    cases hz
    obtain ⟨as, r1⟩ := Dp.reads I d x v (hx.dp (SeqAt.canLay_of_shaped hb.1)) rx
    obtain ⟨bs, r2⟩ := Dp.reads I e y u (hy.dp (SeqAt.canLay_of_shaped hb.2.1)) ry
    rw [compareOp_rich hop]
    have hd := SeqAt.depth_of_shaped hb.1
    exact rc_D op hop d e X.A s v u as bs r1 r2 (SeqAt.canLay_of_shaped hb.1) (SeqAt.canLay_of_shaped hb.2.1) hb.2.2 (by omega) X.prog X.w X.xe _ ⟨.bl _, H, I, rfl, c.same W (.bl _)⟩
  · cases hz
end
end Fo
namespace Fo
open PySem PySem.Spec PyProof.Rows L2
theorem PE.imp {X : Cx} {e : Expr} {t t' : TE} (h : PE X e t) (i : ∀ σ H Q, t' σ H Q → t σ H Q) : PE X e t' := ⟨fun pins s σ H Q I q => h.run pins s σ H Q I (i σ H Q q)⟩
theorem PT.imp {X : Cx} {e : Expr} {t t' : TT} (h : PT X e t) (i : ∀ σ H Q, t' σ H Q → t σ H Q) : PT X e t' := ⟨fun pins s σ H Q I q => h.run pins s σ H Q I (i σ H Q q)⟩
theorem PA.imp {X : Cx} {e : List Expr} {t t' : TA} (h : PA X e t) (i : ∀ σ H Q, t' σ H Q → t σ H Q) : PA X e t' := ⟨fun pos pins s σ H Q I q => h.run pos pins s σ H Q I (i σ H Q q)⟩
section
variable {X : Cx} {tabs : Tb}
/-! ### operators as rules -/
def rS (K : PySem.W.Frag) (g : PyData → PyData → Option PyData) : R2 := fun x y H Q => ∃ tabs δ O st d e z, WOk K tabs δ O st H ∧ TRp K δ O H x d ∧ TRp K δ O H y e ∧ g d e = some z ∧ Cont K tabs δ O st H z Q
theorem OpS.r {f : Value → Value → Sem Value} {g : PyData → PyData → Option PyData} (h : OpS X f g) : OpR X f (rS X.K g) := by
  intro pins s σ H x y v u Q I rx ry ⟨tabs, δ, O, st, d, e, z, W, hx, hy, hz, c⟩
  exact h pins s σ H x y v u tabs δ O st d e z Q I rx ry W hx hy hz c
theorem bin_to {K : PySem.W.Frag} {g : PyData → PyData → Option PyData} {ma mb : Sem1} {σ : L2.St} {H : Hp} {Q : VK} (h : Rd1 K tabs (binR g ma mb) σ H Q) : tOp (rS K g) (RdT K tabs ma) (RdT K tabs mb) σ H Q := by
  obtain ⟨δ, O, ρ, st, z, st', S, W, e, c⟩ := h
  obtain ⟨x, st1, e1, e⟩ := bnd_some e
  obtain ⟨y, st2, e2, e⟩ := bnd_some e
  obtain ⟨e3, rfl⟩ := up_some e
  refine ⟨δ, O, ρ, st, x, st1, S, W, e1, fun w H1 E1 W1 R1 => ?_⟩
  refine ⟨δ, O, ρ, st1, y, _, S.ext E1 W.dl, W1, e2, fun w2 H2 E2 W2 R2 => ?_⟩
  exact ⟨tabs, δ, O, _, x, y, z, W2, R1.ext E2 W1, R2, e3, fun w H' E' W' R' => c w H' ((E1.trans E2).trans E') W' R'⟩
/-- truth -/
def truV : PyData → Option Bool
  | .none => some false
  | .bool b => some b
  | .int i => some (i != 0)
  | .list xs => some (!xs.isEmpty)
  | .tuple xs => some (!xs.isEmpty)
  | _ => none
def tstR (m : Sem1) : SemB := fun ρ => do let v ← m ρ; up (truV v)
def BoolM (m : Sem1) : Prop := ∀ ρ st v st', m ρ st = some (v, st') → ∃ b, v = .bool b
theorem tst_to {m : Sem1} (hb : BoolM m) {K : PySem.W.Frag} {σ : L2.St} {H : Hp} {Q : Bool → Hp → Prop} (h : RdB K tabs (tstR m) σ H Q) : Rd1 K tabs m σ H fun x H' => ∃ k, x = .bl k ∧ Q k H' := by
  obtain ⟨δ, O, ρ, st, z, st', S, W, e, c⟩ := h
  obtain ⟨x, st1, e1, e⟩ := bnd_some e
  obtain ⟨b, rfl⟩ := hb _ _ _ _ e1
  obtain ⟨e2, rfl⟩ := up_some e
  cases e2
  refine ⟨δ, O, ρ, st, _, _, S, W, e1, fun w H1 E1 W1 R1 => ?_⟩
  cases R1
  exact ⟨_, rfl, c H1 E1 W1⟩
theorem tru_of {K : PySem.W.Frag} {δ : Option Addr} {O : Addr → Prop} {H : Hp} {w : V} {d : PyData} {b : Bool} (r : TRp K δ O H w d) (h : truV d = some b) : TruV K w H b := by
  cases d with
  | none => cases h; rw [r.non]; rfl
  | bool b => cases h; rw [r.bl]; rfl
  | int i => cases h; rw [r.int]; rfl
  | list xs =>
    cases h
    obtain ⟨a, vs, rfl, h1, h2⟩ := r.lst
    exact .inl ⟨vs, SqL.of h1, by cases h2 <;> rfl⟩
  | tuple xs =>
    cases h
    obtain ⟨a, vs, rfl, h1, h2, _⟩ := r.tup
    exact .inr (.inl ⟨vs, SqT.of h1, by cases h2 <;> rfl⟩)
  | _ => cases h
theorem et_tru {a : Expr} {m : Sem1} (ha : PE X a (RdT X.K tabs m)) (he : ∀ whole, isTrue a X.env whole = (do let v ← whole; standAt a.pos; holding [v] (truthy v))) : PT X a (RdB X.K tabs (tstR m)) :=
  PT.imp (pt_truth ha he) fun σ H Q h => by
    obtain ⟨δ, O, ρ, st, z, st', S, W, e, c⟩ := h
    obtain ⟨x, st1, e1, e⟩ := bnd_some e
    obtain ⟨e2, rfl⟩ := up_some e
    exact ⟨δ, O, ρ, st, x, _, S, W, e1, fun w H1 E1 W1 R1 => ⟨z, tru_of R1 e2, c H1 E1 W1⟩⟩
/-! ### comparisons -/
def BoolV (g : PyData → PyData → Option PyData) : Prop := ∀ d e z, g d e = some z → ∃ b, z = .bool b
theorem boolM_bin {g : PyData → PyData → Option PyData} (hg : BoolV g) {ma mb : Sem1} : BoolM (binR g ma mb) := fun ρ st v st' h => by
  obtain ⟨x, st1, e1, e⟩ := bnd_some h
  obtain ⟨y, st2, e2, e⟩ := bnd_some e
  exact hg _ _ _ (up_some e).1
theorem ex_cmp {op : CmpOp} {g : PyData → PyData → Option PyData} (ho : OpS X (compareOp op) g) {a b : Expr} {ma mb : Sem1} {pos : Pos} (ha : PE X a (RdT X.K tabs ma)) (hb : PE X b (RdT X.K tabs mb)) (hm : behindInMarks op b = false) :
    PE X (.Compare a [op] [b] pos) (Rd1 X.K tabs (binR g ma mb)) := PE.imp (pe_cmpR ho.r ha hb hm) fun σ H Q h => bin_to h
theorem et_cmp {op : CmpOp} {g : PyData → PyData → Option PyData} (ho : OpS X (compareOp op) g) (hg : BoolV g) {a b : Expr} {ma mb : Sem1} {pos : Pos} (ha : PE X a (RdT X.K tabs ma)) (hb : PE X b (RdT X.K tabs mb)) (hm : behindInMarks op b = false) :
    PT X (.Compare a [op] [b] pos) (RdB X.K tabs (tstR (binR g ma mb))) := PT.imp (pt_cmpR ho.r ha hb hm) fun σ H Q h => bin_to (tst_to (boolM_bin hg) h)
def thenB (z : PyData) (m : M PyData) : M PyData := match z with
  | .bool true => m
  | .bool false => pure (.bool false)
  | _ => up none
def chnR (g g' : PyData → PyData → Option PyData) (ma mb mc : Sem1) : Sem1 := fun ρ => do
  let x ← ma ρ
  let y ← mb ρ
  let z ← up (g x y)
  thenB z (do let w ← mc ρ; up (g' y w))
theorem boolM_chn {g g' : PyData → PyData → Option PyData} (hg : BoolV g') {ma mb mc : Sem1} : BoolM (chnR g g' ma mb mc) := fun ρ st v st' h => by
  obtain ⟨x, st1, e1, e⟩ := bnd_some h
  obtain ⟨y, st2, e2, e⟩ := bnd_some e
  obtain ⟨z, st3, e3, e⟩ := bnd_some e
  unfold thenB at e
  split at e
  · obtain ⟨w, st4, e4, e⟩ := bnd_some e
    exact hg _ _ _ (up_some e).1
  · exact ⟨false, (pur_some e).1.symm⟩
  · cases (up_some e).1
theorem chn_to {K : PySem.W.Frag} {g g' : PyData → PyData → Option PyData} {ma mb mc : Sem1} {σ : L2.St} {H : Hp} {Q : VK} (h : Rd1 K tabs (chnR g g' ma mb mc) σ H Q) : tChain (rS K g) (rS K g') (RdT K tabs ma) (RdT K tabs mb) (RdT K tabs mc) σ H Q := by
  obtain ⟨δ, O, ρ, st, z, st', S, W, e, c⟩ := h
  obtain ⟨x, st1, e1, f1⟩ := bnd_some e
  obtain ⟨y, st2, e2, f2⟩ := bnd_some f1
  obtain ⟨t, st3, e3, f3⟩ := bnd_some f2
  obtain ⟨g3, rfl⟩ := up_some e3
  refine ⟨δ, O, ρ, st, x, st1, S, W, e1, fun w H1 E1 W1 R1 => ?_⟩
  refine ⟨δ, O, ρ, st1, y, _, S.ext E1 W.dl, W1, e2, fun w2 H2 E2 W2 R2 => ?_⟩
  refine ⟨tabs, δ, O, _, x, y, t, W2, R1.ext E2 W1, R2, g3, fun w H3 E3 W3 R3 => ?_⟩
  unfold thenB at f3
  split at f3
  · cases R3
    refine ⟨true, rfl, iteT ?_⟩
    obtain ⟨u, st4, e4, f4⟩ := bnd_some f3
    obtain ⟨e5, rfl⟩ := up_some f4
    refine ⟨δ, O, ρ, _, u, _, ((S.ext E1 W.dl).ext E2 W1.dl).ext E3 W2.dl, W3, e4, fun w3 H4 E4 W4 R4 => ?_⟩
    exact ⟨tabs, δ, O, _, y, u, z, W4, (R2.ext E3 W2).ext E4 W3, R4, e5, fun w H' E' W' R' => c w H' ((((E1.trans E2).trans E3).trans E4).trans E') W' R'⟩
  · cases R3
    obtain ⟨rfl, rfl⟩ := pur_some f3
    exact ⟨false, rfl, iteF (c _ _ ((E1.trans E2).trans E3) W3 (.bl _))⟩
  · cases (up_some f3).1
theorem ex_chain {op op' : CmpOp} {g g' : PyData → PyData → Option PyData} (ho : OpS X (compareOp op) g) (ho' : OpS X (compareOp op') g') {a b d : Expr} {ma mb md : Sem1} {pos : Pos} (ha : PE X a (RdT X.K tabs ma)) (hb : PE X b (RdT X.K tabs mb)) (hd : PE X d (RdT X.K tabs md))
    (hm : lastMarks [op, op'] [b, d] = false) : PE X (.Compare a [op, op'] [b, d] pos) (Rd1 X.K tabs (chnR g g' ma mb md)) := PE.imp (pe_chain ho.r ho'.r ha hb hd hm) fun σ H Q h => chn_to h
theorem et_chain {op op' : CmpOp} {g g' : PyData → PyData → Option PyData} (ho : OpS X (compareOp op) g) (ho' : OpS X (compareOp op') g') (hg : BoolV g') {a b d : Expr} {ma mb md : Sem1} {pos : Pos} (ha : PE X a (RdT X.K tabs ma)) (hb : PE X b (RdT X.K tabs mb)) (hd : PE X d (RdT X.K tabs md))
    (hm : lastMarks [op, op'] [b, d] = false) : PT X (.Compare a [op, op'] [b, d] pos) (RdB X.K tabs (tstR (chnR g g' ma mb md))) := PT.imp (pt_chain ho.r ho'.r ha hb hd hm) fun σ H Q h => chn_to (tst_to (boolM_chn hg) h)
/-! ### and, or, not, if -/
def andR (ma mb : Sem1) : Sem1 := fun ρ => do let x ← ma ρ; thenB x (mb ρ)
def elseB (z : PyData) (m : M PyData) : M PyData := match z with
  | .bool true => pure (.bool true)
  | .bool false => m
  | _ => up none
def orR (ma mb : Sem1) : Sem1 := fun ρ => do let x ← ma ρ; elseB x (mb ρ)
theorem ex_and {a b : Expr} {rest : List Expr} {pos : Pos} {ma mb : Sem1} (ha : PE X a (Rd1 X.K tabs ma)) (hb : PE X (.BoolOp .And (b :: rest) pos) (Rd1 X.K tabs mb)) : PE X (.BoolOp .And (a :: b :: rest) pos) (Rd1 X.K tabs (andR ma mb)) :=
  PE.imp (pe_and ha hb) fun σ H Q h => by
    obtain ⟨δ, O, ρ, st, z, st', S, W, e, c⟩ := h
    obtain ⟨x, st1, e1, e⟩ := bnd_some e
    refine ⟨δ, O, ρ, st, x, st1, S, W, e1, fun w H1 E1 W1 R1 => ?_⟩
    unfold thenB at e
    split at e
    · cases R1
      exact ⟨true, rfl, iteT ⟨δ, O, ρ, _, _, _, S.ext E1 W.dl, W1, e, fun w H' E' W' R' => c w H' (E1.trans E') W' R'⟩⟩
    · cases R1
      obtain ⟨rfl, rfl⟩ := pur_some e
      exact ⟨false, rfl, iteF (c _ _ E1 W1 (.bl _))⟩
    · cases (up_some e).1
theorem ex_or {a b : Expr} {rest : List Expr} {pos : Pos} {ma mb : Sem1} (ha : PE X a (Rd1 X.K tabs ma)) (hb : PE X (.BoolOp .Or (b :: rest) pos) (Rd1 X.K tabs mb)) : PE X (.BoolOp .Or (a :: b :: rest) pos) (Rd1 X.K tabs (orR ma mb)) :=
  PE.imp (pe_or ha hb) fun σ H Q h => by
    obtain ⟨δ, O, ρ, st, z, st', S, W, e, c⟩ := h
    obtain ⟨x, st1, e1, e⟩ := bnd_some e
    refine ⟨δ, O, ρ, st, x, st1, S, W, e1, fun w H1 E1 W1 R1 => ?_⟩
    unfold elseB at e
    split at e
    · cases R1
      obtain ⟨rfl, rfl⟩ := pur_some e
      exact ⟨true, rfl, iteT (c _ _ E1 W1 (.bl _))⟩
    · cases R1
      exact ⟨false, rfl, iteF ⟨δ, O, ρ, _, _, _, S.ext E1 W.dl, W1, e, fun w H' E' W' R' => c w H' (E1.trans E') W' R'⟩⟩
    · cases (up_some e).1
def notV : PyData → Option PyData
  | .bool b => some (.bool (!b))
  | _ => none
def notR (ma : Sem1) : Sem1 := fun ρ => do let x ← ma ρ; up (notV x)
theorem ex_not {a : Expr} {pos : Pos} {ma : Sem1} (ha : PE X a (Rd1 X.K tabs ma)) : PE X (.UnaryOp .Not a pos) (Rd1 X.K tabs (notR ma)) :=
  PE.imp (pe_not ha) fun σ H Q h => by
    obtain ⟨δ, O, ρ, st, z, st', S, W, e, c⟩ := h
    obtain ⟨x, st1, e1, e⟩ := bnd_some e
    obtain ⟨e2, rfl⟩ := up_some e
    refine ⟨δ, O, ρ, st, x, _, S, W, e1, fun w H1 E1 W1 R1 => ?_⟩
    unfold notV at e2
    split at e2
    · cases R1
      cases e2
      exact ⟨_, rfl, c _ _ E1 W1 (.bl _)⟩
    · cases e2
def andB (ba bb : SemB) : SemB := fun ρ => do let x ← ba ρ; if x = true then bb ρ else pure false
def orB (ba bb : SemB) : SemB := fun ρ => do let x ← ba ρ; if x = true then pure true else bb ρ
def notB (ba : SemB) : SemB := fun ρ => do let x ← ba ρ; pure (!x)
theorem PW.imp {e : Expr} {t t' : TT} (h : PW X e t) (i : ∀ σ H Q, t' σ H Q → t σ H Q) : PW X e t' := ⟨fun wh pins s σ H Q I q => h.run wh pins s σ H Q I (i σ H Q q)⟩
theorem ew_and {a b : Expr} {rest : List Expr} {pos : Pos} {ma mb : SemB} (ha : PT X a (RdB X.K tabs ma)) (hb : PW X (.BoolOp .And (b :: rest) pos) (RdB X.K tabs mb)) : PW X (.BoolOp .And (a :: b :: rest) pos) (RdB X.K tabs (andB ma mb)) :=
  PW.imp (pw_and ha hb) fun σ H Q h => by
    obtain ⟨δ, O, ρ, st, z, st', S, W, e, c⟩ := h
    obtain ⟨x, st1, e1, e⟩ := bnd_some e
    refine ⟨δ, O, ρ, st, x, st1, S, W, e1, fun H1 E1 W1 => ?_⟩
    cases x with
    | true => exact iteT ⟨δ, O, ρ, _, _, _, S.ext E1 W.dl, W1, (by simpa using e), fun H' E' W' => c H' (E1.trans E') W'⟩
    | false =>
      obtain ⟨rfl, rfl⟩ := pur_some (show (pure false : M Bool) st1 = _ by simpa using e)
      exact iteF (c _ E1 W1)
theorem ew_or {a b : Expr} {rest : List Expr} {pos : Pos} {ma mb : SemB} (ha : PT X a (RdB X.K tabs ma)) (hb : PW X (.BoolOp .Or (b :: rest) pos) (RdB X.K tabs mb)) : PW X (.BoolOp .Or (a :: b :: rest) pos) (RdB X.K tabs (orB ma mb)) :=
  PW.imp (pw_or ha hb) fun σ H Q h => by
    obtain ⟨δ, O, ρ, st, z, st', S, W, e, c⟩ := h
    obtain ⟨x, st1, e1, e⟩ := bnd_some e
    refine ⟨δ, O, ρ, st, x, st1, S, W, e1, fun H1 E1 W1 => ?_⟩
    cases x with
    | false => exact iteF ⟨δ, O, ρ, _, _, _, S.ext E1 W.dl, W1, (by simpa using e), fun H' E' W' => c H' (E1.trans E') W'⟩
    | true =>
      obtain ⟨rfl, rfl⟩ := pur_some (show (pure true : M Bool) st1 = _ by simpa using e)
      exact iteT (c _ E1 W1)
theorem et_not {a : Expr} {pos : Pos} {ma : SemB} (ha : PT X a (RdB X.K tabs ma)) : PT X (.UnaryOp .Not a pos) (RdB X.K tabs (notB ma)) :=
  PT.imp (pt_not ha) fun σ H Q h => by
    obtain ⟨δ, O, ρ, st, z, st', S, W, e, c⟩ := h
    obtain ⟨x, st1, e1, e⟩ := bnd_some e
    obtain ⟨rfl, rfl⟩ := pur_some e
    exact ⟨δ, O, ρ, st, x, _, S, W, e1, fun H1 E1 W1 => c H1 E1 W1⟩
def iteR (bc : SemB) (ma mb : Sem1) : Sem1 := fun ρ => do let x ← bc ρ; if x = true then ma ρ else mb ρ
theorem ex_ite {t a b : Expr} {pos : Pos} {bc : SemB} {ma mb : Sem1} (ht : PT X t (RdB X.K tabs bc)) (ha : PE X a (Rd1 X.K tabs ma)) (hb : PE X b (Rd1 X.K tabs mb)) : PE X (.IfExp t a b pos) (Rd1 X.K tabs (iteR bc ma mb)) :=
  PE.imp (pe_ifExp ht ha hb) fun σ H Q h => by
    obtain ⟨δ, O, ρ, st, z, st', S, W, e, c⟩ := h
    obtain ⟨x, st1, e1, e⟩ := bnd_some e
    refine ⟨δ, O, ρ, st, x, st1, S, W, e1, fun H1 E1 W1 => ?_⟩
    cases x with
    | true => exact iteT ⟨δ, O, ρ, _, _, _, S.ext E1 W.dl, W1, (by simpa using e), fun w H' E' W' R' => c w H' (E1.trans E') W' R'⟩
    | false => exact iteF ⟨δ, O, ρ, _, _, _, S.ext E1 W.dl, W1, (by simpa using e), fun w H' E' W' R' => c w H' (E1.trans E') W' R'⟩
end
end Fo
namespace Fo
open PySem PySem.Spec PyProof.Rows L2
section
variable {X : Cx} {tabs : Tb}
def memD (d : PyData) (ds : List PyData) : Bool := ds.any fun z => PyData.eqv z d
def inV (neg : Bool) (d : PyData) : PyData → Option PyData
  | .list ds => if SeqAt.shaped d = true ∧ SeqAt.shaped (.list ds) = true then some (.bool (if neg then !memD d ds else memD d ds)) else none
  | .tuple ds => if SeqAt.shaped d = true ∧ SeqAt.shaped (.tuple ds) = true then some (.bool (if neg then !memD d ds else memD d ds)) else none
  | _ => none
theorem os_in (hu : X.A.units + 65 < cLine) (neg : Bool) : OpS X (compareOp (if neg then .NotIn else .In)) (inV neg) := by
  intro pins s σ H x y v u tabs δ O st d e z Q I rx ry W hx hy hz c
  unfold inV at hz
  split at hz
  all_goals
    first
    | (split at hz
       · rename_i hb
         cases hz
         obtain ⟨as, r1⟩ := Dp.reads I d x v (hx.dp (SeqAt.canLay_of_shaped hb.1)) rx
         obtain ⟨bs, r2⟩ := Dp.reads I _ y u (hy.dp (SeqAt.canLay_of_shaped hb.2)) ry
         have c2 := SeqAt.canLay_of_shaped hb.2
         simp only [PyData.canLay0] at c2
         cases neg with
         | false =>
           first
           | exact SeqAt.in_list_reads r2 r1 c2 (SeqAt.canLay_of_shaped hb.1) (room_in_shaped hb.1 hu) ⟨.bl _, H, I, rfl, c.same W (.bl _)⟩
           | exact SeqAt.in_tuple_reads r2 r1 c2 (SeqAt.canLay_of_shaped hb.1) (room_in_shaped hb.1 hu) ⟨.bl _, H, I, rfl, c.same W (.bl _)⟩
         | true =>
           first
           | exact SeqAt.notIn_list_reads r2 r1 c2 (SeqAt.canLay_of_shaped hb.1) (room_in_shaped hb.1 hu) ⟨.bl _, H, I, rfl, c.same W (.bl _)⟩
           | exact SeqAt.notIn_tuple_reads r2 r1 c2 (SeqAt.canLay_of_shaped hb.1) (room_in_shaped hb.1 hu) ⟨.bl _, H, I, rfl, c.same W (.bl _)⟩
       · cases hz)
    | cases hz
def isNon : PyData → Bool
  | .none => true
  | _ => false
/-- x is None, x is True .. -/
def isV (neg : Bool) (d : PyData) : PyData → Option PyData
  | .none => some (.bool (if neg then !isNon d else isNon d))
  | .bool b => match d with
    | .bool a => some (.bool (if neg then !decide (a = b) else decide (a = b)))
    | _ => none
  | _ => none
theorem is_non {K : PySem.W.Frag} {δ : Option Addr} {O : Addr → Prop} {H : Hp} {w : V} {d : PyData} (r : TRp K δ O H w d) : decide (w = .non) = isNon d := by
  cases d with
  | none => rw [r.non]; rfl
  | bool b => rw [r.bl]; rfl
  | int i => rw [r.int]; rfl
  | str x => rw [r.str]; rfl
  | list xs => obtain ⟨a, vs, rfl, _⟩ := r.lst; rfl
  | tuple xs => obtain ⟨a, vs, rfl, _⟩ := r.tup; rfl
  | dict kvs =>
    rcases r with r | r
    · cases r <;> rfl
    · obtain ⟨a, rfl, _⟩ := r; rfl
theorem os_is (neg : Bool) : OpS X (compareOp (if neg then .IsNot else .Is)) (isV neg) := by
  intro pins s σ H x y v u tabs δ O st d e z Q I rx ry W hx hy hz c
  unfold isV at hz
  split at hz
  · cases hz
    have e := is_non hx
    cases neg with
    | false => exact op_isN pins s σ H x y v u Q I rx ry ⟨hy.non, by rw [e]; exact c.same W (.bl _)⟩
    | true => exact op_notN pins s σ H x y v u Q I rx ry ⟨hy.non, by rw [e]; exact c.same W (.bl _)⟩
  · split at hz
    · cases hz
      cases neg with
      | false => exact op_isBl pins s σ H x y v u Q I rx ry ⟨_, _, hx.bl, hy.bl, c.same W (.bl _)⟩
      | true => exact op_notBl pins s σ H x y v u Q I rx ry ⟨_, _, hx.bl, hy.bl, c.same W (.bl _)⟩
    · cases hz
  · cases hz
/-! ### items, slices -/
def getV : PyData → PyData → Option PyData
  | .list ds, .int i => atI ds i
  | .tuple ds, .int i => atI ds i
  | _, _ => none
theorem atI_map {K : PySem.W.Frag} {H : Hp} {xs : List V} {ds : List PyData} {i : Int} {d : PyData} (r : RpAll K H xs ds) (h : atI ds i = some d) : ∃ v, atI xs i = some v ∧ Rp K H v d := by
  unfold atI at h ⊢
  rw [r.length]
  cases e : ixN ds.length i with
  | none => rw [e] at h; cases h
  | some j =>
    rw [e] at h
    obtain ⟨v, h1, h2⟩ := r.get (show ds[j]? = some d from h)
    exact ⟨v, h1, h2⟩
theorem ex_ix {a b : Expr} {ma mb : Sem1} {pos : Pos} (ha : PE X a (RdT X.K tabs ma)) (hb : PE X b (RdT X.K tabs mb)) (hs : PlainIx b) : PE X (.Subscript a b pos) (Rd1 X.K tabs (binR getV ma mb)) :=
  PE.imp (pe_ix (IxR.or ix_list ix_tup) ha hb hs) fun σ H Q h => by
    obtain ⟨δ, O, ρ, st, z, st', S, W, e, c⟩ := h
    obtain ⟨x, st1, e1, f1⟩ := bnd_some e
    obtain ⟨y, st2, e2, f2⟩ := bnd_some f1
    obtain ⟨g3, rfl⟩ := up_some f2
    refine ⟨δ, O, ρ, st, x, st1, S, W, e1, fun w H1 E1 W1 R1 => ?_⟩
    refine ⟨δ, O, ρ, st1, y, _, S.ext E1 W.dl, W1, e2, fun w2 H2 E2 W2 R2 => ?_⟩
    have R1' := R1.ext E2 W1
    unfold getV at g3
    split at g3
    · obtain ⟨p, vs, rfl, h1, h2⟩ := R1'.lst
      obtain ⟨v, k1, k2⟩ := atI_map h2 g3
      exact .inl ⟨p, vs, _, v, rfl, R2.int, SqL.of h1, k1, c v H2 (E1.trans E2) W2 k2⟩
    · obtain ⟨p, vs, rfl, h1, h2, _⟩ := R1'.tup
      obtain ⟨v, k1, k2⟩ := atI_map h2 g3
      exact .inr ⟨p, vs, _, v, rfl, R2.int, SqT.of h1, k1, c v H2 (E1.trans E2) W2 k2⟩
    · cases g3
abbrev SemO := Rho → M (Option Int)
def RdO (K : PySem.W.Frag) (tabs : Tb) (m : SemO) : TO := fun σ H Q => ∃ δ O ρ st v st', Slots K δ O ρ σ H ∧ WOk K tabs δ O st H ∧ m ρ st = some (v, st') ∧ ∀ H', Ext δ H H' → WOk K tabs δ O st' H' → Q v H'
theorem PO.imp {o : Option Expr} {t t' : TO} (h : PO X o t) (i : ∀ σ H Q, t' σ H Q → t σ H Q) : PO X o t' := ⟨fun pins s σ H Q I q => h.run pins s σ H Q I (i σ H Q q)⟩
def noO : SemO := fun _ => pure none
def intO : PyData → Option (Option Int)
  | .int i => some (some i)
  | _ => none
def someO (m : Sem1) : SemO := fun ρ => do let v ← m ρ; up (intO v)
theorem eo_none : PO X none (RdO X.K tabs noO) := PO.imp po_none fun σ H Q h => by
  obtain ⟨δ, O, ρ, st, z, st', S, W, e, c⟩ := h
  obtain ⟨rfl, rfl⟩ := pur_some e
  exact c H (Ext.refl _ _) W
theorem eo_some {e : Expr} {m : Sem1} (h : PE X e (RdT X.K tabs m)) : PO X (some e) (RdO X.K tabs (someO m)) := PO.imp (po_some h) fun σ H Q h => by
  obtain ⟨δ, O, ρ, st, z, st', S, W, e, c⟩ := h
  obtain ⟨x, st1, e1, f1⟩ := bnd_some e
  obtain ⟨g, rfl⟩ := up_some f1
  refine ⟨δ, O, ρ, st, x, _, S, W, e1, fun w H1 E1 W1 R1 => ?_⟩
  unfold intO at g
  split at g
  · cases g
    exact ⟨_, R1.int, c H1 E1 W1⟩
  · cases g
def cutD (ds : List PyData) (lo hi : Option Int) : List PyData := (ds.drop (HT.sIx ds.length 0 lo)).take (HT.sIx ds.length ds.length hi - HT.sIx ds.length 0 lo)
theorem cut_map {K : PySem.W.Frag} {H : Hp} {xs : List V} {ds : List PyData} {lo hi : Option Int} (r : RpAll K H xs ds) : RpAll K H (cutV xs lo hi) (cutD ds lo hi) := by
  unfold cutV cutD
  rw [r.length]
  exact (r.drop _).take _
def slcV (d : PyData) (lo hi : Option Int) : Option PyData := match d with
  | .list ds => some (.list (cutD ds lo hi))
  | .tuple ds => some (.tuple (cutD ds lo hi))
  | _ => none
def slcR (m : Sem1) (ml mh : SemO) : Sem1 := fun ρ => do let x ← m ρ; let l ← ml ρ; let h ← mh ρ; up (slcV x l h)
theorem ex_slc {e : Expr} {lo hi : Option Expr} {p2 pos : Pos} {m : Sem1} {ml mh : SemO} (he : PE X e (RdT X.K tabs m)) (hl : PO X lo (RdO X.K tabs ml)) (hh : PO X hi (RdO X.K tabs mh)) :
    PE X (.Subscript e (.Slice lo hi none p2) pos) (Rd1 X.K tabs (slcR m ml mh)) :=
  PE.imp (pe_slice (SlR.or sl_list sl_tupA) he hl hh) fun σ H Q h => by
    obtain ⟨δ, O, ρ, st, z, st', S, W, e, c⟩ := h
    obtain ⟨x, st1, e1, f1⟩ := bnd_some e
    obtain ⟨l, st2, e2, f2⟩ := bnd_some f1
    obtain ⟨u, st3, e3, f3⟩ := bnd_some f2
    obtain ⟨g3, rfl⟩ := up_some f3
    refine ⟨δ, O, ρ, st, x, st1, S, W, e1, fun w H1 E1 W1 R1 => ?_⟩
    refine ⟨δ, O, ρ, st1, l, st2, S.ext E1 W.dl, W1, e2, fun H2 E2 W2 => ?_⟩
    refine ⟨δ, O, ρ, st2, u, _, (S.ext E1 W.dl).ext E2 W1.dl, W2, e3, fun H3 E3 W3 => ?_⟩
    have R1' := (R1.ext E2 W1).ext E3 W2
    have c' : Cont X.K tabs δ O st' H3 z Q := fun w H' E' W' R' => c w H' (((E1.trans E2).trans E3).trans E') W' R'
    unfold slcV at g3
    split at g3
    · cases g3
      obtain ⟨p, vs, rfl, h1, h2⟩ := R1'.lst
      exact .inl ⟨p, vs, rfl, SqL.of h1, c'.lst W3 (cut_map h2)⟩
    · cases g3
      obtain ⟨p, vs, rfl, h1, h2, h3⟩ := R1'.tup
      refine .inr ⟨p, vs, rfl, SqT.of h1, fun hw => ?_, fun _ => c'.tup W3 (cut_map h2)⟩
      refine c'.same W3 ?_
      rename_i ds
      have e : cutD ds l u = ds := by
        unfold cutD
        rw [← h2.length, hw.1, hw.2]
        simp [h2.length]
      rw [e]
      exact h3
    · cases g3
end
end Fo
namespace HT
open PySem PySem.Spec PyProof.Rows
section
variable {prog : Program} {w : World} {A : Around} {E : Value → Shared → Prop} {s : Shared}
theorem rev_applied {sl : Addr} {t : Tok} {n : Nat} {Q : Int × Int × Nat → Shared → Prop} (hs : s.heap.IsSliceOf sl .none .none (.int (-1) t))
    (h : Q ((n : Int) - 1, -1, n) s) : wpAny (model prog w) A (Builtin.Slice.sliceApplied (.ref sl) (pure (n : Int))) Q E s := by
  obtain ⟨os, hos, hcs, hds⟩ := id hs
  unfold Builtin.Slice.sliceApplied Builtin.Slice.sliceFields
  refine wpAny_bind (wpAny_bind (wpAny_field hos hds (x := .none) rfl (wpAny_bind (wpAny_field hos hds (x := .none) rfl (wpAny_bind (wpAny_field hos hds (x := .int (-1) t) rfl (wpAny_pure ?_)))))))
  refine wpAny_bind (slicePart_int ?_)
  show wpAny _ _ (if ((-1 : Int) == 0) = true then _ else _) _ _ s
  rw [if_neg (by decide)]
  refine wpAny_bind (slicePart_none (wpAny_bind (slicePart_none (wpAny_bind (wpAny_pure ?_)))))
  show wpAny _ _ (match Builtin.Slice.sliceAdjust none none (-1) (n : Int) with | (lo, hi) => pure (lo, (-1 : Int), Builtin.Slice.slicePlaces lo hi (-1))) _ _ s
  have e : Builtin.Slice.sliceAdjust none none (-1) (n : Int) = ((n : Int) - 1, -1) := by
    unfold Builtin.Slice.sliceAdjust
    simp
  rw [e]
  show wpAny _ _ (pure ((n : Int) - 1, (-1 : Int), Builtin.Slice.slicePlaces ((n : Int) - 1) (-1) (-1))) _ _ s
  have e2 : Builtin.Slice.slicePlaces ((n : Int) - 1) (-1) (-1) = n := by
    unfold Builtin.Slice.slicePlaces
    simp
    omega
  rw [e2]
  exact wpAny_pure h
theorem pick_rev0 (l : List Value) : ∀ k, k ≤ l.length → (List.range k).filterMap (fun m : Nat => l[(((k : Int) - 1) + (m : Int) * (-1)).toNat]?) = (l.take k).reverse
  | 0, _ => rfl
  | k + 1, h => by
    have ih := pick_rev0 l k (by omega)
    rw [List.range_succ_eq_map, List.filterMap_cons, List.filterMap_map]
    have e0 : ((((k + 1 : Nat) : Int) - 1) + ((0 : Nat) : Int) * (-1)).toNat = k := by omega
    rw [e0, List.getElem?_eq_getElem (show k < l.length by omega)]
    have e1 : ((fun m : Nat => l[((((k + 1 : Nat) : Int) - 1) + (m : Int) * (-1)).toNat]?) ∘ Nat.succ) = fun m : Nat => l[(((k : Int) - 1) + (m : Int) * (-1)).toNat]? := by
      funext m
      show l[((((k + 1 : Nat) : Int) - 1) + ((m + 1 : Nat) : Int) * (-1)).toNat]? = _
      congr 1
      omega
    rw [e1, ih, List.take_add_one, List.getElem?_eq_getElem (show k < l.length by omega)]
    show l[k] :: (List.take k l).reverse = (List.take k l ++ [l[k]]).reverse
    rw [List.reverse_append]
    rfl
theorem pick_rev (xs : Array Value) : ((List.range xs.size).filterMap fun (m : Nat) => xs[(((xs.size : Int) - 1) + (m : Int) * (-1)).toNat]?) = xs.toList.reverse := by
  have h := pick_rev0 xs.toList xs.size (by simp)
  rw [List.take_of_length_le (by simp)] at h
  rw [← h]
  congr 1
  funext m
  rw [Array.getElem?_toList]
theorem getItem_tuple_rev {t sl : Addr} {items : Array Value} {k : Tok} {Q : Value → Shared → Prop} (ht : IsTup s.heap t items) (hs : s.heap.IsSliceOf sl .none .none (.int (-1) k))
    (h : Q (.ref s.heap.objs.size) { s with heap := s.heap.push { cls := .type "tuple", data := .seq items.toList.reverse.toArray } })
    (hsz : items.size ≤ sizeLine) : wpAny (model prog w) A (getItem (.ref t) (.ref sl)) Q E s := by
  have htake : sizeOk (.seq items.toList.reverse.toArray) := by
    show items.toList.reverse.toArray.size ≤ sizeLine
    rw [List.size_toArray, List.length_reverse, Array.length_toList]
    exact hsz
  obtain ⟨os, hos, hcs, hds⟩ := id hs
  have hTs : s.TypeIs (.ref sl) "slice" := ⟨os, hos, hcs⟩
  unfold getItem
  try with_reducible refine wpAny_holding ?_
  first | refine wpAny_bind (wpAny_pure ?_) | skip
  refine wpAny_bind (wpAny_sequenceKey ht.typeIs (by decide) ?_)
  refine wpAny_bind (wpAny_callSpecial?_slot (name := Str.ofString "__getitem__") ht.typeIs PyProof.Rows.slot_tuple_getitem
    (wpAny_call_entry PyProof.Rows.slot_tuple_getitem ht.typeIs entry_tuple_getitem ?_ (args_tuple_getitem _ _)))
  show wpAny _ _ (Builtin.Tuple.tupleItemsOf (.ref t) >>= _) _ _ s
  refine wpAny_bind (tupleItemsOf_ ht ?_)
  refine wpAny_bind (wpAny_typeOf hTs ?_)
  rw [if_pos (by decide)]
  refine wpAny_bind (rev_applied (n := items.size) hs ?_)
  have hno : ¬ ((((items.size : Int) - 1) == 0 && (-1 : Int) == 1 && items.size == items.size) = true) := by
    intro q
    rw [Bool.and_eq_true, Bool.and_eq_true] at q
    have q1 : (-1 : Int) = 1 := eq_of_beq q.1.2
    omega
  show wpAny _ _ (if ((((items.size : Int) - 1) == 0 && (-1 : Int) == 1 && items.size == items.size) = true) then _ else _) _ _ s
  rw [if_neg hno, pick_rev]
  first
    | exact wpAny_bind (m := Builtin.Tuple.tupleExact _) (wpAny_newObj_type (wpAny_pure ⟨_, rfl, wpAny_pure h⟩) htake)
    | exact wpAny_bind (m := Builtin.Tuple.tupleExact _) (wpAny_newObj_type (wpAny_bind (wpAny_pure (wpAny_pure ⟨_, rfl, wpAny_pure h⟩))) htake)
    | exact wpAny_bind (wpAny_bind (m := Builtin.Tuple.tupleExact _) (wpAny_newObj_type (wpAny_pure (wpAny_pure ⟨_, rfl, wpAny_pure h⟩)) htake))
    | exact wpAny_bind (wpAny_bind (m := Builtin.Tuple.tupleExact _) (wpAny_newObj_type (wpAny_pure ⟨_, rfl, wpAny_pure h⟩) htake))
end
end HT
namespace Fo
open PySem PySem.Spec PyProof.Rows L2
section
variable {X : Cx} {tabs : Tb}
def tRevT (K : PySem.W.Frag) (te : TE) : TE := fun σ H Q => te σ H fun x H1 => ∃ a xs, x = .ref a ∧ SqT K H1 a xs ∧ ∀ p, H1 p = none → Q (.ref p) (upd H1 p (.tup xs.reverse))
theorem pe_revT {e : Expr} {te : TE} {k : Nat} {p1 p2 p3 pos : Pos} (he : PE X e te) : PE X (.Subscript e (.Slice none none (some (.UnaryOp .USub (.Constant (.int 1) k p1) p2)) p3) pos) (tRevT X.K te) := by
  refine ⟨fun pins s σ H Q I h => ?_⟩
  refine Subscript_ (thn (he.run pins s σ H _ I h) fun v s1 ⟨x, H1, I1, r1, q1⟩ => ?_)
  obtain ⟨a, xs, ex, hx, q⟩ := q1
  subst ex
  cases r1
  have hst : PO X (some (.UnaryOp .USub (.Constant (.int 1) k p1) p2)) (tPart (tUn (rU fun i => .int (-i)) (tC (.int 1)))) := po_some (pe_un un_neg pe_int)
  refine wpAny_Slice (thn (po_none.run pins s1 σ H1 (fun o H2 => o = none ∧ H2 = H1) I1 ⟨rfl, rfl⟩) fun vl s2 ⟨l, H2, I2, pl, el, e2⟩ => ?_)
  subst el e2
  refine thn (po_none.run pins s2 σ H2 (fun o H3 => o = none ∧ H3 = H2) I2 ⟨rfl, rfl⟩) fun vu s3 ⟨u, H3, I3, pu, eu, e3⟩ => ?_
  subst eu e3
  refine thn (hst.run pins s3 σ H3 (fun o H4 => o = some (-1) ∧ H4 = H3) I3 ⟨1, rfl, -1, rfl, rfl, rfl⟩) fun vs s4 ⟨o, H4, I4, ps, eo, e4⟩ => ?_
  subst eo e4
  cases pl
  cases pu
  obtain ⟨t4, rfl⟩ : ∃ t, vs = Value.int (-1) t := by cases ps; exact ⟨_, rfl⟩
  have I5 : Inv X pins σ H4 { s4 with heap := s4.heap.push { cls := .type "slice", data := .fields #[.none, .none, .int (-1) t4] } } := I4.kept (t' := s4.toks) fun b ob q => Heap.get?_push_of_some _ q
  obtain ⟨its, r, ht, hz⟩ := I5.tuple hx
  have hlen := r.length
  refine tail_any (ops := [.ref a, .ref s4.heap.objs.size]) ht.typeIs (PyProof.Rows.slot_tuple_getitem.lookup) ?_ (by with_unfolding_all rfl)
  refine HT.getItem_tuple_rev ht (Heap.IsSliceOf.new _ _ _ _) ?_ (by rw [List.size_toArray]; omega)
  refine ⟨.ref _, _, I5.laid (t' := s4.toks) (o := .tup xs.reverse) (fun b ob q => Heap.get?_push_of_some _ q) (Nat.le_refl _) ?_, rfl, q _ (I5.hok.fresh (Nat.le_refl _))⟩
  exact ⟨by rw [List.length_reverse]; exact hz, its.reverse, r.reverse, _, Heap.get?_push_size _ rfl, rfl, 0, by simp⟩
def revV : PyData → Option PyData
  | .list ds => some (.list ds.reverse)
  | .tuple ds => some (.tuple ds.reverse)
  | _ => none
def unR (g : PyData → Option PyData) (m : Sem1) : Sem1 := fun ρ => do let x ← m ρ; up (g x)
theorem ex_rev {e : Expr} {k : Nat} {p1 p2 p3 pos : Pos} {m : Sem1} (he : PE X e (RdT X.K tabs m)) : PE X (.Subscript e (.Slice none none (some (.UnaryOp .USub (.Constant (.int 1) k p1) p2)) p3) pos) (Rd1 X.K tabs (unR revV m)) :=
  ⟨fun pins s σ H Q I ⟨δ, O, ρ, st, z, st', S, W, e, c⟩ => by
    obtain ⟨x, st1, e1, f1⟩ := bnd_some e
    obtain ⟨g, rfl⟩ := up_some f1
    unfold revV at g
    split at g
    · cases g
      refine (pe_revL he).run pins s σ H Q I ⟨δ, O, ρ, st, _, _, S, W, e1, fun w H1 E1 W1 R1 => ?_⟩
      obtain ⟨p, vs, rfl, h1, h2⟩ := R1.lst
      exact ⟨p, vs, rfl, SqL.of h1, Cont.lst (fun w H' E' W' R' => c w H' (E1.trans E') W' R') W1 h2.reverse⟩
    · cases g
      refine (pe_revT he).run pins s σ H Q I ⟨δ, O, ρ, st, _, _, S, W, e1, fun w H1 E1 W1 R1 => ?_⟩
      obtain ⟨p, vs, rfl, h1, h2, _⟩ := R1.tup
      exact ⟨p, vs, rfl, SqT.of h1, Cont.tup (fun w H' E' W' R' => c w H' (E1.trans E') W' R') W1 h2.reverse⟩
    · cases g⟩
/-! ### arguments, displays -/
abbrev TRps (K : PySem.W.Frag) (δ : Option Addr) (O : Addr → Prop) (H : Hp) : List V → List PyData → Prop := Paired (TRp K δ O H)
def RdLT (K : PySem.W.Frag) (tabs : Tb) (m : SemL) : TA := fun σ H Q => ∃ δ O ρ st v st', Slots K δ O ρ σ H ∧ WOk K tabs δ O st H ∧ m ρ st = some (v, st') ∧ ∀ ws H', Ext δ H H' → WOk K tabs δ O st' H' → TRps K δ O H' ws v → Q ws H'
def nilR : SemL := fun _ => pure []
def consR (m : Sem1) (r : SemL) : SemL := fun ρ => do let x ← m ρ; let xs ← r ρ; pure (x :: xs)
def plain (e : Expr) : Bool := match e with
  | .Starred _ _ => false
  | _ => true
theorem plain_star {e : Expr} (h : plain e = true) {es : List Expr} {env : Env} : starEach (e :: es) env = (false, eval e env) :: starEach es env := by
  cases e <;> first | rfl | cases h
theorem ea_nil : PA X [] (RdL X.K tabs nilR) := PA.imp pa_nil fun σ H Q ⟨δ, O, ρ, st, z, st', S, W, e, c⟩ => by
  obtain ⟨rfl, rfl⟩ := pur_some e
  exact c _ H (Ext.refl _ _) W .nil
theorem ea_cons {e : Expr} {es : List Expr} {m : Sem1} {r : SemL} (hp : plain e = true) (he : PE X e (Rd1 X.K tabs m)) (hr : PA X es (RdL X.K tabs r)) : PA X (e :: es) (RdL X.K tabs (consR m r)) :=
  PA.imp (pa_cons he hr (plain_star hp)) fun σ H Q ⟨δ, O, ρ, st, z, st', S, W, e, c⟩ => by
    obtain ⟨x, st1, e1, f1⟩ := bnd_some e
    obtain ⟨xs, st2, e2, f2⟩ := bnd_some f1
    obtain ⟨rfl, rfl⟩ := pur_some f2
    exact ⟨δ, O, ρ, st, x, st1, S, W, e1, fun w H1 E1 W1 R1 => ⟨δ, O, ρ, st1, xs, _, S.ext E1 W.dl, W1, e2, fun ws H2 E2 W2 R2 => c _ H2 (E1.trans E2) W2 (.cons (R1.mono (rds_ext E2 W1.dl)) R2)⟩⟩
theorem eat_nil : PA X [] (RdLT X.K tabs nilR) := PA.imp pa_nil fun σ H Q ⟨δ, O, ρ, st, z, st', S, W, e, c⟩ => by
  obtain ⟨rfl, rfl⟩ := pur_some e
  exact c _ H (Ext.refl _ _) W .nil
theorem eat_cons {e : Expr} {es : List Expr} {m : Sem1} {r : SemL} (hp : plain e = true) (he : PE X e (RdT X.K tabs m)) (hr : PA X es (RdLT X.K tabs r)) : PA X (e :: es) (RdLT X.K tabs (consR m r)) :=
  PA.imp (pa_cons he hr (plain_star hp)) fun σ H Q ⟨δ, O, ρ, st, z, st', S, W, e, c⟩ => by
    obtain ⟨x, st1, e1, f1⟩ := bnd_some e
    obtain ⟨xs, st2, e2, f2⟩ := bnd_some f1
    obtain ⟨rfl, rfl⟩ := pur_some f2
    exact ⟨δ, O, ρ, st, x, st1, S, W, e1, fun w H1 E1 W1 R1 => ⟨δ, O, ρ, st1, xs, _, S.ext E1 W.dl, W1, e2, fun ws H2 E2 W2 R2 => c _ H2 (E1.trans E2) W2 (.cons (R1.ext E2 W1) R2)⟩⟩
/-- *e -/
def itemsO : PyData → Option (List PyData)
  | .list ds => some ds
  | .tuple ds => some ds
  | _ => none
def starR (m : Sem1) (r : SemL) : SemL := fun ρ => do let x ← m ρ; let ds ← up (itemsO x); let xs ← r ρ; pure (ds ++ xs)
theorem ea_star {e : Expr} {p : Pos} {es : List Expr} {m : Sem1} {r : SemL} (he : PE X e (RdT X.K tabs m)) (hr : PA X es (RdL X.K tabs r)) : PA X (.Starred e p :: es) (RdL X.K tabs (starR m r)) :=
  ⟨fun pos pins s σ H Q I ⟨δ, O, ρ, st, z, st', S, W, e, c⟩ => by
    obtain ⟨x, st1, e1, f1⟩ := bnd_some e
    obtain ⟨ds, st2, e2, f2⟩ := bnd_some f1
    obtain ⟨e2, rfl⟩ := up_some e2
    obtain ⟨xs, st3, e3, f3⟩ := bnd_some f2
    obtain ⟨rfl, rfl⟩ := pur_some f3
    refine PySem.W.items_star (thn (runT he I S W e1) fun v s1 ⟨w, H1, I1, r1, E1, W1, R1⟩ => ?_)
    have tail : ∀ (vs : List V) us s2, RpAll X.K (mask O H1) vs ds → Inv X pins σ H1 s2 → Vals vs us → wpAny (model X.prog X.w) X.A (spliced (backTo pos (starEach es X.env))) (fun ws s3 => AP X pins σ Q (us ++ ws) s3) X.xe s2 := fun vs us s2 rv I2 r2 =>
      thn (hr.run pos pins s2 σ H1 (fun ws H2 => Q (vs ++ ws) H2) I2 ⟨δ, O, ρ, _, xs, _, S.ext E1 W.dl, W1, e3, fun ws H2 E2 W2 R2 => c _ H2 (E1.trans E2) W2 ((rv.mono (rds_ext E2 W1.dl)).append R2)⟩)
        fun ws s3 ⟨ys, H3, I3, r3, q3⟩ => ⟨vs ++ ys, H3, I3, r2.append r3, q3⟩
    unfold itemsO at e2
    split at e2
    · cases e2
      obtain ⟨a, vs, rfl, h1, h2⟩ := R1.lst
      cases r1
      exact StX.star_lst I1 (SqL.of h1) fun us s2 I2 r2 => tail vs us s2 h2 I2 r2
    · cases e2
      obtain ⟨a, vs, rfl, h1, h2, _⟩ := R1.tup
      cases r1
      exact star_tup I1 (SqT.of h1) fun us s2 I2 r2 => tail vs us s2 h2 I2 r2
    · cases e2⟩
def mkO (f : List PyData → PyData) (ds : List PyData) : Option PyData := if ds.length ≤ 1000000 then some (f ds) else none
def dispR (f : List PyData → PyData) (r : SemL) : Sem1 := fun ρ => do let ds ← r ρ; up (mkO f ds)
theorem ex_tup {es : List Expr} {k : Nat} {pos : Pos} {r : SemL} (h : PA X es (RdL X.K tabs r)) : PE X (.Tuple es k pos) (Rd1 X.K tabs (dispR .tuple r)) :=
  PE.imp (pe_tup h) fun σ H Q ⟨δ, O, ρ, st, z, st', S, W, e, c⟩ => by
    obtain ⟨ds, st1, e1, f1⟩ := bnd_some e
    obtain ⟨g, rfl⟩ := up_some f1
    unfold mkO at g
    split at g
    · rename_i hl
      cases g
      exact ⟨δ, O, ρ, st, ds, _, S, W, e1, fun ws H1 E1 W1 R1 => ⟨by rw [R1.length]; exact line_le hl, Cont.tup (fun w H' E' W' R' => c w H' (E1.trans E') W' R') W1 R1⟩⟩
    · cases g
theorem ex_lst {es : List Expr} {pos : Pos} {r : SemL} (h : PA X es (RdL X.K tabs r)) : PE X (.List es pos) (Rd1 X.K tabs (dispR .list r)) :=
  PE.imp (pe_lst h) fun σ H Q ⟨δ, O, ρ, st, z, st', S, W, e, c⟩ => by
    obtain ⟨ds, st1, e1, f1⟩ := bnd_some e
    obtain ⟨g, rfl⟩ := up_some f1
    unfold mkO at g
    split at g
    · rename_i hl
      cases g
      exact ⟨δ, O, ρ, st, ds, _, S, W, e1, fun ws H1 E1 W1 R1 => ⟨by rw [R1.length]; exact line_le hl, Cont.lst (fun w H' E' W' R' => c w H' (E1.trans E') W' R') W1 R1⟩⟩
    · cases g
end
end Fo
namespace Fo
open PySem PySem.Spec PyProof.Rows L2
section
variable {X : Cx} {tabs : Tb}
theorem plain_any {pos : Pos} {env : Env} : ∀ {es : List Expr}, es.all plain = true → (backTo pos (starEach es env)).any (·.1) = false
  | [], _ => rfl
  | e :: es, h => by
    rw [List.all_cons, Bool.and_eq_true] at h
    rw [plain_star h.1]
    show (false || (backTo pos (starEach es env)).any (·.1)) = false
    rw [plain_any h.2]
    rfl
theorem plain_hd {e : Expr} {es : List Expr} (h : (e :: es).all plain = true) : plain e = true ∧ es.all plain = true := by
  rw [List.all_cons, Bool.and_eq_true] at h
  exact h
/-! ### calls of defs -/
abbrev SemF := List PyData → M PyData
def spM (K : PySem.W.Frag) (tabs : Tb) (n : Nat) (sem : SemF) : Sp := fun vs H Q _ => vs.length = n ∧ ∃ δ O st ds v st', WOk K tabs δ O st H ∧ RpAll K (mask O H) vs ds ∧ sem ds st = some (v, st') ∧ Cont K tabs δ O st' H v Q
/-- of a def whose first parameter is the draws -/
def spD (K : PySem.W.Frag) (tabs : Tb) (n : Nat) (sem : SemF) : Sp := fun vs H Q _ => vs.length = n ∧ ∃ a ws O st ds v st', vs = .ref a :: ws ∧ WOk K tabs (some a) O st H ∧ RpAll K (mask O H) ws ds ∧ sem ds st = some (v, st') ∧ Cont K tabs (some a) O st' H v Q
def spOf (K : PySem.W.Frag) (tabs : Tb) (d : Bool) (n : Nat) (sem : SemF) : Sp := if d then spD K tabs n sem else spM K tabs n sem
/-- the module's name x stands for a def that does sem; d: it draws; n: its parameters -/
structure FnS (X : Cx) (tabs : Tb) (k : Nat) (x : PySem.Str) (d : Bool) (n : Nat) (sem : SemF) : Prop where
  ok : ∃ f fd ps, X.mg x = some (.ref f) ∧ PySem.W.keepIn X.K (.ref f) = true ∧ Binds X.K fd ps [] ∧ ∀ m, FnOk X.prog X.w X.K X.mg X.base CX0 k f fd ps (spOf X.K ⟨tabs.l, m⟩ d n sem)
def callR (sem : SemF) (r : SemL) : Sem1 := fun ρ => do let ds ← r ρ; sem ds
theorem ex_call {x : PySem.Str} {p pos : Pos} {e : Expr} {es : List Expr} {k n : Nat} {sem : SemF} {r : SemL} (F : FnS X tabs k x false n sem) (hr : Room k X.A) (hg : Gl X x) (hd : (x == ("__debug__" : PySem.Str)) = false)
    (hp : (e :: es).all plain = true) (ha : PA X (e :: es) (RdL X.K tabs r)) (hn : ∀ ρ st ds st', r ρ st = some (ds, st') → ds.length = n) : PE X (.Call (.Name x p) (e :: es) [] pos) (Rd1 X.K tabs (callR sem r)) := by
  obtain ⟨f, fd, ps, hm, hk, hb, ok⟩ := F.ok
  refine PE.imp (pe_call (ok tabs.m) hr hg hm hk hb .nil pass0 ha hd (plain_star (plain_hd hp).1) (plain_any (plain_hd hp).2)) fun σ H Q ⟨δ, O, ρ, st, z, st', S, W, e, c⟩ => ?_
  obtain ⟨ds, st1, e1, f1⟩ := bnd_some e
  refine ⟨δ, O, ρ, st, ds, st1, S, W, e1, fun ws H1 E1 W1 R1 => ?_⟩
  show spOf X.K tabs false n sem (ws ++ []) H1 Q E0
  rw [List.append_nil]
  exact ⟨by rw [R1.length]; exact hn _ _ _ _ e1, δ, O, st1, ds, z, st', W1, R1, f1, fun w H' E' W' R' => c w H' (E1.trans E') W' R'⟩
def drO : Option (Option En) → Option Unit
  | some (some .dr) => some ()
  | _ => none
theorem drO_some {o : Option (Option En)} (h : drO o = some ()) : o = some (some .dr) := by
  unfold drO at h
  split at h
  · rfl
  · cases h
def callD (sem : SemF) (i : Nat) (r : SemL) : Sem1 := fun ρ => do up (drO ρ[i]?); let ds ← r ρ; sem ds
theorem ex_callD {x y : PySem.Str} {p py pos : Pos} {es : List Expr} {i k n : Nat} {sem : SemF} {r : SemL} (F : FnS X tabs k x true (n + 1) sem) (hr : Room k X.A) (hg : Gl X x) (hd : (x == ("__debug__" : PySem.Str)) = false)
    (hN : X.N[i]? = some y) (hv : Vis X.env.scope y) (hyd : (y == ("__debug__" : PySem.Str)) = false) (hcd : (y == ("__classdict__" : PySem.Str)) = false)
    (hp : es.all plain = true) (ha : PA X es (RdL X.K tabs r)) (hn : ∀ ρ st ds st', r ρ st = some (ds, st') → ds.length = n) : PE X (.Call (.Name x p) (.Name y py :: es) [] pos) (Rd1 X.K tabs (callD sem i r)) := by
  obtain ⟨f, fd, ps, hm, hk, hb, ok⟩ := F.ok
  refine PE.imp (pe_call (ok tabs.m) hr hg hm hk hb .nil pass0 (pa_cons (pe_var hN hv hyd hcd) ha rfl) hd rfl (plain_any hp)) fun σ H Q ⟨δ, O, ρ, st, z, st', S, W, e, c⟩ => ?_
  obtain ⟨u, st0, e0, f0⟩ := bnd_some e
  obtain ⟨e9, rfl⟩ := up_some e0
  obtain ⟨ds, st1, e1, f1⟩ := bnd_some f0
  obtain ⟨v, h1, a, hδ, rfl⟩ := S.at_ i _ (drO_some e9)
  subst hδ
  refine ⟨_, h1, some a, O, ρ, _, ds, st1, S, W, e1, fun ws H1 E1 W1 R1 => ?_⟩
  show spOf X.K tabs true (n + 1) sem ((V.ref a :: ws) ++ []) H1 Q E0
  rw [List.append_nil]
  exact ⟨by rw [List.length_cons, R1.length, hn _ _ _ _ e1], a, ws, O, st1, ds, z, st', rfl, W1, R1, f1, fun w H' E' W' R' => c w H' (E1.trans E') W' R'⟩
/-! ### calls of built-ins -/
def CallS (X : Cx) (f : Value) (g : List PyData → Option PyData) : Prop :=
  ∀ (pins : List (Addr × Obj)) (s : Shared) (σ : L2.St) (H : Hp) (xs : List V) (us : List Value) (tabs : Tb) (δ : Option Addr) (O : Addr → Prop) (st : Dr) (ds : List PyData) (z : PyData) (Q : VK), Inv X pins σ H s → Vals xs us →
    WOk X.K tabs δ O st H → TRps X.K δ O H xs ds → g ds = some z → Cont X.K tabs δ O st H z Q → wpAny (model X.prog X.w) X.A (call f us) (EP X pins σ Q) X.xe s
def rC (K : PySem.W.Frag) (g : List PyData → Option PyData) : List V → Hp → VK → Prop := fun xs H Q => ∃ tabs δ O st ds z, WOk K tabs δ O st H ∧ TRps K δ O H xs ds ∧ g ds = some z ∧ Cont K tabs δ O st H z Q
theorem CallS.r {f : Value} {g : List PyData → Option PyData} (h : CallS X f g) : CallR X f (rC X.K g) := by
  intro pins s σ H xs us Q I r ⟨tabs, δ, O, st, ds, z, W, hx, hz, c⟩
  exact h pins s σ H xs us tabs δ O st ds z Q I r W hx hz c
def bltR (g : List PyData → Option PyData) (r : SemL) : Sem1 := fun ρ => do let ds ← r ρ; up (g ds)
theorem blt_to {K : PySem.W.Frag} {g : List PyData → Option PyData} {r : SemL} {σ : L2.St} {H : Hp} {Q : VK} (h : Rd1 K tabs (bltR g r) σ H Q) : tCB (rC K g) (RdLT K tabs r) σ H Q := by
  obtain ⟨δ, O, ρ, st, z, st', S, W, e, c⟩ := h
  obtain ⟨ds, st1, e1, f1⟩ := bnd_some e
  obtain ⟨g, rfl⟩ := up_some f1
  exact ⟨δ, O, ρ, st, ds, _, S, W, e1, fun ws H1 E1 W1 R1 => ⟨tabs, δ, O, _, ds, z, W1, R1, g, fun w H' E' W' R' => c w H' (E1.trans E') W' R'⟩⟩
theorem ex_bltB {x : PySem.Str} {id : String} {p pos : Pos} {e : Expr} {es : List Expr} {g : List PyData → Option PyData} {r : SemL} (hc : CallS X (.builtin id) g) (hg : Gl X x) (hm : X.mg x = none) (hv : bootBuiltins x = some (.builtin id))
    (hp : (e :: es).all plain = true) (ha : PA X (e :: es) (RdLT X.K tabs r)) (hn : x ≠ "__name__") (hd : (x == ("__debug__" : PySem.Str)) = false) : PE X (.Call (.Name x p) (e :: es) [] pos) (Rd1 X.K tabs (bltR g r)) :=
  PE.imp (pe_callB hc.r hg hm hv ha hn hd (plain_star (plain_hd hp).1) (plain_any (plain_hd hp).2)) fun σ H Q h => blt_to h
theorem ex_bltT {x : PySem.Str} {T : String} {p pos : Pos} {e : Expr} {es : List Expr} {g : List PyData → Option PyData} {r : SemL} (hc : CallS X (.type T) g) (hg : Gl X x) (hm : X.mg x = none) (hv : bootBuiltins x = some (.type T))
    (hp : (e :: es).all plain = true) (ha : PA X (e :: es) (RdLT X.K tabs r)) (hn : x ≠ "__name__") (hd : (x == ("__debug__" : PySem.Str)) = false) : PE X (.Call (.Name x p) (e :: es) [] pos) (Rd1 X.K tabs (bltR g r)) :=
  PE.imp (pe_callTy hc.r hg hm hv ha hn hd (plain_star (plain_hd hp).1) (plain_any (plain_hd hp).2)) fun σ H Q h => blt_to h
def lenV : List PyData → Option PyData
  | [.list ds] => some (.int (ds.length : Nat))
  | [.tuple ds] => some (.int (ds.length : Nat))
  | _ => none
theorem cs_len : CallS X (.builtin "len") lenV := by
  intro pins s σ H xs us tabs δ O st ds z Q I rx W hx hz c
  unfold lenV at hz
  split at hz
  · cases hz
    cases hx with
    | cons h1 h2 =>
      cases h2
      obtain ⟨a, vs, rfl, q1, q2⟩ := h1.lst
      exact call_len pins s σ H _ us Q I rx ⟨_, vs.length, rfl, .inl ⟨vs, SqL.of q1, rfl⟩, by rw [q2.length]; exact c.same W (.int _)⟩
  · cases hz
    cases hx with
    | cons h1 h2 =>
      cases h2
      obtain ⟨a, vs, rfl, q1, q2, _⟩ := h1.tup
      exact call_len pins s σ H _ us Q I rx ⟨_, vs.length, rfl, .inr ⟨vs, SqT.of q1, rfl⟩, by rw [q2.length]; exact c.same W (.int _)⟩
  · cases hz
def absV : List PyData → Option PyData
  | [.int i] => some (.int (if i < 0 then -i else i))
  | _ => none
theorem cs_abs : CallS X (.builtin "abs") absV := by
  intro pins s σ H xs us tabs δ O st ds z Q I rx W hx hz c
  unfold absV at hz
  split at hz
  · cases hz
    cases hx with
    | cons h1 h2 =>
      cases h2
      cases h1.int
      exact call_abs pins s σ H _ us Q I rx ⟨_, rfl, c.same W (.int _)⟩
  · cases hz
def intV1 : List PyData → Option PyData
  | [.int i] => some (.int i)
  | [.bool b] => some (.int (if b then 1 else 0))
  | _ => none
theorem cs_int : CallS X (.type "int") intV1 := by
  intro pins s σ H xs us tabs δ O st ds z Q I rx W hx hz c
  unfold intV1 at hz
  split at hz
  · cases hz
    cases hx with
    | cons h1 h2 =>
      cases h2
      cases h1.int
      exact call_int1 pins s σ H _ us Q I rx (.inl ⟨_, rfl, c.same W (.int _)⟩)
  · cases hz
    cases hx with
    | cons h1 h2 =>
      cases h2
      cases h1.bl
      exact call_int1 pins s σ H _ us Q I rx (.inr ⟨_, rfl, c.same W (.int _)⟩)
  · cases hz
def max2V : List PyData → Option PyData
  | [.int i, .int j] => some (.int (if j > i then j else i))
  | _ => none
def min2V : List PyData → Option PyData
  | [.int i, .int j] => some (.int (if j < i then j else i))
  | _ => none
theorem cs_max2 (hc : X.calm = true) : CallS X (.builtin "max") max2V := by
  intro pins s σ H xs us tabs δ O st ds z Q I rx W hx hz c
  unfold max2V at hz
  split at hz
  · cases hz
    cases hx with
    | cons h1 h2 =>
      cases h2 with
      | cons h2 h3 =>
        cases h3
        cases h1.int
        cases h2.int
        exact call_max2 hc pins s σ H _ us Q I rx ⟨_, _, rfl, c.same W (.int _)⟩
  · cases hz
theorem cs_min2 (hc : X.calm = true) : CallS X (.builtin "min") min2V := by
  intro pins s σ H xs us tabs δ O st ds z Q I rx W hx hz c
  unfold min2V at hz
  split at hz
  · cases hz
    cases hx with
    | cons h1 h2 =>
      cases h2 with
      | cons h2 h3 =>
        cases h3
        cases h1.int
        cases h2.int
        exact call_min2 hc pins s σ H _ us Q I rx ⟨_, _, rfl, c.same W (.int _)⟩
  · cases hz
def tupleV : List PyData → Option PyData
  | [.list ds] => some (.tuple ds)
  | [.tuple ds] => some (.tuple ds)
  | _ => none
def listV : List PyData → Option PyData
  | [.list ds] => some (.list ds)
  | [.tuple ds] => some (.list ds)
  | _ => none
theorem cs_tuple : CallS X (.type "tuple") tupleV := by
  intro pins s σ H xs us tabs δ O st ds z Q I rx W hx hz c
  unfold tupleV at hz
  split at hz
  · cases hz
    cases hx with
    | cons h1 h2 =>
      cases h2
      obtain ⟨a, vs, rfl, q1, q2⟩ := h1.lst
      exact call_tuple_of pins s σ H _ us Q I rx ⟨a, vs, rfl, .inl ⟨SqL.of q1, c.tup W q2⟩⟩
  · cases hz
    cases hx with
    | cons h1 h2 =>
      cases h2
      obtain ⟨a, vs, rfl, q1, q2, q3⟩ := h1.tup
      exact call_tuple_of pins s σ H _ us Q I rx ⟨a, vs, rfl, .inr ⟨SqT.of q1, c.same W q3⟩⟩
  · cases hz
theorem cs_list : CallS X (.type "list") listV := by
  intro pins s σ H xs us tabs δ O st ds z Q I rx W hx hz c
  unfold listV at hz
  split at hz
  · cases hz
    cases hx with
    | cons h1 h2 =>
      cases h2
      obtain ⟨a, vs, rfl, q1, q2⟩ := h1.lst
      exact call_list_of pins s σ H _ us Q I rx ⟨a, vs, rfl, .inl (SqL.of q1), c.lst W q2⟩
  · cases hz
    cases hx with
    | cons h1 h2 =>
      cases h2
      obtain ⟨a, vs, rfl, q1, q2, q3⟩ := h1.tup
      exact call_list_of pins s σ H _ us Q I rx ⟨a, vs, rfl, .inr (SqT.of q1), c.lst W q2⟩
  · cases hz
def intsOf : List PyData → Option (List Int)
  | [] => some []
  | .int i :: ds => (intsOf ds).map (i :: ·)
  | _ => none
theorem ints_of {K : PySem.W.Frag} {H : Hp} : ∀ {xs : List V} {ds : List PyData} {ns : List Int}, RpAll K H xs ds → intsOf ds = some ns → xs = ns.map V.int ∧ ds = ns.map PyData.int
  | _, [], ns, r, h => by cases r; cases h; exact ⟨rfl, rfl⟩
  | _, d :: ds, ns, r, h => by
    cases r with
    | cons h1 h2 =>
      unfold intsOf at h
      split at h
      · rename_i q; cases q
      · rename_i i es q
        injection q with q1 q2
        subst q1 q2
        cases e : intsOf ds with
        | none => rw [e] at h; cases h
        | some ms =>
          rw [e] at h
          cases h
          obtain ⟨rfl, e2⟩ := ints_of h2 e
          cases h1
          exact ⟨rfl, by rw [e2]; rfl⟩
      · cases h
def sumV : List PyData → Option PyData
  | [.list ds] => (intsOf ds).map fun ns => .int ns.sum
  | _ => none
theorem cs_sum (hc : X.calm = true) : CallS X (.builtin "sum") sumV := by
  intro pins s σ H xs us tabs δ O st ds z Q I rx W hx hz c
  unfold sumV at hz
  split at hz
  · rename_i es
    cases e : intsOf es with
    | none => rw [e] at hz; cases hz
    | some ns =>
      rw [e] at hz
      cases hz
      cases hx with
      | cons h1 h2 =>
        cases h2
        obtain ⟨a, vs, rfl, q1, q2⟩ := h1.lst
        obtain ⟨rfl, _⟩ := ints_of q2 e
        exact cr_sum hc pins s σ H _ us Q I rx ⟨a, ns, rfl, SqL.of q1, c.same W (.int _)⟩
  · cases hz
/-! ### isinstance -/
def tyN : PyData → String
  | .none => "NoneType"
  | .bool _ => "bool"
  | .int _ => "int"
  | .str _ => "str"
  | .list _ => "list"
  | .tuple _ => "tuple"
  | .dict _ => "dict"
def isK : PyData → Bool
  | .int _ => true
  | .str _ => true
  | _ => false
def plainT : PyData → Bool
  | .dict kvs => kvs.all fun p => isK p.1
  | _ => true
theorem dk_plain {K : PySem.W.Frag} {M : Hp} {a : Addr} {o : Option HO} {kvs : List (PyData × PyData)} (h : DkAt K M a o kvs) (hp : plainT (.dict kvs) = true) : ∃ (ks : List Key) (xs : List V) (ds : List PyData), o = some (.dK (ks.zip xs)) ∧ ks.length = xs.length ∧ RpAll K M xs ds ∧ kvs = (ks.map keyD).zip ds := by
  rcases h with h | ⟨es, xs, vs, ds, h1, h2, h3, h4, h5, h6⟩
  · exact h
  · exfalso
    subst h6
    cases xs with
    | nil => exact h2.ne rfl
    | cons x xs =>
      obtain ⟨l, e⟩ := h2.tp x (List.mem_cons_self ..)
      have hl := h5.length
      have hv := Paired.length h4
      cases ds with
      | nil => rw [hv] at hl; simp at hl
      | cons d ds =>
        have hp : ((nkD (x :: xs)).zip (d :: ds)).all (fun p => isK p.1) = true := hp
        unfold nkD at hp
        rw [List.map_cons, List.zip_cons_cons, List.all_cons, e] at hp
        simp [NestedKey.data, isK] at hp
theorem tyx {K : PySem.W.Frag} {δ : Option Addr} {O : Addr → Prop} {H : Hp} {w : V} {d : PyData} (r : TRp K δ O H w d) (hp : plainT d = true) : TyX K H w (.type (tyN d)) := by
  cases d with
  | none => rw [r.non]; exact .base .non
  | bool b => rw [r.bl]; exact .base (.bl _)
  | int i => rw [r.int]; exact .base (.int _)
  | str x => rw [r.str]; exact .base (.str _)
  | list xs => obtain ⟨a, vs, rfl, h, _⟩ := r.lst; exact .base (.lst h)
  | tuple xs => obtain ⟨a, vs, rfl, h, _⟩ := r.tup; exact .base (.tup h)
  | dict kvs =>
    rcases r with r | r
    · obtain ⟨a, rfl, q⟩ := r.dk
      obtain ⟨_, _, _, h, _⟩ := dk_plain q hp
      exact .base (.dK (mask_some.mp h).2)
    · obtain ⟨a, rfl, _, _, q⟩ := r
      obtain ⟨_, _, _, h, _⟩ := dk_plain q hp
      exact .base (.dK h)
/-- the plain classes: bool is an int -/
def isiB (t T : String) : Bool := t == T || (t == "bool" && T == "int")
def tyNs : List String := ["NoneType", "bool", "int", "str", "list", "tuple", "dict"]
theorem kit_all : ∀ t ∈ tyNs, ∀ T ∈ ["int", "bool", "str", "list", "tuple", "dict"], kitB t T = some (isiB t T) := by decide +kernel
theorem tyN_mem (d : PyData) : tyN d ∈ tyNs := by cases d <;> simp [tyN, tyNs]
def isiV (T : String) (d : PyData) : Option PyData := if plainT d = true then some (.bool (isiB (tyN d) T)) else none
theorem ex_isi {e : Expr} {T : String} {xT : PySem.Str} {p pT pos : Pos} {m : Sem1} (he : PE X e (RdT X.K tabs m)) (hp : plain e = true) (hT : T ∈ ["int", "bool", "str", "list", "tuple", "dict"])
    (hg : Gl X "isinstance") (hm : X.mg "isinstance" = none) (hgT : Gl X xT) (hmT : X.mg xT = none) (hvT : bootBuiltins xT = some (.type T)) (hn : xT ≠ "__name__") (hd : (xT == ("__debug__" : PySem.Str)) = false) :
    PE X (.Call (.Name "isinstance" p) [e, .Name xT pT] [] pos) (Rd1 X.K tabs (unR (isiV T) m)) :=
  PE.imp (pe_callB (call_isi (X := X)) hg hm (by decide +kernel) (pa_cons he (pa_cons (pe_bltn (v := .ty T) hgT hmT hvT rfl hn hd) pa_nil rfl) (plain_star hp)) (by decide) (by decide) (plain_star hp) rfl) fun σ H Q ⟨δ, O, ρ, st, z, st', S, W, e, c⟩ => by
    obtain ⟨x, st1, e1, f1⟩ := bnd_some e
    obtain ⟨g, rfl⟩ := up_some f1
    unfold isiV at g
    split at g
    · rename_i hpl
      cases g
      exact ⟨δ, O, ρ, st, x, _, S, W, e1, fun w H1 E1 W1 R1 => ⟨w, .ty T, _, .type T, _, rfl, .ty T, tyx R1 hpl, kit_ty (kit_all _ (tyN_mem x) T hT), c _ H1 E1 W1 (.bl _)⟩⟩
    · cases g
end
end Fo
/-! isinstance with a tuple of classes -/
namespace Fo
open PySem PySem.Spec PyProof.Rows L2
section
variable {X : Cx} {tabs : Tb}
def isiV2 (S T : String) (d : PyData) : Option PyData := if plainT d = true then some (.bool (isiB (tyN d) S || isiB (tyN d) T)) else none
theorem kit_any {K : PySem.W.Frag} {t S T : String} {a b : Bool} (h1 : kitB t S = some a) (h2 : kitB t T = some b) : PySem.W.kitAny K (.type t) [.type S, .type T] = some (a || b) := by
  have e1 := kit_ty (K := K) h1
  have e2 := kit_ty (K := K) h2
  unfold PySem.W.kitAny
  rw [e1]
  cases a
  · unfold PySem.W.kitAny
    rw [e2]
    cases b
    · unfold PySem.W.kitAny; rfl
    · rfl
  · rfl
theorem ex_isi2 {e : Expr} {S T : String} {xS xT : PySem.Str} {p pS pT pos tp : Pos} {k : Nat} {m : Sem1} (he : PE X e (RdT X.K tabs m)) (hp : plain e = true) (hS : S ∈ ["int", "bool", "str", "list", "tuple", "dict"]) (hT : T ∈ ["int", "bool", "str", "list", "tuple", "dict"])
    (hg : Gl X "isinstance") (hm : X.mg "isinstance" = none) (hgS : Gl X xS) (hmS : X.mg xS = none) (hvS : bootBuiltins xS = some (.type S)) (hnS : xS ≠ "__name__") (hdS : (xS == ("__debug__" : PySem.Str)) = false) (hgT : Gl X xT) (hmT : X.mg xT = none) (hvT : bootBuiltins xT = some (.type T)) (hn : xT ≠ "__name__") (hd : (xT == ("__debug__" : PySem.Str)) = false) :
    PE X (.Call (.Name "isinstance" p) [e, .Tuple [.Name xS pS, .Name xT pT] k tp] [] pos) (Rd1 X.K tabs (unR (isiV2 S T) m)) :=
  PE.imp (pe_callB (call_isiT (X := X)) hg hm (by decide +kernel) (pa_cons he (pa_cons (pe_tup (pa_cons (pe_bltn (v := .ty S) hgS hmS hvS rfl hnS hdS) (pa_cons (pe_bltn (v := .ty T) hgT hmT hvT rfl hn hd) pa_nil rfl) rfl)) pa_nil rfl) (plain_star hp)) (by decide) (by decide) (plain_star hp) rfl) fun σ H Q ⟨δ, O, ρ, st, z, st', S', W, e, c⟩ => by
    obtain ⟨x, st1, e1, f1⟩ := bnd_some e
    obtain ⟨g, rfl⟩ := up_some f1
    unfold isiV2 at g
    split at g
    · rename_i hpl
      cases g
      refine ⟨δ, O, ρ, st, x, _, S', W, e1, fun w H1 E1 W1 R1 => ?_⟩
      refine ⟨line_le (show 2 ≤ 1000000 by decide), fun t ht => ?_⟩
      have en : Ext δ H1 (upd H1 t (.tup [.ty S, .ty T])) := Ext.new ht
      exact ⟨w, t, [.ty S, .ty T], .type (tyN x), [.type S, .type T], _, rfl, upd_same, .cons (.ty S) (.cons (.ty T) .nil), tyx (R1.ext en W1) hpl, kit_any (kit_all _ (tyN_mem x) S hS) (kit_all _ (tyN_mem x) T hT), c _ _ (E1.trans en) (W1.new ht) (.bl _)⟩
    · cases g
end
end Fo
/-! sum of a tuple of ints -/
namespace Fo
open PySem PySem.Spec PyProof.Rows L2
section
variable {P : Program} {w : World} {A : Around} {E : Value → Shared → Prop} {s : Shared}
theorem sum_tup {l : Addr} {its : List Value} {ns : List Int} {Q : Value → Shared → Prop} (hh : A.handled = none) (hl : s.heap.IsTuple l its.toArray) (hi : IntsAre its ns)
    (h : ∀ h' tk t', (∀ b o, s.heap.get? b = some o → h'.get? b = some o) → Q (.int ns.sum t') { s with heap := h', toks := tk }) : wpAny (model P w) A (call (.builtin "sum") [.ref l]) Q E s := by
  obtain ⟨xs, e⟩ := hi.allInts.items
  have hn : numsOf (intItems xs).toList = ns := by rw [← e]; exact hi.numsOf
  rw [nums_intItems] at hn
  rw [e] at hl
  have lt0 : l < s.heap.objs.size := by obtain ⟨_, q, _⟩ := hl; exact Heap.lt_size q
  have sp : ∀ o, (s.heap.push o).objs.size = s.heap.objs.size + 1 := fun o => Heap.size_push ..
  refine call_sum_walkG (wpAny_pyIter_tuple hl ?_)
  refine ⟨_, _, _, _, _, _, numAt xs, rfl, Walks.tuple (A := A.in1) hh _ l (Nat.ne_of_lt lt0) (intItems xs), ⟨⟨_, Heap.get?_push_size _ rfl, rfl, rfl⟩, hl.push _⟩, (fun b hb => ?_), (fun _ _ => intItems_at), fun h' tk t' hk => ?_⟩
  · show b < (s.heap.push _).objs.size
    rw [sp]
    simp only [List.mem_cons, List.not_mem_nil, or_false] at hb
    rcases hb with rfl | rfl
    · exact Nat.lt_succ_self _
    · exact Nat.lt_succ_of_lt lt0
  · have := h h' tk t' fun b o q => hk b o (fun hm => by
      rw [List.mem_singleton] at hm
      rw [hm] at q
      exact absurd (Heap.lt_size q) (Nat.lt_irrefl _)) (Heap.get?_push_of_some _ q)
    rw [preSum_eq, List.take_of_length_le (by simp [intItems]), hn]
    exact this
end
section
variable {X : Cx}
theorem cr_sumT (hc : X.calm = true) : CallR X (.builtin "sum") (fun vs H Q => ∃ (a : Addr) (ns : List Int), vs = [V.ref a] ∧ SqT X.K H a (ns.map V.int) ∧ Q (.int ns.sum) H) := by
  intro pins s σ H vs us Q I r h
  obtain ⟨a, ns, rfl, hs, q⟩ := h
  obtain ⟨its, rv, hl, _⟩ := I.tuple hs
  rw [Vals.ref1 r]
  exact sum_tup (I.ok.hd hc) (show s.heap.IsTuple a its.toArray from hl) (ints_of_vals rv) fun h' tk t' hk => ⟨.int _, H, I.kept hk, ⟨_, rfl⟩, q⟩
def sumW : List PyData → Option PyData
  | [.tuple ds] => (intsOf ds).map fun ns => .int ns.sum
  | ds => sumV ds
theorem cs_sumW (hc : X.calm = true) : CallS X (.builtin "sum") sumW := by
  intro pins s σ H xs us tabs δ O st ds z Q I rx W hx hz c
  unfold sumW at hz
  split at hz
  · rename_i es
    cases e : intsOf es with
    | none => rw [e] at hz; cases hz
    | some ns =>
      rw [e] at hz
      cases hz
      cases hx with
      | cons h1 h2 =>
        cases h2
        obtain ⟨a, vs, rfl, q1, q2, _⟩ := h1.tup
        obtain ⟨rfl, _⟩ := ints_of q2 e
        exact cr_sumT hc pins s σ H _ us Q I rx ⟨a, ns, rfl, SqT.of q1, c.same W (.int _)⟩
  · exact cs_sum hc pins s σ H xs us tabs δ O st ds z Q I rx W hx hz c
end
end Fo
namespace PySem.W
open PySem PySem.Calls PyProof.Rows PySem.SeqAt
section
variable {prog : Program} {w : World} {A : Around} {E : Value → Shared → Prop} {s : Shared}
theorem oneLt_tup {xs ys : List PyData} {a b : Value} {as bs : List Addr} {Q : Bool → Shared → Prop} (ra : Reads s.heap a (.tuple xs) as) (rb : Reads s.heap b (.tuple ys) bs) (h : alike (.tuple xs) (.tuple ys) = true)
    (hu : A.units + min (PyData.tuple xs).depth (PyData.tuple ys).depth < cLine) (hq : Q (dataLt (.tuple xs) (.tuple ys)) s) : wpAny (model prog w) A (oneLt' true a b) Q E s := by
  have hal : alikeAll xs ys = true := by simpa [alike] using h
  cases ra with
  | @tuple l o vs n _ as₁ h1 h2 h3 h4 =>
    cases rb with
    | @tuple l' o' vs' n' _ bs₁ k1 k2 k3 k4 =>
      have n1 : vs.size = xs.length := by simpa using ReadsAll.length _ _ _ h4
      have n2 : vs'.size = ys.length := by simpa using ReadsAll.length _ _ _ k4
      rw [dataLt_tuple, ← firstLt_toks xs ys hal, ← n1, ← n2] at hq
      rw [oneLt'_eq]
      simp only [if_true]
      refine wpAny_bind (wpAny_cRoomFor (room_here hu) ?_)
      obtain ⟨cls, dd, data, sl⟩ := o
      obtain ⟨cls2, dd2, data2, sl2⟩ := o'
      simp only at h2 h3 k2 k3
      subst h2 h3 k2 k3
      refine wpAny_bind (wpAny_callSpecialIfBound?_slot (T := "tuple") ⟨_, h1, rfl⟩ F.slot_tuple_lt (call_meets F.slot_tuple_lt ⟨_, h1, rfl⟩ F.entry_tuple_lt (F.args_tuple_lt_2 _ _)
        (tuple_ltAt l l' vs vs' n n' dd dd2 sl sl2 (pairEq xs ys) (fun j => dataLt (xs.getD j .none) (ys.getD j .none))) ⟨h1, k1, (fun j j1 j2 => ?_), (fun j j1 j2 hj => ?_), ?_⟩))
      · have := eqAt_alikeAll xs ys A.in1 s vs.toList vs'.toList _ _ h4 k4 hal (room_in hu) j (by simpa using j1) (by simpa using j2)
        simpa using this
      · have := rcLt_alikeAll xs ys A.in1 s vs.toList vs'.toList _ _ h4 k4 hal (room_in hu) j (by simpa using j1) (by simpa using j2) hj
        simpa using this
      · exact wpAny_truthy_bool hq
/-- the first items, as the sort looks at them -/
def fstL (d : PyData) (v : Value) (s : Heap) : Option Value := match v with
  | .ref a => match s.get? a with
    | some o => match o.data with
      | .seq xs _ => xs[0]?
      | _ => none
    | none => none
  | _ => none
theorem firsts_tups : ∀ (vs : List Value) (ds : List PyData) {Q : List (Option Value) → Shared → Prop}, EachIs (fun v d => (∃ as, Reads s.heap v d as) ∧ ∃ xs, d = PyData.tuple xs) vs ds →
    (∀ fs : List (Option Value), fs.length = vs.length → (∀ (i : Nat) (d : PyData), ds[i]? = some d → ∀ f : Option Value, fs[i]? = some f → (f = none ↔ d = PyData.tuple [])) → Q fs s) → wpAny (model prog w) A (vs.mapM firstOfTuple') Q E s
  | [], [], Q, _, h => by rw [List.mapM_nil]; exact wpAny_pure (h [] rfl (by simp))
  | v :: vs, d :: ds, Q, e, h => by
    cases e with
    | cons h1 t =>
      obtain ⟨⟨as, r⟩, xs, rfl⟩ := h1
      cases r with
      | @tuple a o us n _ _ ho hc hd hr =>
        rw [List.mapM_cons]
        refine wpAny_bind ?_
        rw [kas_first_eq]
        refine wpAny_bind (Looks.here (show Looks (model prog w) s.heap (typeOf (.ref a)) o.cls from (Looks.ld ho).andThen .now) ?_)
        rw [hc, if_neg (by first | decide | simp)]
        refine wpAny_bind ?_
        unfold Builtin.List.listItems
        refine wpAny_bind (wpAny_seqItems ho hd (wpAny_pure (wpAny_pure ?_)))
        refine wpAny_bind (firsts_tups vs ds t fun fs hl hf => wpAny_pure ?_)
        refine h _ (by simp [hl]) fun i d' hi f hfi => ?_
        cases i with
        | zero =>
          simp at hi hfi
          subst hi hfi
          have n1 : us.size = xs.length := by simpa using SeqAt.ReadsAll.length _ _ _ hr
          rw [Array.getElem?_eq_none_iff, n1]
          cases xs <;> simp
        | succ i => exact hf i d' (by simpa using hi) f (by simpa using hfi)
end
section
variable {prog : Program} {w : World} {A : Around} {s : Shared}
theorem SortsAt.mixed {vs : List Value} {ds : List PyData} (e : EachIs (fun v d => ∃ as, Reads s.heap v d as) vs ds) (hal : AllAlike ds) (ht : ∀ d, d ∈ ds → ∃ xs, d = PyData.tuple xs) (h0 : PyData.tuple [] ∈ ds) (hu : ∀ d, d ∈ ds → A.units + d.depth < cLine) : SortsAt prog w A s (dataKind s.heap ds) vs := by
  have room : ∀ {d d' : PyData}, d ∈ ds → A.units + min d.depth d'.depth < cLine := fun {d d'} hd => Nat.lt_of_le_of_lt (Nat.add_le_add_left (Nat.min_le_left _ _) _) (hu d hd)
  have eT : EachIs (fun v d => (∃ as, Reads s.heap v d as) ∧ ∃ xs, d = PyData.tuple xs) vs ds := (each_mem e).mono fun v d ⟨h1, h2⟩ => ⟨h1, ht d h2⟩
  refine ⟨fun v hv => ?_, ?_⟩
  · obtain ⟨d, hd, as, r⟩ := e.left v hv
    exact ⟨_, dataKind_some hal hd r⟩
  · cases ds with
    | nil => simp at h0
    | cons d₀ ds₀ =>
      obtain ⟨xs₀, e₀⟩ := ht d₀ (List.mem_cons_self ..)
      have lt1 : H.LtAt prog w A s (dataKind s.heap (d₀ :: ds₀)) oneType' := by
        intro E x y a b Q ha hb hq
        obtain ⟨d, as, hd, ra, rfl⟩ := dataKind_inv ha
        obtain ⟨d', as', hd', rb, rfl⟩ := dataKind_inv hb
        obtain ⟨x1, rfl⟩ := ht d hd
        obtain ⟨x2, rfl⟩ := ht d' hd'
        exact oneLt_tup ra rb (hal _ hd _ hd') (room hd) hq
      have lt2 : H.LtAt prog w A s (dataKind s.heap (d₀ :: ds₀)) general' := by
        intro E x y a b Q ha hb hq
        obtain ⟨d, as, hd, ra, rfl⟩ := dataKind_inv ha
        obtain ⟨d', as', hd', rb, rfl⟩ := dataKind_inv hb
        obtain ⟨x1, rfl⟩ := ht d hd
        obtain ⟨x2, rfl⟩ := ht d' hd'
        exact oneLt_alike (f := false) (fun h => nomatch h) ra rb (hal _ hd _ hd') (fun h => nomatch h) (room hd) hq
      have hk : ∀ (kd : SortKind), (∀ (E : Value → Shared → Prop) (Q : SortKind → Shared → Prop) (fs : List (Option Value)), fs.length = vs.length → (∀ (i : Nat) (d : PyData), (d₀ :: ds₀)[i]? = some d → ∀ f : Option Value, fs[i]? = some f → (f = none ↔ d = PyData.tuple [])) → Q kd s →
          wpAny (model prog w) A (do
            if (fs.toArray[0]?.bind id).isSome then return general'
            return if (← oneTypeOnly' vs.toArray).isSome then oneType' else general') Q E s) →
          2 ≤ vs.length → ∀ (E : Value → Shared → Prop) {Q : SortKind → Shared → Prop}, Q kd s → wpAny (model prog w) A (keyKind' vs.toArray) Q E s := by
        intro kd hh h2 E Q hq
        rw [keyKind'_eq, List.mapM_toArray, map_eq_pure_bind]
        refine wpAny_bind (wpAny_bind (firsts_tups vs (d₀ :: ds₀) eT fun fs hl hf => wpAny_pure ?_))
        have hno : ¬ (fs.toArray.all (·.isSome) = true) := by
          intro q
          obtain ⟨i, hi, ei⟩ := List.getElem_of_mem h0
          have hi' : i < fs.length := by rw [hl, e.length]; exact hi
          have h3 := hf i (.tuple []) (by rw [List.getElem?_eq_getElem hi, ei]) fs[i] (List.getElem?_eq_getElem hi')
          simp only [List.all_toArray, List.all_eq_true] at q
          have h4 := q fs[i] (List.getElem_mem hi')
          rw [h3.mpr rfl] at h4
          cases h4
        rw [if_neg hno]
        exact hh E Q fs hl hf hq
      by_cases hx : xs₀ = []
      · subst hx
        refine ⟨oneType', lt1, hk oneType' fun E Q fs hl hf hq => ?_⟩
        have h1 : (fs.toArray[0]?.bind id).isSome = false := by
          cases fs with
          | nil => rfl
          | cons f r =>
            have := (hf 0 d₀ rfl f rfl).mpr e₀
            subst this
            rfl
        rw [if_neg (by rw [h1]; exact Bool.false_ne_true)]
        rw [oneTypeOnly'_eq, List.mapM_toArray, map_eq_pure_bind]
        have hT : ∀ v ∈ vs, Looks (model prog w) s.heap (typeOf v) (.type "tuple") := fun v hv => by
          obtain ⟨d, hd, as, r⟩ := e.left v hv
          obtain ⟨x1, rfl⟩ := ht d hd
          exact looks_reads r
        refine wpAny_bind (wpAny_bind (wpAny_bind (kas_mapM (r := Value.type "tuple") _ (fun v hv Q' hq => (hT v hv).here hq) (wpAny_pure ?_))))
        have hall : ((List.map (fun _ => Value.type "tuple") vs).toArray.all fun x => x == Value.type "tuple") = true := by
          simp only [List.all_toArray, List.all_map, List.all_eq_true]
          intro _ _
          exact beq_self_eq_true _
        have h0' : (List.map (fun _ => Value.type "tuple") vs).toArray[0]? = some (Value.type "tuple") := by
          cases vs with
          | nil => cases e
          | cons v r => simp
        simp only [h0', hall, if_true]
        exact wpAny_pure (wpAny_pure hq)
      · refine ⟨general', lt2, hk general' fun E Q fs hl hf hq => ?_⟩
        have h1 : (fs.toArray[0]?.bind id).isSome = true := by
          cases fs with
          | nil =>
            have := e.length
            rw [← hl] at this
            simp at this
          | cons f r =>
            have h3 := hf 0 d₀ rfl f rfl
            cases f with
            | none => exact absurd (by have := h3.mp rfl; rw [e₀] at this; injection this) hx
            | some f => rfl
        rw [if_pos h1]
        exact wpAny_pure hq
end
end PySem.W
namespace Fo
open PySem PySem.Spec PyProof.Rows L2 PySem.W
/-! ### insertion sort -/
def ins {α : Type} (lt : α → α → Bool) (x : α) : List α → List α
  | [] => [x]
  | y :: ys => if lt y x = true then y :: ins lt x ys else x :: y :: ys
def isrt {α : Type} (lt : α → α → Bool) : List α → List α
  | [] => []
  | x :: xs => ins lt x (isrt lt xs)
theorem ins_mem {α : Type} {lt : α → α → Bool} {x z : α} : ∀ {l : List α}, z ∈ ins lt x l ↔ z = x ∨ z ∈ l
  | [] => by simp [ins]
  | y :: ys => by
    unfold ins
    split
    · simp only [List.mem_cons, ins_mem (l := ys)]
      constructor
      · rintro (h | h | h)
        · exact .inr (.inl h)
        · exact .inl h
        · exact .inr (.inr h)
      · rintro (h | h | h)
        · exact .inr (.inl h)
        · exact .inl h
        · exact .inr (.inr h)
    · simp
theorem isrt_mem {α : Type} {lt : α → α → Bool} {z : α} : ∀ {l : List α}, z ∈ isrt lt l ↔ z ∈ l
  | [] => by simp [isrt]
  | x :: xs => by simp [isrt, ins_mem, isrt_mem (l := xs)]
theorem ins_len {α : Type} {lt : α → α → Bool} {x : α} : ∀ {l : List α}, (ins lt x l).length = l.length + 1
  | [] => rfl
  | y :: ys => by
    unfold ins
    split
    · simp [ins_len (l := ys)]
    · simp
theorem isrt_len {α : Type} {lt : α → α → Bool} : ∀ {l : List α}, (isrt lt l).length = l.length
  | [] => rfl
  | x :: xs => by simp [isrt, ins_len, isrt_len (l := xs)]
theorem ins_congr {α : Type} {lt lt' : α → α → Bool} {x : α} : ∀ {l : List α}, (∀ y ∈ l, lt y x = lt' y x) → ins lt x l = ins lt' x l
  | [], _ => rfl
  | y :: ys, h => by
    unfold ins
    rw [h y (List.mem_cons_self ..), ins_congr fun z hz => h z (List.mem_cons_of_mem _ hz)]
theorem isrt_congr {α : Type} {lt lt' : α → α → Bool} : ∀ {l : List α}, (∀ x ∈ l, ∀ y ∈ l, lt x y = lt' x y) → isrt lt l = isrt lt' l
  | [], _ => rfl
  | x :: xs, h => by
    unfold isrt
    rw [isrt_congr fun a ha b hb => h a (List.mem_cons_of_mem _ ha) b (List.mem_cons_of_mem _ hb)]
    exact ins_congr fun y hy => h y (List.mem_cons_of_mem _ (isrt_mem.mp hy)) x (List.mem_cons_self ..)
theorem ins_map {α β : Type} {lt : α → α → Bool} {lt' : β → β → Bool} (f : α → β) (h : ∀ x y, lt' (f x) (f y) = lt x y) {x : α} : ∀ {l : List α}, ins lt' (f x) (l.map f) = (ins lt x l).map f
  | [] => rfl
  | y :: ys => by
    simp only [List.map_cons, ins, h]
    split
    · rw [List.map_cons, ins_map f h]
    · rfl
theorem isrt_map {α β : Type} {lt : α → α → Bool} {lt' : β → β → Bool} (f : α → β) (h : ∀ x y, lt' (f x) (f y) = lt x y) : ∀ {l : List α}, isrt lt' (l.map f) = (isrt lt l).map f
  | [] => rfl
  | x :: xs => by rw [List.map_cons, isrt, isrt, isrt_map f h, ins_map f h]
section
variable {α : Type} {le : α → α → Bool}
theorem ins_pw (T : TotalLe le) {x : α} : ∀ {l : List α}, l.Pairwise (fun a b => le a b = true) → (ins (fun a b => !le b a) x l).Pairwise fun a b => le a b = true
  | [], _ => by simp [ins]
  | y :: ys, h => by
    rw [List.pairwise_cons] at h
    unfold ins
    split
    · rename_i hx
      rw [List.pairwise_cons]
      refine ⟨fun z hz => ?_, ins_pw T h.2⟩
      rcases ins_mem.mp hz with rfl | hz
      · have hx' : le z y = false := by simpa using hx
        exact (T.total y z).elim id fun q => by rw [hx'] at q; cases q
      · exact h.1 z hz
    · rename_i hx
      have hx' : le x y = true := by simpa using hx
      rw [List.pairwise_cons]
      refine ⟨fun z hz => ?_, List.pairwise_cons.mpr h⟩
      rcases List.mem_cons.mp hz with rfl | hz
      · exact hx'
      · exact T.trans x y z hx' (h.1 z hz)
theorem isrt_pw (T : TotalLe le) : ∀ {l : List α}, (isrt (fun a b => !le b a) l).Pairwise fun a b => le a b = true
  | [] => by simp [isrt]
  | x :: xs => ins_pw T (isrt_pw T)
theorem ins_filter (T : TotalLe le) {x c : α} : ∀ {l : List α}, (ins (fun a b => !le b a) x l).filter (sameRank le c) = (x :: l).filter (sameRank le c)
  | [] => rfl
  | y :: ys => by
    unfold ins
    split
    · rename_i hx
      have hx' : le x y = false := by simpa using hx
      rw [List.filter_cons, ins_filter T, List.filter_cons, List.filter_cons, List.filter_cons]
      by_cases h1 : sameRank le c x = true
      · have h2 : sameRank le c y = false := by
          cases q : sameRank le c y with
          | false => rfl
          | true =>
            unfold sameRank at h1 q
            rw [Bool.and_eq_true] at h1 q
            have := T.trans x c y h1.2 q.1
            rw [hx'] at this
            cases this
        simp [h1, h2]
      · simp [h1]
    · rfl
theorem isrt_filter (T : TotalLe le) {c : α} : ∀ {l : List α}, (isrt (fun a b => !le b a) l).filter (sameRank le c) = l.filter (sameRank le c)
  | [] => rfl
  | x :: xs => by
    unfold isrt
    rw [ins_filter T, List.filter_cons, List.filter_cons, isrt_filter T]
theorem isrt_merge (T : TotalLe le) (l : List α) : isrt (fun a b => !le b a) l = l.mergeSort le := sort_unique T (isrt_pw T) fun c => isrt_filter T
end
/-! ### data -/
mutual
theorem alike_of : ∀ {d e : PyData}, cmpOk d e = true → alike d e = true
  | .int _, .int _, _ => by simp [alike]
  | .tuple ds, .tuple es, h => by
    simp only [cmpOk] at h
    simp only [alike]
    exact alikeAll_of h
  | .none, _, h => by simp [cmpOk] at h
  | .bool _, _, h => by simp [cmpOk] at h
  | .str _, _, h => by simp [cmpOk] at h
  | .list _, _, h => by simp [cmpOk] at h
  | .dict _, _, h => by simp [cmpOk] at h
  | .int _, .none, h => by simp [cmpOk] at h
  | .int _, .bool _, h => by simp [cmpOk] at h
  | .int _, .str _, h => by simp [cmpOk] at h
  | .int _, .list _, h => by simp [cmpOk] at h
  | .int _, .dict _, h => by simp [cmpOk] at h
  | .int _, .tuple _, h => by simp [cmpOk] at h
  | .tuple _, .none, h => by simp [cmpOk] at h
  | .tuple _, .bool _, h => by simp [cmpOk] at h
  | .tuple _, .str _, h => by simp [cmpOk] at h
  | .tuple _, .list _, h => by simp [cmpOk] at h
  | .tuple _, .dict _, h => by simp [cmpOk] at h
  | .tuple _, .int _, h => by simp [cmpOk] at h
theorem alikeAll_of : ∀ {ds es : List PyData}, cmpOkL ds es = true → alikeAll ds es = true
  | [], _, _ => by simp [alikeAll]
  | _ :: _, [], _ => by simp [alikeAll]
  | d :: ds, e :: es, h => by
    simp only [cmpOkL, Bool.and_eq_true] at h
    simp only [alikeAll, Bool.and_eq_true]
    exact ⟨alike_of h.1, alikeAll_of h.2⟩
end
theorem firstLt_lexAt {e r : Nat → Bool} {z : Bool} : ∀ (k i : Nat), SeqAt.firstLt e r z ((List.range k).map (· + i)) = Ob.lexAt e r z i k
  | 0, _ => rfl
  | k + 1, i => by
    rw [List.range_succ_eq_map, List.map_cons, List.map_map, Ob.lexAt_succ]
    have e1 : (((fun x => x + i) ∘ Nat.succ) : Nat → Nat) = fun x => x + (i + 1) := by funext x; simp; omega
    rw [e1, ← firstLt_lexAt k (i + 1)]
    simp [SeqAt.firstLt]
mutual
theorem dataLt_cmp : ∀ {d e : PyData}, cmpOk d e = true → dataLt d e = cmpB .Lt d e
  | .int i, .int j, _ => by
    rw [dataLt_int]
    simp [cmpB, cmpI]
  | .tuple ds, .tuple es, h => by
    simp only [cmpOk] at h
    rw [dataLt_tuple, ← firstLt_toks ds es (alikeAll_of h)]
    have q := firstLt_lexAt (e := SeqAt.pairEq ds es) (r := fun j => dataLt (ds.getD j .none) (es.getD j .none)) (z := decide (ds.length < es.length)) (min ds.length es.length) 0
    simp only [Nat.add_zero, List.map_id'] at q
    rw [q, cmpB, ← lexAt_cmp]
    have key := dataLtAll_cmp (ds := ds) (es := es) h
    have cong : ∀ (k i : Nat), i + k ≤ min ds.length es.length → Ob.lexAt (SeqAt.pairEq ds es) (fun j => dataLt (ds.getD j .none) (es.getD j .none)) (decide (ds.length < es.length)) i k = Ob.lexAt (eF ds es) (rF .Lt ds es) (cmpI .Lt (ds.length : Nat) (es.length : Nat)) i k := by
      intro k
      induction k with
      | zero => intro i _; simp [Ob.lexAt_zero, cmpI]
      | succ k ih =>
        intro i hi
        rw [Ob.lexAt_succ, Ob.lexAt_succ, ih (i + 1) (by omega)]
        have e1 : SeqAt.pairEq ds es i = eF ds es i := rfl
        rw [e1]
        have e2 := key i (by omega) (by omega)
        rw [show dataLt (ds.getD i .none) (es.getD i .none) = rF .Lt ds es i from e2]
    exact cong _ 0 (by omega)
  | .none, _, h => by simp [cmpOk] at h
  | .bool _, _, h => by simp [cmpOk] at h
  | .str _, _, h => by simp [cmpOk] at h
  | .list _, _, h => by simp [cmpOk] at h
  | .dict _, _, h => by simp [cmpOk] at h
  | .int _, .none, h => by simp [cmpOk] at h
  | .int _, .bool _, h => by simp [cmpOk] at h
  | .int _, .str _, h => by simp [cmpOk] at h
  | .int _, .list _, h => by simp [cmpOk] at h
  | .int _, .dict _, h => by simp [cmpOk] at h
  | .int _, .tuple _, h => by simp [cmpOk] at h
  | .tuple _, .none, h => by simp [cmpOk] at h
  | .tuple _, .bool _, h => by simp [cmpOk] at h
  | .tuple _, .str _, h => by simp [cmpOk] at h
  | .tuple _, .list _, h => by simp [cmpOk] at h
  | .tuple _, .dict _, h => by simp [cmpOk] at h
  | .tuple _, .int _, h => by simp [cmpOk] at h
theorem dataLtAll_cmp : ∀ {ds es : List PyData}, cmpOkL ds es = true → ∀ i, i < ds.length → i < es.length → dataLt (ds.getD i .none) (es.getD i .none) = cmpB .Lt (ds.getD i .none) (es.getD i .none)
  | [], _, _, i, h, _ => by simp at h
  | _ :: _, [], _, i, _, h => by simp at h
  | d :: ds, e :: es, h, i, h1, h2 => by
    simp only [cmpOkL, Bool.and_eq_true] at h
    cases i with
    | zero => simpa using dataLt_cmp h.1
    | succ i => simpa using dataLtAll_cmp h.2 i (by simpa using h1) (by simpa using h2)
end
/-- the list may be sorted: ints, or tuples of such, nested -/
def sOk (ds : List PyData) : Bool := ds.all (fun d => ds.all fun e => cmpOk d e) && (ds.all (fun d => SeqAt.shaped d) && decide (ds.length ≤ 1000000))
def srtD (ds : List PyData) : List PyData := isrt (fun d e => cmpB .Lt d e) ds
theorem sOk_p {ds : List PyData} (h : sOk ds = true) : (∀ d ∈ ds, ∀ e ∈ ds, cmpOk d e = true) ∧ (∀ d ∈ ds, SeqAt.shaped d = true) ∧ ds.length ≤ 1000000 := by
  unfold sOk at h
  simp only [Bool.and_eq_true, List.all_eq_true, decide_eq_true_eq] at h
  exact h
theorem dataTotal : TotalLe (dataLe (β := PyData) false id) := sortLe_total _ _ _
theorem srt_merge {ds : List PyData} (h : ∀ d ∈ ds, ∀ e ∈ ds, cmpOk d e = true) : srtD ds = ds.mergeSort (dataLe (β := PyData) false id) := by
  rw [← isrt_merge dataTotal]
  unfold srtD
  refine isrt_congr fun x hx y hy => ?_
  rw [← dataLt_cmp (h x hx y hy)]
  show dataLt x y = !(!dataLt x y)
  rw [Bool.not_not]
theorem sorts_ok {prog : Program} {w : World} {A : Around} {s : Shared} {vs : List Value} {ds : List PyData} (e : EachIs (fun v d => ∃ as, Reads s.heap v d as) vs ds) (h : sOk ds = true) (hu : A.units + 65 < cLine) : SortsAt prog w A s (dataKind s.heap ds) vs := by
  obtain ⟨h1, h2, h3⟩ := sOk_p h
  have hal : AllAlike ds := fun d hd d' hd' => alike_of (h1 d hd d' hd')
  have hub : ∀ d, d ∈ ds → A.units + d.depth < cLine := fun d hd => by
    have := SeqAt.depth_of_shaped (h2 d hd)
    omega
  cases ds with
  | nil => exact SortsAt.data e hal (.inl fun d hd => by simp at hd) hub
  | cons d₀ ds₀ =>
    have h0 := h1 d₀ (List.mem_cons_self ..)
    cases d₀ with
    | int i =>
      refine SortsAt.data e hal (.inr fun d hd => ?_) hub
      have := h0 d hd
      cases d with
      | int j => exact ⟨fun q => (nomatch q), fun xs q => (nomatch q)⟩
      | _ => simp [cmpOk] at this
    | tuple xs =>
      have ht : ∀ d, d ∈ PyData.tuple xs :: ds₀ → ∃ ys, d = PyData.tuple ys := fun d hd => by
        have := h0 d hd
        cases d with
        | tuple ys => exact ⟨ys, rfl⟩
        | _ => simp [cmpOk] at this
      by_cases hm : PyData.tuple [] ∈ PyData.tuple xs :: ds₀
      · exact SortsAt.mixed e hal ht hm hub
      · refine SortsAt.data e hal (.inl fun d hd => ?_) hub
        obtain ⟨ys, rfl⟩ := ht d hd
        cases ys with
        | nil => exact absurd hd hm
        | cons y ys => exact ⟨y, ys, rfl⟩
    | _ =>
      have := h0 _ (List.mem_cons_self ..)
      simp [cmpOk] at this
theorem reads_each {h : Heap} : ∀ {vs : List Value} {ds : List PyData} {as : List Addr}, ReadsAll h vs ds as → EachIs (fun v d => ∃ as, Reads h v d as) vs ds
  | _, _, _, .nil => .nil
  | _, _, _, .cons h1 h2 => .cons ⟨_, h1⟩ (reads_each h2)
section
variable {X : Cx} {tabs : Tb}
def sortedV : List PyData → Option PyData
  | [.list ds] => if sOk ds = true then some (.list (srtD ds)) else none
  | _ => none
theorem each_vals {R : V → PyData → Prop} : ∀ {vs : List Value} {ds : List PyData}, EachIs (fun u d => ∃ v, RelV v u ∧ R v d) vs ds → ∃ xs, Vals xs vs ∧ Paired R xs ds
  | _, _, .nil => ⟨[], .nil, .nil⟩
  | _, _, .cons ⟨v, h1, h2⟩ t => by
    obtain ⟨xs, q1, q2⟩ := each_vals t
    exact ⟨v :: xs, .cons h1 q1, .cons h2 q2⟩
theorem vals_each {K : PySem.W.Frag} {H : Hp} : ∀ {xs : List V} {vs : List Value} {ds : List PyData}, Vals xs vs → RpAll K H xs ds → EachIs (fun u d => ∃ v, RelV v u ∧ Rp K H v d) vs ds
  | _, _, _, .nil, .nil => .nil
  | _, _, _, .cons r t, .cons q u => .cons ⟨_, r, q⟩ (vals_each t u)
theorem paired_rp {K : PySem.W.Frag} {H : Hp} : ∀ {xs : List V} {ds : List PyData}, Paired (Rp K H) xs ds → RpAll K H xs ds
  | _, _, .nil => .nil
  | _, _, .cons h t => .cons h (paired_rp t)
theorem cs_sorted (hu : X.A.units + 70 < cLine) : CallS X (.builtin "sorted") sortedV := by
  intro pins s σ H xs us tabs δ O st ds z Q I rx W hx hz c
  unfold sortedV at hz
  split at hz
  · rename_i es
    split at hz
    · rename_i hs
      cases hz
      obtain ⟨h1, h2, h3⟩ := sOk_p hs
      cases hx with
      | cons q1 q2 =>
        cases q2
        obtain ⟨a, vs, rfl, k1, k2⟩ := q1.lst
        obtain ⟨its, rv, hl, hz⟩ := I.list (SqL.of (K := X.K) k1)
        rw [Vals.ref1 rx]
        have lay : PyData.canLayAll0 es = true := by
          have : ∀ l : List PyData, (∀ d ∈ l, SeqAt.shaped d = true) → PyData.canLayAll0 l = true := by
            intro l
            induction l with
            | nil => intro _; simp [PyData.canLayAll0]
            | cons d l ih =>
              intro h
              simp only [PyData.canLayAll0, Bool.and_eq_true]
              exact ⟨SeqAt.canLay_of_shaped (h d (List.mem_cons_self ..)), ih fun e he => h e (List.mem_cons_of_mem _ he)⟩
          exact this es h2
        obtain ⟨as, ra⟩ := Dp.readsAll I es vs its ((k2.mono rds_mask).dp lay) rv
        have er := reads_each ra
        have er' : EachIs (fun v d => ∃ as, Reads (sortingHeap (copyHeap s.heap its) (s.heap.objs.size + 1) its) v d as) its es := er.mono fun _ _ ⟨as, r⟩ => ⟨as, PyProof.Rows.Reads.keeps (fun _ _ => sorting_copy_old) r⟩
        have hal : AllAlike es := fun d hd d' hd' => alike_of (h1 d hd d' hd')
        have hlen : its.length = es.length := by rw [← rv.length, k2.length]
        refine sorted_vals (κ := dataKind (sortingHeap (copyHeap s.heap its) (s.heap.objs.size + 1) its) es) hl.isList (sorts_ok (s := { s with heap := sortingHeap (copyHeap s.heap its) (s.heap.objs.size + 1) its }) er' hs (by show X.A.units + 1 + 1 + 65 < cLine; omega)) (by rw [hlen]; exact line_le h3) ?_
        have ev := sortVals_data (h' := sortingHeap (copyHeap s.heap its) (s.heap.objs.size + 1) its) (enc := id) (bs := es) false (vals_each rv k2) (by simpa using er') (by simpa using hal)
        rw [List.map_id, ← srt_merge h1] at ev
        obtain ⟨ys, v1, v2⟩ := each_vals ev
        obtain ⟨ep, he'⟩ := PyProof.Rows.sortedAll_at s.heap its (sortVals (dataKind (sortingHeap (copyHeap s.heap its) (s.heap.objs.size + 1) its) es) false its its).toArray
        have hl2 : ys.length ≤ sizeLine := by
          rw [(paired_rp v2).length]
          unfold srtD
          rw [isrt_len]
          exact line_le h3
        exact ⟨.ref _, upd H (s.heap.objs.size + 1) (.lst ys), I.laid (t' := s.toks) (fun _ _ => PyProof.Rows.sortedAll_old) (Nat.le_succ _) ⟨hl2, _, ep, v1, he'⟩, rfl, c.lst W (paired_rp v2) _ (I.hok.fresh (Nat.le_succ _))⟩
    · cases hz
  · cases hz
end
end Fo
namespace Fo
open PySem PySem.Spec PyProof.Rows L2
section
variable {K : PySem.W.Frag} {tabs : Tb} {δ : Option Addr} {O : Addr → Prop} {ρ : Rho} {σ : L2.St} {H : Hp}
/-! ### slots stored, forgotten -/
theorem Slots.set (S : Slots K δ O ρ σ H) (i : Nat) {v : V} {d : PyData} (r : Rp K (mask O H) v d) : Slots K δ O (ρ.set i (some (.va d))) (σ.set i (some v)) H := by
  refine ⟨fun j en h => ?_, fun j l d' e v' hne h1 h2 h3 => ?_, by rw [List.length_set, List.length_set, S.len]⟩
  · by_cases hj : i = j
    · subst hj
      by_cases hl : i < ρ.length
      · rw [List.getElem?_set_self hl] at h
        cases h
        exact ⟨v, List.getElem?_set_self (by rw [← S.len]; exact hl), r⟩
      · rw [List.getElem?_eq_none (by rw [List.length_set]; omega)] at h
        cases h
    · rw [List.getElem?_set_ne hj] at h
      obtain ⟨u, q1, q2⟩ := S.at_ j en h
      exact ⟨u, by rw [List.getElem?_set_ne hj]; exact q1, q2⟩
  · have ne : ∀ j d', (ρ.set i (some (En.va d)))[j]? = some (some (.ow d')) → i ≠ j ∧ ρ[j]? = some (some (.ow d')) := fun j d' h => by
      by_cases hj : i = j
      · subst hj
        by_cases hl : i < ρ.length
        · rw [List.getElem?_set_self hl] at h
          cases h
        · rw [List.getElem?_eq_none (by rw [List.length_set]; omega)] at h
          cases h
      · rw [List.getElem?_set_ne hj] at h
        exact ⟨hj, h⟩
    obtain ⟨n1, k1⟩ := ne j d' h1
    obtain ⟨n2, k2⟩ := ne l e h2
    rw [List.getElem?_set_ne n1] at h3
    rw [List.getElem?_set_ne n2]
    exact S.inj j l d' e v' hne k1 k2 h3
def wipeR (ρ : Rho) : List Nat → Rho
  | [] => ρ
  | v :: vs => (wipeR ρ vs).set v none
theorem Slots.forget (S : Slots K δ O ρ σ H) (i : Nat) : Slots K δ O (ρ.set i none) (σ.set i none) H := by
  have ne : ∀ j en, (ρ.set i none)[j]? = some (some en) → i ≠ j ∧ ρ[j]? = some (some en) := fun j en h => by
    by_cases hj : i = j
    · subst hj
      by_cases hl : i < ρ.length
      · rw [List.getElem?_set_self hl] at h
        cases h
      · rw [List.getElem?_eq_none (by rw [List.length_set]; omega)] at h
        cases h
    · rw [List.getElem?_set_ne hj] at h
      exact ⟨hj, h⟩
  refine ⟨fun j en h => ?_, fun j l d' e v' hne h1 h2 h3 => ?_, by rw [List.length_set, List.length_set, S.len]⟩
  · obtain ⟨n, k⟩ := ne j en h
    obtain ⟨u, q1, q2⟩ := S.at_ j en k
    exact ⟨u, by rw [List.getElem?_set_ne n]; exact q1, q2⟩
  · obtain ⟨n1, k1⟩ := ne j _ h1
    obtain ⟨n2, k2⟩ := ne l _ h2
    rw [List.getElem?_set_ne n1] at h3
    rw [List.getElem?_set_ne n2]
    exact S.inj j l d' e v' hne k1 k2 h3
theorem Slots.wipe (S : Slots K δ O ρ σ H) : ∀ vs : List Nat, Slots K δ O (wipeR ρ vs) (L2.wipe σ vs) H
  | [] => S
  | v :: vs => (Slots.wipe S vs).forget v
/-- a new object is owned -/
theorem Slots.newOwn (S : Slots K δ O ρ σ H) {p : Addr} {o : HO} (hp : H p = none) : Slots K δ (plus O p) ρ σ (L2.upd H p o) := by
  refine ⟨fun i en h => ?_, S.inj, S.len⟩
  obtain ⟨v, q1, q2⟩ := S.at_ i en h
  refine ⟨v, q1, ?_⟩
  have rd : Rds (mask O H) (mask (plus O p) (L2.upd H p o)) := rds_newOwn hp
  cases en with
  | va d => exact Rp.mono rd q2
  | dr => exact q2
  | ow d =>
    cases d with
    | list ds =>
      obtain ⟨a, xs, e, o, n, k1, k2⟩ := q2
      exact ⟨a, xs, e, .inl o, n, by rw [upd_ne (ne_of_none k1 hp)]; exact k1, k2.mono rd⟩
    | dict kvs =>
      obtain ⟨a, e, o, n, q⟩ := q2
      refine ⟨a, e, .inl o, n, ?_⟩
      exact (q.mono rd).to fun u k1 _ => by rw [upd_ne (ne_of_none k1 hp)]; exact k1
    | _ => exact q2
/-- an owned object that is no slot's is changed -/
theorem Slots.upd (S : Slots K δ O ρ σ H) {p : Addr} {o : HO} (hp : O p) (hd : δ ≠ some p) (hn : ∀ (i : Nat) (d : PyData), ρ[i]? = some (some (.ow d)) → σ[i]? ≠ some (some (.ref p))) : Slots K δ O ρ σ (L2.upd H p o) := by
  refine ⟨fun i en h => ?_, S.inj, S.len⟩
  obtain ⟨v, q1, q2⟩ := S.at_ i en h
  refine ⟨v, q1, ?_⟩
  have rd : Rds (mask O H) (mask O (L2.upd H p o)) := rds_upd hp
  cases en with
  | va d => exact Rp.mono rd q2
  | dr => exact q2
  | ow d =>
    have hne : ∀ a, v = .ref a → a ≠ p := fun a e z => hn i d h (by rw [q1, e, z])
    cases d with
    | list ds =>
      obtain ⟨a, xs, e, o, n, k1, k2⟩ := q2
      exact ⟨a, xs, e, o, n, by rw [upd_ne (hne a e)]; exact k1, k2.mono rd⟩
    | dict kvs =>
      obtain ⟨a, e, o, n, q⟩ := q2
      refine ⟨a, e, o, n, ?_⟩
      exact (q.mono rd).to fun u k1 _ => by rw [upd_ne (hne a e)]; exact k1
    | _ => exact q2
theorem WOk.upd {st : Dr} (W : WOk K tabs δ O st H) {p : Addr} {o : HO} (hp : O p) (hd : δ ≠ some p) (hm : Mut (H p)) : WOk K tabs δ O st (L2.upd H p o) := by
  have ntbl : ∀ b ps, H b = some (.tbl ps) → b ≠ p := fun b ps h z => by subst z; rw [h] at hm; exact hm
  have nfrz : ∀ b o u, H b = some (.frz o u) → b ≠ p := fun b o u h z => by subst z; rw [h] at hm; exact hm
  refine ⟨fun P hP => (W.tab P hP).keep (fun b ps e => by rw [upd_ne (ntbl _ _ e)]; exact e) (fun b o e => by rw [upd_ne (nfrz _ _ _ e)]; exact e), fun P hP => ⟨(W.tab2 P hP).1, TabG.keep (W.tab2 P hP).2 (fun b ps e => by rw [upd_ne (ntbl _ _ e)]; exact e)⟩, fun a ha => ?_, fun a ha z => ?_⟩
  · obtain ⟨h1, sa, e, hs⟩ := W.dr a ha
    have hap : a ≠ p := fun z => hd (by rw [ha, z])
    exact ⟨h1, sa, by rw [upd_ne hap]; exact e, (rds_upd hp).seqL hs⟩
  · by_cases h : a = p
    · subst h; rw [upd_same] at z; cases z
    · rw [upd_ne h] at z; exact W.own a ha z
end
end Fo
namespace Fo
open PySem PySem.Spec PyProof.Rows L2
structure Lat2 (δ : Option Addr) (O : Addr → Prop) (H : Hp) (O2 : Addr → Prop) (H2 : Hp) : Prop where
  ext : Ext δ H H2
  up : ∀ a, O a → O2 a
  dn : ∀ a, O2 a → O a ∨ H a = none
section
variable {K : PySem.W.Frag} {tabs : Tb} {δ : Option Addr} {O O2 O3 : Addr → Prop} {ρ : Rho} {σ : L2.St} {H H2 H3 : Hp} {st : Dr}
theorem Lat2.refl : Lat2 δ O H O H := ⟨Ext.refl _ _, fun _ h => h, fun _ h => .inl h⟩
theorem Lat2.trans (a : Lat2 δ O H O2 H2) (b : Lat2 δ O2 H2 O3 H3) : Lat2 δ O H O3 H3 :=
  ⟨a.ext.trans b.ext, fun x h => b.up x (a.up x h), fun x h => (b.dn x h).elim (a.dn x) fun q => .inr (a.ext.dom x q)⟩
theorem Lat2.of (e : Ext δ H H2) : Lat2 δ O H O H2 := ⟨e, fun _ h => h, fun _ h => .inl h⟩
theorem Lat2.rds (a : Lat2 δ O H O2 H2) (hd : ∀ a, δ = some a → O a) : Rds (mask O H) (mask O2 H2) :=
  ⟨fun b o e t => by
    obtain ⟨h1, h2⟩ := mask_some.mp e
    refine mask_some.mpr ⟨fun z => ?_, a.ext.keep b o h2 (fun z => h1 (hd b z.symm)) t⟩
    rcases a.dn b z with q | q
    · exact h1 q
    · rw [q] at h2; cases h2⟩
theorem Lat2.newOwn {p : Addr} {o : HO} (h : H p = none) : Lat2 δ O H (plus O p) (L2.upd H p o) := ⟨Ext.new h, fun _ h => .inl h, fun a q => q.elim .inl fun z => .inr (z ▸ h)⟩
/-- what is younger is changed -/
theorem Lat2.upd (a : Lat2 δ O H O2 H2) {p : Addr} {o : HO} (h : H p = none) (h2 : H2 p ≠ none) : Lat2 δ O H O2 (L2.upd H2 p o) :=
  ⟨⟨fun b u e hd t => by
    rw [upd_ne (ne_of_none e h)]
    exact a.ext.keep b u e hd t, fun b ps e => by
    rw [upd_ne (ne_of_none e h)]
    exact a.ext.tbl b ps e, fun b e => by
    by_cases hb : b = p
    · subst hb; exact h
    · rw [upd_ne hb] at e; exact a.ext.dom b e⟩, a.up, a.dn⟩
/-! ### targets -/
inductive Tg where
  | nm (i : Nat)
  | tp (is : List Nat)
def Tg.slots : Tg → List Nat
  | .nm i => [i]
  | .tp is => is
def setAll (ρ : Rho) : List Nat → List PyData → Rho
  | i :: is, d :: ds => setAll (ρ.set i (some (.va d))) is ds
  | _, _ => ρ
def storeT (t : Tg) (d : PyData) (ρ : Rho) : Option Rho := match t with
  | .nm i => some (ρ.set i (some (.va d)))
  | .tp is => match d with
    | .tuple ds => if ds.length = is.length then some (setAll ρ is ds) else none
    | _ => none
def RdG (K : PySem.W.Frag) (t : Tg) : TG := fun v σ H Q => ∃ δ O ρ d ρ', Slots K δ O ρ σ H ∧ Rp K (mask O H) v d ∧ storeT t d ρ = some ρ' ∧ ∀ σ', Slots K δ O ρ' σ' H → (∀ j, j ∉ t.slots → σ'[j]? = σ[j]?) → Q σ' H
theorem PG.imp {X : Cx} {e : Expr} {t t' : TG} (h : PG X e t) (i : ∀ v σ H Q, t' v σ H Q → t v σ H Q) : PG X e t' := ⟨fun pins s σ H v u Q I r q => h.run pins s σ H v u Q I r (i v σ H Q q)⟩
theorem PGs.imp {X : Cx} {e : List Expr} {t t' : TGs} (h : PGs X e t) (i : ∀ v σ H Q, t' v σ H Q → t v σ H Q) : PGs X e t' := ⟨fun pins s σ H v u Q I r q => h.run pins s σ H v u Q I r (i v σ H Q q)⟩
/-- the name e is slot i -/
structure NmOk (X : Cx) (e : Expr) (i : Nat) : Prop where
  ok : ∃ x pos, e = .Name x pos ∧ X.N[i]? = some x ∧ Loc X.env.scope x ∧ (X.fn x = true ∨ X.env.scope.names.lookup x = some .local)
theorem eg_nm {X : Cx} {e : Expr} {i : Nat} (hN : X.N.Nodup) (h : NmOk X e i) : PG X e (RdG X.K (.nm i)) := by
  obtain ⟨x, pos, rfl, hi, hx, hf⟩ := h.ok
  refine PG.imp (pg_name hN hi hx hf) fun v σ H Q ⟨δ, O, ρ, d, ρ', S, r, e, c⟩ => ?_
  cases e
  exact c _ (S.set i r) fun j hj => List.getElem?_set_ne (fun z => hj (by simp [Tg.slots, z]))
def RdGs (K : PySem.W.Frag) (is : List Nat) : TGs := fun vs σ H Q => ∃ δ O ρ ds, Slots K δ O ρ σ H ∧ RpAll K (mask O H) vs ds ∧ ds.length = is.length ∧ ∀ σ', Slots K δ O (setAll ρ is ds) σ' H → (∀ j, j ∉ is → σ'[j]? = σ[j]?) → Q σ' H
theorem each_nm {x : PySem.Str} {pos : Pos} {es : List Expr} {env : Env} : assignEach (.Name x pos :: es) env = (false, assign (.Name x pos) env) :: assignEach es env := rfl
theorem eg_nms {X : Cx} (hN : X.N.Nodup) : ∀ {es : List Expr} {is : List Nat}, Paired (NmOk X) es is → PGs X es (RdGs X.K is)
  | _, _, .nil => PGs.imp pgs_nil fun vs σ H Q ⟨δ, O, ρ, ds, S, r, l, c⟩ => by
    cases ds with
    | nil =>
      cases r
      exact ⟨rfl, c σ S fun _ _ => rfl⟩
    | cons d ds => simp at l
  | e :: es, i :: is, .cons h t => by
    obtain ⟨x, pos, rfl, hi, hx, hf⟩ := h.ok
    refine PGs.imp (pgs_cons (pg_name hN hi hx hf) (eg_nms hN t) rfl) fun vs σ H Q ⟨δ, O, ρ, ds, S, r, l, c⟩ => ?_
    cases ds with
    | nil => simp at l
    | cons d ds =>
      cases r with
      | cons r1 r2 =>
        refine ⟨_, _, rfl, δ, O, ρ.set i (some (.va d)), ds, S.set i r1, r2, by simpa using l, fun σ' S' k => c σ' S' fun j hj => ?_⟩
        rw [List.mem_cons, not_or] at hj
        rw [k j hj.2, List.getElem?_set_ne (fun z => hj.1 z.symm)]
theorem nms_plain {X : Cx} : ∀ {es : List Expr} {is : List Nat}, Paired (NmOk X) es is → (assignEach es X.env).length = is.length ∧ (assignEach es X.env).findIdx? (·.1) = none
  | _, _, .nil => ⟨rfl, rfl⟩
  | e :: es, i :: is, .cons h t => by
    obtain ⟨x, pos, rfl, _⟩ := h.ok
    obtain ⟨h1, h2⟩ := nms_plain t
    rw [each_nm]
    refine ⟨by rw [List.length_cons, List.length_cons, h1], ?_⟩
    rw [List.findIdx?_cons, h2]
    rfl
theorem eg_tp {X : Cx} {es : List Expr} {is : List Nat} {k : Nat} {pos : Pos} (hc : X.calm = true) (hN : X.N.Nodup) (h : Paired (NmOk X) es is) : PG X (.Tuple es k pos) (RdG X.K (.tp is)) := by
  obtain ⟨h1, h2⟩ := nms_plain h
  refine PG.imp (pg_tup (n := is.length) hc (eg_nms hN h) h1 h2) fun v σ H Q ⟨δ, O, ρ, d, ρ', S, r, e, c⟩ => ?_
  unfold storeT at e
  cases d with
  | tuple ds =>
    simp only at e
    split at e
    · rename_i hl
      cases e
      cases r with
      | tup q1 q2 => exact ⟨_, _, rfl, SqT.of (mask_some.mp q1).2, by rw [q2.length, hl], δ, O, ρ, ds, S, q2, hl, c⟩
    · cases e
  | _ => cases e
/-! ### what is walked -/
def ItOk (K : PySem.W.Frag) (tabs : Tb) (δ : Option Addr) (L : (Addr → Prop) → Hp → Prop) (J : It) (items : List PyData) : Prop := ∀ (mm : List Addr) (O2 : Addr → Prop) (st2 : Dr) (H2 : Hp), WOk K ⟨tabs.l, mm⟩ δ O2 st2 H2 → L O2 H2 → ∀ i,
  (i < items.length → J.go i H2 ∧ ∀ x H3, J.yld i H2 x H3 → Ext δ H2 H3 ∧ WOk K ⟨tabs.l, mm⟩ δ O2 st2 H3 ∧ ∃ d, items[i]? = some d ∧ Rp K (mask O2 H3) x d) ∧ (items.length ≤ i → J.stop i H2)
def RdI (K : PySem.W.Frag) (tabs : Tb) (m : SemL) : TI := fun σ H R => ∃ δ O ρ st items st', Slots K δ O ρ σ H ∧ WOk K tabs δ O st H ∧ m ρ st = some (items, st') ∧
  ∀ J H1, Ext δ H H1 → WOk K tabs δ O st' H1 → ItOk K tabs δ (fun O2 H2 => Rds (mask O H1) (mask O2 H2)) J items → R J H1
def RdIt (K : PySem.W.Frag) (tabs : Tb) (m : SemL) : TI := fun σ H R => ∃ δ O ρ st items st', Slots K δ O ρ σ H ∧ WOk K tabs δ O st H ∧ m ρ st = some (items, st') ∧
  ∀ J H1, Ext δ H H1 → WOk K tabs δ O st' H1 → ItOk K tabs δ (fun O2 H2 => Lat2 δ O H1 O2 H2) J items → R J H1
theorem PI.imp {X : Cx} {tg e : Expr} {t t' : TI} (h : PI X tg e t) (i : ∀ σ H R, t' σ H R → t σ H R) : PI X tg e t' := ⟨fun pins s σ H R I q => h.run pins s σ H R I (i σ H R q)⟩
theorem ei_T {X : Cx} {tg e : Expr} {m : SemL} (h : PI X tg e (RdI X.K tabs m)) : PI X tg e (RdIt X.K tabs m) := PI.imp h fun σ H R ⟨δ, O, ρ, st, items, st', S, W, e, c⟩ =>
  ⟨δ, O, ρ, st, items, st', S, W, e, fun J H1 E1 W1 h => c J H1 E1 W1 fun mm O2 st2 H2 W2 L => h mm O2 st2 H2 W2 (L.rds W1.dl)⟩
theorem it_list {L : (Addr → Prop) → Hp → Prop} {a : Addr} {items : List PyData} (h : ∀ O2 H2, L O2 H2 → ∃ xs, H2 a = some (.lst xs) ∧ RpAll K (mask O2 H2) xs items) : ItOk K tabs δ L (Itl K a) items := by
  intro mm O2 st2 H2 W2 hL i
  obtain ⟨xs, h1, h2⟩ := h O2 H2 hL
  refine ⟨fun hi => ⟨?_, fun x H3 hy => ?_⟩, fun hi => ⟨xs, SqL.of h1, by rw [h2.length]; exact hi⟩⟩
  · obtain ⟨v, k1, k2⟩ := h2.get (List.getElem?_eq_getElem hi)
    exact ⟨xs, v, SqL.of h1, k1⟩
  · obtain ⟨rfl, hy⟩ := hy
    obtain ⟨v, k1, k2⟩ := h2.get (List.getElem?_eq_getElem hi)
    have := hy xs (SqL.of h1)
    rw [k1] at this
    cases this
    exact ⟨Ext.refl _ _, W2, _, List.getElem?_eq_getElem hi, k2⟩
theorem it_tup {L : (Addr → Prop) → Hp → Prop} {a : Addr} {items : List PyData} (h : ∀ O2 H2, L O2 H2 → ∃ xs, H2 a = some (.tup xs) ∧ RpAll K (mask O2 H2) xs items) : ItOk K tabs δ L (Itt K a) items := by
  intro mm O2 st2 H2 W2 hL i
  obtain ⟨xs, h1, h2⟩ := h O2 H2 hL
  refine ⟨fun hi => ⟨?_, fun x H3 hy => ?_⟩, fun hi => ⟨xs, SqT.of h1, by rw [h2.length]; exact hi⟩⟩
  · obtain ⟨v, k1, k2⟩ := h2.get (List.getElem?_eq_getElem hi)
    exact ⟨xs, v, SqT.of h1, k1⟩
  · obtain ⟨rfl, hy⟩ := hy
    obtain ⟨v, k1, k2⟩ := h2.get (List.getElem?_eq_getElem hi)
    have := hy xs (SqT.of h1)
    rw [k1] at this
    cases this
    exact ⟨Ext.refl _ _, W2, _, List.getElem?_eq_getElem hi, k2⟩
def itemsR (m : Sem1) : SemL := fun ρ => do let v ← m ρ; up (itemsO v)
theorem ei_val {X : Cx} {tg e : Expr} {m : Sem1} (he : PE X e (Rd1 X.K tabs m)) : PI X tg e (RdI X.K tabs (itemsR m)) :=
  ⟨fun pins s σ H R I ⟨δ, O, ρ, st, items, st', S, W, e, c⟩ => by
    obtain ⟨v, st1, e1, f1⟩ := bnd_some e
    obtain ⟨g, rfl⟩ := up_some f1
    unfold itemsO at g
    split at g
    · cases g
      refine (pi_list he).run pins s σ H R I ⟨δ, O, ρ, st, _, _, S, W, e1, fun w H1 E1 W1 R1 => ?_⟩
      cases R1 with
      | lst h1 h2 =>
        refine ⟨_, rfl, ⟨_, SqL.of (mask_some.mp h1).2⟩, c _ _ E1 W1 (it_list fun O2 H2 L => ?_)⟩
        exact ⟨_, (mask_some.mp (L.keep _ _ h1 fun ps z => nomatch z)).2, h2.mono L⟩
    · cases g
      refine (pi_tup he).run pins s σ H R I ⟨δ, O, ρ, st, _, _, S, W, e1, fun w H1 E1 W1 R1 => ?_⟩
      cases R1 with
      | tup h1 h2 =>
        refine ⟨_, rfl, ⟨_, SqT.of (mask_some.mp h1).2⟩, c _ _ E1 W1 (it_tup fun O2 H2 L => ?_)⟩
        exact ⟨_, (mask_some.mp (L.keep _ _ h1 fun ps z => nomatch z)).2, h2.mono L⟩
    · cases g⟩
theorem ei_valT {X : Cx} {tg e : Expr} {m : Sem1} (he : PE X e (RdT X.K tabs m)) : PI X tg e (RdIt X.K tabs (itemsR m)) :=
  ⟨fun pins s σ H R I ⟨δ, O, ρ, st, items, st', S, W, e, c⟩ => by
    obtain ⟨v, st1, e1, f1⟩ := bnd_some e
    obtain ⟨g, rfl⟩ := up_some f1
    unfold itemsO at g
    split at g
    · cases g
      refine (pi_list he).run pins s σ H R I ⟨δ, O, ρ, st, _, _, S, W, e1, fun w H1 E1 W1 R1 => ?_⟩
      rcases R1 with R1 | ⟨a, xs, rfl, oa, na, h1, h2⟩
      · cases R1 with
        | lst h1 h2 =>
          refine ⟨_, rfl, ⟨_, SqL.of (mask_some.mp h1).2⟩, c _ _ E1 W1 (it_list fun O2 H2 L => ?_)⟩
          have L' := L.rds W1.dl
          exact ⟨_, (mask_some.mp (L'.keep _ _ h1 fun ps z => nomatch z)).2, h2.mono L'⟩
      · refine ⟨_, rfl, ⟨_, SqL.of h1⟩, c _ _ E1 W1 (it_list fun O2 H2 L => ?_)⟩
        exact ⟨_, L.ext.keep _ _ h1 (fun z => na z.symm) (fun ps z => nomatch z), h2.mono (L.rds W1.dl)⟩
    · cases g
      refine (pi_tup he).run pins s σ H R I ⟨δ, O, ρ, st, _, _, S, W, e1, fun w H1 E1 W1 R1 => ?_⟩
      rcases R1 with R1 | R1
      · cases R1 with
        | tup h1 h2 =>
          refine ⟨_, rfl, ⟨_, SqT.of (mask_some.mp h1).2⟩, c _ _ E1 W1 (it_tup fun O2 H2 L => ?_)⟩
          have L' := L.rds W1.dl
          exact ⟨_, (mask_some.mp (L'.keep _ _ h1 fun ps z => nomatch z)).2, h2.mono L'⟩
      · exact R1.elim
    · cases g⟩
/-! ### ranges -/
def rngD (lo c : Int) (n : Nat) : List PyData := (List.range n).map fun k : Nat => .int (lo + c * (k : Int))
def small62 (i : Int) : Bool := decide (-(2 ^ 62) ≤ i ∧ i < 2 ^ 62)
def rangeO : List PyData → Option (List PyData)
  | [.int j] => if small62 j = true then some (rngD 0 1 j.toNat) else none
  | [.int i, .int j] => if (small62 i && small62 j) = true then some (rngD i 1 (j - i).toNat) else none
  | _ => none
theorem it_rng {L : (Addr → Prop) → Hp → Prop} {lo : Int} {n : Nat} : ItOk K tabs δ L (Itr lo n) (rngD lo 1 n) := by
  intro mm O2 st2 H2 W2 hL i
  have hl : (rngD lo 1 n).length = n := by simp [rngD]
  refine ⟨fun hi => ⟨by rw [hl] at hi; exact hi, fun x H3 ⟨h1, h2⟩ => ?_⟩, fun hi => by rw [hl] at hi; exact hi⟩
  subst h1 h2
  rw [hl] at hi
  refine ⟨Ext.refl _ _, W2, .int (lo + i), ?_, .int _⟩
  unfold rngD
  rw [List.getElem?_map, List.getElem?_range hi]
  simp
def rngR (r : SemL) : SemL := fun ρ => do let ds ← r ρ; up (rangeO ds)
theorem plain1 {a : Expr} {env : Env} (h : [a].all plain = true) : starEach [a] env = [(false, eval a env)] := plain_star (plain_hd h).1
theorem plain2 {a b : Expr} {env : Env} (h : [a, b].all plain = true) : starEach [a, b] env = [(false, eval a env), (false, eval b env)] := by
  rw [plain_star (plain_hd h).1, plain1 (plain_hd h).2]
theorem trps1 {δ : Option Addr} {O : Addr → Prop} {H : Hp} {ws : List V} {j : Int} (h : TRps K δ O H ws [.int j]) : ws = [.int j] := by
  cases h with
  | cons h1 h2 => cases h2; rw [h1.int]
theorem trps2 {δ : Option Addr} {O : Addr → Prop} {H : Hp} {ws : List V} {i j : Int} (h : TRps K δ O H ws [.int i, .int j]) : ws = [.int i, .int j] := by
  cases h with
  | cons h1 h2 => rw [h1.int, trps1 h2]
theorem ei_rng1 {X : Cx} {tg a : Expr} {p pos : Pos} {r : SemL} (hg : Gl X "range") (hm : X.mg "range" = none) (hp : [a].all plain = true) (ha : PA X [a] (RdLT X.K tabs r)) (hn : ∀ ρ st ds st', r ρ st = some (ds, st') → ds.length = 1) :
    PI X tg (.Call (.Name "range" p) [a] [] pos) (RdI X.K tabs (rngR r)) :=
  PI.imp (pi_range1 hg hm ha (plain1 hp)) fun σ H R ⟨δ, O, ρ, st, items, st', S, W, e, c⟩ => by
    obtain ⟨ds, st1, e1, f1⟩ := bnd_some e
    obtain ⟨g, rfl⟩ := up_some f1
    refine ⟨δ, O, ρ, st, ds, _, S, W, e1, fun ws H1 E1 W1 R1 => ?_⟩
    unfold rangeO at g
    split at g
    · split at g
      · rename_i j hs
        cases g
        have hs := of_decide_eq_true hs
        exact ⟨j, trps1 R1, hs.1, hs.2, c _ _ E1 W1 it_rng⟩
      · cases g
    · have := hn _ _ _ _ e1
      simp at this
    · cases g
theorem ei_rng2 {X : Cx} {tg a b : Expr} {p pos : Pos} {r : SemL} (hg : Gl X "range") (hm : X.mg "range" = none) (hp : [a, b].all plain = true) (ha : PA X [a, b] (RdLT X.K tabs r)) (hn : ∀ ρ st ds st', r ρ st = some (ds, st') → ds.length = 2) :
    PI X tg (.Call (.Name "range" p) [a, b] [] pos) (RdI X.K tabs (rngR r)) :=
  PI.imp (pi_range2 hg hm ha (plain2 hp) (plain1 (plain_hd hp).2)) fun σ H R ⟨δ, O, ρ, st, items, st', S, W, e, c⟩ => by
    obtain ⟨ds, st1, e1, f1⟩ := bnd_some e
    obtain ⟨g, rfl⟩ := up_some f1
    refine ⟨δ, O, ρ, st, ds, _, S, W, e1, fun ws H1 E1 W1 R1 => ?_⟩
    unfold rangeO at g
    split at g
    · have := hn _ _ _ _ e1
      simp at this
    · split at g
      · rename_i i j hs
        cases g
        rw [Bool.and_eq_true] at hs
        have h1 := of_decide_eq_true hs.1
        have h2 := of_decide_eq_true hs.2
        exact ⟨i, j, trps2 R1, ⟨h1.1, h1.2, h2.1, h2.2⟩, c _ _ E1 W1 it_rng⟩
      · cases g
    · cases g
end
end Fo
namespace Fo
open PySem PySem.Spec PyProof.Rows L2
section
variable {K : PySem.W.Frag} {tabs : Tb} {δ : Option Addr} {O O2 : Addr → Prop} {ρ : Rho} {σ : L2.St} {H H2 : Hp} {st : Dr}
theorem Slots.lat (S : Slots K δ O ρ σ H) (L : Lat2 δ O H O2 H2) (hd : ∀ a, δ = some a → O a) : Slots K δ O2 ρ σ H2 := by
  refine ⟨fun i en h => ?_, S.inj, S.len⟩
  obtain ⟨v, q1, q2⟩ := S.at_ i en h
  refine ⟨v, q1, ?_⟩
  have rd := L.rds hd
  cases en with
  | va d => exact Rp.mono rd q2
  | dr => exact q2
  | ow d =>
    cases d with
    | list ds =>
      obtain ⟨a, xs, e, o, n, k1, k2⟩ := q2
      exact ⟨a, xs, e, L.up a o, n, L.ext.keep _ _ k1 (fun z => n z.symm) (fun ps z => nomatch z), k2.mono rd⟩
    | dict kvs =>
      obtain ⟨a, e, o, n, q⟩ := q2
      refine ⟨a, e, L.up a o, n, ?_⟩
      exact (q.mono rd).to fun u k1 t => L.ext.keep _ _ k1 (fun z => n z.symm) t
    | _ => exact q2
theorem setAll_len : ∀ (is : List Nat) (ds : List PyData) (ρ : Rho), (setAll ρ is ds).length = ρ.length
  | [], _, _ => rfl
  | _ :: _, [], _ => rfl
  | i :: is, d :: ds, ρ => by
    unfold setAll
    rw [setAll_len is ds, List.length_set]
theorem storeT_len {t : Tg} {d : PyData} {ρ ρ' : Rho} (h : storeT t d ρ = some ρ') : ρ'.length = ρ.length := by
  unfold storeT at h
  split at h
  · cases h; rw [List.length_set]
  · split at h
    · split at h
      · cases h; exact setAll_len _ _ _
      · cases h
    · cases h
theorem wipeR_len (ρ : Rho) : ∀ vs, (wipeR ρ vs).length = ρ.length
  | [] => rfl
  | v :: vs => by unfold wipeR; rw [List.length_set, wipeR_len ρ vs]
theorem wipe_in {σ : L2.St} {i : Nat} (hi : i < σ.length) : ∀ {vs : List Nat}, i ∈ vs → (L2.wipe σ vs)[i]? = some none
  | v :: vs, h => by
    unfold L2.wipe
    by_cases hv : v = i
    · subst hv
      rw [List.getElem?_set_self (by rw [wipe_length]; exact hi)]
    · rw [List.getElem?_set_ne hv]
      exact wipe_in hi ((List.mem_cons.mp h).elim (fun z => absurd z.symm hv) id)
theorem wipe_eq {σ σ' : L2.St} {vs : List Nat} (hl : σ'.length = σ.length) (h : ∀ j, j ∉ vs → σ'[j]? = (L2.wipe σ vs)[j]?) : L2.wipe σ' vs = L2.wipe σ vs := by
  apply List.ext_getElem?
  intro i
  by_cases hi : i ∈ vs
  · by_cases hl2 : i < σ.length
    · rw [wipe_in (by rw [hl]; exact hl2) hi, wipe_in hl2 hi]
    · rw [List.getElem?_eq_none (by rw [wipe_length]; omega), List.getElem?_eq_none (by rw [wipe_length]; omega)]
  · rw [wipe_out hi, h i hi]
/-! ### list comprehensions -/
def lcGo (tg : Tg) (tt : SemB) (te : Sem1) (ρ : Rho) : List PyData → M (List PyData)
  | [] => pure []
  | x :: xs => do
    let ρ1 ← up (storeT tg x ρ)
    let b ← tt ρ1
    if b = true then do
      let y ← te ρ1
      let ys ← lcGo tg tt te ρ xs
      pure (y :: ys)
    else lcGo tg tt te ρ xs
def lcR (it : SemL) (tg : Tg) (vs : List Nat) (tt : SemB) (te : Sem1) : Sem1 := fun ρ => do
  let items ← it ρ
  let its ← up (if items.length ≤ 1000000 then some items else none)
  let out ← lcGo tg tt te (wipeR ρ vs) its
  pure (.list out)
def yesB : SemB := fun _ => pure true
theorem ets_nil {X : Cx} : PTs X [] (RdB X.K tabs yesB) := ⟨fun pins s σ H Q I ⟨δ, O, ρ, st, b, st', S, W, e, c⟩ => by
  obtain ⟨rfl, rfl⟩ := pur_some e
  exact pts_nil.run pins s σ H Q I (c H (Ext.refl _ _) W)⟩
theorem ets_one {X : Cx} {c : Expr} {m : SemB} (h : PT X c (RdB X.K tabs m)) : PTs X [c] (RdB X.K tabs m) := pts_one h
/-- what a comprehension makes: the new list at D -/
def RdC (K : PySem.W.Frag) (tabs : Tb) (m : Sem1) : TE := fun σ H Q => ∃ δ O ρ st z st', Slots K δ O ρ σ H ∧ WOk K tabs δ O st H ∧ m ρ st = some (z, st') ∧
  ∀ D H2 vs out, z = .list out → H D = none → Lat2 δ O H (plus O D) H2 → WOk K tabs δ (plus O D) st' H2 → H2 D = some (.lst vs) → RpAll K (mask (plus O D) H2) vs out → Q (.ref D) H2
theorem rdC_1 {m : Sem1} {Q : VK} (h : Rd1 K tabs m σ H Q) : RdC K tabs m σ H Q := by
  obtain ⟨δ, O, ρ, st, z, st', S, W, e, c⟩ := h
  refine ⟨δ, O, ρ, st, z, st', S, W, e, fun D H2 vs out ez hD L W2 hv hr => ?_⟩
  subst ez
  exact c _ H2 L.ext (W2.less W.dl fun a h => .inl h) (.lst (mask_some.mpr ⟨W.fresh hD, hv⟩) (hr.mono (rds_less fun a h => .inl h)))
theorem lc_to {it : SemL} {tg : Tg} {own : List (PySem.Str × Nat)} {tt : SemB} {te : Sem1} (hsub : ∀ j ∈ tg.slots, j ∈ own.map (·.2)) {Q : VK} (h : RdC K tabs (lcR it tg (own.map (·.2)) tt te) σ H Q) :
    tLc (RdIt K tabs it) (RdG K tg) (RdB K tabs tt) (Rd1 K tabs te) (own.map (·.2)) σ H Q := by
    obtain ⟨δ, O, ρ, st, z, st', S, W, e, c⟩ := h
    obtain ⟨items, st1, e1, f1⟩ := bnd_some e
    obtain ⟨its, st1', g1, f2⟩ := bnd_some f1
    obtain ⟨g1, rfl⟩ := up_some g1
    obtain ⟨out, st2, e3, f3⟩ := bnd_some f2
    obtain ⟨rfl, rfl⟩ := pur_some f3
    split at g1
    · rename_i hlen
      cases g1
      refine ⟨δ, O, ρ, st, items, _, S, W, e1, fun J H1 E1 W1 hJ D hD => ?_⟩
      have S1 := S.ext E1 W.dl
      have hδD : δ ≠ some D := fun z => by
        have := W1.own D (W1.dl D z)
        exact this hD
      have nOD : ¬ O D := fun z => W1.own D z hD
      refine ⟨fun i m H2 => ∃ stj acc rest vs, m = items.length - i ∧ WOk K tabs δ (plus O D) stj H2 ∧ Lat2 δ O H1 (plus O D) H2 ∧ H2 D = some (.lst vs) ∧ RpAll K (mask (plus O D) H2) vs acc ∧ acc.length ≤ i ∧
        lcGo tg tt te (wipeR ρ (own.map (·.2))) (items.drop i) stj = some (rest, st') ∧ acc ++ rest = out, ⟨items.length, _, [], out, [], by simp, W1.newOwn hD, Lat2.newOwn hD, upd_same, .nil, Nat.le_refl _, by simpa using e3, rfl⟩, ?_⟩
      rintro i m H2 ⟨stj, acc, rest, vs, rfl, W2, L2, hv, hr, hal, hgo, hout⟩
      have hstep := hJ tabs.m (plus O D) stj H2 W2 L2 i
      by_cases hi : i < items.length
      · refine .inr ⟨(hstep.1 hi).1, fun H' => ∃ stj acc rest vs, WOk K tabs δ (plus O D) stj H' ∧ Lat2 δ O H1 (plus O D) H' ∧ H' D = some (.lst vs) ∧ RpAll K (mask (plus O D) H') vs acc ∧ acc.length ≤ i + 1 ∧
          lcGo tg tt te (wipeR ρ (own.map (·.2))) (items.drop (i + 1)) stj = some (rest, st') ∧ acc ++ rest = out, ?_, ?_⟩
        · rintro H' ⟨stj', acc', rest', vs', q1, q2, q3, q4, q5, q6, q7⟩
          exact ⟨items.length - (i + 1), by omega, stj', acc', rest', vs', rfl, q1, q2, q3, q4, q5, q6, q7⟩
        · intro x H3 hy
          obtain ⟨E3, W3, d, hd, r3⟩ := (hstep.1 hi).2 x H3 hy
          have hdrop : items.drop i = d :: items.drop (i + 1) := by
            rw [List.drop_eq_getElem_cons hi]
            rw [List.getElem?_eq_getElem hi] at hd
            cases hd
            rfl
          rw [hdrop] at hgo
          obtain ⟨ρ1, sta, ga, ha⟩ := bnd_some hgo
          obtain ⟨ga2, rfl⟩ := up_some ga
          obtain ⟨b, stb, gb, hb⟩ := bnd_some ha
          have L3 := L2.trans (Lat2.of E3)
          have S3 : Slots K δ (plus O D) (wipeR ρ (own.map (·.2))) (_root_.L2.wipe σ (own.map (·.2))) H3 := ((S1.lat L3 W1.dl).wipe _)
          refine ⟨δ, plus O D, _, d, ρ1, S3, r3, ga2, fun σ' S' hk => ⟨wipe_eq ?_ fun j hj => hk j fun z => hj (hsub j z), ?_⟩⟩
          · rw [← S'.len, storeT_len ga2, wipeR_len, S.len]
          refine ⟨δ, plus O D, ρ1, _, b, stb, S', W3, gb, fun H4 E4 W4 => ?_⟩
          have L4 := L3.trans (Lat2.of E4)
          have hv4 : H4 D = some (.lst vs) := E4.keep _ _ (E3.keep _ _ hv (fun z => hδD z.symm) (fun ps z => nomatch z)) (fun z => hδD z.symm) (fun ps z => nomatch z)
          have hr4 : RpAll K (mask (plus O D) H4) vs acc := (hr.mono (rds_ext E3 W2.dl)).mono (rds_ext E4 W3.dl)
          cases b with
          | false =>
            refine iteF ⟨stb, acc, rest, vs, W4, L4, hv4, hr4, by omega, by simpa using hb, hout⟩
          | true =>
            refine iteT ?_
            obtain ⟨y, stc, gc, hc'⟩ := bnd_some (show ((te ρ1) >>= fun y => (lcGo tg tt te (wipeR ρ (own.map (·.2))) (items.drop (i + 1))) >>= fun ys => (pure (y :: ys) : M (List PyData))) stb = some (rest, st') by simpa using hb)
            obtain ⟨ys, std, gd, hd'⟩ := bnd_some hc'
            obtain ⟨rfl, rfl⟩ := pur_some hd'
            refine ⟨δ, plus O D, ρ1, stb, y, stc, S'.ext E4 W3.dl, W4, gc, fun w H5 E5 W5 R5 => ?_⟩
            have hv5 : H5 D = some (.lst vs) := E5.keep _ _ hv4 (fun z => hδD z.symm) (fun ps z => nomatch z)
            have hr5 : RpAll K (mask (plus O D) H5) vs acc := hr4.mono (rds_ext E5 W4.dl)
            have hvl := hr5.length
            refine ⟨vs, hv5, ?_, stc, acc ++ [y], ys, vs ++ [w], W5.upd (.inr rfl) hδD (by rw [hv5]; trivial), ?_, upd_same, ?_, by rw [List.length_append, List.length_singleton]; omega, gd, by rw [List.append_assoc]; exact hout⟩
            · have : vs.length ≤ 1000000 - 1 := by omega
              exact Nat.lt_of_le_of_lt this (by rw [sizeLine_eq]; decide)
            · exact (L4.trans (Lat2.of E5)).upd hD (by rw [hv5]; exact fun z => nomatch z)
            · exact (hr5.mono (rds_upd (.inr rfl))).append (.cons (R5.mono (rds_upd (.inr rfl))) .nil)
      · refine .inl ⟨hstep.2 (by omega), ?_⟩
        rw [List.drop_of_length_le (by omega)] at hgo
        obtain ⟨rfl, rfl⟩ := pur_some hgo
        rw [List.append_nil] at hout
        subst hout
        exact c D H2 vs _ rfl (E1.dom D hD) ((Lat2.of E1).trans L2) W2 hv hr
    · cases g1
theorem ex_lc {X : Cx} {elt tgE iter : Expr} {ifs : List Expr} {scope : Scope} {own : List (PySem.Str × Nat)} {pos : Pos} {it : SemL} {tg : Tg} {tt : SemB} {te : Sem1} (hc : X.calm = true) (hN : X.N.Nodup) (hi : PI X tgE iter (RdIt X.K tabs it)) (ok : BlkOk X.N X.env.scope scope own)
    (hg : ∀ (s : Shared) (H : Hp) (C : Addr) (cl : List (PySem.Str × Addr)) (fp : List Addr), PG (X.blk s H scope (compEnvC scope cl C X.env) fp) tgE (RdG X.K tg))
    (ht : ∀ (s : Shared) (H : Hp) (C : Addr) (cl : List (PySem.Str × Addr)) (fp : List Addr), PTs (X.blk s H scope (compEnvC scope cl C X.env) fp) ifs (RdB X.K tabs tt))
    (he : ∀ (s : Shared) (H : Hp) (C : Addr) (cl : List (PySem.Str × Addr)) (fp : List Addr), PE (X.blk s H scope (compEnvC scope cl C X.env) fp) elt (Rd1 X.K tabs te)) (hs : ∀ x, foldedSetIterable iter X.env x = pure x)
    (hsub : ∀ j ∈ tg.slots, j ∈ own.map (·.2)) : PE X (.ListComp elt [⟨tgE, iter, ifs, 0⟩] scope pos) (Rd1 X.K tabs (lcR it tg (own.map (·.2)) tt te)) :=
  PE.imp (pe_lc hc hN hi ok hg ht he hs) fun σ H Q h => lc_to hsub (rdC_1 h)
end
end Fo
/-! set(a list of ints): the table rises, so it can be sorted -/
namespace Fo
open PySem PySem.Spec PyProof.Rows L2
section
variable {P : Program} {w : World} {A : Around} {E : Value → Shared → Prop} {s : Shared}
abbrev set0 (w : World) : Obj := { cls := .type "set", dict := none, data := .set #[] 0 (.fresh 0 0 (!w.params.followText "set-order")) }
theorem set_ints {l : Addr} {items : Array Value} (ns : List Int) {Q : Value → Shared → Prop} (hh : A.handled = none) (hl : s.heap.IsList l items) (hit : IntsAre items.toList ns) (hb : ns.length + 1 < scanBound)
    (h : ∀ (h' : Heap) (tk c : Nat), SetR w h' s.heap.objs.size (fun j => decide (j ∈ ns)) c → c ≤ ns.length → (∀ b o, s.heap.get? b = some o → h'.get? b = some o) → Q (.ref s.heap.objs.size) { s with heap := h', toks := tk }) :
    wpAny (model P w) A (call (.type "set") [.ref l]) Q E s := by
  have sz : items.size = ns.length := by rw [← Array.length_toList]; exact IntsAre.length hit
  obtain ⟨c, tl, hmro⟩ := F.called_set.mro
  have f1 := F.called_set.made
  have f2 := F.called_set.sub
  have f3 := F.called_set.notType
  have f4 := F.called_set.canCreate
  have f5 := F.typeCall_set_1 (.ref l)
  refine wpAny_call (codeAny_of_tree ?_)
  show wpAny _ _ (callAny (.type "set") _) _ _ _
  refine wpAny_pure ⟨Code.quiet_builtin _ (by decide +kernel), codeAny_builtin F.entry_type_call ?_⟩
  rw [Around.under_plain (weight_type_call_type "set" [.ref l] []) rfl]
  repeat (any_goals (first | assumption | wp_step))
  refine codeAny_mono (code_set_led1 (.ref l) (E := E) (Q₁ := fun x t => x = .ref s.heap.objs.size ∧ t = { s with heap := s.heap.push (set0 w) }) ⟨rfl, rfl⟩) fun r t hr => ?_
  cases r with
  | error e => exact hr
  | ok fl =>
    cases fl with
    | ret x =>
      obtain ⟨rfl, rfl⟩ := hr
      have at0 : (s.heap.push (set0 w)).get? s.heap.objs.size = some (set0 w) := Heap.get?_push_size _ rfl
      have ty0 : Shared.TypeIs { s with heap := s.heap.push (set0 w) } (.ref s.heap.objs.size) "set" := ⟨_, at0, rfl⟩
      have i1 := F.called_set.init.lookup
      have i2 := F.called_set.init.bind (.ref s.heap.objs.size)
      repeat (any_goals (first | assumption | wp_step))
      refine codeAny_mono (codeAny_call_builtin (R := wants (fun r t => r = .none ∧ ∃ h' tk c, t = { s with heap := h', toks := tk } ∧ SetR w h' s.heap.objs.size (fun j => decide (j ∈ ns)) c ∧ c ≤ ns.length ∧ (∀ b o, s.heap.get? b = some o → h'.get? b = some o)) E)
        F.called_set.init.plain F.entry_set_init (check_set_init_1 ty0 ?_)) fun r2 t2 hr2 => ?_
      · obtain ⟨⟨oc, od, dt, sl⟩, ho, hc, nl, hd⟩ := hl
        simp only at hc hd
        subst hc hd
        have lt0 : l < s.heap.objs.size := Heap.lt_size ho
        have ho1 : (s.heap.push (set0 w)).get? l = some { cls := .type "list", dict := od, data := .seq items nl, slots := sl } := Heap.get?_push_of_some _ ho
        have u1 := F.sub_list_set
        have u2 := F.sub_list_frozenset
        have u3 : (Value.type "list" == Value.type "dict") = false := by decide
        have l1 : (s.heap.push (set0 w)).IsList l items := ⟨_, ho1, rfl, nl, rfl⟩
        unfold Builtin.«set.__init__» noKeywords Builtin.Frozenset.updateFrom
        generalize hG : pyIter = G
        wp_walk
        subst hG
        refine wpAny_pyIter_list l1 (wpAny_bind (wpAny_runValue ?_))
        have hA : A.in1.in1.in1.handled = none := by simp [hh]
        have sp : (s.heap.push (set0 w)).objs.size = s.heap.objs.size + 1 := Heap.size_push ..
        have nI : l ≠ (s.heap.push (set0 w)).objs.size := by rw [sp]; exact Nat.ne_of_lt (Nat.lt_succ_of_lt lt0)
        have nS : s.heap.objs.size ∉ [(s.heap.push (set0 w)).objs.size, l] := by
          simp only [List.mem_cons, List.not_mem_nil, or_false, not_or]
          exact ⟨by rw [sp]; exact Nat.ne_of_lt (Nat.lt_succ_self _), Nat.ne_of_gt lt0⟩
        have at1 : ∀ o, ((s.heap.push (set0 w)).push o).get? s.heap.objs.size = some (set0 w) := fun o => Heap.get?_push_of_some _ at0
        refine set_update_ints ((Walks.list hA _ l nI items).toS) s.heap.objs.size nS ns sz hb (fun i v hv => ?_) (items.size - 0) 0 _ (by omega) (Nat.zero_le _) ⟨⟨_, Heap.get?_push_size _ rfl, rfl, rfl⟩, l1.push _⟩ ⟨0, Nat.le_refl 0, setR_new_at (at1 _)⟩ ?_
        · have hi : i < ns.length := by rw [← sz]; exact (Array.getElem?_eq_some_iff.mp hv).1
          obtain ⟨t, e⟩ := PyProof.Rows.IntsAre.int_at hit i v (by rw [Array.getElem?_toList]; exact hv)
          rw [List.getD_eq_getElem?_getD, List.getElem?_eq_getElem hi] at e
          exact ⟨ns[i], t, List.getElem?_eq_getElem hi, e⟩
        · intro t3 c3 hm hc3 hS3
          obtain ⟨h3, g3, d3, k3, o3⟩ := t3
          obtain rfl : g3 = s.gens := hm.gens
          obtain rfl : d3 = s.drawn := hm.drawn
          obtain rfl : o3 = s.os := hm.os
          show wpAny _ _ _ _ _ _
          refine wpAny_pure ?_
          show wpAny _ _ (ret Value.none) _ _ _
          refine wpAny_pure ⟨rfl, h3, k3, c3, rfl, hS3, by omega, fun b o e => ?_⟩
          have hlt : b < s.heap.objs.size := Heap.lt_size e
          refine hm.heap b o ?_ (Heap.get?_push_of_some _ (Heap.get?_push_of_some _ e))
          simp only [List.mem_cons, List.not_mem_nil, or_false, not_or]
          exact ⟨Nat.ne_of_lt hlt, by rw [sp]; exact Nat.ne_of_lt (Nat.lt_succ_of_lt hlt)⟩
      · cases r2 with
        | error e => exact hr2
        | ok fl2 =>
          cases fl2 with
          | ret r =>
            obtain ⟨rfl, h', tk, c, rfl, a1, a2, a3⟩ := hr2
            repeat (any_goals (first | assumption | wp_step))
            exact h _ _ _ a1 a2 a3
          | _ => exact hr2.elim
    | _ => exact hr.elim
end
end Fo
/-! sorted(set(a list of ints)), len(set(..)) -/
namespace Fo
open PySem PySem.Spec PyProof.Rows L2
def insU (x : Int) : List Int → List Int
  | [] => [x]
  | y :: l => if x < y then x :: y :: l else if x = y then y :: l else y :: insU x l
def sIs : List Int → List Int
  | [] => []
  | x :: l => insU x (sIs l)
theorem mem_insU {x z : Int} : ∀ {l : List Int}, z ∈ insU x l ↔ z = x ∨ z ∈ l
  | [] => by simp [insU]
  | y :: l => by
    unfold insU
    split
    · simp
    · split
      · rename_i h; rw [h]; simp
      · rw [List.mem_cons, mem_insU, List.mem_cons]
        constructor
        · rintro (h | h | h)
          · exact .inr (.inl h)
          · exact .inl h
          · exact .inr (.inr h)
        · rintro (h | h | h)
          · exact .inr (.inl h)
          · exact .inl h
          · exact .inr (.inr h)
theorem pw_insU {x : Int} : ∀ {l : List Int}, l.Pairwise (· < ·) → (insU x l).Pairwise (· < ·)
  | [], _ => List.pairwise_singleton _ _
  | y :: l, h => by
    rw [List.pairwise_cons] at h
    unfold insU
    split
    · rename_i hx
      refine List.pairwise_cons.mpr ⟨fun z hz => ?_, List.pairwise_cons.mpr h⟩
      rcases List.mem_cons.mp hz with e | hz
      · rw [e]; exact hx
      · have := h.1 z hz; omega
    · split
      · exact List.pairwise_cons.mpr h
      · refine List.pairwise_cons.mpr ⟨fun z hz => ?_, pw_insU h.2⟩
        rcases mem_insU.mp hz with e | hz
        · omega
        · exact h.1 z hz
theorem mem_sIs {z : Int} : ∀ {l : List Int}, z ∈ sIs l ↔ z ∈ l
  | [] => Iff.rfl
  | x :: l => by unfold sIs; rw [mem_insU, mem_sIs, List.mem_cons]
theorem pw_sIs : ∀ l : List Int, (sIs l).Pairwise (· < ·)
  | [] => .nil
  | x :: l => pw_insU (pw_sIs l)
theorem asc_ext : ∀ {l m : List Int}, l.Pairwise (· < ·) → m.Pairwise (· < ·) → (∀ x, x ∈ l ↔ x ∈ m) → l = m
  | [], [], _, _, _ => rfl
  | [], b :: m, _, _, h => by simpa using (h b).mpr (List.mem_cons_self ..)
  | a :: l, [], _, _, h => by simpa using (h a).mp (List.mem_cons_self ..)
  | a :: l, b :: m, hl, hm, h => by
    rw [List.pairwise_cons] at hl hm
    have hab : a = b := by
      rcases List.mem_cons.mp ((h a).mp (List.mem_cons_self ..)) with e | e
      · exact e
      · rcases List.mem_cons.mp ((h b).mpr (List.mem_cons_self ..)) with e2 | e2
        · exact e2.symm
        · have := hl.1 b e2
          have := hm.1 a e
          omega
    subst hab
    refine congrArg _ (asc_ext hl.2 hm.2 fun x => ?_)
    have hx := h x
    rw [List.mem_cons, List.mem_cons] at hx
    constructor
    · intro q
      have := hl.1 x q
      rcases hx.mp (.inr q) with e | e
      · omega
      · exact e
    · intro q
      have := hm.1 x q
      rcases hx.mpr (.inr q) with e | e
      · omega
      · exact e
theorem len_le_of : ∀ {l m : List Int}, l.Nodup → (∀ x ∈ l, x ∈ m) → l.length ≤ m.length
  | [], m, _, _ => Nat.zero_le _
  | a :: l, m, hd, h => by
    rw [List.nodup_cons] at hd
    have ha := h a (List.mem_cons_self ..)
    have := len_le_of (l := l) (m := m.erase a) hd.2 fun x hx => (List.mem_erase_of_ne (by rintro rfl; exact hd.1 hx)).mpr (h x (List.mem_cons_of_mem _ hx))
    rw [List.length_erase_of_mem ha] at this
    have : 0 < m.length := List.length_pos_of_mem ha
    rw [List.length_cons]
    omega
theorem setR_len {w : World} {h : Heap} {a : Addr} {ns : List Int} {c : Nat} (R : SetR w h a (fun j => decide (j ∈ ns)) c) : c = (sIs ns).length := by
  obtain ⟨o, es, ep, t, ho, hex, hd, g, nd, hm, hb, hf, hn, _⟩ := R
  have hl : (es.toList.map keyOf).length = c := by rw [List.length_map, Array.length_toList, hn]
  have n2 : (sIs ns).Nodup := (pw_sIs ns).imp fun h => by omega
  have e : ∀ x, x ∈ es.toList.map keyOf ↔ x ∈ sIs ns := fun x => by
    rw [← hm, mem_sIs, decide_eq_true_eq]
  have a1 := len_le_of nd fun x hx => (e x).mp hx
  have a2 := len_le_of n2 fun x hx => (e x).mpr hx
  omega
section
variable {X : Cx} {tabs : Tb}
def rSetI (K : PySem.W.Frag) (w : World) : List V → Hp → VK → Prop := fun xs H Q => ∃ (l : Addr) (ns : List Int), xs = [V.ref l] ∧ (SqL K H l (ns.map V.int) ∨ SqT K H l (ns.map V.int)) ∧ ns.length < 64 ∧
  ∀ p, H p = none → Q (.ref p) (upd H p (SetO w p (fun j => decide (j ∈ ns)) (sIs ns).length))
theorem cr_setI (hc : X.calm = true) : CallR X (.type "set") (rSetI X.K X.w) := by
  intro pins s σ H xs us Q I r h
  obtain ⟨l, ns, rfl, hl, hz, q⟩ := h
  rw [Vals.ref1 r]
  have hn : H s.heap.objs.size = none := I.hok.fresh (Nat.le_refl _)
  have fin : ∀ (h' : Heap) (tk c : Nat), SetR X.w h' s.heap.objs.size (fun j => decide (j ∈ ns)) c → c ≤ ns.length → (∀ b o, s.heap.get? b = some o → h'.get? b = some o) → EP X pins σ Q (.ref s.heap.objs.size) { s with heap := h', toks := tk } := fun h' tk c R _ k => by
    have e := setR_len R
    subst e
    exact ⟨.ref s.heap.objs.size, upd H s.heap.objs.size (SetO X.w s.heap.objs.size (fun j => decide (j ∈ ns)) (sIs ns).length), I.laid (t' := tk) k (Nat.le_refl _) (setO_new R), rfl, q _ hn⟩
  rcases hl with hl | hl
  · obtain ⟨its, rv, pl, _⟩ := I.list hl
    exact set_ints (P := X.prog) (w := X.w) ns (I.ok.hd hc) pl.isList (by simpa using rv.ints) (by unfold scanBound; omega) fin
  · obtain ⟨its, rv, pt, _⟩ := I.tuple hl
    exact call_set_tupI (P := X.prog) (w := X.w) ns (I.ok.hd hc) (show s.heap.IsTuple l its.toArray from pt) (ints_of_vals rv) (by unfold scanBound; omega) fin
def rLenSet (w : World) : List V → Hp → VK → Prop := fun xs H Q => ∃ (a : Addr) (S : Int → Bool) (n : Nat), xs = [V.ref a] ∧ H a = some (SetO w a S n) ∧ n < 64 ∧ Q (.int n) H
theorem cr_lenSet : CallR X (.builtin "len") (rLenSet X.w) := by
  intro pins s σ H xs us Q I r h
  obtain ⟨a, S, n, rfl, ha, hn, q⟩ := h
  rw [Vals.ref1 r]
  obtain ⟨o, es, ep, t, ho, hex, hd, _, _, _, _, hf, he, _⟩ := setO_get I ha
  exact call_len_set ho hex hd hf (by rw [he]; omega) ⟨.int n, H, I.tok _, ⟨_, by rw [he]⟩, q⟩
def ssV : PyData → Option PyData
  | .list ds => match intsOf ds with
    | some ns => if ns.length < 64 then some (.list ((sIs ns).map .int)) else none
    | none => none
  | .tuple ds => match intsOf ds with
    | some ns => if ns.length < 64 then some (.list ((sIs ns).map .int)) else none
    | none => none
  | _ => none
def lsV : PyData → Option PyData
  | .list ds => match intsOf ds with
    | some ns => if ns.length < 64 then some (.int ((sIs ns).length : Nat)) else none
    | none => none
  | .tuple ds => match intsOf ds with
    | some ns => if ns.length < 64 then some (.int ((sIs ns).length : Nat)) else none
    | none => none
  | _ => none
theorem sIs_len (ns : List Int) : (sIs ns).length ≤ ns.length := len_le_of ((pw_sIs ns).imp fun h => by omega) fun x hx => mem_sIs.mp hx
theorem rp_ints {K : PySem.W.Frag} {H : Hp} : ∀ ns : List Int, RpAll K H (ns.map V.int) (ns.map PyData.int)
  | [] => .nil
  | n :: ns => .cons (.int n) (rp_ints ns)
theorem ex_ss {e : Expr} {p p2 q pos : Pos} {m : Sem1} (hc : X.calm = true) (he : PE X e (RdT X.K tabs m)) (hp : plain e = true) (hg : Gl X "sorted") (hm : X.mg "sorted" = none) (hg2 : Gl X "set") (hm2 : X.mg "set" = none) :
    PE X (.Call (.Name "sorted" p) [.Call (.Name "set" p2) [e] [] q] [] pos) (Rd1 X.K tabs (unR ssV m)) :=
  PE.imp (pe_callB (cr_sortedSet (X := X) hc) hg hm PyProof.Rows.boot_sorted (pa_cons (pe_callTy (cr_setI (X := X) hc) hg2 hm2 PyProof.Rows.boot_set (pa_cons he pa_nil (plain_star hp)) (by decide) (by decide) (plain_star hp) rfl) pa_nil rfl)) fun σ H Q ⟨δ, O, ρ, st, z, st', S', W, e, c⟩ => by
    obtain ⟨x, st1, e1, f1⟩ := bnd_some e
    obtain ⟨g, rfl⟩ := up_some f1
    unfold ssV at g
    split at g
    · rename_i ds
      split at g
      · rename_i ns hns
        split at g
        · rename_i hl
          cases g
          refine ⟨δ, O, ρ, st, _, _, S', W, e1, fun w H1 E1 W1 R1 => ?_⟩
          obtain ⟨a, vs, rfl, h1, h2⟩ := R1.lst
          obtain ⟨rfl, _⟩ := ints_of h2 hns
          refine ⟨a, ns, rfl, .inl (SqL.of h1), hl, fun p hp => ?_⟩
          have en : Ext δ H1 (upd H1 p (SetO X.w p (fun j => decide (j ∈ ns)) (sIs ns).length)) := Ext.new hp
          have W2 := W1.new (o := SetO X.w p (fun j => decide (j ∈ ns)) (sIs ns).length) hp
          refine ⟨p, _, _, rfl, upd_same, by have := sIs_len ns; omega, fun ms p' h1 h2 h3 hp' => ?_⟩
          have em : ms = sIs ns := asc_ext h1 (pw_sIs ns) fun x => by rw [h2, mem_sIs, decide_eq_true_eq]
          subst em
          exact c _ _ (E1.trans (en.trans (Ext.new hp'))) (W2.new hp') (.lst (mask_some.mpr ⟨W2.fresh hp', upd_same⟩) (rp_ints _))
        · cases g
      · cases g
    · rename_i ds
      split at g
      · rename_i ns hns
        split at g
        · rename_i hl
          cases g
          refine ⟨δ, O, ρ, st, _, _, S', W, e1, fun w H1 E1 W1 R1 => ?_⟩
          obtain ⟨a, vs, rfl, h1, h2, _⟩ := R1.tup
          obtain ⟨rfl, _⟩ := ints_of h2 hns
          refine ⟨a, ns, rfl, .inr (SqT.of h1), hl, fun p hp => ?_⟩
          have en : Ext δ H1 (upd H1 p (SetO X.w p (fun j => decide (j ∈ ns)) (sIs ns).length)) := Ext.new hp
          have W2 := W1.new (o := SetO X.w p (fun j => decide (j ∈ ns)) (sIs ns).length) hp
          refine ⟨p, _, _, rfl, upd_same, by have := sIs_len ns; omega, fun ms p' h1 h2 h3 hp' => ?_⟩
          have em : ms = sIs ns := asc_ext h1 (pw_sIs ns) fun x => by rw [h2, mem_sIs, decide_eq_true_eq]
          subst em
          exact c _ _ (E1.trans (en.trans (Ext.new hp'))) (W2.new hp') (.lst (mask_some.mpr ⟨W2.fresh hp', upd_same⟩) (rp_ints _))
        · cases g
      · cases g
    · cases g
theorem ex_ls {e : Expr} {p p2 q pos : Pos} {m : Sem1} (hc : X.calm = true) (he : PE X e (RdT X.K tabs m)) (hp : plain e = true) (hg : Gl X "len") (hm : X.mg "len" = none) (hg2 : Gl X "set") (hm2 : X.mg "set" = none) :
    PE X (.Call (.Name "len" p) [.Call (.Name "set" p2) [e] [] q] [] pos) (Rd1 X.K tabs (unR lsV m)) :=
  PE.imp (pe_callB (cr_lenSet (X := X)) hg hm PySem.boot_len (pa_cons (pe_callTy (cr_setI (X := X) hc) hg2 hm2 PyProof.Rows.boot_set (pa_cons he pa_nil (plain_star hp)) (by decide) (by decide) (plain_star hp) rfl) pa_nil rfl)) fun σ H Q ⟨δ, O, ρ, st, z, st', S', W, e, c⟩ => by
    obtain ⟨x, st1, e1, f1⟩ := bnd_some e
    obtain ⟨g, rfl⟩ := up_some f1
    unfold lsV at g
    split at g
    · rename_i ds
      split at g
      · rename_i ns hns
        split at g
        · rename_i hl
          cases g
          refine ⟨δ, O, ρ, st, _, _, S', W, e1, fun w H1 E1 W1 R1 => ?_⟩
          obtain ⟨a, vs, rfl, h1, h2⟩ := R1.lst
          obtain ⟨rfl, _⟩ := ints_of h2 hns
          refine ⟨a, ns, rfl, .inl (SqL.of h1), hl, fun p hp => ?_⟩
          have en : Ext δ H1 (upd H1 p (SetO X.w p (fun j => decide (j ∈ ns)) (sIs ns).length)) := Ext.new hp
          exact ⟨p, _, _, rfl, upd_same, by have := sIs_len ns; omega, c _ _ (E1.trans en) (W1.new hp) (.int _)⟩
        · cases g
      · cases g
    · rename_i ds
      split at g
      · rename_i ns hns
        split at g
        · rename_i hl
          cases g
          refine ⟨δ, O, ρ, st, _, _, S', W, e1, fun w H1 E1 W1 R1 => ?_⟩
          obtain ⟨a, vs, rfl, h1, h2, _⟩ := R1.tup
          obtain ⟨rfl, _⟩ := ints_of h2 hns
          refine ⟨a, ns, rfl, .inr (SqT.of h1), hl, fun p hp => ?_⟩
          have en : Ext δ H1 (upd H1 p (SetO X.w p (fun j => decide (j ∈ ns)) (sIs ns).length)) := Ext.new hp
          exact ⟨p, _, _, rfl, upd_same, by have := sIs_len ns; omega, c _ _ (E1.trans en) (W1.new hp) (.int _)⟩
        · cases g
      · cases g
    · cases g
end
end Fo
/-! tuple(range(n)), list(range(n)) -/
namespace Fo
open PySem PySem.Spec PyProof.Rows L2
section
variable {X : Cx} {tabs : Tb}
def trV (f : List PyData → PyData) : PyData → Option PyData
  | .int n => if 0 ≤ n ∧ n ≤ 1000000 then some (f (rngD 0 1 n.toNat)) else none
  | _ => none
theorem rg_rp {K : PySem.W.Frag} {H : Hp} (n : Int) : RpAll K H (rgV 0 n) (rngD 0 1 n.toNat) := by
  have e1 : rgV 0 n = ((List.range n.toNat).map fun k : Nat => (0 + 1 * (k : Int))).map V.int := by
    unfold rgV
    rw [Int.sub_zero, List.map_map]
    exact List.map_congr_left fun k _ => by show V.int (0 + (k : Int)) = V.int (0 + 1 * (k : Int)); rw [Int.one_mul]
  have e2 : rngD 0 1 n.toNat = ((List.range n.toNat).map fun k : Nat => (0 + 1 * (k : Int))).map PyData.int := by
    unfold rngD
    rw [List.map_map]
    rfl
  rw [e1, e2]
  exact rp_ints _
theorem ex_tr {e : Expr} {p p2 q pos : Pos} {m : Sem1} (hc : X.calm = true) (he : PE X e (RdT X.K tabs m)) (hp : plain e = true) (hg : Gl X "tuple") (hm : X.mg "tuple" = none) (hg2 : Gl X "range") (hm2 : X.mg "range" = none) :
    PE X (.Call (.Name "tuple" p) [.Call (.Name "range" p2) [e] [] q] [] pos) (Rd1 X.K tabs (unR (trV .tuple) m)) :=
  PE.imp (pe_tupRg hc hg hm (prg_1 hg2 hm2 he (plain_star hp))) fun σ H Q ⟨δ, O, ρ, st, z, st', S', W, e, c⟩ => by
    obtain ⟨x, st1, e1, f1⟩ := bnd_some e
    obtain ⟨g, rfl⟩ := up_some f1
    unfold trV at g
    split at g
    · rename_i n
      split at g
      · rename_i hn
        cases g
        exact ⟨δ, O, ρ, st, _, _, S', W, e1, fun w H1 E1 W1 R1 => ⟨n, R1.int, RgOk.of_le (by omega) (by omega) (by omega) (by omega), Cont.tup (fun w H' E' W' R' => c w H' (E1.trans E') W' R') W1 (rg_rp n)⟩⟩
      · cases g
    · cases g
theorem ex_lr {e : Expr} {p p2 q pos : Pos} {m : Sem1} (hc : X.calm = true) (he : PE X e (RdT X.K tabs m)) (hp : plain e = true) (hg : Gl X "list") (hm : X.mg "list" = none) (hg2 : Gl X "range") (hm2 : X.mg "range" = none) :
    PE X (.Call (.Name "list" p) [.Call (.Name "range" p2) [e] [] q] [] pos) (Rd1 X.K tabs (unR (trV .list) m)) :=
  PE.imp (pe_listRg hc hg hm (prg_1 hg2 hm2 he (plain_star hp))) fun σ H Q ⟨δ, O, ρ, st, z, st', S', W, e, c⟩ => by
    obtain ⟨x, st1, e1, f1⟩ := bnd_some e
    obtain ⟨g, rfl⟩ := up_some f1
    unfold trV at g
    split at g
    · rename_i n
      split at g
      · rename_i hn
        cases g
        exact ⟨δ, O, ρ, st, _, _, S', W, e1, fun w H1 E1 W1 R1 => ⟨n, R1.int, RgOk.of_le (by omega) (by omega) (by omega) (by omega), Cont.lst (fun w H' E' W' R' => c w H' (E1.trans E') W' R') W1 (rg_rp n)⟩⟩
      · cases g
    · cases g
end
end Fo
namespace Fo
open PySem PySem.Spec PyProof.Rows L2
section
variable {K : PySem.W.Frag} {tabs : Tb} {δ : Option Addr} {O O2 O3 : Addr → Prop} {ρ : Rho} {σ : L2.St} {H H2 H3 : Hp} {st : Dr}
/-! ### entries -/
theorem Slot1.lat (L : Lat2 δ O H O2 H2) (hd : ∀ a, δ = some a → O a) {v : V} {en : En} (h : Slot1 K δ O H v en) : Slot1 K δ O2 H2 v en := by
  have rd := L.rds hd
  cases en with
  | va d => exact Rp.mono rd h
  | dr => exact h
  | ow d =>
    cases d with
    | list ds =>
      obtain ⟨a, xs, e, o, n, k1, k2⟩ := h
      exact ⟨a, xs, e, L.up a o, n, L.ext.keep _ _ k1 (fun z => n z.symm) (fun ps z => nomatch z), k2.mono rd⟩
    | dict kvs =>
      obtain ⟨a, e, o, n, q⟩ := h
      refine ⟨a, e, L.up a o, n, ?_⟩
      exact (q.mono rd).to fun u k1 t => L.ext.keep _ _ k1 (fun z => n z.symm) t
    | _ => exact h
theorem Slot1.owA {v : V} {d : PyData} (h : Slot1 K δ O H v (.ow d)) : ∃ a, v = .ref a ∧ O a ∧ H a ≠ none ∧ δ ≠ some a := by
  cases d with
  | list ds =>
    obtain ⟨a, xs, e, o, n, k1, k2⟩ := h
    exact ⟨a, e, o, by rw [k1]; exact fun z => (nomatch z), n⟩
  | dict kvs =>
    obtain ⟨a, e, o, n, q⟩ := h
    rcases q with ⟨_, _, _, k1, _⟩ | ⟨_, _, _, _, k1, _⟩
    · exact ⟨a, e, o, by rw [k1]; exact fun z => (nomatch z), n⟩
    · exact ⟨a, e, o, by rw [k1]; exact fun z => (nomatch z), n⟩
  | _ => exact h.elim
theorem get_set_some {α : Type} {l : List (Option α)} {i j : Nat} {x y : α} (h : (l.set i (some x))[j]? = some (some y)) : (i = j ∧ x = y) ∨ (i ≠ j ∧ l[j]? = some (some y)) := by
  by_cases hj : i = j
  · subst hj
    by_cases hl : i < l.length
    · rw [List.getElem?_set_self hl] at h
      cases h
      exact .inl ⟨rfl, rfl⟩
    · rw [List.getElem?_eq_none (by rw [List.length_set]; omega)] at h
      cases h
  · rw [List.getElem?_set_ne hj] at h
    exact .inr ⟨hj, h⟩
theorem Slots.setE (S : Slots K δ O ρ σ H) (i : Nat) {v : V} {en : En} (r : Slot1 K δ O H v en) (hn : ∀ d, en = .ow d → ∀ (j : Nat) (d' : PyData), ρ[j]? = some (some (.ow d')) → σ[j]? ≠ some (some v)) : Slots K δ O (ρ.set i (some en)) (σ.set i (some v)) H := by
  have vs : ∀ j u, (σ.set i (some v))[j]? = some (some u) → i ≠ j → σ[j]? = some (some u) := fun j u h hj => by
    rw [List.getElem?_set_ne hj] at h; exact h
  refine ⟨fun j en' h => ?_, fun j l d' e v' hne h1 h2 h3 h4 => ?_, by rw [List.length_set, List.length_set, S.len]⟩
  · rcases get_set_some h with ⟨rfl, rfl⟩ | ⟨hj, h⟩
    · have hl : i < ρ.length := by
        have := (List.getElem?_eq_some_iff.mp h).1
        rwa [List.length_set] at this
      exact ⟨v, List.getElem?_set_self (by rw [← S.len]; exact hl), r⟩
    · obtain ⟨u, q1, q2⟩ := S.at_ j en' h
      exact ⟨u, by rw [List.getElem?_set_ne hj]; exact q1, q2⟩
  · rcases get_set_some h1 with ⟨rfl, e1⟩ | ⟨n1, h1⟩
    · rcases get_set_some h2 with ⟨e2, _⟩ | ⟨n2, h2⟩
      · exact hne e2
      · have hl : i < σ.length := by
          have := (List.getElem?_eq_some_iff.mp h3).1
          rwa [List.length_set] at this
        rw [List.getElem?_set_self hl] at h3
        cases h3
        exact hn d' e1 l e h2 (vs l v h4 n2)
    · rcases get_set_some h2 with ⟨rfl, e2⟩ | ⟨n2, h2⟩
      · have hl : i < σ.length := by
          have := (List.getElem?_eq_some_iff.mp h4).1
          rwa [List.length_set] at this
        rw [List.getElem?_set_self hl] at h4
        cases h4
        exact hn e e2 j d' h1 (vs j v h3 n1)
      · exact S.inj j l d' e v' hne h1 h2 (vs j v' h3 n1) (vs l v' h4 n2)
structure Ents (K : PySem.W.Frag) (δ : Option Addr) (O' : Addr → Prop) (H' H : Hp) (ws : List V) (ens : List En) : Prop where
  at_ : Paired (Slot1 K δ O' H') ws ens
  nw : ∀ (k : Nat) (d : PyData) (w : V), ens[k]? = some (.ow d) → ws[k]? = some w → ∃ a, w = .ref a ∧ H a = none
  inj : ∀ (k l : Nat) (d e : PyData) (w : V), k ≠ l → ens[k]? = some (.ow d) → ens[l]? = some (.ow e) → ws[k]? = some w → ws[l]? ≠ some w
def storeE (ρ : Rho) : List Nat → List En → Rho
  | i :: is, en :: ens => storeE (ρ.set i (some en)) is ens
  | _, _ => ρ
def storeV (σ : L2.St) : List Nat → List V → L2.St
  | i :: is, v :: vs => storeV (σ.set i (some v)) is vs
  | _, _ => σ
theorem Slots.setEs : ∀ {is : List Nat} {ens : List En} {ws : List V} {ρ : Rho} {σ : L2.St}, Slots K δ O ρ σ H → Paired (Slot1 K δ O H) ws ens →
    (∀ (k : Nat) (d : PyData) (w : V), ens[k]? = some (.ow d) → ws[k]? = some w → ∀ (j : Nat) (d' : PyData), ρ[j]? = some (some (.ow d')) → σ[j]? ≠ some (some w)) →
    (∀ (k l : Nat) (d e : PyData) (w : V), k ≠ l → ens[k]? = some (.ow d) → ens[l]? = some (.ow e) → ws[k]? = some w → ws[l]? ≠ some w) → Slots K δ O (storeE ρ is ens) (storeV σ is ws) H
  | [], _, _, _, _, S, _, _, _ => by unfold storeE storeV; exact S
  | i :: is, _, _, _, _, S, .nil, _, _ => by unfold storeE storeV; exact S
  | i :: is, en :: ens, w :: ws, ρ, σ, S, .cons h t, hn, hi => by
    unfold storeE storeV
    refine Slots.setEs (S.setE i h fun d e j d' hj => hn 0 d w (by rw [e]; rfl) rfl j d' hj) t (fun k d w' h1 h2 j d' h3 h4 => ?_) fun k l d e w' hne h1 h2 h3 => ?_
    · rcases get_set_some h3 with ⟨rfl, e1⟩ | ⟨n1, h3⟩
      · have hl : i < σ.length := by
          have := (List.getElem?_eq_some_iff.mp h4).1
          rwa [List.length_set] at this
        rw [List.getElem?_set_self hl] at h4
        cases h4
        exact hi 0 (k + 1) d' d w (by omega) (by rw [e1]; rfl) (by simpa using h1) rfl (by simpa using h2)
      · rw [List.getElem?_set_ne n1] at h4
        exact hn (k + 1) d w' (by simpa using h1) (by simpa using h2) j d' h3 h4
    · intro h4
      exact hi (k + 1) (l + 1) d e w' (by omega) (by simpa using h1) (by simpa using h2) (by simpa using h3) (by simpa using h4)
theorem Ents.slots {O' : Addr → Prop} {H' : Hp} {ws : List V} {ens : List En} (E : Ents K δ O' H' H ws ens) (S0 : Slots K δ O ρ σ H) (S : Slots K δ O' ρ σ H') (is : List Nat) : Slots K δ O' (storeE ρ is ens) (storeV σ is ws) H' :=
  S.setEs E.at_ (fun k d w h1 h2 j d' h3 h4 => by
    obtain ⟨a, rfl, ha⟩ := E.nw k d w h1 h2
    obtain ⟨u, q1, q2⟩ := S0.at_ j _ h3
    rw [h4] at q1
    cases q1
    obtain ⟨b, e, _, hb, _⟩ := q2.owA
    cases e
    exact hb ha) E.inj
theorem setE_len : ∀ (is : List Nat) (ens : List En) (ρ : Rho), (storeE ρ is ens).length = ρ.length
  | [], _, _ => rfl
  | _ :: _, [], _ => rfl
  | i :: is, d :: ds, ρ => by
    unfold storeE
    rw [setE_len is ds, List.length_set]
/-- which owned entries there are behind the stores -/
theorem setE_ow : ∀ {is : List Nat} {ens : List En} {ws : List V} {ρ : Rho} {σ : L2.St} {j : Nat} {d : PyData} {v : V}, ρ.length = σ.length → ens.length = ws.length → (storeE ρ is ens)[j]? = some (some (.ow d)) → (storeV σ is ws)[j]? = some (some v) →
    (ρ[j]? = some (some (.ow d)) ∧ σ[j]? = some (some v)) ∨ ∃ k : Nat, ens[k]? = some (En.ow d) ∧ ws[k]? = some v
  | [], _, _, ρ, σ, j, d, v, _, _, h1, h2 => by unfold storeE at h1; unfold storeV at h2; exact .inl ⟨h1, h2⟩
  | i :: is, [], [], ρ, σ, j, d, v, _, _, h1, h2 => by unfold storeE at h1; unfold storeV at h2; exact .inl ⟨h1, h2⟩
  | i :: is, [], _ :: _, ρ, σ, j, d, v, _, hl, h1, h2 => by simp at hl
  | i :: is, _ :: _, [], ρ, σ, j, d, v, _, hl, h1, h2 => by simp at hl
  | i :: is, en :: ens, w :: ws, ρ, σ, j, d, v, hρ, hl, h1, h2 => by
    unfold storeE at h1
    unfold storeV at h2
    rcases setE_ow (is := is) (by rw [List.length_set, List.length_set, hρ]) (by simpa using hl) h1 h2 with ⟨q1, q2⟩ | ⟨k, q1, q2⟩
    · rcases get_set_some q1 with ⟨rfl, e1⟩ | ⟨n1, q1⟩
      · have hl : i < σ.length := by
          have := (List.getElem?_eq_some_iff.mp q2).1
          rwa [List.length_set] at this
        rw [List.getElem?_set_self hl] at q2
        cases q2
        exact .inr ⟨0, by rw [e1]; rfl, rfl⟩
      · rw [List.getElem?_set_ne n1] at q2
        exact .inl ⟨q1, q2⟩
    · exact .inr ⟨k + 1, by simpa using q1, by simpa using q2⟩
/-! ### fresh objects -/
def RdF (K : PySem.W.Frag) (tabs : Tb) (m : Sem1) : TE := fun σ H Q => ∃ δ O ρ st d st', Slots K δ O ρ σ H ∧ WOk K tabs δ O st H ∧ m ρ st = some (d, st') ∧
  ∀ a H1, H a = none → Lat2 δ O H (plus O a) H1 → WOk K tabs δ (plus O a) st' H1 → Slot1 K δ (plus O a) H1 (.ref a) (.ow d) → Q (.ref a) H1
theorem WOk.ne_new (W : WOk K tabs δ O st H) {p : Addr} (hp : H p = none) : δ ≠ some p := fun z => W.own p (W.dl p z) hp
section
variable {X : Cx}
theorem ef_lst {es : List Expr} {pos : Pos} {r : SemL} (h : PA X es (RdL X.K tabs r)) : PE X (.List es pos) (RdF X.K tabs (dispR .list r)) :=
  PE.imp (pe_lst h) fun σ H Q ⟨δ, O, ρ, st, z, st', S, W, e, c⟩ => by
    obtain ⟨ds, st1, e1, f1⟩ := bnd_some e
    obtain ⟨g, rfl⟩ := up_some f1
    unfold mkO at g
    split at g
    · rename_i hl
      cases g
      refine ⟨δ, O, ρ, st, ds, _, S, W, e1, fun ws H1 E1 W1 R1 => ⟨by rw [R1.length]; exact line_le hl, fun p hp => ?_⟩⟩
      exact c p _ (E1.dom p hp) ((Lat2.of E1).trans (Lat2.newOwn hp)) (W1.newOwn hp) ⟨p, ws, rfl, .inr rfl, W1.ne_new hp, upd_same, R1.mono (rds_newOwn hp)⟩
    · cases g
/-- lists of entries -/
abbrev SemE := Rho → M (List En)
def RdM (K : PySem.W.Frag) (tabs : Tb) (m : SemE) : TA := fun σ H Q => ∃ δ O ρ st ens st', Slots K δ O ρ σ H ∧ WOk K tabs δ O st H ∧ m ρ st = some (ens, st') ∧
  ∀ O' ws H', Lat2 δ O H O' H' → WOk K tabs δ O' st' H' → Ents K δ O' H' H ws ens → Q ws H'
def nilE : SemE := fun _ => pure []
def vaE (m : Sem1) (r : SemE) : SemE := fun ρ => do let x ← m ρ; let xs ← r ρ; pure (.va x :: xs)
def owE (m : Sem1) (r : SemE) : SemE := fun ρ => do let x ← m ρ; let xs ← r ρ; pure (.ow x :: xs)
theorem em_nil : PA X [] (RdM X.K tabs nilE) := PA.imp pa_nil fun σ H Q ⟨δ, O, ρ, st, z, st', S, W, e, c⟩ => by
  obtain ⟨rfl, rfl⟩ := pur_some e
  exact c O _ H Lat2.refl W ⟨.nil, fun k d w h => by simp at h, fun k l d e w _ h => by simp at h⟩
theorem em_va {e : Expr} {es : List Expr} {m : Sem1} {r : SemE} (hp : plain e = true) (he : PE X e (Rd1 X.K tabs m)) (hr : PA X es (RdM X.K tabs r)) : PA X (e :: es) (RdM X.K tabs (vaE m r)) :=
  PA.imp (pa_cons he hr (plain_star hp)) fun σ H Q ⟨δ, O, ρ, st, z, st', S, W, e, c⟩ => by
    obtain ⟨x, st1, e1, f1⟩ := bnd_some e
    obtain ⟨xs, st2, e2, f2⟩ := bnd_some f1
    obtain ⟨rfl, rfl⟩ := pur_some f2
    refine ⟨δ, O, ρ, st, x, st1, S, W, e1, fun w H1 E1 W1 R1 => ⟨δ, O, ρ, st1, xs, _, S.ext E1 W.dl, W1, e2, fun O' ws H2 L2 W2 E2 => ?_⟩⟩
    refine c O' (w :: ws) H2 ((Lat2.of E1).trans L2) W2 ⟨.cons (Slot1.lat L2 W1.dl (en := .va x) R1) E2.at_, fun k d w' h1 h2 => ?_, fun k l d e w' hne h1 h2 h3 h4 => ?_⟩
    · cases k with
      | zero => simp at h1
      | succ k =>
        obtain ⟨a, q1, q2⟩ := E2.nw k d w' (by simpa using h1) (by simpa using h2)
        exact ⟨a, q1, E1.dom a q2⟩
    · cases k with
      | zero => simp at h1
      | succ k =>
        cases l with
        | zero => simp at h2
        | succ l => exact E2.inj k l d e w' (by omega) (by simpa using h1) (by simpa using h2) (by simpa using h3) (by simpa using h4)
theorem em_ow {e : Expr} {es : List Expr} {m : Sem1} {r : SemE} (hp : plain e = true) (he : PE X e (RdF X.K tabs m)) (hr : PA X es (RdM X.K tabs r)) : PA X (e :: es) (RdM X.K tabs (owE m r)) :=
  PA.imp (pa_cons he hr (plain_star hp)) fun σ H Q ⟨δ, O, ρ, st, z, st', S, W, e, c⟩ => by
    obtain ⟨x, st1, e1, f1⟩ := bnd_some e
    obtain ⟨xs, st2, e2, f2⟩ := bnd_some f1
    obtain ⟨rfl, rfl⟩ := pur_some f2
    refine ⟨δ, O, ρ, st, x, st1, S, W, e1, fun a H1 ha L1 W1 R1 => ⟨δ, plus O a, ρ, st1, xs, _, S.lat L1 W.dl, W1, e2, fun O' ws H2 L2 W2 E2 => ?_⟩⟩
    obtain ⟨a', ea, _, hne1, _⟩ := R1.owA
    cases ea
    refine c O' (.ref a :: ws) H2 (L1.trans L2) W2 ⟨.cons (Slot1.lat L2 W1.dl R1) E2.at_, fun k d w' h1 h2 => ?_, fun k l d e w' hne h1 h2 h3 h4 => ?_⟩
    · cases k with
      | zero =>
        simp at h2
        exact ⟨a, h2.symm, ha⟩
      | succ k =>
        obtain ⟨b, q1, q2⟩ := E2.nw k d w' (by simpa using h1) (by simpa using h2)
        exact ⟨b, q1, L1.ext.dom b q2⟩
    · cases k with
      | zero =>
        cases l with
        | zero => exact hne rfl
        | succ l =>
          simp at h3
          subst h3
          obtain ⟨b, q1, q2⟩ := E2.nw l e _ (by simpa using h2) (by simpa using h4)
          cases q1
          exact hne1 q2
      | succ k =>
        cases l with
        | zero =>
          simp at h4
          subst h4
          obtain ⟨b, q1, q2⟩ := E2.nw k d _ (by simpa using h1) (by simpa using h3)
          cases q1
          exact hne1 q2
        | succ l => exact E2.inj k l d e w' (by omega) (by simpa using h1) (by simpa using h2) (by simpa using h3) (by simpa using h4)
end
end
end Fo
namespace Fo
open PySem PySem.Spec PyProof.Rows L2
inductive Out where
  | nx (ρ : Rho)
  | rt (d : PyData)
  | bk (ρ : Rho)
  | ct (ρ : Rho)
abbrev SemS := Rho → M Out
section
variable {K : PySem.W.Frag} {tabs : Tb} {δ : Option Addr} {O0 O O2 O3 : Addr → Prop} {ρ ρ2 : Rho} {σ σ2 : L2.St} {H0 H H2 H3 : Hp} {st : Dr}
structure Base (δ : Option Addr) (O0 : Addr → Prop) (H0 : Hp) (O : Addr → Prop) (H : Hp) (ρ : Rho) (σ : L2.St) : Prop where
  lat : Lat2 δ O0 H0 O H
  own : ∀ (i : Nat) (d : PyData) (a : Addr), ρ[i]? = some (some (.ow d)) → σ[i]? = some (some (.ref a)) → H0 a = none
  o0 : ∀ a, O0 a → H0 a ≠ none
theorem Base.of (B : Base δ O0 H0 O H ρ σ) (L : Lat2 δ O H O2 H2) : Base δ O0 H0 O2 H2 ρ σ := ⟨B.lat.trans L, B.own, B.o0⟩
theorem Base.keep (B : Base δ O0 H0 O H ρ σ) (h : ∀ (i : Nat) (d : PyData), ρ2[i]? = some (some (.ow d)) → (∃ d', ρ[i]? = some (some (.ow d'))) ∧ σ2[i]? = σ[i]?) : Base δ O0 H0 O H ρ2 σ2 :=
  ⟨B.lat, fun i d a h1 h2 => by
    obtain ⟨⟨d', k1⟩, k2⟩ := h i d h1
    exact B.own i d' a k1 (k2 ▸ h2), B.o0⟩
def FinAt (K : PySem.W.Frag) (tabs : Tb) (δ : Option Addr) (O0 : Addr → Prop) (H0 : Hp) (O : Addr → Prop) (H : Hp) (ρ' : Rho) (st' : Dr) (N : L2.St → Hp → Prop) : Prop :=
  ∀ O' σ' H', Base δ O0 H0 O' H' ρ' σ' → Slots K δ O' ρ' σ' H' → WOk K tabs δ O' st' H' → Rds (mask O H) (mask O' H') → N σ' H'
def Fin (K : PySem.W.Frag) (tabs : Tb) (δ : Option Addr) (O0 : Addr → Prop) (H0 : Hp) (O : Addr → Prop) (H : Hp) (D : Ends) (out : Out) (st' : Dr) : Prop := match out with
  | .nx ρ' => FinAt K tabs δ O0 H0 O H ρ' st' D.nx
  | .bk ρ' => FinAt K tabs δ O0 H0 O H ρ' st' D.bk
  | .ct ρ' => FinAt K tabs δ O0 H0 O H ρ' st' D.ct
  | .rt d => ∀ O' w H', Lat2 δ O0 H0 O' H' → WOk K tabs δ O' st' H' → Rp K (mask O' H') w d → D.rt w H'
theorem FinAt.mono {ρ' : Rho} {st' : Dr} {N : L2.St → Hp → Prop} (h : FinAt K tabs δ O0 H0 O H ρ' st' N) (r : Rds (mask O H) (mask O2 H2)) : FinAt K tabs δ O0 H0 O2 H2 ρ' st' N :=
  fun O' σ' H' B S W R => h O' σ' H' B S W ⟨fun b o e t => R.keep b o (r.keep b o e t) t⟩
theorem Fin.mono {D : Ends} {out : Out} {st' : Dr} (h : Fin K tabs δ O0 H0 O H D out st') (r : Rds (mask O H) (mask O2 H2)) : Fin K tabs δ O0 H0 O2 H2 D out st' := by
  cases out with
  | nx ρ' => exact FinAt.mono (h : FinAt ..) r
  | bk ρ' => exact FinAt.mono (h : FinAt ..) r
  | ct ρ' => exact FinAt.mono (h : FinAt ..) r
  | rt d => exact h
theorem rds_refl : Rds (mask O H) (mask O H) := ⟨fun _ _ h _ => h⟩
theorem Rds.trans {H1 H2 H3 : Hp} (a : Rds H1 H2) (b : Rds H2 H3) : Rds H1 H3 := ⟨fun c o e t => b.keep c o (a.keep c o e t) t⟩
def RdS (K : PySem.W.Frag) (tabs : Tb) (δ : Option Addr) (O0 : Addr → Prop) (H0 : Hp) (m : SemS) : TS := fun D σ H => ∃ O ρ st out st', Base δ O0 H0 O H ρ σ ∧ Slots K δ O ρ σ H ∧ WOk K tabs δ O st H ∧ m ρ st = some (out, st') ∧ Fin K tabs δ O0 H0 O H D out st'
theorem PS.imp {X : Cx} {s : Stmt} {t t' : TS} (h : PS X s t) (i : ∀ D σ H, t' D σ H → t D σ H) : PS X s t' := ⟨fun pins s σ H D I q => h.run pins s σ H D I (i D σ H q)⟩
theorem PSs.imp {X : Cx} {s : List Stmt} {t t' : TS} (h : PSs X s t) (i : ∀ D σ H, t' D σ H → t D σ H) : PSs X s t' := ⟨fun pins s σ H D I q => h.run pins s σ H D I (i D σ H q)⟩
/-! ### rules -/
def nxS : SemS := fun ρ => pure (.nx ρ)
def bkS : SemS := fun ρ => pure (.bk ρ)
def ctS : SemS := fun ρ => pure (.ct ρ)
def seqS (a b : SemS) : SemS := fun ρ => do
  let o ← a ρ
  match o with
  | .nx ρ' => b ρ'
  | .rt d => pure (.rt d)
  | .bk ρ' => pure (.bk ρ')
  | .ct ρ' => pure (.ct ρ')
variable {X : Cx}
theorem FinAt.now (B : Base δ O0 H0 O H ρ σ) (S : Slots K δ O ρ σ H) (W : WOk K tabs δ O st H) {N : L2.St → Hp → Prop} (h : FinAt K tabs δ O0 H0 O H ρ st N) : N σ H := h O σ H B S W rds_refl
theorem next_to {D : Ends} {σ : L2.St} {H : Hp} (h : RdS K tabs δ O0 H0 nxS D σ H) : tNext D σ H := by
  obtain ⟨O, ρ, st, out, st', B, S, W, e, f⟩ := h
  obtain ⟨rfl, rfl⟩ := pur_some e
  exact FinAt.now B S W f
theorem ss_nil : PSs X [] (RdS X.K tabs δ O0 H0 nxS) := PSs.imp pss_nil fun D σ H h => next_to h
theorem ss_cons {s : Stmt} {r : List Stmt} {a b : SemS} (h1 : PS X s (RdS X.K tabs δ O0 H0 a)) (h2 : PSs X r (RdS X.K tabs δ O0 H0 b)) : PSs X (s :: r) (RdS X.K tabs δ O0 H0 (seqS a b)) :=
  PSs.imp (pss_cons h1 h2) fun D σ H ⟨O, ρ, st, out, st', B, S, W, e, f⟩ => by
    obtain ⟨o1, st1, e1, f1⟩ := bnd_some e
    refine ⟨O, ρ, st, o1, st1, B, S, W, e1, ?_⟩
    cases o1 with
    | nx ρ1 => exact fun O' σ' H' B' S' W' R' => ⟨O', ρ1, st1, out, st', B', S', W', f1, f.mono R'⟩
    | rt d =>
      obtain ⟨rfl, rfl⟩ := pur_some f1
      exact f
    | bk ρ' =>
      obtain ⟨rfl, rfl⟩ := pur_some f1
      exact f
    | ct ρ' =>
      obtain ⟨rfl, rfl⟩ := pur_some f1
      exact f
theorem s_pass {pos : Pos} : PS X (.Pass pos) (RdS X.K tabs δ O0 H0 nxS) := PS.imp ps_pass fun D σ H h => next_to h
theorem s_doc {x : PySem.Str} {j : Nat} {pos pos' : Pos} : PS X (.Expr (.Constant (.str x) j pos) pos') (RdS X.K tabs δ O0 H0 nxS) := PS.imp ps_doc fun D σ H h => next_to h
theorem s_break {pos : Pos} : PS X (.Break pos) (RdS X.K tabs δ O0 H0 bkS) := PS.imp ps_break fun D σ H ⟨O, ρ, st, out, st', B, S, W, e, f⟩ => by
  obtain ⟨rfl, rfl⟩ := pur_some e
  exact FinAt.now B S W f
theorem s_cont {pos : Pos} : PS X (.Continue pos) (RdS X.K tabs δ O0 H0 ctS) := PS.imp ps_continue fun D σ H ⟨O, ρ, st, out, st', B, S, W, e, f⟩ => by
  obtain ⟨rfl, rfl⟩ := pur_some e
  exact FinAt.now B S W f
def neverS : SemS := fun _ => up none
theorem s_never {s : Stmt} : PS X s (RdS X.K tabs δ O0 H0 neverS) := PS.imp ps_never fun D σ H ⟨O, ρ, st, out, st', B, S, W, e, f⟩ => by cases e
def rtS (m : Sem1) : SemS := fun ρ => do let d ← m ρ; pure (.rt d)
theorem s_ret {e : Expr} {m : Sem1} {pos : Pos} (h : PE X e (Rd1 X.K tabs m)) : PS X (.Return (some e) pos) (RdS X.K tabs δ O0 H0 (rtS m)) :=
  PS.imp (ps_ret h) fun D σ H ⟨O, ρ, st, out, st', B, S, W, e, f⟩ => by
    obtain ⟨d, st1, e1, f1⟩ := bnd_some e
    obtain ⟨rfl, rfl⟩ := pur_some f1
    exact ⟨δ, O, ρ, st, d, _, S, W, e1, fun w H' E W' R => f O w H' (B.lat.trans (Lat2.of E)) W' R⟩
def rtN : SemS := fun _ => pure (.rt .none)
theorem s_retN {pos : Pos} : PS X (.Return none pos) (RdS X.K tabs δ O0 H0 rtN) :=
  PS.imp ps_retN fun D σ H ⟨O, ρ, st, out, st', B, S, W, e, f⟩ => by
    obtain ⟨rfl, rfl⟩ := pur_some e
    exact f O .non H B.lat W .non
def ifS (c : SemB) (a b : SemS) : SemS := fun ρ => do let x ← c ρ; if x = true then a ρ else b ρ
theorem s_if {c : Expr} {a b : List Stmt} {mc : SemB} {ma mb : SemS} {pos : Pos} (hc : PT X c (RdB X.K tabs mc)) (ha : PSs X a (RdS X.K tabs δ O0 H0 ma)) (hb : PSs X b (RdS X.K tabs δ O0 H0 mb)) : PS X (.If c a b pos) (RdS X.K tabs δ O0 H0 (ifS mc ma mb)) :=
  PS.imp (ps_if hc ha hb) fun D σ H ⟨O, ρ, st, out, st', B, S, W, e, f⟩ => by
    obtain ⟨x, st1, e1, f1⟩ := bnd_some e
    refine ⟨δ, O, ρ, st, x, st1, S, W, e1, fun H1 E1 W1 => ?_⟩
    cases x with
    | true => exact ⟨O, ρ, st1, out, st', B.of (Lat2.of E1), S.ext E1 W.dl, W1, f1, f.mono (rds_ext E1 W.dl)⟩
    | false => exact ⟨O, ρ, st1, out, st', B.of (Lat2.of E1), S.ext E1 W.dl, W1, f1, f.mono (rds_ext E1 W.dl)⟩
/-- an expression's value dropped -/
def exS (m : Sem1) : SemS := fun ρ => do let _ ← m ρ; pure (.nx ρ)
theorem s_expr {e : Expr} {m : Sem1} {pos : Pos} (h : PE X e (Rd1 X.K tabs m)) (hs : swapsWith e none pos.line X.env = pure false) : PS X (.Expr e pos) (RdS X.K tabs δ O0 H0 (exS m)) :=
  PS.imp (ps_expr h hs) fun D σ H ⟨O, ρ, st, out, st', B, S, W, e, f⟩ => by
    obtain ⟨d, st1, e1, f1⟩ := bnd_some e
    obtain ⟨rfl, rfl⟩ := pur_some f1
    exact ⟨δ, O, ρ, st, d, _, S, W, e1, fun w H' E W' R => f O σ H' (B.of (Lat2.of E)) (S.ext E W.dl) W' (rds_ext E W.dl)⟩
/-! ### stores -/
theorem setAll_ow : ∀ {is : List Nat} {ds : List PyData} {ρ : Rho} {j : Nat} {d : PyData}, ds.length = is.length → (setAll ρ is ds)[j]? = some (some (.ow d)) → ρ[j]? = some (some (.ow d)) ∧ j ∉ is
  | [], ds, ρ, j, d, _, h => by
    unfold setAll at h
    exact ⟨h, by simp⟩
  | i :: is, [], ρ, j, d, l, h => by simp at l
  | i :: is, e :: ds, ρ, j, d, l, h => by
    unfold setAll at h
    obtain ⟨h1, h2⟩ := setAll_ow (is := is) (by simpa using l) h
    rcases get_set_some h1 with ⟨rfl, z⟩ | ⟨n, h3⟩
    · cases z
    · exact ⟨h3, by simp [h2, Ne.symm n]⟩
theorem storeT_ow {t : Tg} {e : PyData} {ρ ρ' : Rho} {j : Nat} {d : PyData} (h : storeT t e ρ = some ρ') (h2 : ρ'[j]? = some (some (.ow d))) : ρ[j]? = some (some (.ow d)) ∧ j ∉ t.slots := by
  unfold storeT at h
  cases t with
  | nm i =>
    cases h
    rcases get_set_some h2 with ⟨rfl, z⟩ | ⟨n, h3⟩
    · cases z
    · exact ⟨h3, by simp [Tg.slots, Ne.symm n]⟩
  | tp is =>
    cases e with
    | tuple ds =>
      simp only at h
      split at h
      · rename_i hl
        cases h
        exact setAll_ow hl h2
      · cases h
    | _ => cases h
theorem Base.store (B : Base δ O0 H0 O H ρ σ) {t : Tg} {d : PyData} (h : storeT t d ρ = some ρ2) (k : ∀ j, j ∉ t.slots → σ2[j]? = σ[j]?) : Base δ O0 H0 O H ρ2 σ2 :=
  B.keep fun i e q => ⟨⟨e, (storeT_ow h q).1⟩, k i (storeT_ow h q).2⟩
def asgS (m : Sem1) (t : Tg) : SemS := fun ρ => do let d ← m ρ; let ρ' ← up (storeT t d ρ); pure (.nx ρ')
theorem s_asg {tg e : Expr} {m : Sem1} {t : Tg} {pos : Pos} (he : PE X e (Rd1 X.K tabs m)) (hg : PG X tg (RdG X.K t)) (hs : swapsWithSole [tg] e pos.line X.env = pure false) (hw : swappedStores [tg] e X.env = pure none)
    (h1 : (assignEach [tg] X.env).map (·.2) = [assign tg X.env]) : PS X (.Assign [tg] e pos) (RdS X.K tabs δ O0 H0 (asgS m t)) :=
  PS.imp (ps_asg he hg hs hw h1) fun D σ H ⟨O, ρ, st, out, st', B, S, W, e, f⟩ => by
    obtain ⟨d, st1, e1, f1⟩ := bnd_some e
    obtain ⟨ρ', st2, e2, f2⟩ := bnd_some f1
    obtain ⟨g, rfl⟩ := up_some e2
    obtain ⟨rfl, rfl⟩ := pur_some f2
    exact ⟨δ, O, ρ, st, d, _, S, W, e1, fun w H' E W' R => ⟨δ, O, ρ, d, ρ', S.ext E W.dl, R, g, fun σ' S' k => f O σ' H' ((B.of (Lat2.of E)).store g k) S' W' (rds_ext E W.dl)⟩⟩
/-- a list display or such, owned by its name from now on -/
def ownS (m : Sem1) (i : Nat) : SemS := fun ρ => do let d ← m ρ; pure (.nx (ρ.set i (some (.ow d))))
theorem own_to {i : Nat} {m : Sem1} {D : Ends} {σ : L2.St} {H : Hp} (h : RdS K tabs δ O0 H0 (ownS m i) D σ H) : tAsg (RdF K tabs m) (gName i) D σ H := by
  obtain ⟨O, ρ, st, out, st', B, S, W, e, f⟩ := h
  obtain ⟨d, st1, e1, f1⟩ := bnd_some e
  obtain ⟨rfl, rfl⟩ := pur_some f1
  refine ⟨δ, O, ρ, st, d, _, S, W, e1, fun a H1 ha L W1 r => ?_⟩
  show D.nx (σ.set i (some (V.ref a))) H1
  refine f (plus O a) _ H1 ⟨B.lat.trans L, fun j d' b h1 h2 => ?_, B.o0⟩ ((S.lat L W.dl).setE i r fun d' _ j d2 h1 h2 => ?_) W1 (L.rds W.dl)
  · rcases get_set_some h1 with ⟨rfl, z⟩ | ⟨n, h3⟩
    · rcases get_set_some h2 with ⟨_, z⟩ | ⟨n, _⟩
      · cases z
        exact B.lat.ext.dom a ha
      · exact absurd rfl n
    · rw [List.getElem?_set_ne n] at h2
      exact B.own j d' b h3 h2
  · obtain ⟨u, q1, q2⟩ := S.at_ j _ h1
    rw [h2] at q1
    cases q1
    obtain ⟨b, e, _, hb, _⟩ := q2.owA
    cases e
    exact hb ha
theorem s_own {i : Nat} {x : PySem.Str} {e : Expr} {m : Sem1} {pos pos' : Pos} (hN : X.N.Nodup) (hi : X.N[i]? = some x) (hx : Loc X.env.scope x) (he : PE X e (RdF X.K tabs m)) (hs : swapsWith e (some (.Name x pos')) pos.line X.env = pure false) (hf : X.fn x = true ∨ X.env.scope.names.lookup x = some .local) :
    PS X (.Assign [.Name x pos'] e pos) (RdS X.K tabs δ O0 H0 (ownS m i)) := PS.imp (ps_set hN hi hx he hs hf) fun D σ H h => own_to h
/-! ### for -/
def forGo (t : Tg) (b : SemS) : List PyData → Rho → M Out
  | [], ρ => pure (.nx ρ)
  | d :: ds, ρ => do
    let ρ1 ← up (storeT t d ρ)
    let o ← b ρ1
    match o with
    | .nx ρ2 => forGo t b ds ρ2
    | .ct ρ2 => forGo t b ds ρ2
    | .bk ρ2 => pure (.nx ρ2)
    | .rt d => pure (.rt d)
def forS (it : SemL) (t : Tg) (b : SemS) : SemS := fun ρ => do let ds ← it ρ; forGo t b ds ρ
theorem s_for {tg iter : Expr} {body : List Stmt} {it : SemL} {t : Tg} {b : SemS} {pos : Pos} (hp : PassesOwn (model X.prog X.w) X.A X.env X.xe) (hc : X.calm = true) (hi : PI X tg iter (RdI X.K tabs it)) (hg : PG X tg (RdG X.K t)) (hb : PSs X body (RdS X.K tabs δ O0 H0 b))
    (hs : ∀ x, foldedSetIterable iter X.env x = pure x) : PS X (.For tg iter body [] pos) (RdS X.K tabs δ O0 H0 (forS it t b)) :=
  PS.imp (ps_for hp hc hi hg hb hs) fun D σ H ⟨O, ρ, st, out, st', B, S, W, e, f⟩ => by
    obtain ⟨items, st1, e1, f1⟩ := bnd_some e
    refine ⟨δ, O, ρ, st, items, st1, S, W, e1, fun J H1 E1 W1 hJ => ?_⟩
    refine ⟨fun i m σ2 H2 => m = items.length - i ∧ i ≤ items.length ∧ ∃ O2 ρ2 st2, Base δ O0 H0 O2 H2 ρ2 σ2 ∧ Slots X.K δ O2 ρ2 σ2 H2 ∧ WOk X.K tabs δ O2 st2 H2 ∧ Rds (mask O H1) (mask O2 H2) ∧ forGo t b (items.drop i) ρ2 st2 = some (out, st') ∧ Fin X.K tabs δ O0 H0 O2 H2 D out st',
      ⟨_, rfl, Nat.zero_le _, O, ρ, st1, B.of (Lat2.of E1), S.ext E1 W.dl, W1, rds_refl, f1, f.mono (rds_ext E1 W.dl)⟩, ?_⟩
    intro i m σ2 H2 ⟨hm, hi, O2, ρ2, st2, B2, S2, W2, R2, g2, F2⟩
    obtain ⟨k1, k2⟩ := hJ tabs.m O2 st2 H2 W2 R2 i
    by_cases hlt : i < items.length
    · obtain ⟨go, yld⟩ := k1 hlt
      refine .inr ⟨go, fun σ3 H3 => ∃ m', m' < m ∧ m' = items.length - (i + 1) ∧ i + 1 ≤ items.length ∧ ∃ O2 ρ2 st2, Base δ O0 H0 O2 H3 ρ2 σ3 ∧ Slots X.K δ O2 ρ2 σ3 H3 ∧ WOk X.K tabs δ O2 st2 H3 ∧ Rds (mask O H1) (mask O2 H3) ∧ forGo t b (items.drop (i + 1)) ρ2 st2 = some (out, st') ∧ Fin X.K tabs δ O0 H0 O2 H3 D out st',
        fun σ3 H3 ⟨m', h1, h2⟩ => ⟨m', h1, h2⟩, fun x H3 hy => ?_⟩
      obtain ⟨E3, W3, d, hd, r3⟩ := yld x H3 hy
      have hdrop : items.drop i = d :: items.drop (i + 1) := by
        rw [List.drop_eq_getElem_cons hlt]
        rw [List.getElem?_eq_getElem hlt] at hd
        cases hd
        rfl
      rw [hdrop] at g2
      unfold forGo at g2
      obtain ⟨ρ3, st3, e3, g3⟩ := bnd_some g2
      obtain ⟨q3, rfl⟩ := up_some e3
      obtain ⟨o4, st4, e4, g4⟩ := bnd_some g3
      refine ⟨δ, O2, ρ2, d, ρ3, S2.ext E3 W2.dl, r3, q3, fun σ4 S4 k4 => ?_⟩
      refine ⟨O2, ρ3, _, o4, st4, (B2.of (Lat2.of E3)).store q3 k4, S4, W3, e4, ?_⟩
      have R3 : Rds (mask O2 H2) (mask O2 H3) := rds_ext E3 W2.dl
      cases o4 with
      | nx ρ5 => exact fun O' σ' H' B' S' W' R' => ⟨_, by omega, rfl, by omega, O', ρ5, st4, B', S', W', (R2.trans R3).trans R', g4, F2.mono (R3.trans R')⟩
      | ct ρ5 => exact fun O' σ' H' B' S' W' R' => ⟨_, by omega, rfl, by omega, O', ρ5, st4, B', S', W', (R2.trans R3).trans R', g4, F2.mono (R3.trans R')⟩
      | bk ρ5 =>
        obtain ⟨rfl, rfl⟩ := pur_some g4
        exact FinAt.mono F2 R3
      | rt d =>
        obtain ⟨rfl, rfl⟩ := pur_some g4
        exact F2
    · have hz : i = items.length := by omega
      refine .inl ⟨k2 (by omega), ?_⟩
      rw [hz, List.drop_length] at g2
      unfold forGo at g2
      obtain ⟨rfl, rfl⟩ := pur_some g2
      exact FinAt.now B2 S2 W2 F2
/-! ### while -/
def whileS (c : SemB) (b : SemS) : Nat → SemS
  | 0 => fun _ => up none
  | n + 1 => fun ρ => do
    let x ← c ρ
    if x = true then do
      let o ← b ρ
      match o with
      | .nx ρ2 => whileS c b n ρ2
      | .ct ρ2 => whileS c b n ρ2
      | .bk ρ2 => pure (.nx ρ2)
      | .rt d => pure (.rt d)
    else pure (.nx ρ)
theorem s_while {c : Expr} {body : List Stmt} {mc : SemB} {b : SemS} {pos : Pos} (n : Nat) (hp : PassesOwn (model X.prog X.w) X.A X.env X.xe) (hc : PT X c (RdB X.K tabs mc)) (hb : PSs X body (RdS X.K tabs δ O0 H0 b)) :
    PS X (.While c body [] pos) (RdS X.K tabs δ O0 H0 (whileS mc b n)) :=
  PS.imp (ps_while hp hc hb) fun D σ H ⟨O, ρ, st, out, st', B, S, W, e, f⟩ => by
    refine ⟨fun m σ2 H2 => ∃ O2 ρ2 st2, Base δ O0 H0 O2 H2 ρ2 σ2 ∧ Slots X.K δ O2 ρ2 σ2 H2 ∧ WOk X.K tabs δ O2 st2 H2 ∧ whileS mc b m ρ2 st2 = some (out, st') ∧ Fin X.K tabs δ O0 H0 O2 H2 D out st', ⟨n, O, ρ, st, B, S, W, e, f⟩, ?_⟩
    intro m σ2 H2 ⟨O2, ρ2, st2, B2, S2, W2, g2, F2⟩
    cases m with
    | zero => cases g2
    | succ m =>
      unfold whileS at g2
      obtain ⟨x, st3, e3, g3⟩ := bnd_some g2
      refine ⟨δ, O2, ρ2, st2, x, st3, S2, W2, e3, fun H3 E3 W3 => ?_⟩
      have R3 : Rds (mask O2 H2) (mask O2 H3) := rds_ext E3 W2.dl
      cases x with
      | true =>
        rw [if_pos rfl] at g3
        obtain ⟨o4, st4, e4, g4⟩ := bnd_some g3
        dsimp only
        rw [if_pos rfl]
        refine ⟨fun σ' H' => ∃ m', m' < m + 1 ∧ ∃ O2 ρ2 st2, Base δ O0 H0 O2 H' ρ2 σ' ∧ Slots X.K δ O2 ρ2 σ' H' ∧ WOk X.K tabs δ O2 st2 H' ∧ whileS mc b m' ρ2 st2 = some (out, st') ∧ Fin X.K tabs δ O0 H0 O2 H' D out st', fun _ _ h => h,
          O2, ρ2, st3, o4, st4, B2.of (Lat2.of E3), S2.ext E3 W2.dl, W3, e4, ?_⟩
        cases o4 with
        | nx ρ5 => exact fun O' σ' H' B' S' W' R' => ⟨m, by omega, O', ρ5, st4, B', S', W', g4, F2.mono (R3.trans R')⟩
        | ct ρ5 => exact fun O' σ' H' B' S' W' R' => ⟨m, by omega, O', ρ5, st4, B', S', W', g4, F2.mono (R3.trans R')⟩
        | bk ρ5 =>
          obtain ⟨rfl, rfl⟩ := pur_some g4
          exact FinAt.mono F2 R3
        | rt d =>
          obtain ⟨rfl, rfl⟩ := pur_some g4
          exact F2
      | false =>
        rw [if_neg (by decide)] at g3
        obtain ⟨rfl, rfl⟩ := pur_some g3
        dsimp only
        rw [if_neg (by decide)]
        exact FinAt.now (B2.of (Lat2.of E3)) (S2.ext E3 W2.dl) W3 (FinAt.mono F2 R3)
end
end Fo
namespace Fo
open PySem PySem.Spec PyProof.Rows L2
section
variable {K : PySem.W.Frag} {tabs : Tb} {δ : Option Addr} {O0 O O2 O3 : Addr → Prop} {ρ ρ2 : Rho} {σ σ2 : L2.St} {H0 H H2 H3 : Hp} {st : Dr}
/-! ### an owned value is given away -/
def frz (i : Nat) (ρ : Rho) : Rho := match ρ[i]? with
  | some (some (.ow d)) => ρ.set i (some (.va d))
  | _ => ρ
def frzS (i : Nat) (m : SemS) : SemS := fun ρ => m (frz i ρ)
theorem Slot1.less {O' : Addr → Prop} {v : V} {en : En} (h : Slot1 K δ O H v en) (r : ∀ a, O' a → O a) (k : ∀ d a, en = .ow d → v = .ref a → O' a) : Slot1 K δ O' H v en := by
  have rd : Rds (mask O H) (mask O' H) := rds_less r
  cases en with
  | va d => exact Rp.mono rd h
  | dr => exact h
  | ow d =>
    cases d with
    | list ds =>
      obtain ⟨a, xs, e, o, n, k1, k2⟩ := h
      exact ⟨a, xs, e, k _ a rfl e, n, k1, k2.mono rd⟩
    | dict kvs =>
      obtain ⟨a, e, o, n, q⟩ := h
      refine ⟨a, e, k _ a rfl e, n, ?_⟩
      exact q.mono rd
    | _ => exact h
theorem Slot1.frz {O' : Addr → Prop} {a : Addr} {d : PyData} (h : Slot1 K δ O H (.ref a) (.ow d)) (r : ∀ a, O' a → O a) (k : ¬ O' a) : Rp K (mask O' H) (.ref a) d := by
  have rd : Rds (mask O H) (mask O' H) := rds_less r
  cases d with
  | list ds =>
    obtain ⟨b, xs, e, o, n, k1, k2⟩ := h
    cases e
    exact .lst (mask_some.mpr ⟨k, k1⟩) (k2.mono rd)
  | dict kvs =>
    obtain ⟨b, e, o, n, q⟩ := h
    cases e
    exact ((q.mono rd).to fun u k1 _ => mask_some.mpr ⟨k, k1⟩).rp
  | _ => exact h.elim
theorem s_frz {X : Cx} {i : Nat} {m : SemS} {s : Stmt} (h : PS X s (RdS X.K tabs δ O0 H0 m)) : PS X s (RdS X.K tabs δ O0 H0 (frzS i m)) :=
  PS.imp h fun D σ H ⟨O, ρ, st, out, st', B, S, W, e, f⟩ => by
    unfold frzS frz at e
    split at e
    · rename_i d hd
      obtain ⟨v, h1, h2⟩ := S.at_ i _ hd
      obtain ⟨a, rfl, ha, hne, hδ⟩ := h2.owA
      have h0 := B.own i d a hd h1
      refine ⟨fun b => O b ∧ b ≠ a, ρ.set i (some (.va d)), st, out, st', ⟨⟨B.lat.ext, fun b q => ⟨B.lat.up b q, fun z => B.o0 b q (z ▸ h0)⟩, fun b q => B.lat.dn b q.1⟩, fun j d' b q1 q2 => ?_, B.o0⟩, ⟨fun j en q => ?_, fun j l d1 e1 v1 hne q1 q2 q3 => ?_, by rw [List.length_set, S.len]⟩, ?_, e, f.mono (rds_less fun b q => q.1)⟩
      · rcases get_set_some q1 with ⟨rfl, z⟩ | ⟨n, q1⟩
        · cases z
        · exact B.own j d' b q1 q2
      · rcases get_set_some q with ⟨rfl, rfl⟩ | ⟨n, q⟩
        · exact ⟨_, h1, Slot1.frz h2 (fun b q => q.1) fun z => z.2 rfl⟩
        · obtain ⟨u, w1, w2⟩ := S.at_ j _ q
          refine ⟨u, w1, w2.less (fun b q => q.1) fun d' b z1 z2 => ⟨?_, fun z3 => ?_⟩⟩
          · subst z1
            obtain ⟨c, y1, y2, _⟩ := w2.owA
            rw [z2] at y1
            cases y1
            exact y2
          · subst z1 z2 z3
            exact S.inj i j d d' _ n hd q h1 w1
      · rcases get_set_some q1 with ⟨rfl, z⟩ | ⟨n1, q1⟩
        · cases z
        · rcases get_set_some q2 with ⟨rfl, z⟩ | ⟨n2, q2⟩
          · cases z
          · exact S.inj j l d1 e1 v1 hne q1 q2 q3
      · exact W.less (fun b z => ⟨W.dl b z, fun y => hδ (y ▸ z)⟩) fun b q => q.1
    · exact ⟨O, ρ, st, out, st', B, S, W, e, f⟩
/-! ### name = [..], the name a plain local -/
theorem rdC_F {m : Sem1} {Q : VK} (h : RdF K tabs m σ H Q) : RdC K tabs m σ H Q := by
  obtain ⟨δ, O, ρ, st, z, st', S, W, e, c⟩ := h
  refine ⟨δ, O, ρ, st, z, st', S, W, e, fun D H2 vs out ez hD L W2 hv hr => ?_⟩
  subst ez
  exact c D H2 hD L W2 ⟨D, vs, rfl, .inr rfl, W.ne_new hD, hv, hr⟩
variable {X : Cx}
theorem ef_lc {elt tgE iter : Expr} {ifs : List Expr} {scope : Scope} {own : List (PySem.Str × Nat)} {pos : Pos} {it : SemL} {tg : Tg} {tt : SemB} {te : Sem1} (hc : X.calm = true) (hN : X.N.Nodup) (hi : PI X tgE iter (RdIt X.K tabs it)) (ok : BlkOk X.N X.env.scope scope own)
    (hg : ∀ (s : Shared) (H : Hp) (C : Addr) (cl : List (PySem.Str × Addr)) (fp : List Addr), PG (X.blk s H scope (compEnvC scope cl C X.env) fp) tgE (RdG X.K tg))
    (ht : ∀ (s : Shared) (H : Hp) (C : Addr) (cl : List (PySem.Str × Addr)) (fp : List Addr), PTs (X.blk s H scope (compEnvC scope cl C X.env) fp) ifs (RdB X.K tabs tt))
    (he : ∀ (s : Shared) (H : Hp) (C : Addr) (cl : List (PySem.Str × Addr)) (fp : List Addr), PE (X.blk s H scope (compEnvC scope cl C X.env) fp) elt (Rd1 X.K tabs te)) (hs : ∀ x, foldedSetIterable iter X.env x = pure x)
    (hsub : ∀ j ∈ tg.slots, j ∈ own.map (·.2)) : PE X (.ListComp elt [⟨tgE, iter, ifs, 0⟩] scope pos) (RdF X.K tabs (lcR it tg (own.map (·.2)) tt te)) :=
  PE.imp (pe_lc hc hN hi ok hg ht he hs) fun σ H Q h => lc_to hsub (rdC_F h)
theorem asg_nm {i : Nat} {m : Sem1} {D : Ends} {σ : L2.St} {H : Hp} (h : RdS K tabs δ O0 H0 (asgS m (.nm i)) D σ H) : Rd1 K tabs m σ H fun x H1 => gName i x σ H1 D.nx := by
  obtain ⟨O, ρ, st, out, st', B, S, W, e, f⟩ := h
  obtain ⟨d, st1, e1, f1⟩ := bnd_some e
  obtain ⟨ρ', st2, e2, f2⟩ := bnd_some f1
  obtain ⟨g, rfl⟩ := up_some e2
  obtain ⟨rfl, rfl⟩ := pur_some f2
  cases g
  exact ⟨δ, O, ρ, st, d, _, S, W, e1, fun w H' E W' R => f O _ H' ((B.of (Lat2.of E)).store (t := .nm i) rfl fun j hj => List.getElem?_set_ne (fun z => hj (by simp [Tg.slots, z]))) ((S.ext E W.dl).set i R) W' (rds_ext E W.dl)⟩
theorem s_setLc {i : Nat} {y : PySem.Str} {py spos : Pos} {elt tgE iter : Expr} {ifs : List Expr} {scope : Scope} {own : List (PySem.Str × Nat)} {pos : Pos} {it : SemL} {tg : Tg} {tt : SemB} {te : Sem1} (hc : X.calm = true) (hN : X.N.Nodup) (hy : X.N[i]? = some y) (hyl : X.env.scope.names.lookup y = some .local)
    (hsw : swapsWith (.ListComp elt [⟨tgE, iter, ifs, 0⟩] scope pos) (some (.Name y py)) spos.line X.env = pure true) (hi : PI X tgE iter (RdIt X.K tabs it)) (ok : BlkOk X.N X.env.scope scope own)
    (hg : ∀ (s : Shared) (H : Hp) (C : Addr) (cl : List (PySem.Str × Addr)) (fp : List Addr), PG (X.blk s H scope (compEnvC scope cl C X.env) fp) tgE (RdG X.K tg))
    (ht : ∀ (s : Shared) (H : Hp) (C : Addr) (cl : List (PySem.Str × Addr)) (fp : List Addr), PTs (X.blk s H scope (compEnvC scope cl C X.env) fp) ifs (RdB X.K tabs tt))
    (he : ∀ (s : Shared) (H : Hp) (C : Addr) (cl : List (PySem.Str × Addr)) (fp : List Addr), PE (X.blk s H scope (compEnvC scope cl C X.env) fp) elt (Rd1 X.K tabs te)) (hs : ∀ x, foldedSetIterable iter X.env x = pure x)
    (hsub : ∀ j ∈ tg.slots, j ∈ own.map (·.2)) : PS X (.Assign [.Name y py] (.ListComp elt [⟨tgE, iter, ifs, 0⟩] scope pos) spos) (RdS X.K tabs δ O0 H0 (asgS (lcR it tg (own.map (·.2)) tt te) (.nm i))) :=
  PS.imp (ps_setLc hc hN hy hyl hsw hi ok hg ht he hs) fun D σ H h => lc_to hsub (rdC_1 (asg_nm h))
theorem s_ownLc {i : Nat} {y : PySem.Str} {py spos : Pos} {elt tgE iter : Expr} {ifs : List Expr} {scope : Scope} {own : List (PySem.Str × Nat)} {pos : Pos} {it : SemL} {tg : Tg} {tt : SemB} {te : Sem1} (hc : X.calm = true) (hN : X.N.Nodup) (hy : X.N[i]? = some y) (hyl : X.env.scope.names.lookup y = some .local)
    (hsw : swapsWith (.ListComp elt [⟨tgE, iter, ifs, 0⟩] scope pos) (some (.Name y py)) spos.line X.env = pure true) (hi : PI X tgE iter (RdIt X.K tabs it)) (ok : BlkOk X.N X.env.scope scope own)
    (hg : ∀ (s : Shared) (H : Hp) (C : Addr) (cl : List (PySem.Str × Addr)) (fp : List Addr), PG (X.blk s H scope (compEnvC scope cl C X.env) fp) tgE (RdG X.K tg))
    (ht : ∀ (s : Shared) (H : Hp) (C : Addr) (cl : List (PySem.Str × Addr)) (fp : List Addr), PTs (X.blk s H scope (compEnvC scope cl C X.env) fp) ifs (RdB X.K tabs tt))
    (he : ∀ (s : Shared) (H : Hp) (C : Addr) (cl : List (PySem.Str × Addr)) (fp : List Addr), PE (X.blk s H scope (compEnvC scope cl C X.env) fp) elt (Rd1 X.K tabs te)) (hs : ∀ x, foldedSetIterable iter X.env x = pure x)
    (hsub : ∀ j ∈ tg.slots, j ∈ own.map (·.2)) : PS X (.Assign [.Name y py] (.ListComp elt [⟨tgE, iter, ifs, 0⟩] scope pos) spos) (RdS X.K tabs δ O0 H0 (ownS (lcR it tg (own.map (·.2)) tt te) i)) :=
  PS.imp (ps_setLc hc hN hy hyl hsw hi ok hg ht he hs) fun D σ H h => lc_to hsub (rdC_F (own_to h))
/-! ### append, x[i] = e -/
def owL (ρ : Rho) (i : Nat) : Option (List PyData) := match ρ[i]? with
  | some (some (.ow (.list ds))) => some ds
  | _ => none
theorem owL_some {i : Nat} {ds : List PyData} (h : owL ρ i = some ds) : ρ[i]? = some (some (.ow (.list ds))) := by
  unfold owL at h
  split at h
  · rename_i z
    cases h
    exact z
  · cases h
/-- an owned list is changed -/
theorem own_put {i : Nat} {a : Addr} {ds es : List PyData} {ys : List V} (B : Base δ O0 H0 O H ρ σ) (S : Slots K δ O ρ σ H) (W : WOk K tabs δ O st H) (hi : ρ[i]? = some (some (.ow (.list ds)))) (hv : σ[i]? = some (some (.ref a))) (hr : RpAll K (mask O H) ys es) :
    Base δ O0 H0 O (L2.upd H a (.lst ys)) (ρ.set i (some (.ow (.list es)))) σ ∧ Slots K δ O (ρ.set i (some (.ow (.list es)))) σ (L2.upd H a (.lst ys)) ∧ WOk K tabs δ O st (L2.upd H a (.lst ys)) ∧ Rds (mask O H) (mask O (L2.upd H a (.lst ys))) := by
  obtain ⟨v, q1, q2⟩ := S.at_ i _ hi
  rw [hv] at q1
  cases q1
  obtain ⟨b, xs, e, ho, hn, hH, hx⟩ := q2
  cases e
  have h0 := B.own i _ a hi hv
  have rd : Rds (mask O H) (mask O (L2.upd H a (.lst ys))) := rds_upd ho
  refine ⟨⟨B.lat.upd h0 (by rw [hH]; exact fun z => nomatch z), fun j d b q1 q2 => ?_, B.o0⟩, ⟨fun j en q => ?_, fun j l d1 e1 v1 hne q1 q2 q3 => ?_, by rw [List.length_set, S.len]⟩, W.upd ho hn (by rw [hH]; trivial), rd⟩
  · rcases get_set_some q1 with ⟨rfl, z⟩ | ⟨n, q1⟩
    · exact B.own i _ b hi q2
    · exact B.own j d b q1 q2
  · rcases get_set_some q with ⟨rfl, rfl⟩ | ⟨n, q⟩
    · exact ⟨_, hv, a, ys, rfl, ho, hn, upd_same, hr.mono rd⟩
    · obtain ⟨u, w1, w2⟩ := S.at_ j _ q
      refine ⟨u, w1, ?_⟩
      cases en with
      | va d => exact Rp.mono rd w2
      | dr => exact w2
      | ow d =>
        obtain ⟨b, rfl, _⟩ := w2.owA
        have hb : b ≠ a := fun z => S.inj i j _ _ _ n hi q hv (z ▸ w1)
        cases d with
        | list ds =>
          obtain ⟨b', xs, e, o, n, k1, k2⟩ := w2
          cases e
          exact ⟨b, xs, rfl, o, n, by rw [upd_ne hb]; exact k1, k2.mono rd⟩
        | dict kvs =>
          obtain ⟨b', e, o, n, q⟩ := w2
          cases e
          refine ⟨b, rfl, o, n, ?_⟩
          rw [upd_ne hb]
          exact q.mono rd
        | _ => exact w2
  · rcases get_set_some q1 with ⟨rfl, z1⟩ | ⟨n1, q1⟩
    · rcases get_set_some q2 with ⟨rfl, z⟩ | ⟨n2, q2⟩
      · exact absurd rfl hne
      · exact S.inj i l _ e1 v1 hne hi q2 q3
    · rcases get_set_some q2 with ⟨rfl, z⟩ | ⟨n2, q2⟩
      · exact S.inj j i d1 _ v1 hne q1 hi q3
      · exact S.inj j l d1 e1 v1 hne q1 q2 q3
theorem own_at {i : Nat} {ds : List PyData} (S : Slots K δ O ρ σ H) (hi : ρ[i]? = some (some (.ow (.list ds)))) : ∃ a xs, σ[i]? = some (some (.ref a)) ∧ O a ∧ δ ≠ some a ∧ H a = some (.lst xs) ∧ RpAll K (mask O H) xs ds := by
  obtain ⟨v, q1, q2⟩ := S.at_ i _ hi
  obtain ⟨b, xs, e, ho, hn, hH, hx⟩ := q2
  cases e
  exact ⟨b, xs, q1, ho, hn, hH, hx⟩
def appO (ρ : Rho) (i : Nat) (d : PyData) : Option Rho := match owL ρ i with
  | some ds => if ds.length < 1000000 then some (ρ.set i (some (.ow (.list (ds ++ [d]))))) else none
  | none => none
def appS (i : Nat) (m : Sem1) : SemS := fun ρ => do let d ← m ρ; let ρ' ← up (appO ρ i d); pure (.nx ρ')
theorem s_app {i : Nat} {x : PySem.Str} {e : Expr} {m : Sem1} {px apos cpos pos : Pos} (hN : X.N[i]? = some x) (hv : Vis X.env.scope x) (hd : (x == ("__debug__" : PySem.Str)) = false) (hcd : (x == ("__classdict__" : PySem.Str)) = false) (hp : plain e = true) (he : PE X e (Rd1 X.K tabs m))
    (hbase : attributeBase (.Name x px) "append" X.env (eval (.Name x px) X.env) = eval (.Name x px) X.env)
    (hline : (apos.endLine == cpos.line) = true)
    (hs : swapsWith (.Call (.Attribute (.Name x px) "append" apos) [e] [] cpos) none pos.line X.env = pure false) :
    PS X (.Expr (.Call (.Attribute (.Name x px) "append" apos) [e] [] cpos) pos) (RdS X.K tabs δ O0 H0 (appS i m)) := by
  have ha : PA X [e] (tCons (Rd1 X.K tabs m) tNil) := pa_cons he pa_nil (plain_star hp)
  have hp1 : starEach [e] X.env = [(false, eval e X.env)] := plain_star hp
  refine PS.imp (ps_expr (pe_bm F.plainAttrs_list F.slot_list_append F.type_list_append mt_append (pe_var hN hv hd hcd) ha hbase (by rw [hp1]; rfl) hline (plain_star hp) rfl) hs) fun D σ H ⟨O, ρ, st, out, st', B, S, W, e, f⟩ => ?_
  obtain ⟨d, st1, e1, f1⟩ := bnd_some e
  obtain ⟨ρ', st2, e2, f2⟩ := bnd_some f1
  obtain ⟨g, rfl⟩ := up_some e2
  obtain ⟨rfl, rfl⟩ := pur_some f2
  unfold appO at g
  split at g
  · rename_i ds hds
    have hi := owL_some hds
    obtain ⟨a, xs, q1, q2, q3, q4, q5⟩ := own_at S hi
    split at g
    · rename_i hl
      cases g
      refine ⟨_, q1, .inl ⟨rfl, xs, SqL.of q4⟩, δ, O, ρ, st, d, _, S, W, e1, fun w H1 E1 W1 R1 => ?_⟩
      obtain ⟨a', xs', z1, z2, z3, z4, z5⟩ := own_at (S.ext E1 W.dl) hi
      rw [q1] at z1
      cases z1
      obtain ⟨P1, P2, P3, P4⟩ := own_put (B.of (Lat2.of E1)) (S.ext E1 W.dl) W1 hi q1 (z5.append (.cons R1 .nil))
      exact ⟨a, xs', w, rfl, rfl, z4, by rw [z5.length]; exact Nat.lt_of_lt_of_le hl (line_le (Nat.le_refl _)), f O σ _ P1 P2 P3 ((rds_ext E1 W.dl).trans P4)⟩
    · cases g
  · cases g
def setO (ρ : Rho) (i : Nat) (k d : PyData) : Option Rho := match owL ρ i, k with
  | some ds, .int j => (ixN ds.length j).map fun n => ρ.set i (some (.ow (.list (ds.set n d))))
  | _, _ => none
def setS (i : Nat) (mk m : Sem1) : SemS := fun ρ => do let d ← m ρ; let k ← mk ρ; let ρ' ← up (setO ρ i k d); pure (.nx ρ')
theorem s_set {i : Nat} {x : PySem.Str} {e ix : Expr} {m mk : Sem1} {px tpos pos : Pos} (hN : X.N[i]? = some x) (hv : Vis X.env.scope x) (hd : (x == ("__debug__" : PySem.Str)) = false) (hcd : (x == ("__classdict__" : PySem.Str)) = false) (he : PE X e (Rd1 X.K tabs m)) (hk : PE X ix (RdT X.K tabs mk))
    (hs : swapsWithSole [.Subscript (.Name x px) ix tpos] e pos.line X.env = pure false) (hw : swappedStores [.Subscript (.Name x px) ix tpos] e X.env = pure none)
    (ha : ∀ v, assign (.Subscript (.Name x px) ix tpos) X.env v = (do
      let ov ← holding [v] (eval (.Name x px) X.env)
      let iv ← holding [v, ov] (eval ix X.env)
      standAt tpos
      holding [v, ov, iv] (setItem ov iv v)
      release [v, ov, iv] [])) :
    PS X (.Assign [.Subscript (.Name x px) ix tpos] e pos) (RdS X.K tabs δ O0 H0 (setS i mk m)) :=
  PS.imp (ps_asg he (pg_sub (pe_var hN hv hd hcd) hk set_list ha) hs hw rfl) fun D σ H ⟨O, ρ, st, out, st', B, S, W, e, f⟩ => by
    obtain ⟨d, st1, e1, f1⟩ := bnd_some e
    obtain ⟨k, st2, e2, f2⟩ := bnd_some f1
    obtain ⟨ρ', st3, e3, f3⟩ := bnd_some f2
    obtain ⟨g, rfl⟩ := up_some e3
    obtain ⟨rfl, rfl⟩ := pur_some f3
    unfold setO at g
    split at g
    · rename_i ds j hds
      have hi := owL_some hds
      cases hn : ixN ds.length j with
      | none => rw [hn] at g; cases g
      | some n =>
        rw [hn] at g
        cases g
        refine ⟨δ, O, ρ, st, d, _, S, W, e1, fun w H1 E1 W1 R1 => ?_⟩
        have S1 := S.ext E1 W.dl
        obtain ⟨a, xs, z1, z2, z3, z4, z5⟩ := own_at S1 hi
        refine ⟨_, z1, δ, O, ρ, st1, .int j, _, S1, W1, e2, fun u H2 E2 W2 R2 => ?_⟩
        cases R2.int
        have S2 := S1.ext E2 W1.dl
        obtain ⟨a', xs', y1, y2, y3, y4, y5⟩ := own_at S2 hi
        rw [z1] at y1
        cases y1
        have L := (Lat2.of (O := O) E1).trans (Lat2.of (O := O) E2)
        obtain ⟨P1, P2, P3, P4⟩ := own_put (B.of L) S2 W2 hi z1 (y5.set n (R1.mono (rds_ext E2 W1.dl)))
        exact ⟨a, xs', j, n, rfl, rfl, y4, by rw [y5.length]; exact hn, f O σ _ P1 P2 P3 ((L.rds W.dl).trans P4)⟩
    · cases g
/-! ### several names at once, stored from the right -/
def parS (is : List Nat) (r : SemE) : SemS := fun ρ => do
  let ens ← r ρ
  if ens.length = is.length then pure (.nx (storeE ρ is ens)) else up none
theorem Paired.len {α β : Type} {R : α → β → Prop} : ∀ {xs : List α} {ys : List β}, Paired R xs ys → xs.length = ys.length
  | _, _, .nil => rfl
  | _, _, .cons _ t => by rw [List.length_cons, List.length_cons, Paired.len t]
theorem Base.ents {O' : Addr → Prop} {H' : Hp} {ws : List V} {ens : List En} (B : Base δ O0 H0 O H ρ σ) (S : Slots K δ O ρ σ H) (L : Lat2 δ O H O' H') (E : Ents K δ O' H' H ws ens) (is : List Nat) : Base δ O0 H0 O' H' (storeE ρ is ens) (storeV σ is ws) :=
  ⟨B.lat.trans L, fun j d a h1 h2 => by
    rcases setE_ow S.len (Paired.len E.at_).symm h1 h2 with ⟨q1, q2⟩ | ⟨k, q1, q2⟩
    · exact B.own j d a q1 q2
    · obtain ⟨b, z1, z2⟩ := E.nw k d _ q1 q2
      cases z1
      exact B.lat.ext.dom a z2, B.o0⟩
theorem len2 {α : Type} : ∀ {l : List α}, l.length = 2 → ∃ a b, l = [a, b]
  | [a, b], _ => ⟨a, b, rfl⟩
theorem len3 {α : Type} : ∀ {l : List α}, l.length = 3 → ∃ a b c, l = [a, b, c]
  | [a, b, c], _ => ⟨a, b, c, rfl⟩
theorem s_par {i j : Nat} {x y : PySem.Str} {a b : Expr} {r : SemE} {px py pt pos : Pos} {kt k2 : Nat} {pt2 : Pos} (hc : X.calm = true) (hN : X.N.Nodup) (hi : X.N[i]? = some x) (hj : X.N[j]? = some y) (hij : i ≠ j)
    (hx : X.env.scope.names.lookup x = some .local) (hy : X.env.scope.names.lookup y = some .local) (ha : PA X [a, b] (RdM X.K tabs r))
    (hw : swappedStores [.Tuple [.Name x px, .Name y py] kt pt] (.Tuple [a, b] k2 pt2) X.env = pure (some [x, y]))
    (hs : swapsWithSole [.Tuple [.Name x px, .Name y py] kt pt] (.Tuple [a, b] k2 pt2) pos.line X.env = pure false) :
    PS X (.Assign [.Tuple [.Name x px, .Name y py] kt pt] (.Tuple [a, b] k2 pt2) pos) (RdS X.K tabs δ O0 H0 (parS [i, j] r)) :=
  PS.imp (ps_par hc hN hi hj hij hx hy ha hw hs) fun D σ H ⟨O, ρ, st, out, st', B, S, W, e, f⟩ => by
    obtain ⟨ens, st1, e1, f1⟩ := bnd_some e
    split at f1
    · rename_i hl
      obtain ⟨rfl, rfl⟩ := pur_some f1
      refine ⟨δ, O, ρ, st, ens, _, S, W, e1, fun O' ws H' L W' E => ?_⟩
      have F := f O' _ H' (B.ents S L E [i, j]) (E.slots S (S.lat L W.dl) [i, j]) W' (L.rds W.dl)
      obtain ⟨v, w, rfl⟩ := len2 ((Paired.len E.at_).trans hl)
      exact ⟨v, w, rfl, F⟩
    · cases f1
theorem s_par3 {i j l : Nat} {x y z : PySem.Str} {a b c : Expr} {r : SemE} {px py pz pt pos : Pos} {kt k2 : Nat} {pt2 : Pos} (hc : X.calm = true) (hN : X.N.Nodup) (hi : X.N[i]? = some x) (hj : X.N[j]? = some y) (hl : X.N[l]? = some z) (hij : i ≠ j) (hil : i ≠ l) (hjl : j ≠ l)
    (hx : X.env.scope.names.lookup x = some .local) (hy : X.env.scope.names.lookup y = some .local) (hz : X.env.scope.names.lookup z = some .local) (ha : PA X [a, b, c] (RdM X.K tabs r))
    (hw : swappedStores [.Tuple [.Name x px, .Name y py, .Name z pz] kt pt] (.Tuple [a, b, c] k2 pt2) X.env = pure (some [x, y, z]))
    (hs : swapsWithSole [.Tuple [.Name x px, .Name y py, .Name z pz] kt pt] (.Tuple [a, b, c] k2 pt2) pos.line X.env = pure false) :
    PS X (.Assign [.Tuple [.Name x px, .Name y py, .Name z pz] kt pt] (.Tuple [a, b, c] k2 pt2) pos) (RdS X.K tabs δ O0 H0 (parS [i, j, l] r)) :=
  PS.imp (ps_par3 hc hN hi hj hl hij hil hjl hx hy hz ha hw hs) fun D σ H ⟨O, ρ, st, out, st', B, S, W, e, f⟩ => by
    obtain ⟨ens, st1, e1, f1⟩ := bnd_some e
    split at f1
    · rename_i hl
      obtain ⟨rfl, rfl⟩ := pur_some f1
      refine ⟨δ, O, ρ, st, ens, _, S, W, e1, fun O' ws H' L W' E => ?_⟩
      have F := f O' _ H' (B.ents S L E [i, j, l]) (E.slots S (S.lat L W.dl) [i, j, l]) W' (L.rds W.dl)
      obtain ⟨u, v, w, rfl⟩ := len3 ((Paired.len E.at_).trans hl)
      exact ⟨u, v, w, rfl, F⟩
    · cases f1
end
end Fo
/-! a generator expression's own frame -/
namespace L2
open PySem PySem.Spec PyProof.Rows
abbrev gEnv (X : Cx) (scope : Scope) (C : Addr) (code : Value) : Env := genEnv scope (cloFrom X.env.cells scope.names []) C code builtinsNs X.env
abbrev Cx.gen (X : Cx) (s : Shared) (H : Hp) (scope : Scope) (code : Value) (fp : List Addr) : Cx :=
  { X with A := X.A.in1.in1.deeper (gEnv X scope s.heap.objs.size code), s_0 := s, H_0 := H, env := gEnv X scope s.heap.objs.size code, outer := X.stack, stack := gEnv X scope s.heap.objs.size code :: X.stack, ex := fp, fn := fun _ => false, pn := [], xe := fun _ _ => False }
structure GenOk (N : List Str) (sc scope : Scope) (own : List (Str × Nat)) : Prop where
  kind : scope.kind = .function
  co : scope.isCoroutine = false
  uniq : ∀ y ∈ scope.names, scope.names.lookup y.1 = some y.2
  cell : ∀ y ∈ scope.names, y.2 ≠ .cell
  dot : scope.names.lookup (".0" : Str) = some .local
  ix : ∀ p ∈ own, N[p.2]? = some p.1
  free : ∀ y ∈ scope.names, y.2 = .free → sc.names.lookup y.1 = some .cell ∨ sc.names.lookup y.1 = some .free
  own : ∀ y ∈ scope.names, y.2 = .local → y.1 ∈ own.map (·.1) ∨ y.1 ∉ N
section
variable {X : Cx} {pins : List (Addr × Obj)} {σ : St} {H : Hp} {s : Shared}
theorem gen_start {scope : Scope} {own : List (Str × Nat)} {fp : List Addr} {code it : Value} {h' : Heap} {t' : Nat} {g' : Array GenState} (I : Inv X pins σ H s) (ok : GenOk X.N X.env.scope scope own) (hN : X.N.Nodup) (hfp : ∀ b ∈ fp, FpOk X pins H b ∧ b < s.heap.objs.size)
    (hn : h'.Ns s.heap.objs.size fun y => if y = (".0" : Str) then some it else none) (kp : ∀ b o, s.heap.get? b = some o → h'.get? b = some o) (hg : AllBare g') :
    Inv (X.gen s H scope code fp) [] (wipe σ (own.map (·.2))) H { s with heap := h', toks := t', gens := g' } := by
  have hfree : ∀ y ∈ scope.names, y.2 = .free → ∃ c, X.env.cells.lookup y.1 = some c := fun y hy e => by
    rcases ok.free y hy e with k | k
    · exact I.ok.has _ (.inl k)
    · exact I.ok.has _ (.inr k)
  have cm : ∀ {y c}, (gEnv X scope s.heap.objs.size code).cells.lookup y = some c → X.env.cells.lookup y = some c ∧ c < s.heap.objs.size := fun {y c} e => by
    rcases cloFrom_mem (PySem.mem_of_lookup e) with hm | ⟨h1, rfl⟩
    · cases hm
    · obtain ⟨c, hc⟩ := hfree _ h1 rfl
      rw [hc]
      obtain ⟨w, z⟩ := I.cell _ _ hc
      exact ⟨rfl, z.lt⟩
  have look : ∀ {y}, scope.names.lookup y = some .free → ∃ c, (gEnv X scope s.heap.objs.size code).cells.lookup y = some c ∧ X.env.cells.lookup y = some c := fun {y} hl => by
    obtain ⟨c', e'⟩ := mem_lookup (cloFrom_has (cells := X.env.cells) (acc := []) (PySem.mem_of_lookup hl))
    exact ⟨c', e', (cm e').1⟩
  have okB : (X.gen s H scope code fp).Ok := by
    refine ⟨I.ok.mod, ok.kind, I.ok.glob, rfl, Nat.le_refl _, fun y z c e1 e2 => I.ok.inj y z c (cm e1).1 (cm e2).1, fun y hy => ?_, fun y c z e => (by cases z), fun hc => I.ok.hd hc, Around.frames_deeper (show X.A.in1.in1.frames = some X.stack from I.ok.frames), .inr ⟨rfl, rfl⟩, fun b hb => ⟨?_, fun y c e z => ?_⟩, I.bs, Nat.le_trans I.ok.bsz I.sz, fun b o e hb => ?_, fun b hb z => ?_, I.stack, I.stkFree⟩
    · have hy : scope.names.lookup y = some .cell ∨ scope.names.lookup y = some .free := hy
      rcases hy with hy | hy
      · exact absurd rfl (ok.cell _ (PySem.mem_of_lookup hy))
      · obtain ⟨c, h1, _⟩ := look hy
        exact ⟨c, h1⟩
    · exact Nat.ne_of_lt (hfp b hb).2
    · exact (hfp b hb).1.2.2.2.2.1 y c (cm e).1 z
    · rcases (hfp b hb).1.2.2.2.1 with z | z
      · exact I.ok.noex b o e z
      · exact absurd (Nat.lt_of_lt_of_le (Heap.lt_size e) (Nat.le_trans I.ok.bsz z)) (Nat.lt_irrefl _)
    · rcases List.mem_cons.mp (I.stkSub b z) with z | z
      · exact (hfp b hb).1.2.1 z
      · exact (hfp b hb).1.2.2.1 z
  refine ⟨okB, rfl, hg, Un.kept kp, ⟨_, hn, fun i y av e1 e2 e3 => ?_⟩, fun y c e => ?_, I.hok.fresh (Nat.le_refl _), fun y c e => I.freeC y c (cm e).1, fun p hp => absurd (show p ∈ ([] : List (Addr × Obj)) ++ [] from hp) (by simp), I.hok.kept kp, by rw [wipe_length]; exact I.len⟩
  · obtain ⟨e2, hne⟩ := wipe_some e2
    have e3 : Vis scope y := e3
    have hfr : scope.names.lookup y = some .free := by
      rcases e3 with k | k | k
      · rcases ok.own _ (PySem.mem_of_lookup k) rfl with e' | e'
        · obtain ⟨p, hp, hpy⟩ := List.mem_map.mp e'
          have e3 := ok.ix p hp
          have : p.1 = y := hpy
          rw [this] at e3
          exact absurd (List.mem_map.mpr ⟨p, hp, nodup_ix hN e3 e1⟩) hne
        · exact absurd (List.mem_of_getElem? e1) e'
      · exact absurd rfl (ok.cell _ (PySem.mem_of_lookup k))
      · exact k
    obtain ⟨m, hn', hl⟩ := I.loc
    have hvis : Vis X.env.scope y := (ok.free _ (PySem.mem_of_lookup hfr) rfl).elim (fun k => .inr (.inl k)) (fun k => .inr (.inr k))
    obtain ⟨w, r, q⟩ := hl i y av e1 e2 hvis
    refine ⟨w, r, .inr ⟨.inr hfr, ?_⟩⟩
    obtain ⟨c, h1, h2⟩ := look hfr
    rcases q with ⟨k, _⟩ | ⟨_, c', e', z⟩
    · have k : X.env.scope.names.lookup y = some .local := k
      rcases ok.free _ (PySem.mem_of_lookup hfr) rfl with k' | k' <;> rw [show X.env.scope.names.lookup y = _ from k'] at k <;> cases k
    · rw [h2] at e'; cases e'
      exact ⟨c, h1, z.keeps kp⟩
  · obtain ⟨w, z⟩ := I.cell y c (cm e).1
    exact ⟨w, z.keeps kp⟩
end
end L2
/-! a generator expression's turns -/
namespace L2
open PySem PySem.Spec PyProof.Rows
/-- the generator's state, in its own context: behind turn i -/
def GAt (X : Cx) (s : Shared) (H : Hp) (scope : Scope) (code : Value) (fp : List Addr) (tn : Nat → Heap → Prop) (S : List Addr) (pa : Addr × Obj) (σ : St) (i : Nat) (H' : Hp) (s' : Shared) : Prop :=
  Inv (X.gen s H scope code fp) (pa :: pinsAt S s'.heap) σ H' s' ∧ (∀ b ∈ S, ∃ o, s'.heap.get? b = some o ∧ ∀ v, o.data ≠ .cell v) ∧ tn i s'.heap ∧ ∀ b ∈ fp, H' b = none
/-- the consumer's own object -/
def Own (X : Cx) (s : Shared) (H : Hp) (scope : Scope) (code : Value) (fp S : List Addr) (a : Addr) : Prop :=
  ∀ b ∈ S, s.heap.objs.size ≤ b ∧ b ≠ (gEnv X scope s.heap.objs.size code).locals ∧ (∀ x c, (gEnv X scope s.heap.objs.size code).cells.lookup x = some c → c ≠ b) ∧ a ≠ b ∧ b ∉ fp
/-- nothing was done between two turns -/
def Slp (S : List Addr) (s1 s2 : Shared) : Prop := (∀ b o, b ∉ S → s1.heap.get? b = some o → s2.heap.get? b = some o) ∧ (∀ b ∈ S, ∃ o, s2.heap.get? b = some o ∧ ∀ v, o.data ≠ .cell v) ∧ s2.os = s1.os ∧ AllBare s2.gens
/-- what is the consumer's own stays -/
def Kp (S : List Addr) (h₀ h1 : Heap) : Prop := ∀ b ∈ S, ∀ o, h₀.get? b = some o → h1.get? b = some o
/-- an item is handed out -/
def GYld (X : Cx) (s : Shared) (H : Hp) (scope : Scope) (code : Value) (fp : List Addr) (tn : Nat → Heap → Prop) (S : List Addr) (pa : Addr × Obj) (σ : St) (W : Heap → Nat → Nat → Hp → Prop) (Post : Heap → Nat → Nat → V → Hp → Prop) : Protocol := fun n s₀ v s1 kap =>
  ∃ i m y H', RelV y v ∧ GAt X s H scope code fp tn S pa σ (i + 1) H' s1 ∧ Kp S s₀.heap s1.heap ∧ Post s₀.heap i m y H' ∧ (∀ s2, Slp S s1 s2 → (∃ m', m' < m ∧ W s2.heap (i + 1) m' H') → kap (.send .none) s2)
/-- its end -/
def GEnd (X : Cx) (s : Shared) (H : Hp) (scope : Scope) (code : Value) (fp : List Addr) (S : List Addr) (pa : Addr × Obj) (σ : St) (Stop : Heap → Hp → Prop) : Nat → Shared → Shared → Prop := fun n s₀ s1 => ∃ H' ps, Inv (X.gen s H scope code fp) (pa :: ps) σ H' s1 ∧ (∀ b ∈ S, ∃ o, (b, o) ∈ ps) ∧ Kp S s₀.heap s1.heap ∧ Stop s₀.heap H'
def GEr (F : Nat → Shared → Shared → Prop) : GenEnd := fun n s₀ r s₁ => ((r = .ok (.ret .none) ∨ r = .ok .next) ∧ F n s₀ s₁) ∨ ∃ e, r = .error e ∧ (fun (_ : Value) (_ : Shared) => False) e s₁
/-- the turns -/
def GTurn (g : TG) (tt : TT) (te : TE) (vs : List Nat) (σ : St) (J : It) (W : Nat → Nat → Hp → Prop) (Post : Nat → Nat → V → Hp → Prop) (Stop : Hp → Prop) : Prop :=
  ∀ i m H, W i m H → (J.stop i H ∧ Stop H) ∨ (J.go i H ∧ ∀ x H', J.yld i H x H' → g x (wipe σ vs) H' fun σ2 H2 => wipe σ2 vs = wipe σ vs ∧ tt σ2 H2 fun b H3 =>
    if b = true then te σ2 H3 fun y H4 => Post i m y H4 else ∃ m', m' < m ∧ W (i + 1) m' H3)
section
variable {X : Cx}
theorem GAt.slp {s : Shared} {H : Hp} {scope : Scope} {code : Value} {fp S : List Addr} {tn : Nat → Heap → Prop} {a : Addr} {go : Obj} {σ : St} {i : Nat} {H' : Hp} {s1 s2 : Shared} {tg : Expr} {J : It} {it : Addr} (T : Turn X.prog X.w X.K tg J fp it tn) (hS : Own X s H scope code fp S a)
    (h : GAt X s H scope code fp tn S (a, go) σ i H' s1) (z : Slp S s1 s2) : GAt X s H scope code fp tn S (a, go) σ i H' s2 := by
  obtain ⟨I, hs, ht, hf⟩ := h
  have pS : ∀ b ∈ S, H' b = none ∧ b ∉ (X.gen s H scope code fp).fs := fun b hb => by
    obtain ⟨o, e, _⟩ := hs b hb
    have q := I.pin (b, o) (List.mem_append_right _ (List.mem_cons_of_mem _ (mem_pinsAt hb e)))
    exact ⟨q.2.1, q.2.2.2.1⟩
  have k : ∀ b u, H' b = some u → b ∉ S := fun b u e hb => by rw [(pS b hb).1] at e; cases e
  have un : Un (frs (X.gen s H scope code fp).stack) S H' H' s1.heap s2.heap :=
    ⟨fun b o e _ _ hx => z.1 b o hx e, fun b o e _ _ hx => ⟨o.slots, z.1 b o hx e⟩, fun b o _ n _ => n, fun b o e hx => ⟨o, z.1 b o hx e⟩, fun _ _ e => e, fun _ _ _ e => e, fun b ps e => ⟨#[], by rw [e]; simp⟩⟩
  have hok : HOk X.prog X.w H' s2.heap := fun b u e => (I.hok b u e).stay (fun c v hc q => z.1 c v (hc.elim (fun w => w ▸ k b u e) fun w => k c _ w) q) (fun _ q => q) fun _ _ q => q
  have I1 : Inv (X.gen s H scope code fp) [(a, go)] σ H' s1 := I.pins_of fun p hp => I.pin p (List.mem_append_right _ (by rw [List.mem_singleton.mp hp]; exact List.mem_cons_self))
  have I2 : Inv (X.gen s H scope code fp) [(a, go)] σ H' s2 := I1.call' (ch := S) z.2.2.1 un hok z.2.2.2 fun b hb => by
    obtain ⟨q1, q2, q3, q4, _⟩ := hS b hb
    exact ⟨.inr q1, q2, q3, fun p hp => by
      have hp : p ∈ [(a, go)] := hp
      rw [List.mem_singleton.mp hp]
      exact q4⟩
  refine ⟨I2.pins_of fun p hp => ?_, z.2.1, T.keep _ _ _ ht fun b hb o e => z.1 b o (fun w => (hS b w).2.2.2.2 hb) e, hf⟩
  rcases List.mem_cons.mp hp with w | w
  · rw [w]
    exact I2.pin (a, go) (List.mem_append_right _ List.mem_cons_self)
  · obtain ⟨q1, q2⟩ := of_pinsAt w
    obtain ⟨o, e, hd⟩ := z.2.1 p.1 q1
    rw [q2] at e
    cases e
    exact ⟨q2, (pS _ q1).1, (hS _ q1).2.1, (pS _ q1).2, hd⟩
theorem over_comp {A : Around} {elt : Expr} {gs : List Comprehension} {sc : Scope} {pos : Pos} {it acc : Value} {env : Env} {L : Addr} (hf : env.frame = some L) : A.over (.compLoop (.GeneratorExp elt gs sc pos) 0 it acc env) [] = A.deeper env := by
  first
    | rfl
    | (obtain ⟨hd, d, fr, gs, u⟩ := A; simp [Around.over, Around.deeper, marksOver, frameCount, unitsOf, envsOf, guardsOf, pushEnvs, pushGuards, Code.envs, Code.env?, Code.isFrame, Code.guards, Code.isGuard, Code.weight, Code.frames, Code.isCreation, Code.isCaller, Code.cUnits, hf])
theorem over_start {A : Around} {elt : Expr} {gs : List Comprehension} {sc : Scope} {pos : Pos} {it acc : Value} {env : Env} {L : Addr} (hf : env.frame = some L) : A.over (.compStart (.GeneratorExp elt gs sc pos) 0 it acc env) [] = A.deeper env := by
  first
    | rfl
    | (obtain ⟨hd, d, fr, gs, u⟩ := A; simp [Around.over, Around.deeper, marksOver, frameCount, unitsOf, envsOf, guardsOf, pushEnvs, pushGuards, Code.envs, Code.env?, Code.isFrame, Code.guards, Code.isGuard, Code.weight, Code.frames, Code.isCreation, Code.isCaller, Code.cUnits, hf])
theorem gen_loop {s : Shared} {H : Hp} {scope : Scope} {code : Value} {fp S : List Addr} {tn : Nat → Heap → Prop} {a : Addr} {go : Obj} {σ : St} {vs : List Nat} {tg elt iter : Expr} {ifs : List Expr} {pos : Pos} {J : It} {it : Addr} {g : TG} {tt : TT} {te : TE}
    {W : Heap → Nat → Nat → Hp → Prop} {Post : Heap → Nat → Nat → V → Hp → Prop} {Stop : Heap → Hp → Prop} (hc : X.calm = true) (T : Turn X.prog X.w X.K tg J fp it tn) (hco : scope.isCoroutine = false) (hpa : ∀ b ∈ fp, a ≠ b) (hS : Own X s H scope code fp S a)
    (hg : PG (X.gen s H scope code fp) tg g) (ht : PTs (X.gen s H scope code fp) ifs tt) (he : PE (X.gen s H scope code fp) elt te) (turn : ∀ h₀ : Heap, GTurn g tt te vs σ J (W h₀) (Post h₀) (Stop h₀)) :
    ∀ (m n i : Nat) (H5 : Hp) (s₀ s5 : Shared), m < n → W s₀.heap i m H5 → Kp S s₀.heap s5.heap → GAt X s H scope code fp tn S (a, go) (wipe σ vs) i H5 s5 →
      Seg (model X.prog X.w) X.A.in1.in1 (GEr (GEnd X s H scope code fp S (a, go) (wipe σ vs) Stop)) (GYld X s H scope code fp tn S (a, go) (wipe σ vs) W Post) n s₀
        (.compLoop (.GeneratorExp elt [⟨tg, iter, ifs, 0⟩] scope pos) 0 (.ref it) .none (gEnv X scope s.heap.objs.size code)) ((model X.prog X.w).den (.compLoop (.GeneratorExp elt [⟨tg, iter, ifs, 0⟩] scope pos) 0 (.ref it) .none (gEnv X scope s.heap.objs.size code))) [] s5 := by
  have ov : X.A.in1.in1.over (.compLoop (.GeneratorExp elt [⟨tg, iter, ifs, 0⟩] scope pos) 0 (.ref it) .none (gEnv X scope s.heap.objs.size code)) [] = (X.gen s H scope code fp).A := over_comp rfl
  have stat : ∀ {h : Heap} {σ' : St} {H' : Hp} {s' : Shared}, Inv (X.gen s H scope code fp) ((a, go) :: pinsAt S h) σ' H' s' → (∀ b ∈ fp, H' b = none) → ∀ b ∈ fp, FpOk (X.gen s H scope code fp) ((a, go) :: pinsAt S h) H' b := fun {h σ' H' s'} I' hn b hb =>
    ⟨hn b hb, (I'.ok.exf b hb).1, I'.ok.exfs b hb, .inl hb, fun x c e => (I'.ok.exf b hb).2 x c e, fun p hp => by
      have hp : p ∈ (a, go) :: pinsAt S h := hp
      rcases List.mem_cons.mp hp with z | z
      · rw [z]
        exact hpa b hb
      · exact fun w => (hS p.1 (of_pinsAt z).1).2.2.2.2 (w ▸ hb)⟩
  intro m
  induction m using Nat.strongRecOn with
  | _ m ih =>
    intro n i H5 s₀ s5 hmn w5 kp5 ⟨I5, hs5, st5, n5⟩
    show Seg _ X.A.in1.in1 _ _ _ s₀ _ ((compTurn (.GeneratorExp elt [⟨tg, iter, ifs, 0⟩] scope pos) 0 (.ref it) .none (gEnv X scope s.heap.objs.size code)).onRaise (leaving (gEnv X scope s.heap.objs.size code))) [] s5
    rw [compTurn_gen, Sem.onRaise_eq_wrap]
    refine seg_bind_wrap (wpAny_standAt ?_)
    rcases turn s₀.heap i m H5 w5 with ⟨stop, qq⟩ | ⟨go_, step⟩
    · refine seg_bind_wrap ?_
      rw [ov]
      refine thnF (T.done (X.gen s H scope code fp) rfl rfl rfl hc i ((a, go) :: pinsAt S s5.heap) s5 _ H5 (fun _ _ => False) I5 (stat I5 n5) st5 stop) fun r s6 ⟨hr, I6⟩ => ?_
      subst hr
      exact seg_end (.ok .next) (.inl ⟨.inr rfl, H5, _, I6, fun b hb => let ⟨o, e, _⟩ := hs5 b hb; ⟨o, mem_pinsAt hb e⟩, fun b hb o e => by
        obtain ⟨o5, e5, _⟩ := hs5 b hb
        rw [kp5 b hb o e] at e5
        cases e5
        exact (I6.pin (b, o) (List.mem_append_right _ (List.mem_cons_of_mem _ (mem_pinsAt hb (kp5 b hb o e))))).1, qq⟩)
    · refine seg_bind_wrap ?_
      rw [ov]
      refine thnF (T.item (X.gen s H scope code fp) rfl rfl rfl hc i ((a, go) :: pinsAt S s5.heap) s5 _ H5 (fun _ _ => False) I5 (stat I5 n5) st5 go_) fun r s6 ⟨u, hr, h6⟩ => ?_
      subst hr
      refine seg_bind_wrap ?_
      rw [ov]
      refine thnF h6 fun _ s7 ⟨x, H7, I7, r7, y7, st7, n7⟩ => ?_
      have I7' := I7.pinned (stat I7 n7) (T.obj _ _ st7)
      refine seg_bind_wrap ?_
      rw [ov]
      refine thnF (hg.run _ s7 _ H7 x u _ I7' r7 (step x H7 y7)) fun _ s8 ⟨σ8, H8, I8, hw8, q8⟩ => ?_
      refine seg_bind_wrap ?_
      rw [ov]
      refine thnF (ht.run _ s8 σ8 H8 _ I8 q8) fun b s9 ⟨H9, I9, q9⟩ => ?_
      have fin : ∀ {s' : Shared} {H' : Hp}, Inv (X.gen s H scope code fp) (((a, go) :: pinsAt S s5.heap) ++ pinsAt fp s7.heap) σ8 H' s' → GAt X s H scope code fp tn S (a, go) (wipe σ vs) (i + 1) H' s' := fun {s' H'} I' => by
        have pin' : ∀ b ∈ fp, ∀ o, s7.heap.get? b = some o → s'.heap.get? b = some o ∧ H' b = none := fun b hb o e =>
          let z := I'.pin (b, o) (List.mem_append_right _ (List.mem_append_right _ (mem_pinsAt hb e)))
          ⟨z.1, z.2.1⟩
        have hl : (wipe σ vs).length = σ8.length := by rw [← hw8, wipe_length]
        have pS : ∀ b ∈ S, ∃ o, s'.heap.get? b = some o ∧ (b, o) ∈ (a, go) :: pinsAt S s5.heap ∧ ∀ v, o.data ≠ .cell v := fun b hb => by
          obtain ⟨o, e, hd⟩ := hs5 b hb
          have hm : (b, o) ∈ (a, go) :: pinsAt S s5.heap := List.mem_cons_of_mem _ (mem_pinsAt hb e)
          exact ⟨o, (I'.pin (b, o) (List.mem_append_right _ (List.mem_append_left _ hm))).1, hm, hd⟩
        have I9 := I'.unpinned (pins := (a, go) :: pinsAt S s5.heap)
        refine ⟨(I9.pins_of (pins' := (a, go) :: pinsAt S s'.heap) fun p hp => ?_).weak hl (fun j v e => ?_), fun b hb => let ⟨o, e, _, hd⟩ := pS b hb; ⟨o, e, hd⟩, T.keep _ _ _ st7 fun b hb o e => (pin' b hb o e).1, fun b hb => ?_⟩
        · rcases List.mem_cons.mp hp with w | w
          · rw [w]
            exact I9.pin (a, go) (List.mem_append_right _ List.mem_cons_self)
          · obtain ⟨q1, q2⟩ := of_pinsAt w
            obtain ⟨o, e, hm, _⟩ := pS p.1 q1
            rw [q2] at e
            have e' : p.2 = o := Option.some.inj e
            have hp' : p = (p.1, o) := by rw [← e']
            rw [hp']
            exact I9.pin (p.1, o) (List.mem_append_right _ hm)
        · rw [← hw8] at e
          exact (wipe_some e).1
        · obtain ⟨o, e, _⟩ := T.obj _ _ st7 b hb
          exact (pin' b hb o e).2
      have fkp : ∀ {s' : Shared} {H' : Hp}, Inv (X.gen s H scope code fp) (((a, go) :: pinsAt S s5.heap) ++ pinsAt fp s7.heap) σ8 H' s' → Kp S s₀.heap s'.heap := fun {s' H'} I' b hb o e =>
        (I'.pin (b, o) (List.mem_append_right _ (List.mem_append_left _ (List.mem_cons_of_mem _ (mem_pinsAt hb (kp5 b hb o e)))))).1
      cases b with
      | false =>
        simp only [Bool.false_eq_true, if_false] at q9 ⊢
        obtain ⟨m', hm', w'⟩ := q9
        exact seg_again rfl (ih m' hm' n (i + 1) H9 s₀ s9 (by omega) w' (fkp I9) (fin I9))
      | true =>
        simp only [if_true] at q9 ⊢
        have hy : ∀ v, yieldOut (gEnv X scope s.heap.objs.size code) v = yieldValue v := fun v => by
          have : (gEnv X scope s.heap.objs.size code).scope.isCoroutine = false := hco
          simp only [yieldOut, this, Bool.false_eq_true, if_false]
        simp only [hy]
        rw [Sem.bind_eq_wrap', Sem.bind_eq_wrap', Sem.wrap_wrap, Sem.wrap_wrap]
        refine seg_wrap ?_
        rw [ov]
        refine thnF (he.run _ s9 σ8 H9 _ I9 q9) fun z s10 ⟨yv, H10, I10, r10, nx⟩ => ?_
        obtain ⟨n', rfl⟩ : ∃ n', n = n' + 1 := ⟨n - 1, by omega⟩
        refine seg_at (seg_yield rfl rfl rfl ⟨i, m, yv, H10, r10, fin I10, fkp I10, nx, fun s2 z2 ⟨m', hm', w'⟩ => ?_⟩)
        exact seg_again rfl (ih m' hm' n' (i + 1) H10 s2 s2 (by omega) w' (fun _ _ _ e => e) ((fin I10).slp T hS z2))
end
end L2
/-! a generator expression is made; its items are asked for -/
namespace L2
open PySem PySem.Spec PyProof.Rows GxR
section
variable {X : Cx} {pins : List (Addr × Obj)} {σ : St} {H : Hp} {s : Shared}
theorem gen_first {s : Shared} {H : Hp} {scope : Scope} {code : Value} {fp S : List Addr} {tn : Nat → Heap → Prop} {a : Addr} {go : Obj} {σ : St} {vs : List Nat} {tg elt iter : Expr} {ifs : List Expr} {pos : Pos} {J : It} {it : Addr} {g : TG} {tt : TT} {te : TE}
    {W : Heap → Nat → Nat → Hp → Prop} {Post : Heap → Nat → Nat → V → Hp → Prop} {Stop : Heap → Hp → Prop} (hc : X.calm = true) (T : Turn X.prog X.w X.K tg J fp it tn) (hco : scope.isCoroutine = false) (hpa : ∀ b ∈ fp, a ≠ b) (hS : Own X s H scope code fp S a)
    (hg : PG (X.gen s H scope code fp) tg g) (ht : PTs (X.gen s H scope code fp) ifs tt) (he : PE (X.gen s H scope code fp) elt te) (turn : ∀ h₀ : Heap, GTurn g tt te vs σ J (W h₀) (Post h₀) (Stop h₀))
    (m n : Nat) (H5 : Hp) (s₀ s5 : Shared) (hm : m < n) (w5 : W s₀.heap 0 m H5) (kp5 : Kp S s₀.heap s5.heap) (G : GAt X s H scope code fp tn S (a, go) (wipe σ vs) 0 H5 s5) :
      Seg (model X.prog X.w) X.A.in1.in1 (GEr (GEnd X s H scope code fp S (a, go) (wipe σ vs) Stop)) (GYld X s H scope code fp tn S (a, go) (wipe σ vs) W Post) n s₀
        (.compStart (.GeneratorExp elt [⟨tg, iter, ifs, 0⟩] scope pos) 0 (.ref it) .none (gEnv X scope s.heap.objs.size code)) ((model X.prog X.w).den (.compStart (.GeneratorExp elt [⟨tg, iter, ifs, 0⟩] scope pos) 0 (.ref it) .none (gEnv X scope s.heap.objs.size code))) [] s5 := by
  have loop := gen_loop (iter := iter) (pos := pos) hc T hco hpa hS hg ht he turn m n 0 H5 s₀ s5 hm w5 kp5 G
  show Seg _ X.A.in1.in1 _ _ _ s₀ _ ((compStart (.GeneratorExp elt [⟨tg, iter, ifs, 0⟩] scope pos) 0 (.ref it) .none (gEnv X scope s.heap.objs.size code)).onRaise (leaving (gEnv X scope s.heap.objs.size code))) [] s5
  unfold compStart
  rw [Sem.onRaise_eq_wrap]
  show Seg _ X.A.in1.in1 _ _ _ s₀ _ ((ask >>= _).wrap _ _ _ _) [] s5
  refine seg_bind_wrap (wpAny_askSetting ?_)
  split
  · exact seg_again rfl loop
  · first
      | exact seg_bind_wrap (wpAny_rule (seg_bind_wrap (wpAny_standAt (seg_bind_wrap (T.self _ 0 s5 _ _ G.2.2.1 (seg_again rfl loop))))))
      | (refine seg_bind_wrap (wpAny_rule ?_); show Seg _ X.A.in1.in1 _ _ _ s₀ _ ((standAt iter.pos >>= _).wrap _ _ _ _) [] s5; exact seg_bind_wrap (wpAny_standAt (seg_bind_wrap (T.self _ 0 s5 _ _ G.2.2.1 (seg_again rfl loop)))))
/-- back in the def's context -/
theorem gen_back {s2 s3 : Shared} {H2 H4 : Hp} {scope : Scope} {code : Value} {fp : List Addr} {pl : List (Addr × Obj)} {σ' : St} (I3 : Inv X pins σ H2 s3) (hfp : ∀ b ∈ fp, FpOk X pins H2 b) (J : Inv (X.gen s3 H2 scope code fp) pl σ' H4 s2) : Inv X pins σ H4 s2 :=
  I3.call' (ch := fp) J.os J.base J.hok J.bare fun b hb => ⟨(hfp b hb).2.2.2.1, (hfp b hb).2.1, (hfp b hb).2.2.2.2.1, (hfp b hb).2.2.2.2.2⟩
/-- what was made -/
structure Made (X : Cx) (pins : List (Addr × Obj)) (σ : St) (scope : Scope) (vs : List Nat) (tg : Expr) (cs : Code) (H2 : Hp) (J : It) (it : Addr) (fp : List Addr) (tn : Nat → Heap → Prop) (s3 : Shared) (code : Value) (a : Addr) (g : Nat) (go : Obj) (s5 : Shared) : Prop where
  T : Turn X.prog X.w X.K tg J fp it tn
  I : Inv X pins σ H2 s3
  hf : ∀ b ∈ fp, FpOk X pins H2 b ∧ b < s3.heap.objs.size
  hgo : ∀ h : Heap, h.get? a = some go → h.IsGen a g
  lt : s3.heap.objs.size < a
  lt2 : a < s5.heap.objs.size
  gat : GAt X s3 H2 scope code fp tn [] (a, go) (wipe σ vs) 0 H2 s5
  gs : s5.gens[g]? = some (.fresh cs)
/-- where a generator's code is looked up: the code object at c, its table at P -/
structure CodeSrc (X : Cx) (c P : Addr) : Prop where
  code : ∀ pins σ H s, Inv X pins σ H s → PySem.W.CodeHd s.heap c P
  bm : ∃ bm o, X.mg "__builtins__" = some (.ref bm) ∧ bm ≠ builtinsNs ∧ bm ≠ mainGlobals ∧ X.base.get? bm = some o ∧ o.cls = .type "module" ∧ o.dict = some builtinsNs ∧ o.data = .plain
theorem CodeSrc.of {c P : Addr} (TB : TabB X.base X.mg c P) : CodeSrc X c P := ⟨fun pins σ H s I => TB.code.keeps fun b u e => I.bk b u e, by
  obtain ⟨bm, ob, e1, e2, e3, _, e5, e6, e7, e8⟩ := TB.bm
  exact ⟨bm, ob, e1, e2, e3, e5, e6, e7, e8⟩⟩
/-- a code object that is known when the context begins -/
theorem CodeSrc.gen {c P c' P' : Addr} {oc : Obj} {scope : Scope} {fp : List Addr} (h : CodeSrc X c P) (e : H c' = some (.frz oc Fo.uT)) (k : Fo.CodeOb oc c' P') : CodeSrc (X.gen s H scope (.ref c') fp) c' P' := ⟨fun pins σ H' s' I => by
  have e1 : H' c' = some (.frz oc Fo.uT) := I.base.frzs c' oc Fo.uT e
  exact Fo.codeHd_of (show s'.heap.get? c' = some oc from (I.hok c' _ e1).1) k, h.bm⟩
/-- a table has grown by a new code object, whose own table is empty -/
theorem inv_tab3 {P c P' : Addr} {ps more : Array Value} {h' : Heap} {t' : Nat} {oc : Obj} (I : Inv X pins σ H s) (hP : H P = some (.tbl ps)) (hk : ∀ z u, z ≠ P → s.heap.get? z = some u → h'.get? z = some u)
    (hm : h'.get? P = some { cls := .none, data := .fields (ps ++ more) }) (hc : s.heap.objs.size ≤ c) (hc2 : s.heap.objs.size ≤ P') (ne : c ≠ P') (ho : h'.get? c = some oc) (hp : h'.get? P' = some { cls := .none, data := .fields #[] }) :
    Inv X pins σ (upd (upd (upd H P (.tbl (ps ++ more))) c (.frz oc Fo.uT)) P' (.tbl #[])) { s with heap := h', toks := t' } := by
  generalize hG : upd (upd (upd H P (.tbl (ps ++ more))) c (.frz oc Fo.uT)) P' (.tbl #[]) = G
  have low : ∀ z, z < s.heap.objs.size → z ≠ c ∧ z ≠ P' := fun z hz => ⟨fun q => absurd (q ▸ hz) (Nat.not_lt.mpr hc), fun q => absurd (q ▸ hz) (Nat.not_lt.mpr hc2)⟩
  have lowP : P < s.heap.objs.size := Heap.lt_size (show s.heap.get? P = some _ from I.hok P _ hP)
  have gP : G P = some (.tbl (ps ++ more)) := by rw [← hG, upd_ne (low P lowP).2, upd_ne (low P lowP).1, upd_same]
  have gc : G c = some (.frz oc Fo.uT) := by rw [← hG, upd_ne ne, upd_same]
  have gQ : G P' = some (.tbl #[]) := by rw [← hG, upd_same]
  have same : ∀ z, z ≠ P → z < s.heap.objs.size → G z = H z := fun z h1 h2 => by rw [← hG, upd_ne (low z h2).2, upd_ne (low z h2).1, upd_ne h1]
  have known : ∀ z u, H z = some u → z < s.heap.objs.size := fun z u e => I.hok.lt e
  have free : ∀ z, H z = none → z ≠ P := fun z e q => by rw [q, hP] at e; cases e
  have other : ∀ z u, H z = some u → z = P → u = .tbl ps := fun z u e q => by rw [q, hP] at e; exact (Option.some.inj e).symm
  refine I.step (g' := s.gens) (d' := s.drawn) (ch := []) (by simp) (fun z u _ _ _ e n => hk z u (free z n) e) (fun z u _ _ _ e n => ⟨u.slots, hk z u (free z n) e⟩) (fun z u _ e n => (same z (free z n) (Heap.lt_size e)).trans n) (fun z u _ e => ?_)
    (fun z xs e => (same z (fun q => (by have := other z _ e q; cases this)) (known z _ e)).trans e) (fun z u v e => (same z (fun q => (by have := other z _ e q; cases this)) (known z _ e)).trans e) (fun z qs e => ?_) (fun m hn => ?_) (fun z u e => ?_) I.bare
  · by_cases hz : z = P
    · exact ⟨_, by rw [hz]; exact hm⟩
    · exact ⟨u, hk z u hz e⟩
  · by_cases hz : z = P
    · have := other z _ e hz
      cases this
      exact ⟨more, by rw [hz]; exact gP⟩
    · exact ⟨#[], by rw [same z hz (known z _ e), e]; simp⟩
  · obtain ⟨o1, es, ep, q1, q2⟩ := hn
    exact ⟨o1, es, ep, hk _ o1 (free _ I.free) q1, q2⟩
  · by_cases h1 : z = c
    · subst h1
      rw [gc] at e
      cases e
      exact ⟨ho, trivial, ⟨oc, ho⟩, fun _ _ _ _ => trivial⟩
    · by_cases h2 : z = P'
      · subst h2
        rw [gQ] at e
        cases e
        exact hp
      · by_cases h3 : z = P
        · subst h3
          rw [gP] at e
          cases e
          exact hm
        · have e' : H z = some u := by rw [← hG, upd_ne h2, upd_ne h1, upd_ne h3] at e; exact e
          refine (I.hok z u e').stay (fun d v hd q => hk d v (fun w => ?_) q) (fun d q => (same d (fun w => (by have := other d _ q w; cases this)) (known d _ q)).trans q) fun d xs q => (same d (fun w => (by have := other d _ q w; cases this)) (known d _ q)).trans q
          rcases hd with q2 | q2
          · exact h3 (q2.symm.trans w)
          · have := other d _ q2 w
            cases this
/-- what is asked of the tables before a generator's code is looked up, and what is known then -/
structure Looks (P : Addr) (Pre : Hp → Prop) (A : Value → Addr → Hp → Hp → Prop) : Prop where
  pre : ∀ H, Pre H → TabG H P
  hit : ∀ H ps pos cv, Pre H → H P = some (.tbl ps) → codeAmong pos ps.toList = some cv → ∃ P', A cv P' H H
  new : ∀ H ps (pos : Pos) c' P' oc, Pre H → H P = some (.tbl ps) → TriplesOk ps.toList → TriplesOk (ps ++ #[rawInt pos.line, rawInt pos.col, .ref c']).toList → H c' = none → H P' = none → c' ≠ P' → Fo.CodeOb oc c' P' →
    A (.ref c') P' H (upd (upd (upd H P (.tbl (ps ++ #[rawInt pos.line, rawInt pos.col, .ref c']))) c' (.frz oc Fo.uT)) P' (.tbl #[]))
theorem gen_eval {c P : Addr} {scope : Scope} {own : List (Str × Nat)} {tg elt iter : Expr} {ifs : List Expr} {pos : Pos} {wi : TI} {Pre : Hp → Prop} {A : Value → Addr → Hp → Hp → Prop} {R : Value → Addr → It → Hp → Prop} {Q' : Value → Shared → Prop} (hN : X.N.Nodup) (hroom : X.A.depth < recursionLimit) (TB : CodeSrc X c P) (hcode : X.env.code = .ref c) (ok : GenOk X.N X.env.scope scope own) (hi : PI X tg iter wi)
    (hs : ∀ v, genFold iter X.env v = pure v) (LK : Looks P Pre A) (I : Inv X pins σ H s) (h : wi σ H fun J H1 => Pre H1 ∧ ∀ code P' H2, A code P' H1 H2 → R code P' J H2)
    (hQ : ∀ H1 H2 J it fp tn s3 code P' a g go s5, A code P' H1 H2 → R code P' J H2 → Made X pins σ scope (own.map (·.2)) tg (.compStart (.GeneratorExp elt [⟨tg, iter, ifs, 0⟩] scope pos) 0 (.ref it) .none (gEnv X scope s3.heap.objs.size code)) H2 J it fp tn s3 code a g go s5 → Q' (.ref a) s5) :
    wpAny (model X.prog X.w) X.A (eval (.GeneratorExp elt [⟨tg, iter, ifs, 0⟩] scope pos) X.env) Q' X.xe s := by
  have hfree : ∀ y ∈ scope.names, y.2 = .free → ∃ c, X.env.cells.lookup y.1 = some c := fun y hy e => by
    rcases ok.free y hy e with k | k
    · exact I.ok.has _ (.inl k)
    · exact I.ok.has _ (.inr k)
  refine wpAny_GeneratorExp_make ok.co (closure_ok hfree) ok.cell ok.dot ok.kind hroom (thn (hi.run pins s σ H _ I h) fun xv s1 hx => thn hx fun itv s2 h2 => ?_) hs
  obtain ⟨it, fp, tn, J, H1, e, I2, T, st2, f2, hpre, q1⟩ := h2
  obtain ⟨ps, hP, ht⟩ := LK.pre H1 hpre
  subst e
  have hPs : s2.heap.get? P = some { cls := .none, data := .fields ps } := I2.hok P _ hP
  have hPlt : P < s2.heap.objs.size := Heap.lt_size hPs
  have cd : PySem.W.CodeHd s2.heap c P := TB.code _ _ _ _ I2
  have cont : ∀ (code : Value) (P' : Addr) (h3 : Heap) (tk : Nat) (H2 : Hp), A code P' H1 H2 → Heap.ExtBut P s2.heap h3 → Inv X pins σ H2 { s2 with heap := h3, toks := tk } → (∀ b, H1 b = none → b < s2.heap.objs.size → H2 b = none) →
      wpAny (model X.prog X.w) X.A (builtinsFor X.env.globals X.env.builtins) (fun bi s₄ =>
        ∀ h', h'.Ns s₄.heap.objs.size (fun y => if y = (".0" : Str) then some (.ref it) else none) → Heap.SameBut s₄.heap.objs.size (s₄.heap.push { cls := .type "frame", data := .dict #[] }) h' →
          Q' (.ref h'.objs.size) { s₄ with
            gens := s₄.gens.push (.fresh (.compStart (.GeneratorExp elt [⟨tg, iter, ifs, 0⟩] scope pos) 0 (.ref it) .none (genEnv scope (cloFrom X.env.cells scope.names []) s₄.heap.objs.size code bi X.env))),
            toks := s₄.toks + 1 + 1 + 1,
            heap := h'.push { cls := .type "generator", data := .fields #[.int s₄.gens.size 0, .str "<genexpr>" (s₄.toks + 1), .str (X.env.qual ++ "<genexpr>") (s₄.toks + 1 + 1)] } }) X.xe { s2 with heap := h3, toks := tk } := by
    intro code P' h3 tk H2 hA hx I3 hnone
    obtain ⟨bm, ob, e1, e2, e3, e5, e6, e7, e8⟩ := TB.bm
    have keep3 : ∀ b u, b ≠ P → s2.heap.get? b = some u → h3.get? b = some u := fun b u hb e => hx b u hb e
    have nfp : ∀ b ∈ fp, b ≠ P := fun b hb z => by
      have h1 := (f2 b hb).1
      rw [z, hP] at h1
      cases h1
    refine wpAny_builtinsFor (m := X.mg) (by rw [I2.ok.glob]; exact I3.mod.glob.keeps I3.bk) e1 e2 (I3.bk _ _ e5) e6 e7 e8 ?_
    intro h' hn' hs'
    generalize hs3 : ({ s2 with heap := h3, toks := tk } : Shared) = s3 at I3 hn' hs' ⊢
    have h3e : s3.heap = h3 := by rw [← hs3]
    have hsz : h'.objs.size = s3.heap.objs.size + 1 := by rw [hs'.1, Heap.size_push]
    have keep' : ∀ b o, s3.heap.get? b = some o → h'.get? b = some o := fun b o e => hs'.extBut b o (Nat.ne_of_lt (Heap.lt_size e)) (Heap.get?_push_of_some _ e)
    have st3 : tn 0 s3.heap := T.keep _ _ _ st2 fun b hb o e => by rw [h3e]; exact keep3 b o (nfp b hb) e
    have f3 : ∀ b ∈ fp, FpOk X pins H2 b ∧ b < s3.heap.objs.size := fun b hb => by
      obtain ⟨o, e, _⟩ := T.obj _ _ st3 b hb
      obtain ⟨o2, e2, _⟩ := T.obj _ _ st2 b hb
      exact ⟨⟨hnone b (f2 b hb).1 (Heap.lt_size e2), (f2 b hb).2⟩, Heap.lt_size e⟩
    generalize hgo : ({ cls := .type "generator", data := .fields #[.int s3.gens.size 0, .str "<genexpr>" (s3.toks + 1), .str (X.env.qual ++ "<genexpr>") (s3.toks + 1 + 1)] } : Obj) = go
    have hgd : ∀ v, go.data ≠ .cell v := fun v q => by rw [← hgo] at q; cases q
    have hpush : (h'.push go).get? h'.objs.size = some go := by rw [← hgo]; exact Heap.get?_push_size _ rfl
    have kp5 : ∀ b o, s3.heap.get? b = some o → (h'.push go).get? b = some o := fun b o e => Heap.get?_push_of_some _ (keep' b o e)
    have I5 := gen_start (code := code) (t' := s3.toks + 1 + 1 + 1) (g' := s3.gens.push (.fresh (.compStart (.GeneratorExp elt [⟨tg, iter, ifs, 0⟩] scope pos) 0 (.ref it) .none (gEnv X scope s3.heap.objs.size code)))) I3 ok hN f3 (hn'.push go) kp5 (AllBare.push I3.bare rfl)
    refine hQ H1 H2 J it fp tn s3 code P' h'.objs.size s3.gens.size go _ hA (q1 _ _ _ hA) ⟨T, I3, f3, fun h e => ⟨go, _, _, e, by rw [← hgo], by rw [← hgo], by rw [← hgo]⟩, by omega, by show h'.objs.size < (h'.push go).objs.size; rw [Heap.size_push]; exact Nat.lt_succ_self _, ⟨I5.pins_of fun p hp => ?_, fun b hb => by simp at hb, T.keep _ _ _ st3 fun b _ o e => kp5 b o e, fun b hb => (f3 b hb).1.1⟩, Array.getElem?_push_size ..⟩
    have hp : p ∈ [(h'.objs.size, go)] := hp
    rw [List.mem_singleton.mp hp]
    refine ⟨hpush, I3.hok.fresh (by rw [hsz]; exact Nat.le_succ _), ?_, fun z => ?_, hgd⟩
    · show h'.objs.size ≠ s3.heap.objs.size
      rw [hsz]
      exact Nat.succ_ne_self _
    · rcases List.mem_cons.mp (I3.stkSub _ z) with w | w
      · have := I3.lt
        have w' : (h'.objs.size : Nat) = X.env.locals := w
        have l' : X.env.locals < s3.heap.objs.size := this
        rw [← w', hsz] at l'
        exact absurd l' (Nat.not_lt.mpr (Nat.le_succ _))
      · exact I3.nofs (by rw [hsz]; exact Nat.le_succ _) w
  refine ⟨I2.nolimit, ?_⟩
  cases hf : codeAmong pos ps.toList with
  | none =>
    refine wpAny_genexprCodeX hcode (cd.code hPs ht) (cd.tab hPs) hf fun c' h' tk hx hge hlt hco' _ htab' hown => ?_
    obtain ⟨o1, vs, f1, tf, fl, tg, inF, tx, tt, op, _, _, _, _, _, _, _, _, _, htr, _⟩ := hco'
    obtain ⟨P', hge2, hc2, ht2⟩ := hown
    obtain ⟨oc, hoc, hob⟩ := Fo.codeOb_of (PySem.W.CodeHd.of hc2 ht2)
    have ne : c' ≠ P' := hob.choose_spec.choose_spec.choose_spec.choose_spec.choose_spec.choose_spec.choose_spec.choose_spec.2.2.2.2.2.2.2.2
    refine cont _ P' h' tk _ (LK.new H1 ps pos c' P' oc hpre hP ht htr (I2.hok.fresh hge) (I2.hok.fresh hge2) ne hob) hx (inv_tab3 I2 hP (fun z u hz e => hx z u hz e) htab'.2 hge hge2 ne hoc ht2.2) fun b e hb => ?_
    rw [upd_ne (Nat.ne_of_lt (Nat.lt_of_lt_of_le hb hge2)), upd_ne (Nat.ne_of_lt (Nat.lt_of_lt_of_le hb hge)), upd_ne fun z => by rw [z, hP] at e; cases e]
    exact e
  | some cv =>
    obtain ⟨P', hA⟩ := LK.hit H1 ps pos cv hpre hP hf
    refine wpAny_genexprCode_hit hcode (cd.code hPs ht) hf ?_
    exact cont cv P' s2.heap s2.toks H1 hA (Heap.ExtBut.refl _ _) I2 fun b e _ => e
/-! ### asking -/
/-- asleep between two items -/
def GSus (X : Cx) (s : Shared) (H : Hp) (scope : Scope) (code : Value) (fp : List Addr) (tn : Nat → Heap → Prop) (S : List Addr) (pa : Addr × Obj) (σ : St) (W : Heap → Nat → Nat → Hp → Prop) (Post : Heap → Nat → Nat → V → Hp → Prop) (Stop : Heap → Hp → Prop) (g n m i : Nat) (H' : Hp) (s1 : Shared) : Prop :=
  GAt X s H scope code fp tn S pa σ i H' s1 ∧ ∃ gs, s1.gens[g]? = some gs ∧ ∀ s2, Slp S s1 s2 → (∃ m', m' < m ∧ W s2.heap i m' H') → gs.Goes (model X.prog X.w) X.A.in1.in1 (GEr (GEnd X s H scope code fp S pa σ Stop)) (GYld X s H scope code fp tn S pa σ W Post) n (.send .none) s2
theorem GAt.obj {s : Shared} {H : Hp} {scope : Scope} {code : Value} {fp S : List Addr} {tn : Nat → Heap → Prop} {pa : Addr × Obj} {i : Nat} {H' : Hp} {s1 : Shared} (G : GAt X s H scope code fp tn S pa σ i H' s1) : s1.heap.get? pa.1 = some pa.2 := (G.1.pin pa (List.mem_append_right _ List.mem_cons_self)).1
theorem slp_gens {S : List Addr} {s1 : Shared} {g : Nat} {x : GenState} (hb : AllBare s1.gens) (hs : ∀ b ∈ S, ∃ o, s1.heap.get? b = some o ∧ ∀ v, o.data ≠ .cell v) (hx : x.bare = true) : Slp S s1 (s1.setGen g x) := ⟨fun b o _ e => e, hs, rfl, allBare_setGen hb hx⟩
theorem Slp.trans {S : List Addr} {s1 s2 s3 : Shared} (x : Slp S s1 s2) (y : Slp S s2 s3) : Slp S s1 s3 := ⟨fun b o hb e => y.1 b o hb (x.1 b o hb e), y.2.1, y.2.2.1.trans x.2.2.1, y.2.2.2⟩
theorem gen_next {s : Shared} {H : Hp} {scope : Scope} {code : Value} {fp S : List Addr} {tn : Nat → Heap → Prop} {a : Addr} {go : Obj} {W : Heap → Nat → Nat → Hp → Prop} {Post : Heap → Nat → Nat → V → Hp → Prop} {Stop : Heap → Hp → Prop} {g n m i : Nat} {H' : Hp} {s1 : Shared} {tg : Expr} {J : It} {it : Addr} {Q : Option Value → Shared → Prop} {E : Value → Shared → Prop}
    (hh : X.A.handled = none) (hroom : X.A.depth < recursionLimit) (T : Turn X.prog X.w X.K tg J fp it tn) (hS : Own X s H scope code fp S a) (hgo : ∀ h : Heap, h.get? a = some go → h.IsGen a g)
    (G : GSus X s H scope code fp tn S (a, go) σ W Post Stop g n m i H' s1) (hw0 : ∃ m', m' < m ∧ W s1.heap i m' H')
    (hY : ∀ i m y H4 v s2, RelV y v → Post s1.heap i m y H4 → GAt X s H scope code fp tn S (a, go) σ (i + 1) H4 s2 → Kp S s1.heap s2.heap → (∀ s3, Slp S s2 s3 → s3.gens = s2.gens → (∃ m', m' < m ∧ W s3.heap (i + 1) m' H4) → ∃ n', n = n' + 1 ∧ GSus X s H scope code fp tn S (a, go) σ W Post Stop g n' m (i + 1) H4 s3) → Q (some v) s2)
    (hP : ∀ H4 ps s2, Inv (X.gen s H scope code fp) ((a, go) :: ps) σ H4 s2 → Kp S s1.heap s2.heap → (∀ b ∈ S, ∃ o, (b, o) ∈ ps) → Stop s1.heap H4 → Q none s2) :
    wpAny (model X.prog X.w) X.A.in1 (pyNext (.ref a)) Q E s1 := by
  obtain ⟨G1, gs, hgs, hgoes⟩ := G
  have hgl : g < s1.gens.size := (Array.getElem?_eq_some_iff.mp hgs).1
  refine GenW.wpAny_gsz (n := g + 1) hgl (next_genG (A := X.A.in1) (F := GEnd X s H scope code fp S (a, go) σ Stop) (Er := fun _ _ => False) (Y := GYld X s H scope code fp tn S (a, go) σ W Post) (n := n) hh G1.1.nolimit hroom (hgo _ G1.obj) hgs (hgoes _ (slp_gens G1.1.bare G1.2.1 rfl) hw0) (fun v s2 gs' hb hv => ?_) (fun s2 hp h' hk => ?_) fun e s2 he => he.elim)
  · intro hsz
    obtain ⟨j, m, y, H4, r, G2, kp, hp, hk⟩ := hv
    have hz : Slp S s2 (s2.setGen g gs') := slp_gens G2.1.bare G2.2.1 hb
    have hsz1 : g < s2.gens.size := by
      have q : (s2.setGen g gs').gens.size = s2.gens.size := GenW.setGen_size _ _ _
      have hsz' : g + 1 ≤ (s2.setGen g gs').gens.size := hsz
      omega
    refine hY j m y H4 v _ r hp (G2.slp T hS hz) kp fun s3 z3 eg hw => ?_
    cases n with
    | zero => exact (hk s3 (hz.trans z3) hw).elim
    | succ n' => exact ⟨n', rfl, (G2.slp T hS hz).slp T hS z3, gs', by rw [eg]; exact setGen_at hsz1, fun s4 z4 hw4 => hk s4 ((hz.trans z3).trans z4) hw4⟩
  · intro hsz
    obtain ⟨H4, ps, J4, hs, kp, q⟩ := hp
    refine hP H4 ps _ ?_ (fun b hb o e => hk b o (kp b hb o e)) hs q
    exact J4.call' (ch := []) rfl (Un.kept hk) (J4.hok.kept hk) (allBare_setGen J4.bare rfl) fun b q => by simp at q
end
end L2
/-! any, all over a generator expression -/
namespace L2
open PySem PySem.Spec PyProof.Rows GxR
/-- stops at the first item whose truth is k -/
def PostB (k : Bool) (W : Nat → Nat → Hp → Prop) (Q : VK) : Nat → Nat → V → Hp → Prop := fun i m y H => ∃ b, y = .bl b ∧ if b = k then Q (.bl k) H else ∃ m', m' < m ∧ W (i + 1) m' H
def tGxB (Pre : Hp → Prop) (A : Value → Addr → Hp → Hp → Prop) (k : Bool) (wi : TI) (g : TG) (tt : Addr → TT) (te : Addr → TE) (vs : List Nat) : TE := fun σ H Q => wi σ H fun J H1 => Pre H1 ∧ ∀ code P' H2, A code P' H1 H2 → ∃ W, (∃ m, W 0 m H2) ∧ GTurn g (tt P') (te P') vs σ J W (PostB k W Q) fun H3 => Q (.bl !k) H3
section
variable {X : Cx} {pins : List (Addr × Obj)} {σ : St}
theorem own_nil {s : Shared} {H : Hp} {scope : Scope} {code : Value} {fp : List Addr} {a : Addr} : Own X s H scope code fp [] a := fun b hb => by simp at hb
theorem any_loop {s : Shared} {H : Hp} {scope : Scope} {code : Value} {fp : List Addr} {tn : Nat → Heap → Prop} {a : Addr} {go : Obj} {W : Nat → Nat → Hp → Prop} {g : Nat} {tg : Expr} {J : It} {it : Addr} {Q : VK} {R : Result → Shared → Prop}
    (hh : X.A.handled = none) (hroom : X.A.depth < recursionLimit) (T : Turn X.prog X.w X.K tg J fp it tn) (hgo : ∀ h : Heap, h.get? a = some go → h.IsGen a g)
    (hR : ∀ b H4 pl s2, Inv (X.gen s H scope code fp) pl σ H4 s2 → Q (.bl b) H4 → R (.ok (.ret (.bool b))) s2) :
    ∀ (n m i : Nat) (H' : Hp) (s1 : Shared), GSus X s H scope code fp tn [] (a, go) σ (fun _ => W) (fun _ => PostB true W Q) (fun _ H3 => Q (.bl !true) H3) g n m i H' s1 → (∃ m', m' < m ∧ W i m' H') → codeAny (model X.prog X.w) X.A (.builtin "any.loop" ⟨[.ref a], []⟩) R s1 := by
  intro n
  induction n with
  | zero =>
    intro m0 i H' s1 G hw0
    refine codeAny_builtin F.entry_any_loop ?_
    rw [Around.under_plainId F.plain_any_loop _]
    show wpAny _ X.A.in1 (pyNext (.ref a) >>= _) _ _ s1
    refine wpAny_bind (gen_next hh hroom T own_nil hgo G hw0 (fun j m y H4 v s2 r hp G2 _ hk => ?_) fun H4 ps s2 I2 _ _ q => ?_)
    · obtain ⟨b, rfl, hb⟩ := hp
      cases (show v = Value.bool b from r)
      refine wpAny_bind (wpAny_holding (wpAny_truthy_bool ?_))
      refine wpAny_bind (wpAny_letGo ?_)
      cases b with
      | true =>
        rw [if_pos rfl] at hb
        simp only [if_true]
        exact wpAny_bind (wpAny_rule (wpAny_pure (hR true H4 _ _ G2.1 hb)))
      | false =>
        rw [if_neg (by decide)] at hb
        obtain ⟨n', e, _⟩ := hk s2 ⟨fun _ _ _ e => e, G2.2.1, rfl, G2.1.bare⟩ rfl hb
        cases e
    · exact wpAny_bind (wpAny_rule (wpAny_pure (hR false H4 _ _ I2 q)))
  | succ n ih =>
    intro m0 i H' s1 G hw0
    refine codeAny_builtin F.entry_any_loop ?_
    rw [Around.under_plainId F.plain_any_loop _]
    show wpAny _ X.A.in1 (pyNext (.ref a) >>= _) _ _ s1
    refine wpAny_bind (gen_next hh hroom T own_nil hgo G hw0 (fun j m y H4 v s2 r hp G2 _ hk => ?_) fun H4 ps s2 I2 _ _ q => ?_)
    · obtain ⟨b, rfl, hb⟩ := hp
      cases (show v = Value.bool b from r)
      refine wpAny_bind (wpAny_holding (wpAny_truthy_bool ?_))
      refine wpAny_bind (wpAny_letGo ?_)
      cases b with
      | true =>
        rw [if_pos rfl] at hb
        simp only [if_true]
        exact wpAny_bind (wpAny_rule (wpAny_pure (hR true H4 _ _ G2.1 hb)))
      | false =>
        rw [if_neg (by decide)] at hb
        obtain ⟨n', e, G3⟩ := hk s2 ⟨fun _ _ _ e => e, G2.2.1, rfl, G2.1.bare⟩ rfl hb
        cases e
        simp only [Bool.false_eq_true, if_false]
        exact wpAny_pure ⟨plainId_quiet F.plain_any_loop _, ih _ _ _ _ G3 hb⟩
    · exact wpAny_bind (wpAny_rule (wpAny_pure (hR false H4 _ _ I2 q)))
theorem all_loop {s : Shared} {H : Hp} {scope : Scope} {code : Value} {fp : List Addr} {tn : Nat → Heap → Prop} {a : Addr} {go : Obj} {W : Nat → Nat → Hp → Prop} {g : Nat} {tg : Expr} {J : It} {it : Addr} {Q : VK} {R : Result → Shared → Prop}
    (hh : X.A.handled = none) (hroom : X.A.depth < recursionLimit) (T : Turn X.prog X.w X.K tg J fp it tn) (hgo : ∀ h : Heap, h.get? a = some go → h.IsGen a g)
    (hR : ∀ b H4 pl s2, Inv (X.gen s H scope code fp) pl σ H4 s2 → Q (.bl b) H4 → R (.ok (.ret (.bool b))) s2) :
    ∀ (n m i : Nat) (H' : Hp) (s1 : Shared), GSus X s H scope code fp tn [] (a, go) σ (fun _ => W) (fun _ => PostB false W Q) (fun _ H3 => Q (.bl !false) H3) g n m i H' s1 → (∃ m', m' < m ∧ W i m' H') → codeAny (model X.prog X.w) X.A (.builtin "all.loop" ⟨[.ref a], []⟩) R s1 := by
  intro n
  induction n with
  | zero =>
    intro m0 i H' s1 G hw0
    refine codeAny_builtin F.entry_all_loop ?_
    rw [Around.under_plainId F.plain_all_loop _]
    show wpAny _ X.A.in1 (pyNext (.ref a) >>= _) _ _ s1
    refine wpAny_bind (gen_next hh hroom T own_nil hgo G hw0 (fun j m y H4 v s2 r hp G2 _ hk => ?_) fun H4 ps s2 I2 _ _ q => ?_)
    · obtain ⟨b, rfl, hb⟩ := hp
      cases (show v = Value.bool b from r)
      refine wpAny_bind (wpAny_holding (wpAny_truthy_bool ?_))
      refine wpAny_bind (wpAny_letGo ?_)
      cases b with
      | false =>
        rw [if_pos rfl] at hb
        simp only [Bool.false_eq_true, if_false]
        exact wpAny_bind (wpAny_rule (wpAny_pure (hR false H4 _ _ G2.1 hb)))
      | true =>
        rw [if_neg (by decide)] at hb
        obtain ⟨n', e, _⟩ := hk s2 ⟨fun _ _ _ e => e, G2.2.1, rfl, G2.1.bare⟩ rfl hb
        cases e
    · exact wpAny_bind (wpAny_rule (wpAny_pure (hR true H4 _ _ I2 q)))
  | succ n ih =>
    intro m0 i H' s1 G hw0
    refine codeAny_builtin F.entry_all_loop ?_
    rw [Around.under_plainId F.plain_all_loop _]
    show wpAny _ X.A.in1 (pyNext (.ref a) >>= _) _ _ s1
    refine wpAny_bind (gen_next hh hroom T own_nil hgo G hw0 (fun j m y H4 v s2 r hp G2 _ hk => ?_) fun H4 ps s2 I2 _ _ q => ?_)
    · obtain ⟨b, rfl, hb⟩ := hp
      cases (show v = Value.bool b from r)
      refine wpAny_bind (wpAny_holding (wpAny_truthy_bool ?_))
      refine wpAny_bind (wpAny_letGo ?_)
      cases b with
      | false =>
        rw [if_pos rfl] at hb
        simp only [Bool.false_eq_true, if_false]
        exact wpAny_bind (wpAny_rule (wpAny_pure (hR false H4 _ _ G2.1 hb)))
      | true =>
        rw [if_neg (by decide)] at hb
        obtain ⟨n', e, G3⟩ := hk s2 ⟨fun _ _ _ e => e, G2.2.1, rfl, G2.1.bare⟩ rfl hb
        cases e
        simp only [if_true]
        exact wpAny_pure ⟨plainId_quiet F.plain_all_loop _, ih _ _ _ _ G3 hb⟩
    · exact wpAny_bind (wpAny_rule (wpAny_pure (hR true H4 _ _ I2 q)))
/-- what was made sleeps -/
theorem Made.sus {scope : Scope} {vs : List Nat} {tg elt iter : Expr} {ifs : List Expr} {pos : Pos} {H2 : Hp} {J : It} {it : Addr} {fp : List Addr} {tn : Nat → Heap → Prop} {s3 : Shared} {code : Value} {a : Addr} {g : Nat} {go : Obj} {s5 : Shared} {G : TG} {tt : TT} {te : TE}
    {W : Heap → Nat → Nat → Hp → Prop} {Post : Heap → Nat → Nat → V → Hp → Prop} {Stop : Heap → Hp → Prop} {m : Nat}
    (M : Made X pins σ scope vs tg (.compStart (.GeneratorExp elt [⟨tg, iter, ifs, 0⟩] scope pos) 0 (.ref it) .none (gEnv X scope s3.heap.objs.size code)) H2 J it fp tn s3 code a g go s5) (hc : X.calm = true) (hco : scope.isCoroutine = false)
    (hg : PG (X.gen s3 H2 scope code fp) tg G) (ht : PTs (X.gen s3 H2 scope code fp) ifs tt) (he : PE (X.gen s3 H2 scope code fp) elt te) (turn : ∀ h₀ : Heap, GTurn G tt te vs σ J (W h₀) (Post h₀) (Stop h₀)) :
    GSus X s3 H2 scope code fp tn [] (a, go) (wipe σ vs) W Post Stop g (m + 1) (m + 1) 0 H2 s5 :=
  ⟨M.gat, _, M.gs, fun s2 z ⟨m', hm', w'⟩ => ⟨rfl, gen_first hc M.T hco (fun b hb z2 => by
      have h1 := (M.hf b hb).2
      have h2 := M.lt
      rw [z2] at h2
      exact absurd (Nat.lt_trans h1 h2) (Nat.lt_irrefl _)) own_nil hg ht he turn m' (m + 1) H2 s2 s2 hm' w' (fun _ _ _ e => e) (M.gat.slp M.T own_nil z)⟩⟩
theorem pe_anyG {c P : Addr} {tg elt iter : Expr} {ifs : List Expr} {p pos gpos : Pos} {scope : Scope} {own : List (Str × Nat)} {wi : TI} {G : TG} {tt : Addr → TT} {te : Addr → TE} {Pre : Hp → Prop} {A : Value → Addr → Hp → Hp → Prop} (hc : X.calm = true) (hN : X.N.Nodup)
    (hroom : X.A.depth < recursionLimit) (hg : Gl X "any") (hm : X.mg "any" = none) (TB : CodeSrc X c P) (LK : Looks P Pre A) (hcode : X.env.code = .ref c) (ok : GenOk X.N X.env.scope scope own) (hi : PI X tg iter wi)
    (hG : ∀ (s : Shared) (H : Hp) (code : Value) (fp : List Addr), PG (X.gen s H scope code fp) tg G) (ht : ∀ (s : Shared) (H : Hp) (code : Value) (P' : Addr) (fp : List Addr), (∃ H1, A code P' H1 H) → PTs (X.gen s H scope code fp) ifs (tt P')) (he : ∀ (s : Shared) (H : Hp) (code : Value) (P' : Addr) (fp : List Addr), (∃ H1, A code P' H1 H) → PE (X.gen s H scope code fp) elt (te P'))
    (hs : ∀ v, genFold iter X.env v = pure v)  :
    PE X (.Call (.Name "any" p) [.GeneratorExp elt [⟨tg, iter, ifs, 0⟩] scope gpos] [] pos) (tGxB Pre A true wi G tt te (own.map (·.2))) := by
  refine ⟨fun pins s σ H Q I h => ?_⟩
  have hst : starEach [.GeneratorExp elt [⟨tg, iter, ifs, 0⟩] scope gpos] X.env = (false, eval (.GeneratorExp elt [⟨tg, iter, ifs, 0⟩] scope gpos) X.env) :: starEach [] X.env := rfl
  refine wpAny_Call_Name_kw (ld_blt I hg hm boot_any ?_)
  refine PyProof.Rows.callWith_builtin1 ?_ hst (by rfl)
  rw [hst]
  show wpAny _ _ (spliced ((false, eval (.GeneratorExp elt [⟨tg, iter, ifs, 0⟩] scope gpos) X.env) :: backTo pos (starEach [] X.env))) _ _ s
  refine Calls.spliced_cons (gen_eval hN hroom TB hcode ok hi hs LK I h fun H1 H2 J it fp tn s3 code P' a g go s5 hA hR M => ?_)
  obtain ⟨W, ⟨m, w⟩, turn⟩ := hR
  refine Calls.spliced_nil ?_
  refine call_function_tree F.kind_any F.plain_any F.entry_any (F.args_any1 _) ?_
  unfold Builtin.«any»
  refine wpAny_bind (m := oneArg "any" _) (wpAny_pure ?_)
  refine wpAny_bind (wpAny_pyIter_gen (M.hgo _ M.gat.obj) ?_)
  refine wpAny_pure ⟨plainId_quiet F.plain_any_loop _, any_loop (I.ok.hd hc) hroom M.T M.hgo (fun b H4 pl s2 J4 q => ?_) (m + 1) (m + 1) 0 H2 s5 (M.sus hc ok.co (hG _ _ _ _) (ht _ _ _ _ _ ⟨H1, hA⟩) (he _ _ _ _ _ ⟨H1, hA⟩) fun _ => turn) ⟨m, Nat.lt_succ_self _, w⟩⟩
  exact ⟨.bl b, H4, gen_back M.I (fun b hb => (M.hf b hb).1) J4, rfl, q⟩
theorem pe_allG {c P : Addr} {tg elt iter : Expr} {ifs : List Expr} {p pos gpos : Pos} {scope : Scope} {own : List (Str × Nat)} {wi : TI} {G : TG} {tt : Addr → TT} {te : Addr → TE} {Pre : Hp → Prop} {A : Value → Addr → Hp → Hp → Prop} (hc : X.calm = true) (hN : X.N.Nodup)
    (hroom : X.A.depth < recursionLimit) (hg : Gl X "all") (hm : X.mg "all" = none) (hb : bootBuiltins "all" = some (.builtin "all")) (TB : CodeSrc X c P) (LK : Looks P Pre A) (hcode : X.env.code = .ref c) (ok : GenOk X.N X.env.scope scope own) (hi : PI X tg iter wi)
    (hG : ∀ (s : Shared) (H : Hp) (code : Value) (fp : List Addr), PG (X.gen s H scope code fp) tg G) (ht : ∀ (s : Shared) (H : Hp) (code : Value) (P' : Addr) (fp : List Addr), (∃ H1, A code P' H1 H) → PTs (X.gen s H scope code fp) ifs (tt P')) (he : ∀ (s : Shared) (H : Hp) (code : Value) (P' : Addr) (fp : List Addr), (∃ H1, A code P' H1 H) → PE (X.gen s H scope code fp) elt (te P'))
    (hs : ∀ v, genFold iter X.env v = pure v)  :
    PE X (.Call (.Name "all" p) [.GeneratorExp elt [⟨tg, iter, ifs, 0⟩] scope gpos] [] pos) (tGxB Pre A false wi G tt te (own.map (·.2))) := by
  refine ⟨fun pins s σ H Q I h => ?_⟩
  have hst : starEach [.GeneratorExp elt [⟨tg, iter, ifs, 0⟩] scope gpos] X.env = (false, eval (.GeneratorExp elt [⟨tg, iter, ifs, 0⟩] scope gpos) X.env) :: starEach [] X.env := rfl
  refine wpAny_Call_Name_kw (ld_blt I hg hm hb ?_)
  refine PyProof.Rows.callWith_builtin1 ?_ hst (by rfl)
  rw [hst]
  show wpAny _ _ (spliced ((false, eval (.GeneratorExp elt [⟨tg, iter, ifs, 0⟩] scope gpos) X.env) :: backTo pos (starEach [] X.env))) _ _ s
  refine Calls.spliced_cons (gen_eval hN hroom TB hcode ok hi hs LK I h fun H1 H2 J it fp tn s3 code P' a g go s5 hA hR M => ?_)
  obtain ⟨W, ⟨m, w⟩, turn⟩ := hR
  refine Calls.spliced_nil ?_
  refine call_function_tree F.kind_all F.plain_all F.entry_all (F.args_all1 _) ?_
  unfold Builtin.«all»
  refine wpAny_bind (m := oneArg "all" _) (wpAny_pure ?_)
  refine wpAny_bind (wpAny_pyIter_gen (M.hgo _ M.gat.obj) ?_)
  refine wpAny_pure ⟨plainId_quiet F.plain_all_loop _, all_loop (I.ok.hd hc) hroom M.T M.hgo (fun b H4 pl s2 J4 q => ?_) (m + 1) (m + 1) 0 H2 s5 (M.sus hc ok.co (hG _ _ _ _) (ht _ _ _ _ _ ⟨H1, hA⟩) (he _ _ _ _ _ ⟨H1, hA⟩) fun _ => turn) ⟨m, Nat.lt_succ_self _, w⟩⟩
  exact ⟨.bl b, H4, gen_back M.I (fun b hb => (M.hf b hb).1) J4, rfl, q⟩
end
end L2
namespace Fo
open PySem PySem.Spec PyProof.Rows L2
section
variable {K : PySem.W.Frag} {tabs : Tb} {δ : Option Addr} {O O2 O3 : Addr → Prop} {ρ : Rho} {σ : L2.St} {H H2 H3 : Hp} {st : Dr}
/-- the table at P has grown, else what was known is as it was -/
def AW (P : Addr) (code : Value) (P' : Addr) (H1 H2 : Hp) : Prop := GxR.TabG H2 P ∧ (∀ b, b ≠ P → H1 b ≠ none → H2 b = H1 b) ∧ ∀ b, H2 b = none → H1 b = none
def PreS (l : List Addr) (P : Addr) (H : Hp) : Prop := TabT l H P ∧ ∀ q ∈ l, H q ≠ none
/-- .. and the code is known, with its own table -/
def AS (l : List Addr) (P : Addr) (code : Value) (P' : Addr) (H1 H2 : Hp) : Prop := AW P code P' H1 H2 ∧ TabT l H2 P ∧ P' ∉ l ∧ GxR.TabG H2 P' ∧ ∃ (c' : Addr) (oc : Obj), code = .ref c' ∧ H2 c' = some (.frz oc uT) ∧ CodeOb oc c' P'
/-- what is found in a table with one code more -/
theorem among_app2 {pos at_ : Pos} {c cv : Value} : ∀ l : List Value, TriplesOk l → codeAmong at_ (l ++ [rawInt pos.line, rawInt pos.col, c]) = some cv → codeAmong at_ l = some cv ∨ cv = c
  | [], _, h => by
    have h : (if (rawInt pos.line == rawInt at_.line && rawInt pos.col == rawInt at_.col) = true then some c else none) = some cv ∨ some c = some cv ∨ (none : Option Value) = some cv := by
      unfold codeAmong rawInt at h
      simp only [List.nil_append] at h
      split at h
      · exact .inr (.inl h)
      · exact .inr (.inr (by simpa [codeAmong] using h))
    rcases h with h | h | h
    · split at h
      · exact .inr (Option.some.inj h).symm
      · cases h
    · exact .inr (Option.some.inj h).symm
    · cases h
  | .int a ta :: .int b tb :: x :: rest, ht, h => by
    have ih := among_app2 (pos := pos) (at_ := at_) (c := c) (cv := cv) rest ht
    rw [List.cons_append, List.cons_append, List.cons_append] at h
    unfold codeAmong at h ⊢
    by_cases q : (a == at_.line && b == at_.col) = true
    · rw [if_pos q] at h ⊢
      exact .inl h
    · rw [if_neg q] at h ⊢
      exact ih h
theorem aw_new {P : Addr} {H : Hp} {ps : Array Value} {pos : Pos} {c' P' : Addr} {oc : Obj} (hP : H P = some (.tbl ps)) (ht : TriplesOk (ps ++ #[rawInt pos.line, rawInt pos.col, .ref c']).toList) (nc : H c' = none) (nP : H P' = none) (code : Value) (P1 : Addr) :
    AW P code P1 H (L2.upd (L2.upd (L2.upd H P (.tbl (ps ++ #[rawInt pos.line, rawInt pos.col, .ref c']))) c' (.frz oc uT)) P' (.tbl #[])) := by
  have n1 : P ≠ c' := ne_of_none hP nc
  have n2 : P ≠ P' := ne_of_none hP nP
  refine ⟨⟨_, by rw [upd_ne n2, upd_ne n1, upd_same], ht⟩, fun b hb hn => ?_, fun b e => ?_⟩
  · rw [upd_ne (fun z => hn (by rw [z]; exact nP)), upd_ne (fun z => hn (by rw [z]; exact nc)), upd_ne hb]
  · by_cases h1 : b = P'
    · rw [h1]; exact nP
    · rw [upd_ne h1] at e
      by_cases h2 : b = c'
      · rw [h2]; exact nc
      · rw [upd_ne h2] at e
        by_cases h3 : b = P
        · rw [h3, upd_same] at e; cases e
        · rw [upd_ne h3] at e; exact e
theorem looksW (P : Addr) : Looks P (fun H => GxR.TabG H P) (AW P) :=
  ⟨fun _ h => h, fun H ps pos cv h _ _ => ⟨P, h, fun _ _ _ => rfl, fun _ e => e⟩, fun H ps pos c' P' oc h hP ht ht2 nc nP ne ob => aw_new hP ht2 nc nP _ _⟩
theorem TabT.but {l : List Addr} {P P1 : Addr} {H H2 : Hp} (t : TabT l H P1) (hne : P1 ≠ P) (h1 : GxR.TabG H P) (hg : GxR.TabG H2 P) (k : ∀ b, b ≠ P → H b ≠ none → H2 b = H b) : TabT l H2 P1 := by
  obtain ⟨qs, eP, _⟩ := h1
  obtain ⟨ps, e, h, a⟩ := t
  refine ⟨ps, by rw [k P1 hne (by rw [e]; exact fun z => nomatch z)]; exact e, h, fun pos cv hc => ?_⟩
  obtain ⟨c', P', oc, e1, e2, e3, e4, e5⟩ := a pos cv hc
  refine ⟨c', P', oc, e1, ?_, e3, e4, ?_⟩
  · rw [k c' (fun z => by rw [z, eP] at e2; cases e2) (by rw [e2]; exact fun z => nomatch z)]
    exact e2
  · by_cases hb : P' = P
    · rw [hb]; exact hg
    · obtain ⟨ps', f1, f2⟩ := e5
      exact ⟨ps', by rw [k P' hb (by rw [f1]; exact fun z => nomatch z)]; exact f1, f2⟩
theorem looksS (l : List Addr) (P : Addr) : Looks P (PreS l P) (AS l P) :=
  ⟨fun _ h => h.1.g, fun H ps pos cv h hP hc => by
    obtain ⟨ps2, e, _, a⟩ := h.1
    rw [hP] at e
    cases e
    obtain ⟨c', P', oc, e1, e2, e3, e4, e5⟩ := a pos cv hc
    exact ⟨P', ⟨h.1.g, fun _ _ _ => rfl, fun _ e => e⟩, h.1, e4, e5, c', oc, e1, e2, e3⟩, fun H ps pos c' P' oc h hP ht ht2 nc nP ne ob => by
    have A := aw_new (pos := pos) (oc := oc) (P' := P') hP ht2 nc nP (.ref c') P'
    have nl : P' ∉ l := fun z => h.2 P' z nP
    have n1 : P ≠ c' := ne_of_none hP nc
    have n2 : P ≠ P' := ne_of_none hP nP
    have hc2 : L2.upd (L2.upd (L2.upd H P (.tbl (ps ++ #[rawInt pos.line, rawInt pos.col, .ref c']))) c' (.frz oc uT)) P' (.tbl #[]) c' = some (.frz oc uT) := by rw [upd_ne ne, upd_same]
    have hg2 : GxR.TabG (L2.upd (L2.upd (L2.upd H P (.tbl (ps ++ #[rawInt pos.line, rawInt pos.col, .ref c']))) c' (.frz oc uT)) P' (.tbl #[])) P' := ⟨#[], upd_same, trivial⟩
    refine ⟨A, ?_, nl, hg2, c', oc, rfl, hc2, ob⟩
    obtain ⟨ps2, e, _, a⟩ := h.1
    rw [hP] at e
    cases e
    refine ⟨_, by rw [upd_ne n2, upd_ne n1, upd_same], ht2, fun p' cv hcv => ?_⟩
    have grown : ps.toList ++ [rawInt pos.line, rawInt pos.col, .ref c'] = (ps ++ #[rawInt pos.line, rawInt pos.col, .ref c']).toList := by simp
    rw [← grown] at hcv
    rcases among_app2 _ ht hcv with z | z
    · obtain ⟨c0, P0, oc0, e1, e2, e3, e4, e5⟩ := a p' cv z
      refine ⟨c0, P0, oc0, e1, ?_, e3, e4, ?_⟩
      · rw [A.2.1 c0 (fun z => by rw [z, hP] at e2; cases e2) (by rw [e2]; exact fun z => nomatch z)]
        exact e2
      · by_cases hb : P0 = P
        · rw [hb]; exact A.1
        · obtain ⟨ps', f1, f2⟩ := e5
          exact ⟨ps', by rw [A.2.1 P0 hb (by rw [f1]; exact fun z => nomatch z)]; exact f1, f2⟩
    · exact ⟨c', P', oc, z, hc2, ob, nl, hg2⟩⟩
theorem ext_aw {P P' : Addr} {code : Value} (h1 : GxR.TabG H P) (h : AW P code P' H H2) : Ext δ H H2 := by
  obtain ⟨ps, e, t⟩ := h1
  obtain ⟨⟨qs, e2, t2⟩, hk, hn⟩ := h
  refine ⟨fun b o e3 _ n => ?_, fun b ps' e3 => ?_, fun b e3 => hn b e3⟩
  · rw [hk b (fun z => ?_) (by rw [e3]; exact fun z => nomatch z)]
    · exact e3
    · rw [z, e] at e3
      exact n ps (Option.some.inj e3).symm
  · by_cases hb : b = P
    · rw [hb]; exact ⟨qs, e2⟩
    · exact ⟨ps', by rw [hk b hb (by rw [e3]; exact fun z => nomatch z)]; exact e3⟩
theorem WOk.grown {P P' : Addr} {code : Value} (W : WOk K tabs δ O st H) (h1 : GxR.TabG H P) (h : AW P code P' H H2) (ht : ∀ P1 ∈ tabs.l, P1 = P → TabT tabs.l H2 P) : WOk K tabs δ O st H2 := by
  obtain ⟨ps, e, t⟩ := id h1
  refine ⟨fun P1 hP1 => ?_, fun P1 hP1 => ⟨(W.tab2 P1 hP1).1, ?_⟩, fun a ha => ?_, fun a ha z => W.own a ha (h.2.2 a z)⟩
  · by_cases hb : P1 = P
    · rw [hb]
      exact ht P1 hP1 hb
    · exact (W.tab P1 hP1).but hb h1 h.1 h.2.1
  · by_cases hb : P1 = P
    · rw [hb]; exact h.1
    · obtain ⟨qs, f1, f2⟩ := (W.tab2 P1 hP1).2
      exact ⟨qs, by rw [h.2.1 P1 hb (by rw [f1]; exact fun z => nomatch z)]; exact f1, f2⟩
  · obtain ⟨q1, sa, q2, q3⟩ := W.dr a ha
    refine ⟨q1, sa, ?_, (rds_ext (ext_aw h1 h) W.dl).seqL q3⟩
    rw [h.2.1 a (fun z => by rw [z, e] at q2; cases q2) (by rw [q2]; exact fun z => nomatch z)]
    exact q2
theorem WOk.nest {P' : Addr} (W : WOk K tabs δ O st H) (h1 : P' ∉ tabs.l) (h2 : GxR.TabG H P') : WOk K ⟨tabs.l, P' :: tabs.m⟩ δ O st H :=
  ⟨W.tab, fun P hP => (List.mem_cons.mp hP).elim (fun z => by rw [z]; exact ⟨h1, h2⟩) (W.tab2 P), W.dr, W.own⟩
theorem WOk.un {P' : Addr} (W : WOk K ⟨tabs.l, P' :: tabs.m⟩ δ O st H) : WOk K tabs δ O st H := ⟨W.tab, fun P hP => W.tab2 P (List.mem_cons_of_mem _ hP), W.dr, W.own⟩
/-- a context in which a generator expression's own code runs -/
structure Gn (tabs : Tb) (Pre : Hp → Prop) (A : Value → Addr → Hp → Hp → Prop) (T' : Addr → List Addr) : Prop where
  pre : ∀ {K δ O st H}, WOk K tabs δ O st H → Pre H
  to : ∀ {K δ O st H code P' H2}, WOk K tabs δ O st H → A code P' H H2 → Ext δ H H2 ∧ WOk K ⟨tabs.l, T' P'⟩ δ O st H2
  un : ∀ {K δ O st H P'}, WOk K ⟨tabs.l, T' P'⟩ δ O st H → WOk K tabs δ O st H
theorem gnW {P : Addr} (hP : P ∈ tabs.m) : Gn tabs (fun H => GxR.TabG H P) (AW P) (fun _ => tabs.m) :=
  ⟨fun W => (W.tab2 P hP).2, fun W h => ⟨ext_aw (W.tab2 P hP).2 h, W.grown (W.tab2 P hP).2 h fun P1 h1 e => absurd (e ▸ h1) (W.tab2 P hP).1⟩, fun W => W⟩
theorem WOk.some {P : Addr} (W : WOk K tabs δ O st H) : ∀ q ∈ tabs.l, H q ≠ none := fun q hq z => by
  obtain ⟨ps, e, _⟩ := W.tab q hq
  rw [z] at e
  cases e
theorem gnS {P : Addr} (hP : P ∈ tabs.l) : Gn tabs (PreS tabs.l P) (AS tabs.l P) (fun P' => P' :: tabs.m) :=
  ⟨fun W => ⟨W.tab P hP, W.some (P := P)⟩, fun W h => ⟨ext_aw (W.tab P hP).g h.1, (W.grown (W.tab P hP).g h.1 fun _ _ _ => h.2.1).nest h.2.2.1 h.2.2.2.1⟩, fun W => W.un⟩
def gxGo (k : Bool) (tg : Tg) (tt : SemB) (te : Sem1) (ρ : Rho) : List PyData → M PyData
  | [] => pure (.bool !k)
  | x :: xs => do
    let ρ1 ← up (storeT tg x ρ)
    let b ← tt ρ1
    if b = true then do
      let y ← te ρ1
      let c ← up (truB y)
      if c = k then pure (.bool k) else gxGo k tg tt te ρ xs
    else gxGo k tg tt te ρ xs
where truB : PyData → Option Bool
  | .bool b => some b
  | _ => none
def gxR (k : Bool) (it : SemL) (tg : Tg) (vs : List Nat) (tt : SemB) (te : Sem1) : Sem1 := fun ρ => do
  let items ← it ρ
  gxGo k tg tt te (wipeR ρ vs) items
theorem gx_to {k : Bool} {Pre : Hp → Prop} {A : Value → Addr → Hp → Hp → Prop} {T' : Addr → List Addr} (gn : Gn tabs Pre A T') {it : SemL} {tg : Tg} {own : List (PySem.Str × Nat)} {tt : SemB} {te : Sem1} (hsub : ∀ j ∈ tg.slots, j ∈ own.map (·.2)) {Q : VK} (h : Rd1 K tabs (gxR k it tg (own.map (·.2)) tt te) σ H Q) :
    tGxB Pre A k (RdIt K tabs it) (RdG K tg) (fun P' => RdB K ⟨tabs.l, T' P'⟩ tt) (fun P' => Rd1 K ⟨tabs.l, T' P'⟩ te) (own.map (·.2)) σ H Q := by
  obtain ⟨δ, O, ρ, st, z, st', S, W, e, c⟩ := h
  obtain ⟨items, st1, e1, f1⟩ := bnd_some e
  refine ⟨δ, O, ρ, st, items, _, S, W, e1, fun J H1 E1 W1 hJ => ⟨gn.pre W1, fun code P' H2 hT => ?_⟩⟩
  obtain ⟨E2, W2⟩ := gn.to W1 hT
  have S2 := (S.ext E1 W.dl).ext E2 W1.dl
  refine ⟨fun i m H3 => ∃ stj, m = items.length - i ∧ WOk K ⟨tabs.l, T' P'⟩ δ O stj H3 ∧ Ext δ H2 H3 ∧ gxGo k tg tt te (wipeR ρ (own.map (·.2))) (items.drop i) stj = some (z, st'), ⟨_, st1, rfl, W2, Ext.refl _ _, f1⟩, ?_⟩
  rintro i m H3 ⟨stj, rfl, W3, E3, hgo⟩
  have L3 : Lat2 δ O H1 O H3 := (Lat2.of E2).trans (Lat2.of E3)
  have hstep := hJ (T' P') O stj H3 W3 L3 i
  by_cases hi : i < items.length
  · refine .inr ⟨(hstep.1 hi).1, fun x H4 hy => ?_⟩
    obtain ⟨E4, W4, d, hd, r4⟩ := (hstep.1 hi).2 x H4 hy
    have hdrop : items.drop i = d :: items.drop (i + 1) := by
      rw [List.drop_eq_getElem_cons hi]
      rw [List.getElem?_eq_getElem hi] at hd
      cases hd
      rfl
    rw [hdrop] at hgo
    obtain ⟨ρ1, sta, ga, ha⟩ := bnd_some hgo
    obtain ⟨ga2, rfl⟩ := up_some ga
    obtain ⟨b, stb, gb, hb⟩ := bnd_some ha
    have S4 : Slots K δ O (wipeR ρ (own.map (·.2))) (_root_.L2.wipe σ (own.map (·.2))) H4 := (S2.ext (E3.trans E4) W2.dl).wipe _
    refine ⟨δ, O, _, d, ρ1, S4, r4, ga2, fun σ' S' hk => ⟨wipe_eq ?_ fun j hj => hk j fun z => hj (hsub j z), ?_⟩⟩
    · rw [← S'.len, storeT_len ga2, wipeR_len, S.len]
    refine ⟨δ, O, ρ1, _, b, stb, S', W4, gb, fun H5 E5 W5 => ?_⟩
    cases b with
    | false =>
      exact iteF ⟨_, by omega, stb, rfl, W5, E3.trans (E4.trans E5), by simpa using hb⟩
    | true =>
      refine iteT ?_
      rw [if_pos rfl] at hb
      obtain ⟨y, stc, gc, hc'⟩ := bnd_some hb
      obtain ⟨b, std, gd, hd'⟩ := bnd_some hc'
      obtain ⟨gd2, rfl⟩ := up_some gd
      refine ⟨δ, O, ρ1, stb, y, _, S'.ext E5 W4.dl, W5, gc, fun w H6 E6 W6 R6 => ?_⟩
      unfold gxGo.truB at gd2
      split at gd2
      · cases gd2
        cases R6
        refine ⟨b, rfl, ?_⟩
        by_cases hbk : b = k
        · rw [if_pos hbk] at hd'
          obtain ⟨rfl, rfl⟩ := pur_some hd'
          rw [if_pos hbk]
          exact c _ _ (E1.trans (E2.trans (E3.trans (E4.trans (E5.trans E6))))) (gn.un W6) (.bl _)
        · rw [if_neg hbk] at hd'
          rw [if_neg hbk]
          exact ⟨_, by omega, _, rfl, W6, E3.trans (E4.trans (E5.trans E6)), hd'⟩
      · cases gd2
  · refine .inl ⟨hstep.2 (by omega), ?_⟩
    rw [List.drop_of_length_le (by omega)] at hgo
    obtain ⟨rfl, rfl⟩ := pur_some hgo
    exact c _ _ (E1.trans (E2.trans E3)) (gn.un W3) (.bl _)
variable {X : Cx}
theorem ex_any {c P : Addr} {tgE elt iter : Expr} {ifs : List Expr} {p pos gpos : Pos} {scope : Scope} {own : List (PySem.Str × Nat)} {it : SemL} {tg : Tg} {tt : SemB} {te : Sem1} {Pre : Hp → Prop} {A : Value → Addr → Hp → Hp → Prop} {T' : Addr → List Addr} (hc : X.calm = true) (hN : X.N.Nodup)
    (hroom : X.A.depth < recursionLimit) (hg : Gl X "any") (hm : X.mg "any" = none) (TB : CodeSrc X c P) (LK : Looks P Pre A) (gn : Gn tabs Pre A T') (hcode : X.env.code = .ref c) (ok : GenOk X.N X.env.scope scope own) (hi : PI X tgE iter (RdIt X.K tabs it))
    (hG : ∀ (s : Shared) (H : Hp) (code : Value) (fp : List Addr), PG (X.gen s H scope code fp) tgE (RdG X.K tg)) (ht : ∀ (s : Shared) (H : Hp) (code : Value) (P' : Addr) (fp : List Addr), (∃ H1, A code P' H1 H) → PTs (X.gen s H scope code fp) ifs (RdB X.K ⟨tabs.l, T' P'⟩ tt)) (he : ∀ (s : Shared) (H : Hp) (code : Value) (P' : Addr) (fp : List Addr), (∃ H1, A code P' H1 H) → PE (X.gen s H scope code fp) elt (Rd1 X.K ⟨tabs.l, T' P'⟩ te))
    (hs : ∀ v, genFold iter X.env v = pure v) (hsub : ∀ j ∈ tg.slots, j ∈ own.map (·.2)) :
    PE X (.Call (.Name "any" p) [.GeneratorExp elt [⟨tgE, iter, ifs, 0⟩] scope gpos] [] pos) (Rd1 X.K tabs (gxR true it tg (own.map (·.2)) tt te)) :=
  PE.imp (pe_anyG hc hN hroom hg hm TB LK hcode ok hi hG ht he hs) fun σ H Q h => gx_to gn hsub h
theorem ex_all {c P : Addr} {tgE elt iter : Expr} {ifs : List Expr} {p pos gpos : Pos} {scope : Scope} {own : List (PySem.Str × Nat)} {it : SemL} {tg : Tg} {tt : SemB} {te : Sem1} {Pre : Hp → Prop} {A : Value → Addr → Hp → Hp → Prop} {T' : Addr → List Addr} (hc : X.calm = true) (hN : X.N.Nodup)
    (hroom : X.A.depth < recursionLimit) (hg : Gl X "all") (hm : X.mg "all" = none) (hb : bootBuiltins "all" = some (.builtin "all")) (TB : CodeSrc X c P) (LK : Looks P Pre A) (gn : Gn tabs Pre A T') (hcode : X.env.code = .ref c) (ok : GenOk X.N X.env.scope scope own) (hi : PI X tgE iter (RdIt X.K tabs it))
    (hG : ∀ (s : Shared) (H : Hp) (code : Value) (fp : List Addr), PG (X.gen s H scope code fp) tgE (RdG X.K tg)) (ht : ∀ (s : Shared) (H : Hp) (code : Value) (P' : Addr) (fp : List Addr), (∃ H1, A code P' H1 H) → PTs (X.gen s H scope code fp) ifs (RdB X.K ⟨tabs.l, T' P'⟩ tt)) (he : ∀ (s : Shared) (H : Hp) (code : Value) (P' : Addr) (fp : List Addr), (∃ H1, A code P' H1 H) → PE (X.gen s H scope code fp) elt (Rd1 X.K ⟨tabs.l, T' P'⟩ te))
    (hs : ∀ v, genFold iter X.env v = pure v) (hsub : ∀ j ∈ tg.slots, j ∈ own.map (·.2)) :
    PE X (.Call (.Name "all" p) [.GeneratorExp elt [⟨tgE, iter, ifs, 0⟩] scope gpos] [] pos) (Rd1 X.K tabs (gxR false it tg (own.map (·.2)) tt te)) :=
  PE.imp (pe_allG hc hN hroom hg hm hb TB LK hcode ok hi hG ht he hs) fun σ H Q h => gx_to gn hsub h
end
end Fo
/-! sum over a generator expression -/
namespace L2
open PySem PySem.Spec PyProof.Rows GxR
/-- the total that the list at st holds -/
def tot (st : Addr) (h : Heap) : Int := match h.get? st with
  | some o => (match o.data with
    | .seq xs _ => (match xs[0]? with
      | some (Value.int T _) => T
      | _ => 0)
    | _ => 0)
  | none => 0
theorem tot_of {st : Addr} {h : Heap} {T : Int} {t : Tok} {c : Nat} (e : h.get? st = some { cls := .type "list", dict := none, data := .seq #[.int T t] c, slots := #[] }) : tot st h = T := by
  unfold tot
  rw [e]
  rfl
def PostS (W : Int → Nat → Nat → Hp → Prop) (T : Int) : Nat → Nat → V → Hp → Prop := fun i m y H => ∃ a, y = .int a ∧ ∃ m', m' < m ∧ W (T + a) (i + 1) m' H
def tGxS (Pre : Hp → Prop) (A : Value → Addr → Hp → Hp → Prop) (wi : TI) (g : TG) (tt : Addr → TT) (te : Addr → TE) (vs : List Nat) : TE := fun σ H Q => wi σ H fun J H1 => Pre H1 ∧ ∀ code P' H2, A code P' H1 H2 → ∃ W : Int → Nat → Nat → Hp → Prop, (∃ m, W 0 0 m H2) ∧ ∀ T, GTurn g (tt P') (te P') vs σ J (W T) (PostS W T) fun H3 => Q (.int T) H3
section
variable {X : Cx} {pins : List (Addr × Obj)} {σ : St}
theorem sum_loop {s : Shared} {H : Hp} {scope : Scope} {code : Value} {fp : List Addr} {tn : Nat → Heap → Prop} {a st : Addr} {go : Obj} {W : Int → Nat → Nat → Hp → Prop} {g : Nat} {tg : Expr} {J : It} {it : Addr} {Q : VK} {R : Result → Shared → Prop}
    (hh : X.A.handled = none) (hroom : X.A.depth < recursionLimit) (T : Turn X.prog X.w X.K tg J fp it tn) (hS : Own X s H scope code fp [st] a) (hgo : ∀ h : Heap, h.get? a = some go → h.IsGen a g)
    (hR : ∀ b t H4 pl s2, Inv (X.gen s H scope code fp) pl σ H4 s2 → Q (.int b) H4 → R (.ok (.ret (.int b t))) s2) :
    ∀ (n m i : Nat) (H' : Hp) (s1 : Shared) (b : Int) (tA : Tok) (c : Nat) (stage : Int), (stage = 0 ∨ stage = 2) → GSus X s H scope code fp tn [st] (a, go) σ (fun h => W (tot st h)) (fun h => PostS W (tot st h)) (fun h H3 => Q (.int (tot st h)) H3) g n m i H' s1 → (∃ m', m' < m ∧ W b i m' H') →
      s1.heap.get? st = some { cls := .type "list", dict := none, data := .seq #[.int b tA] c, slots := #[] } → codeAny (model X.prog X.w) X.A (.builtin "sum.loop" ⟨[.ref a, .ref st, rawInt stage, rawInt 0], []⟩) R s1 := by
  intro n
  induction n using Nat.strongRecOn with
  | _ n ih =>
    intro m0 i H' s1 b tA c stage hstage G hw0 hst
    have et := tot_of hst
    refine codeAny_builtin F.entry_sum_loop ?_
    rw [Around.under_plainId F.plain_sum_loop _]
    show wpAny _ X.A.in1 (seqItems? (.ref st) >>= _) _ _ s1
    refine wpAny_bind (wpAny_seqItems hst rfl ?_)
    show wpAny _ X.A.in1 (tryCatch (pyNext (.ref a)) _ >>= _) _ _ s1
    refine wpAny_bind (wpAny_tryCatch (gen_next hh hroom T hS hgo G (by rw [et]; exact hw0) (fun j m y H4 v s2 r hp G2 kp hk => ?_) fun H4 ps s2 I2 kp hs q => ?_))
    · rw [et] at hp
      obtain ⟨x, rfl, hp⟩ := hp
      obtain ⟨t, rfl⟩ : ∃ t, v = Value.int x t := r
      have hS' := kp st (List.mem_singleton.mpr rfl) _ hst
      have fin : ∀ (s3 : Shared) (t3 : Tok) (c3 : Nat) (stage3 : Int), (stage3 = 0 ∨ stage3 = 2) → (∀ b o, b ≠ st → s2.heap.get? b = some o → s3.heap.get? b = some o) → s3.heap.get? st = some { cls := .type "list", dict := none, data := .seq #[.int (b + x) t3] c3, slots := #[] } → s3.os = s2.os → s3.gens = s2.gens →
          codeAny (model X.prog X.w) X.A (.builtin "sum.loop" ⟨[.ref a, .ref st, rawInt stage3, rawInt 0], []⟩) R s3 := by
        intro s3 t3 c3 stage3 hst3 k1 k2 k3 k4
        have z : Slp [st] s2 s3 := ⟨fun b o hb e => k1 b o (fun w => hb (List.mem_singleton.mpr w)) e, fun b hb => by
          rw [List.mem_singleton.mp hb]
          exact ⟨_, k2, fun v z => by cases z⟩, k3, by rw [k4]; exact G2.1.bare⟩
        have e3 := tot_of k2
        obtain ⟨n', e, G3⟩ := hk s3 z k4 (by rw [e3]; exact hp)
        subst e
        exact ih n' (Nat.lt_succ_self _) m (j + 1) H4 s3 (b + x) t3 c3 stage3 hst3 G3 hp k2
      rcases hstage with rfl | rfl
      · show wpAny _ X.A.in1 (if (_ : Bool) = true then (mkInt (b + x) >>= _) else _) _ _ _
        split
        · refine wpAny_bind (wpAny_mkInt ?_)
          show wpAny _ X.A.in1 (updateSeq st (fun _ => #[.int (b + x) s2.toks]) >>= _) _ _ _
          refine wpAny_bind ?_
          refine wpAny_updateSeq hS' rfl (wpAny_pure ⟨plainId_quiet F.plain_sum_loop _, fin _ s2.toks _ 0 (.inl rfl) (fun b o hb e => (Heap.get?_update_other _ _ (fun z : st = b => hb z.symm)).trans e) (Heap.get?_update_self _ hS' rfl) rfl rfl⟩)
        · refine wpAny_bind (wpAny_rule ?_)
          refine wpAny_bind (wpAny_attempt (wpAny_holding (PySem.P.add_int ?_)))
          show wpAny _ X.A.in1 (updateSeq st (fun _ => #[.int (b + x) s2.toks]) >>= _) _ _ _
          refine wpAny_bind ?_
          refine wpAny_updateSeq hS' rfl ?_
          have hS2 := Heap.get?_update_self (Obj.mapSeq fun _ => #[Value.int (b + x) s2.toks]) hS' rfl
          refine wpAny_bind (wpAny_letGo ?_)
          refine wpAny_bind ?_
          exact wpAny_updateSeq hS2 rfl (wpAny_pure ⟨plainId_quiet F.plain_sum_loop _, fin _ s2.toks _ 2 (.inr rfl) (fun b o hb e => (Heap.get?_update_other _ _ (fun z : st = b => hb z.symm)).trans ((Heap.get?_update_other _ _ (fun z : st = b => hb z.symm)).trans e)) (Heap.get?_update_self _ hS2 rfl) rfl rfl⟩)
      · show wpAny _ X.A.in1 ((holding [Value.int x t] (binaryOp .Add (.int b tA) (.int x t))).attempt >>= _) _ _ _
        refine wpAny_bind (wpAny_attempt (wpAny_holding (PySem.P.add_int ?_)))
        show wpAny _ X.A.in1 (updateSeq st (fun _ => #[.int (b + x) s2.toks]) >>= _) _ _ _
        refine wpAny_bind ?_
        refine wpAny_updateSeq hS' rfl ?_
        have hS2 := Heap.get?_update_self (Obj.mapSeq fun _ => #[Value.int (b + x) s2.toks]) hS' rfl
        refine wpAny_bind (wpAny_letGo ?_)
        refine wpAny_bind ?_
        exact wpAny_updateSeq hS2 rfl (wpAny_pure ⟨plainId_quiet F.plain_sum_loop _, fin _ s2.toks _ 2 (.inr rfl) (fun b o hb e => (Heap.get?_update_other _ _ (fun z : st = b => hb z.symm)).trans ((Heap.get?_update_other _ _ (fun z : st = b => hb z.symm)).trans e)) (Heap.get?_update_self _ hS2 rfl) rfl rfl⟩)
    · rw [et] at q
      exact wpAny_pure (hR b tA H4 _ _ I2 q)
theorem pe_sumG {c P : Addr} {tg elt iter : Expr} {ifs : List Expr} {p pos gpos : Pos} {scope : Scope} {own : List (Str × Nat)} {wi : TI} {G : TG} {tt : Addr → TT} {te : Addr → TE} {Pre : Hp → Prop} {A : Value → Addr → Hp → Hp → Prop} (hc : X.calm = true) (hN : X.N.Nodup)
    (hroom : X.A.depth < recursionLimit) (hg : Gl X "sum") (hm : X.mg "sum" = none) (hb : bootBuiltins "sum" = some (.builtin "sum")) (TB : CodeSrc X c P) (LK : Looks P Pre A) (hcode : X.env.code = .ref c) (ok : GenOk X.N X.env.scope scope own) (hi : PI X tg iter wi)
    (hG : ∀ (s : Shared) (H : Hp) (code : Value) (fp : List Addr), PG (X.gen s H scope code fp) tg G) (ht : ∀ (s : Shared) (H : Hp) (code : Value) (P' : Addr) (fp : List Addr), (∃ H1, A code P' H1 H) → PTs (X.gen s H scope code fp) ifs (tt P')) (he : ∀ (s : Shared) (H : Hp) (code : Value) (P' : Addr) (fp : List Addr), (∃ H1, A code P' H1 H) → PE (X.gen s H scope code fp) elt (te P'))
    (hs : ∀ v, genFold iter X.env v = pure v)  :
    PE X (.Call (.Name "sum" p) [.GeneratorExp elt [⟨tg, iter, ifs, 0⟩] scope gpos] [] pos) (tGxS Pre A wi G tt te (own.map (·.2))) := by
  refine ⟨fun pins s σ H Q I h => ?_⟩
  have hst : starEach [.GeneratorExp elt [⟨tg, iter, ifs, 0⟩] scope gpos] X.env = (false, eval (.GeneratorExp elt [⟨tg, iter, ifs, 0⟩] scope gpos) X.env) :: starEach [] X.env := rfl
  refine wpAny_Call_Name_kw (ld_blt I hg hm hb ?_)
  refine PyProof.Rows.callWith_builtin1 ?_ hst (by rfl)
  rw [hst]
  show wpAny _ _ (spliced ((false, eval (.GeneratorExp elt [⟨tg, iter, ifs, 0⟩] scope gpos) X.env) :: backTo pos (starEach [] X.env))) _ _ s
  refine Calls.spliced_cons (gen_eval hN hroom TB hcode ok hi hs LK I h fun H1 H2 J it fp tn s3 code P' a g go s5 hA hR M => ?_)
  obtain ⟨W, ⟨m, w⟩, turn⟩ := hR
  refine Calls.spliced_nil ?_
  refine call_function_tree F.kind_sum F.plain_sum F.entry_sum (F.args_sum1 _) ?_
  unfold Builtin.«sum»
  simp only [List.length_cons, List.length_nil]
  rw [if_neg (by decide)]
  refine wpAny_bind (wpAny_of_eq (show Builtin.Builtins.bindParams "sum" ["start"] 0 { } = pure [none] from rfl) ?_)
  refine wpAny_bind (wpAny_pyIter_gen (M.hgo _ M.gat.obj) ?_)
  refine wpAny_bind (wpAny_mkInt ?_)
  refine wpAny_bind (wpAny_pure ?_)
  simp only [List.forIn_cons, List.forIn_nil]
  refine wpAny_bind (wpAny_bind (wpAny_bind (wpAny_isInstance (T := "int") (b := false) (typeIs_int _ _ _) PySem.sub_int_str ?_)))
  simp only [Bool.false_eq_true, if_false]
  refine wpAny_pure (wpAny_bind (wpAny_bind (wpAny_isInstance (T := "int") (b := false) (typeIs_int _ _ _) PySem.sub_int_bytes ?_)))
  simp only [Bool.false_eq_true, if_false]
  refine wpAny_pure (wpAny_bind (wpAny_bind (wpAny_isInstance (T := "int") (b := false) (typeIs_int _ _ _) PySem.sub_int_bytearray ?_)))
  simp only [Bool.false_eq_true, if_false]
  refine wpAny_pure (wpAny_pure ?_)
  refine wpAny_bind (wpAny_newObj_type ?_)
  have lt5 : s3.heap.objs.size < s5.heap.objs.size := Nat.lt_trans M.lt M.lt2
  obtain ⟨I5, _, tn5, f5⟩ := M.gat
  have o6 : (s5.heap.push { cls := .type "list", dict := none, data := .seq #[.int 0 s5.toks] 0, slots := #[] }).get? s5.heap.objs.size = some { cls := .type "list", dict := none, data := .seq #[.int 0 s5.toks] 0, slots := #[] } := Heap.get?_push_size _ rfl
  have k6 : ∀ b o, s5.heap.get? b = some o → (s5.heap.push { cls := .type "list", dict := none, data := .seq #[.int 0 s5.toks] 0, slots := #[] }).get? b = some o := fun b o e => Heap.get?_push_of_some _ e
  have hown : Own X s3 H2 scope code fp [s5.heap.objs.size] a := fun b hb => by
    rw [List.mem_singleton.mp hb]
    refine ⟨Nat.le_of_lt lt5, fun z => ?_, fun x cc e z => ?_, Nat.ne_of_lt M.lt2, fun z => ?_⟩
    · have z : s5.heap.objs.size = s3.heap.objs.size := z
      exact Nat.lt_irrefl _ (z ▸ lt5)
    · obtain ⟨v, hv⟩ := I5.cell x cc e
      have hlt := Heap.lt_size hv.choose_spec.1
      rw [z] at hlt
      exact Nat.lt_irrefl _ hlt
    · exact Nat.lt_irrefl _ (Nat.lt_trans (M.hf _ z).2 lt5)
  have gat : GAt X s3 H2 scope code fp tn [s5.heap.objs.size] (a, go) (wipe σ (own.map (·.2))) 0 H2 { s5 with heap := s5.heap.push { cls := .type "list", dict := none, data := .seq #[.int 0 s5.toks] 0, slots := #[] }, toks := s5.toks + 1 } := by
    have I6 : Inv (X.gen s3 H2 scope code fp) ((a, go) :: pinsAt [] s5.heap) (wipe σ (own.map (·.2))) H2 { s5 with heap := s5.heap.push { cls := .type "list", dict := none, data := .seq #[.int 0 s5.toks] 0, slots := #[] }, toks := s5.toks + 1 } := I5.kept k6
    refine ⟨I6.pins_of fun p hp => ?_, fun b hb => ?_, M.T.keep _ _ _ tn5 fun b _ o e => k6 b o e, f5⟩
    · rcases List.mem_cons.mp hp with w | w
      · rw [w]
        exact I6.pin (a, go) (List.mem_append_right _ List.mem_cons_self)
      · obtain ⟨q1, q2⟩ := of_pinsAt w
        have q1 : p.1 = s5.heap.objs.size := List.mem_singleton.mp q1
        refine ⟨q2, by rw [q1]; exact I5.hok.fresh (Nat.le_refl _), fun z => ?_, fun z => ?_, fun v z => ?_⟩
        · have z : p.1 = s3.heap.objs.size := z
          rw [q1] at z
          exact Nat.lt_irrefl _ (z ▸ lt5)
        · rw [q1] at z
          exact I5.nofs (Nat.le_refl _) z
        · rw [q1] at q2
          have q2 := o6.symm.trans q2
          have q2 := Option.some.inj q2
          rw [← q2] at z
          cases z
    · rw [List.mem_singleton.mp hb]
      exact ⟨_, o6, fun v z => by cases z⟩
  have sus : GSus X s3 H2 scope code fp tn [s5.heap.objs.size] (a, go) (wipe σ (own.map (·.2))) (fun h => W (tot s5.heap.objs.size h)) (fun h => PostS W (tot s5.heap.objs.size h)) (fun h H3 => Q (.int (tot s5.heap.objs.size h)) H3) g (m + 1) (m + 1) 0 H2 { s5 with heap := s5.heap.push { cls := .type "list", dict := none, data := .seq #[.int 0 s5.toks] 0, slots := #[] }, toks := s5.toks + 1 } :=
    ⟨gat, _, M.gs, fun s2 z ⟨m', hm', w'⟩ => ⟨rfl, gen_first hc M.T ok.co (fun b hb z2 => by
      have h1 := (M.hf b hb).2
      have h2 := M.lt
      rw [z2] at h2
      exact absurd (Nat.lt_trans h1 h2) (Nat.lt_irrefl _)) hown (hG _ _ _ _) (ht _ _ _ _ _ ⟨H1, hA⟩) (he _ _ _ _ _ ⟨H1, hA⟩) (fun h₀ => turn (tot s5.heap.objs.size h₀)) m' (m + 1) H2 s2 s2 hm' w' (fun _ _ _ e => e) (gat.slp M.T hown z)⟩⟩
  refine wpAny_pure ⟨plainId_quiet F.plain_sum_loop _, sum_loop (I.ok.hd hc) hroom M.T hown M.hgo (fun b t H4 pl s2 J4 q => ?_) (m + 1) (m + 1) 0 H2 _ 0 s5.toks 0 0 (.inl rfl) sus ⟨m, Nat.lt_succ_self _, w⟩ o6⟩
  exact ⟨.int b, H4, gen_back M.I (fun b hb => (M.hf b hb).1) J4, ⟨t, rfl⟩, q⟩
end
end L2
/-! sum over a generator expression, read -/
namespace Fo
open PySem PySem.Spec PyProof.Rows L2
section
variable {K : PySem.W.Frag} {tabs : Tb} {δ : Option Addr} {O O2 O3 : Addr → Prop} {ρ : Rho} {σ : L2.St} {H H2 H3 : Hp} {st : Dr}
def sgGo (tg : Tg) (tt : SemB) (te : Sem1) (ρ : Rho) : Int → List PyData → M PyData
  | T, [] => pure (.int T)
  | T, x :: xs => do
    let ρ1 ← up (storeT tg x ρ)
    let b ← tt ρ1
    if b = true then do
      let y ← te ρ1
      let a ← up (intB y)
      sgGo tg tt te ρ (T + a) xs
    else sgGo tg tt te ρ T xs
where intB : PyData → Option Int
  | .int i => some i
  | _ => none
def sgR (it : SemL) (tg : Tg) (vs : List Nat) (tt : SemB) (te : Sem1) : Sem1 := fun ρ => do
  let items ← it ρ
  sgGo tg tt te (wipeR ρ vs) 0 items
theorem sg_to {Pre : Hp → Prop} {A : Value → Addr → Hp → Hp → Prop} {T' : Addr → List Addr} (gn : Gn tabs Pre A T') {it : SemL} {tg : Tg} {own : List (PySem.Str × Nat)} {tt : SemB} {te : Sem1} (hsub : ∀ j ∈ tg.slots, j ∈ own.map (·.2)) {Q : VK} (h : Rd1 K tabs (sgR it tg (own.map (·.2)) tt te) σ H Q) :
    tGxS Pre A (RdIt K tabs it) (RdG K tg) (fun P' => RdB K ⟨tabs.l, T' P'⟩ tt) (fun P' => Rd1 K ⟨tabs.l, T' P'⟩ te) (own.map (·.2)) σ H Q := by
  obtain ⟨δ, O, ρ, st, z, st', S, W, e, c⟩ := h
  obtain ⟨items, st1, e1, f1⟩ := bnd_some e
  refine ⟨δ, O, ρ, st, items, _, S, W, e1, fun J H1 E1 W1 hJ => ⟨gn.pre W1, fun code P' H2 hT => ?_⟩⟩
  obtain ⟨E2, W2⟩ := gn.to W1 hT
  have S2 := (S.ext E1 W.dl).ext E2 W1.dl
  refine ⟨fun T i m H3 => ∃ stj, m = items.length - i ∧ WOk K ⟨tabs.l, T' P'⟩ δ O stj H3 ∧ Ext δ H2 H3 ∧ sgGo tg tt te (wipeR ρ (own.map (·.2))) T (items.drop i) stj = some (z, st'), ⟨_, st1, rfl, W2, Ext.refl _ _, f1⟩, ?_⟩
  rintro T i m H3 ⟨stj, rfl, W3, E3, hgo⟩
  have L3 : Lat2 δ O H1 O H3 := (Lat2.of E2).trans (Lat2.of E3)
  have hstep := hJ (T' P') O stj H3 W3 L3 i
  by_cases hi : i < items.length
  · refine .inr ⟨(hstep.1 hi).1, fun x H4 hy => ?_⟩
    obtain ⟨E4, W4, d, hd, r4⟩ := (hstep.1 hi).2 x H4 hy
    have hdrop : items.drop i = d :: items.drop (i + 1) := by
      rw [List.drop_eq_getElem_cons hi]
      rw [List.getElem?_eq_getElem hi] at hd
      cases hd
      rfl
    rw [hdrop] at hgo
    obtain ⟨ρ1, sta, ga, ha⟩ := bnd_some hgo
    obtain ⟨ga2, rfl⟩ := up_some ga
    obtain ⟨b, stb, gb, hb⟩ := bnd_some ha
    have S4 : Slots K δ O (wipeR ρ (own.map (·.2))) (_root_.L2.wipe σ (own.map (·.2))) H4 := (S2.ext (E3.trans E4) W2.dl).wipe _
    refine ⟨δ, O, _, d, ρ1, S4, r4, ga2, fun σ' S' hk => ⟨wipe_eq ?_ fun j hj => hk j fun z => hj (hsub j z), ?_⟩⟩
    · rw [← S'.len, storeT_len ga2, wipeR_len, S.len]
    refine ⟨δ, O, ρ1, _, b, stb, S', W4, gb, fun H5 E5 W5 => ?_⟩
    cases b with
    | false =>
      exact iteF ⟨_, by omega, stb, rfl, W5, E3.trans (E4.trans E5), by simpa using hb⟩
    | true =>
      refine iteT ?_
      rw [if_pos rfl] at hb
      obtain ⟨y, stc, gc, hc'⟩ := bnd_some hb
      obtain ⟨b, std, gd, hd'⟩ := bnd_some hc'
      obtain ⟨gd2, rfl⟩ := up_some gd
      refine ⟨δ, O, ρ1, stb, y, _, S'.ext E5 W4.dl, W5, gc, fun w H6 E6 W6 R6 => ?_⟩
      unfold sgGo.intB at gd2
      split at gd2
      · cases gd2
        cases R6
        exact ⟨b, rfl, _, by omega, _, rfl, W6, E3.trans (E4.trans (E5.trans E6)), hd'⟩
      · cases gd2
  · refine .inl ⟨hstep.2 (by omega), ?_⟩
    rw [List.drop_of_length_le (by omega)] at hgo
    obtain ⟨rfl, rfl⟩ := pur_some hgo
    exact c _ _ (E1.trans (E2.trans E3)) (gn.un W3) (.int _)
variable {X : Cx}
theorem ex_sum {c P : Addr} {tgE elt iter : Expr} {ifs : List Expr} {p pos gpos : Pos} {scope : Scope} {own : List (PySem.Str × Nat)} {it : SemL} {tg : Tg} {tt : SemB} {te : Sem1} {Pre : Hp → Prop} {A : Value → Addr → Hp → Hp → Prop} {T' : Addr → List Addr} (hc : X.calm = true) (hN : X.N.Nodup)
    (hroom : X.A.depth < recursionLimit) (hg : Gl X "sum") (hm : X.mg "sum" = none) (hb : bootBuiltins "sum" = some (.builtin "sum")) (TB : CodeSrc X c P) (LK : Looks P Pre A) (gn : Gn tabs Pre A T') (hcode : X.env.code = .ref c) (ok : GenOk X.N X.env.scope scope own) (hi : PI X tgE iter (RdIt X.K tabs it))
    (hG : ∀ (s : Shared) (H : Hp) (code : Value) (fp : List Addr), PG (X.gen s H scope code fp) tgE (RdG X.K tg)) (ht : ∀ (s : Shared) (H : Hp) (code : Value) (P' : Addr) (fp : List Addr), (∃ H1, A code P' H1 H) → PTs (X.gen s H scope code fp) ifs (RdB X.K ⟨tabs.l, T' P'⟩ tt)) (he : ∀ (s : Shared) (H : Hp) (code : Value) (P' : Addr) (fp : List Addr), (∃ H1, A code P' H1 H) → PE (X.gen s H scope code fp) elt (Rd1 X.K ⟨tabs.l, T' P'⟩ te))
    (hs : ∀ v, genFold iter X.env v = pure v) (hsub : ∀ j ∈ tg.slots, j ∈ own.map (·.2)) :
    PE X (.Call (.Name "sum" p) [.GeneratorExp elt [⟨tgE, iter, ifs, 0⟩] scope gpos] [] pos) (Rd1 X.K tabs (sgR it tg (own.map (·.2)) tt te)) :=
  PE.imp (pe_sumG hc hN hroom hg hm hb TB LK hcode ok hi hG ht he hs) fun σ H Q h => sg_to gn hsub h
end
end Fo
/-! the draws -/
namespace Fo
open PySem PySem.Spec PyProof.Rows L2
section
variable {X : Cx} {tabs : Tb} {δ : Option Addr} {O0 : Addr → Prop} {H0 : Hp}
def drK (st : Dr) : Int → Option Int
  | 1 => some st.i
  | 2 => some st.s
  | 3 => some st.c
  | _ => none
def drR (i : Nat) (k : Int) : Sem1 := fun ρ st => match drO ρ[i]?, drK st k with
  | some _, some n => some (.int n, st)
  | _, _ => none
theorem drR_some {i : Nat} {k : Int} {ρ : Rho} {st st' : Dr} {z : PyData} (h : drR i k ρ st = some (z, st')) : ρ[i]? = some (some .dr) ∧ st' = st ∧ ∃ n, drK st k = some n ∧ z = .int n := by
  unfold drR at h
  split at h
  · rename_i u n e1 e2
    cases h
    exact ⟨drO_some e1, rfl, n, e2, rfl⟩
  · cases h
theorem drK_at {K : PySem.W.Frag} {H : Hp} {sa : Addr} {st : Dr} {k n : Int} (h : drK st k = some n) : atI [V.ref sa, .int st.i, .int st.s, .int st.c] k = some (.int n) := by
  unfold drK at h
  split at h <;> first | (cases h; rfl) | cases h
theorem dr_at {K : PySem.W.Frag} {O : Addr → Prop} {ρ : Rho} {σ : L2.St} {H : Hp} {st : Dr} {i : Nat} (S : Slots K δ O ρ σ H) (W : WOk K tabs δ O st H) (h : ρ[i]? = some (some .dr)) : ∃ a sa, δ = some a ∧ σ[i]? = some (some (.ref a)) ∧ H a = some (.lst [.ref sa, .int st.i, .int st.s, .int st.c]) ∧ SqL K (mask O H) sa (st.sc.map V.int) := by
  obtain ⟨v, h1, a, hδ, rfl⟩ := S.at_ i _ h
  obtain ⟨_, sa, h2, h3⟩ := W.dr a hδ
  exact ⟨a, sa, hδ, h1, h2, h3⟩
theorem ex_dr {i : Nat} {x : PySem.Str} {k : Int} {p p2 pos : Pos} {j : Nat} (hN : X.N[i]? = some x) (hv : Vis X.env.scope x) (hd : (x == ("__debug__" : PySem.Str)) = false) (hcd : (x == ("__classdict__" : PySem.Str)) = false) :
    PE X (.Subscript (.Name x p) (.Constant (.int k) j p2) pos) (Rd1 X.K tabs (drR i k)) :=
  PE.imp (pe_ix ix_list (pe_var hN hv hd hcd) pe_int fun _ _ => rfl) fun σ H Q ⟨δ, O, ρ, st, z, st', S, W, e, c⟩ => by
    obtain ⟨e1, rfl, n, e2, rfl⟩ := drR_some e
    obtain ⟨a, sa, hδ, h1, h2, h3⟩ := dr_at S W e1
    exact ⟨_, h1, a, _, k, .int n, rfl, rfl, SqL.of h2, drK_at (K := X.K) (H := H) e2, c _ H (Ext.refl _ _) W (.int _)⟩
def drLen (i : Nat) : Sem1 := fun ρ st => match drO ρ[i]? with
  | some _ => some (.int st.sc.length, st)
  | _ => none
theorem drLen_some {i : Nat} {ρ : Rho} {st st' : Dr} {z : PyData} (h : drLen i ρ st = some (z, st')) : ρ[i]? = some (some .dr) ∧ st' = st ∧ z = .int st.sc.length := by
  unfold drLen at h
  split at h
  · rename_i u e1
    cases h
    exact ⟨drO_some e1, rfl, rfl⟩
  · cases h
theorem ex_drLen {i : Nat} {x : PySem.Str} {p p1 p2 p3 pos : Pos} {j : Nat} (hN : X.N[i]? = some x) (hv : Vis X.env.scope x) (hd : (x == ("__debug__" : PySem.Str)) = false) (hcd : (x == ("__classdict__" : PySem.Str)) = false) (hg : Gl X "len") (hm : X.mg "len" = none) :
    PE X (.Call (.Name "len" p1) [.Subscript (.Name x p) (.Constant (.int 0) j p2) p3] [] pos) (Rd1 X.K tabs (drLen i)) :=
  PE.imp (pe_callB call_len hg hm (by decide +kernel) (pa_cons (pe_ix ix_list (pe_var hN hv hd hcd) pe_int fun _ _ => rfl) pa_nil rfl) (by decide) (by decide) rfl rfl) fun σ H Q ⟨δ, O, ρ, st, z, st', S, W, e, c⟩ => by
    obtain ⟨e1, rfl, rfl⟩ := drLen_some e
    obtain ⟨a, sa, hδ, h1, h2, h3⟩ := dr_at S W e1
    refine ⟨_, h1, a, _, 0, .ref sa, rfl, rfl, SqL.of h2, rfl, _, (st'.sc.map V.int).length, rfl, .inl ⟨_, rds_mask.seqL h3, rfl⟩, ?_⟩
    rw [List.length_map]
    exact c _ H (Ext.refl _ _) W (.int _)
def drGet (i : Nat) (m : Sem1) : Sem1 := fun ρ st => match drO ρ[i]?, m ρ st with
  | some _, some (.int k, st1) => (atI st.sc k).map fun n => (.int n, st1)
  | _, _ => none
theorem ex_drGet {i : Nat} {x : PySem.Str} {e : Expr} {m : Sem1} {p p2 p3 pos : Pos} {j : Nat} (hN : X.N[i]? = some x) (hv : Vis X.env.scope x) (hd : (x == ("__debug__" : PySem.Str)) = false) (hcd : (x == ("__classdict__" : PySem.Str)) = false) (he : PE X e (RdT X.K tabs m)) (hs : PlainIx e) :
    PE X (.Subscript (.Subscript (.Name x p) (.Constant (.int 0) j p2) p3) e pos) (Rd1 X.K tabs (drGet i m)) :=
  PE.imp (pe_ix ix_list (pe_ix ix_list (pe_var hN hv hd hcd) pe_int fun _ _ => rfl) he hs) fun σ H Q ⟨δ, O, ρ, st, z, st', S, W, e, c⟩ => by
    unfold drGet at e
    split at e
    · rename_i u k st1 e2 e1
      cases e3 : atI st.sc k with
      | none => rw [e3] at e; cases e
      | some n =>
        rw [e3] at e
        cases e
        obtain ⟨a, sa, hδ, h1, h2, h3⟩ := dr_at S W (drO_some e2)
        refine ⟨_, h1, a, _, 0, .ref sa, rfl, rfl, SqL.of h2, rfl, δ, O, ρ, st, .int k, _, S, W, e1, fun w H1 E1 W1 R1 => ?_⟩
        refine ⟨sa, _, k, .int n, rfl, R1.int, rds_mask.seqL ((rds_ext E1 W.dl).seqL h3), ?_, c _ H1 E1 W1 (.int _)⟩
        unfold atI at e3 ⊢
        rw [List.length_map]
        cases e4 : ixN st.sc.length k with
        | none => rw [e4] at e3; cases e3
        | some q =>
          rw [e4] at e3
          show (st.sc.map V.int)[q]? = some (.int n)
          rw [List.getElem?_map, show st.sc[q]? = some n from e3]
          rfl
    · cases e
/-! ### x[k] = e -/
def drPut (st : Dr) : Int → PyData → Option Dr
  | 1, .int n => some { st with i := n }
  | 2, .int n => some { st with s := n }
  | 3, .int n => some { st with c := n }
  | _, _ => none
def drSet (i : Nat) (k : Int) (m : Sem1) : SemS := fun ρ st => match m ρ st, drO ρ[i]? with
  | some (d, st1), some _ => (drPut st1 k d).map fun st2 => (.nx ρ, st2)
  | _, _ => none
theorem s_drSet {i : Nat} {x : PySem.Str} {k : Int} {e : Expr} {m : Sem1} {px p2 tpos pos : Pos} {j : Nat} (hN : X.N[i]? = some x) (hv : Vis X.env.scope x) (hd : (x == ("__debug__" : PySem.Str)) = false) (hcd : (x == ("__classdict__" : PySem.Str)) = false) (he : PE X e (Rd1 X.K tabs m))
    (hs : swapsWithSole [.Subscript (.Name x px) (.Constant (.int k) j p2) tpos] e pos.line X.env = pure false) (hw : swappedStores [.Subscript (.Name x px) (.Constant (.int k) j p2) tpos] e X.env = pure none) :
    PS X (.Assign [.Subscript (.Name x px) (.Constant (.int k) j p2) tpos] e pos) (RdS X.K tabs δ O0 H0 (drSet i k m)) :=
  PS.imp (ps_asg he (pg_sub (pe_var hN hv hd hcd) pe_int set_list fun _ => rfl) hs hw rfl) fun D σ H ⟨O, ρ, st, out, st', B, S, W, e, f⟩ => by
    unfold drSet at e
    split at e
    · rename_i d st1 u e1 e2
      cases e3 : drPut st1 k d with
      | none => rw [e3] at e; cases e
      | some st2 =>
        rw [e3] at e
        cases e
        refine ⟨δ, O, ρ, st, d, _, S, W, e1, fun w H1 E1 W1 R1 => ?_⟩
        have S1 := S.ext E1 W.dl
        obtain ⟨a, sa, hδ, h1, h2, h3⟩ := dr_at S1 W1 (drO_some e2)
        have hu : ∀ ys, Ext δ H1 (L2.upd H1 a (.lst ys)) := fun ys => ⟨fun b o q hb _ => by rw [upd_ne fun z => hb (by rw [z, hδ])]; exact q, fun b ps q => ⟨ps, by rw [upd_ne fun z => by rw [z, h2] at q; cases q]; exact q⟩, fun b q => by
          by_cases hb : b = a
          · subst hb; rw [upd_same] at q; cases q
          · rw [upd_ne hb] at q; exact q⟩
        have go : ∀ st2 : Dr, st2.sc = st1.sc → WOk X.K tabs δ O st2 (L2.upd H1 a (.lst [.ref sa, .int st2.i, .int st2.s, .int st2.c])) := fun st2 hsc => ⟨fun P hP => (W1.tab P hP).keep (fun b ps q1 => by rw [upd_ne fun z => by rw [z, h2] at q1; cases q1]; exact q1) (fun b o q1 => by rw [upd_ne fun z => by rw [z, h2] at q1; cases q1]; exact q1), fun P hP => ⟨(W1.tab2 P hP).1, TabG.keep (W1.tab2 P hP).2 (fun b ps q1 => by rw [upd_ne fun z => by rw [z, h2] at q1; cases q1]; exact q1)⟩, fun a' ha' => by
            rw [hδ] at ha'
            cases ha'
            exact ⟨W1.dl a hδ, sa, upd_same, by rw [hsc]; exact (rds_ext (hu _) W1.dl).seqL h3⟩, fun b hb => by
            have := W1.own b hb
            by_cases hba : b = a
            · subst hba; rw [upd_same]; exact fun z => nomatch z
            · rw [upd_ne hba]; exact this⟩
        have fin : ∀ (st2 : Dr), FinAt X.K tabs δ O0 H0 O H ρ st2 D.nx → ∀ ys, st2.sc = st1.sc → ys = [V.ref sa, .int st2.i, .int st2.s, .int st2.c] → D.nx σ (L2.upd H1 a (.lst ys)) := fun st2 f ys hsc hys => by
          subst hys
          exact f O σ _ (B.of ((Lat2.of (O := O) E1).trans (Lat2.of (O := O) (hu _)))) (S1.ext (hu _) W1.dl) (go st2 hsc) ((rds_ext E1 W.dl).trans (rds_ext (hu _) W1.dl))
        unfold drPut at e3
        split at e3
        · cases e3
          cases R1
          exact ⟨_, h1, a, _, _, 1, rfl, rfl, h2, rfl, fin _ f _ rfl rfl⟩
        · cases e3
          cases R1
          exact ⟨_, h1, a, _, _, 2, rfl, rfl, h2, rfl, fin _ f _ rfl rfl⟩
        · cases e3
          cases R1
          exact ⟨_, h1, a, _, _, 3, rfl, rfl, h2, rfl, fin _ f _ rfl rfl⟩
        · cases e3
    · cases e
end
end Fo
/-! dicts, keys ints or texts -/
namespace Fo
open PySem PySem.Spec PyProof.Rows L2
def kOf : PyData → Option Key
  | .int i => some (.inl i)
  | .str x => some (.inr x)
  | _ => none
theorem kOf_keyD (k : Key) : kOf (keyD k) = some k := by cases k <;> rfl
theorem kOf_some {d : PyData} {k : Key} (h : kOf d = some k) : d = keyD k := by
  cases d <;> first | cases h | skip
  · rfl
  · rfl
def dkOf : List (PyData × PyData) → Option (List (Key × PyData))
  | [] => some []
  | p :: r => match kOf p.1, dkOf r with
    | some k, some ps => some ((k, p.2) :: ps)
    | _, _ => none
def encK (ps : List (Key × PyData)) : List (PyData × PyData) := ps.map fun p => (keyD p.1, p.2)
theorem dkOf_enc : ∀ ps : List (Key × PyData), dkOf (encK ps) = some ps
  | [] => rfl
  | p :: r => by
    show (match kOf (keyD p.1), dkOf (encK r) with | some k, some ps => some ((k, p.2) :: ps) | _, _ => none) = _
    rw [kOf_keyD, dkOf_enc r]
theorem dkOf_some : ∀ {kvs : List (PyData × PyData)} {ps : List (Key × PyData)}, dkOf kvs = some ps → kvs = encK ps
  | [], _, h => by cases h; rfl
  | p :: r, ps, h => by
    unfold dkOf at h
    split at h
    · rename_i k qs h1 h2
      cases h
      rw [dkOf_some h2]
      show p :: _ = (keyD k, p.2) :: _
      rw [← kOf_some h1]
      rfl
    · cases h
theorem enc_zip : ∀ (ks : List Key) (ds : List PyData), (ks.map keyD).zip ds = encK (ks.zip ds)
  | [], _ => rfl
  | _ :: _, [] => rfl
  | k :: ks, d :: ds => by
    have h := enc_zip ks ds
    show (keyD k, d) :: ((ks.map keyD).zip ds) = (keyD k, d) :: encK (ks.zip ds)
    exact congrArg _ h
/-- entries -/
def KR (K : PySem.W.Frag) (H : Hp) (a : Key × V) (b : Key × PyData) : Prop := a.1 = b.1 ∧ Rp K H a.2 b.2
abbrev KRs (K : PySem.W.Frag) (H : Hp) (vs : List (Key × V)) (ps : List (Key × PyData)) : Prop := Paired (KR K H) vs ps
section
variable {K : PySem.W.Frag} {H H2 : Hp}
theorem krs_zip : ∀ {ks : List Key} {xs : List V} {ds : List PyData}, ks.length = xs.length → RpAll K H xs ds → KRs K H (ks.zip xs) (ks.zip ds)
  | [], [], [], _, _ => .nil
  | [], _ :: _, _, h, _ => by simp at h
  | _ :: _, [], _, h, _ => by simp at h
  | k :: ks, x :: xs, d :: ds, h, .cons r rs => .cons ⟨rfl, r⟩ (krs_zip (by simpa using h) rs)
theorem krs_un : ∀ {vs : List (Key × V)} {ps : List (Key × PyData)}, KRs K H vs ps → ∃ (ks : List Key) (xs : List V) (ds : List PyData), vs = ks.zip xs ∧ ks.length = xs.length ∧ RpAll K H xs ds ∧ ps = ks.zip ds
  | _, _, .nil => ⟨[], [], [], rfl, rfl, .nil, rfl⟩
  | v :: vs, p :: ps, .cons h t => by
    obtain ⟨ks, xs, ds, e1, e2, e3, e4⟩ := krs_un t
    refine ⟨p.1 :: ks, v.2 :: xs, p.2 :: ds, ?_, by simp [e2], .cons h.2 e3, ?_⟩
    · rw [e1, ← h.1]; rfl
    · rw [e4]; rfl
theorem KRs.mono (r : Rds H H2) : ∀ {vs : List (Key × V)} {ps : List (Key × PyData)}, KRs K H vs ps → KRs K H2 vs ps
  | _, _, .nil => .nil
  | _, _, .cons h t => .cons ⟨h.1, h.2.mono r⟩ (KRs.mono r t)
theorem KRs.len : ∀ {vs : List (Key × V)} {ps : List (Key × PyData)}, KRs K H vs ps → vs.length = ps.length
  | _, _, .nil => rfl
  | _, _, .cons h t => by rw [List.length_cons, List.length_cons, KRs.len t]
def vl (ps : List (Key × PyData)) (k : Key) : Option PyData := (ps.find? fun p => decide (p.1 = k)).map (·.2)
def ptD (ps : List (Key × PyData)) (k : Key) (d : PyData) : List (Key × PyData) :=
  if (ps.any fun p => decide (p.1 = k)) = true then ps.map (fun p => if p.1 = k then (p.1, d) else p) else ps ++ [(k, d)]
theorem krs_vl (k : Key) : ∀ {vs : List (Key × V)} {ps : List (Key × PyData)}, KRs K H vs ps → (valV vs k = none ∧ vl ps k = none) ∨ ∃ v d, valV vs k = some v ∧ vl ps k = some d ∧ Rp K H v d
  | _, _, .nil => .inl ⟨rfl, rfl⟩
  | v :: vs, p :: ps, .cons h t => by
    by_cases e : p.1 = k
    · refine .inr ⟨v.2, p.2, valV_pos (by rw [h.1, e]), ?_, h.2⟩
      unfold vl
      simp [List.find?_cons, e]
    · have e2 : ¬ v.1 = k := by rw [h.1]; exact e
      have e3 : vl (p :: ps) k = vl ps k := by
        unfold vl
        simp [List.find?_cons, e]
      rw [valV_neg e2, e3]
      exact krs_vl k t
theorem krs_any (k : Key) : ∀ {vs : List (Key × V)} {ps : List (Key × PyData)}, KRs K H vs ps → (vs.any fun p => decide (p.1 = k)) = ps.any fun p => decide (p.1 = k)
  | _, _, .nil => rfl
  | v :: vs, p :: ps, .cons h t => by
    rw [List.any_cons, List.any_cons, krs_any k t, h.1]
theorem krs_map (k : Key) {v : V} {d : PyData} (r : Rp K H v d) : ∀ {vs : List (Key × V)} {ps : List (Key × PyData)}, KRs K H vs ps → KRs K H (vs.map fun p => if p.1 = k then (p.1, v) else p) (ps.map fun p => if p.1 = k then (p.1, d) else p)
  | _, _, .nil => .nil
  | w :: vs, p :: ps, .cons h t => by
    rw [List.map_cons, List.map_cons]
    refine .cons ?_ (krs_map k r t)
    by_cases e : p.1 = k
    · rw [if_pos e, if_pos (by rw [h.1]; exact e)]
      exact ⟨h.1, r⟩
    · rw [if_neg e, if_neg (by rw [h.1]; exact e)]
      exact h
theorem krs_snoc {a : Key × V} {b : Key × PyData} (h : KR K H a b) : ∀ {vs : List (Key × V)} {ps : List (Key × PyData)}, KRs K H vs ps → KRs K H (vs ++ [a]) (ps ++ [b])
  | _, _, .nil => .cons h .nil
  | _, _, .cons q t => .cons q (krs_snoc h t)
theorem krs_put (k : Key) {v : V} {d : PyData} (r : Rp K H v d) {vs : List (Key × V)} {ps : List (Key × PyData)} (h : KRs K H vs ps) : KRs K H (putK vs k v) (ptD ps k d) := by
  unfold putK ptD
  rw [krs_any k h]
  split
  · exact krs_map k r h
  · exact krs_snoc ⟨rfl, r⟩ h
theorem key_rp {δ : Option Addr} {O : Addr → Prop} {w : V} {d : PyData} {k : Key} (h : TRp K δ O H w d) (e : kOf d = some k) : w = kV k := by
  rw [kOf_some e] at h
  cases k with
  | inl i => exact h.int
  | inr x => exact h.str
/-- a dict keyed by ints or texts, however it is held -/
theorem dkOf_nk {es : Obj} {a : Addr} {xs : List NE} (c : DNc a es xs) {vs : List V} (h4 : Vals vs (xs.map (·.2.2))) {K : PySem.W.Frag} {H : Hp} {ds : List PyData} (h5 : RpAll K H vs ds) : dkOf ((nkD xs).zip ds) = none := by
  cases xs with
  | nil => exact absurd rfl c.ne
  | cons x xs =>
    obtain ⟨l, e⟩ := c.tp x (List.mem_cons_self ..)
    have hl := h5.length
    have hv := Paired.length h4
    cases ds with
    | nil => rw [hv] at hl; simp at hl
    | cons d ds =>
      unfold nkD
      rw [List.map_cons, List.zip_cons_cons, e]
      unfold dkOf
      simp [NestedKey.data, kOf]
theorem DkAt.dK {a : Addr} {o : Option HO} {kvs : List (PyData × PyData)} {ps : List (Key × PyData)} (h : DkAt K H a o kvs) (e : dkOf kvs = some ps) : ∃ vs, o = some (.dK vs) ∧ KRs K H vs ps := by
  rcases h with ⟨ks, xs, ds, h1, h2, h3, h4⟩ | ⟨es, xs, vs, ds, h1, h2, h3, h4, h5, h6⟩
  · rw [h4, enc_zip, dkOf_enc] at e
    cases e
    exact ⟨_, h1, krs_zip h2 h3⟩
  · rw [h6, dkOf_nk h2 h4 h5] at e
    cases e
theorem TRp.dk {δ : Option Addr} {O : Addr → Prop} {w : V} {kvs : List (PyData × PyData)} (h : TRp K δ O H w (.dict kvs)) : ∃ a, w = .ref a ∧ DkAt K (mask O H) a (H a) kvs := by
  rcases h with h | ⟨a, e1, _, _, h⟩
  · obtain ⟨a, e, q⟩ := h.dk
    exact ⟨a, e, q.to fun u z _ => (mask_some.mp z).2⟩
  · exact ⟨a, e1, h⟩
theorem TRp.dK {δ : Option Addr} {O : Addr → Prop} {w : V} {kvs : List (PyData × PyData)} {ps : List (Key × PyData)} (h : TRp K δ O H w (.dict kvs)) (e : dkOf kvs = some ps) : ∃ a vs, w = .ref a ∧ H a = some (.dK vs) ∧ KRs K (mask O H) vs ps := by
  obtain ⟨a, e1, q⟩ := h.dk
  obtain ⟨vs, h1, h2⟩ := q.dK e
  exact ⟨a, vs, e1, h1, h2⟩
theorem slot_dK {δ : Option Addr} {O : Addr → Prop} {a : Addr} {vs : List (Key × V)} {ps : List (Key × PyData)} (ha : O a) (hd : δ ≠ some a) (h : H a = some (.dK vs)) (r : KRs K (mask O H) vs ps) : Slot1 K δ O H (.ref a) (.ow (.dict (encK ps))) := by
  obtain ⟨ks, xs, ds, e1, e2, e3, e4⟩ := krs_un r
  subst e1
  refine ⟨a, rfl, ha, hd, .inl ⟨ks, xs, ds, h, e2, e3, ?_⟩⟩
  rw [e4, enc_zip]
end
end Fo
namespace Fo
open PySem PySem.Spec PyProof.Rows L2
section
variable {X : Cx} {tabs : Tb}
def inDV (neg : Bool) (d e : PyData) : Option PyData := match e with
  | .dict kvs => (match kOf d, dkOf kvs with
    | some k, some ps => some (.bool (if neg then !(vl ps k).isSome else (vl ps k).isSome))
    | _, _ => none)
  | e => inV neg d e
theorem vl_some {K : PySem.W.Frag} {H : Hp} {vs : List (Key × V)} {ps : List (Key × PyData)} (h : KRs K H vs ps) (k : Key) : (valV vs k).isSome = (vl ps k).isSome := by
  rcases krs_vl k h with ⟨e1, e2⟩ | ⟨v, d, e1, e2, _⟩
  · rw [e1, e2]; rfl
  · rw [e1, e2]; rfl
theorem os_inD (hu : X.A.units + 65 < cLine) (neg : Bool) : OpS X (compareOp (if neg then .NotIn else .In)) (inDV neg) := by
  intro pins s σ H x y v u tabs δ O st d e z Q I rx ry W hx hy hz c
  unfold inDV at hz
  split at hz
  · split at hz
    · rename_i k ps e1 e2
      cases hz
      obtain ⟨a, vs, rfl, h1, h2⟩ := hy.dK e2
      have hk := key_rp hx e1
      subst hk
      obtain rfl : u = Value.ref a := ry
      have g : DGet H a (kV k) (valV vs k) := .k h1
      cases neg with
      | false =>
        refine d_in (by omega) I g rx fun s' I' => ⟨.bl _, H, I', rfl, ?_⟩
        rw [vl_some h2 k]
        exact c.same W (.bl _)
      | true =>
        refine d_notIn (by omega) I g rx fun s' I' => ⟨.bl _, H, I', rfl, ?_⟩
        rw [vl_some h2 k]
        exact c.same W (.bl _)
    · cases hz
  · exact os_in hu neg pins s σ H x y v u tabs δ O st d e z Q I rx ry W hx hy hz c
end
end Fo
namespace Fo
open PySem PySem.Spec PyProof.Rows L2
section
variable {K : PySem.W.Frag} {tabs : Tb} {δ : Option Addr} {O0 O O2 : Addr → Prop} {ρ : Rho} {σ : L2.St} {H0 H H2 : Hp} {st : Dr}
/-- an owned object is changed -/
theorem own_putG {i : Nat} {a : Addr} {d0 d1 : PyData} {o : HO} (B : Base δ O0 H0 O H ρ σ) (S : Slots K δ O ρ σ H) (W : WOk K tabs δ O st H) (hi : ρ[i]? = some (some (.ow d0))) (hv : σ[i]? = some (some (.ref a))) (hmu : Mut (H a)) (hs : Slot1 K δ O (L2.upd H a o) (.ref a) (.ow d1)) :
    Base δ O0 H0 O (L2.upd H a o) (ρ.set i (some (.ow d1))) σ ∧ Slots K δ O (ρ.set i (some (.ow d1))) σ (L2.upd H a o) ∧ WOk K tabs δ O st (L2.upd H a o) ∧ Rds (mask O H) (mask O (L2.upd H a o)) := by
  obtain ⟨v, q1, q2⟩ := S.at_ i _ hi
  rw [hv] at q1
  cases q1
  obtain ⟨b, e, ho, hne, hn⟩ := q2.owA
  cases e
  have h0 := B.own i _ a hi hv
  have rd : Rds (mask O H) (mask O (L2.upd H a o)) := rds_upd ho
  refine ⟨⟨B.lat.upd h0 hne, fun j d b q1 q2 => ?_, B.o0⟩, ⟨fun j en q => ?_, fun j l d1 e1 v1 hne q1 q2 q3 => ?_, by rw [List.length_set, S.len]⟩, W.upd ho hn hmu, rd⟩
  · rcases get_set_some q1 with ⟨rfl, z⟩ | ⟨n, q1⟩
    · exact B.own i _ b hi q2
    · exact B.own j d b q1 q2
  · rcases get_set_some q with ⟨rfl, rfl⟩ | ⟨n, q⟩
    · exact ⟨_, hv, hs⟩
    · obtain ⟨u, w1, w2⟩ := S.at_ j _ q
      refine ⟨u, w1, ?_⟩
      cases en with
      | va d => exact Rp.mono rd w2
      | dr => exact w2
      | ow d =>
        obtain ⟨b, rfl, _⟩ := w2.owA
        have hb : b ≠ a := fun z => S.inj i j _ _ _ n hi q hv (z ▸ w1)
        cases d with
        | list ds =>
          obtain ⟨b', xs, e, o, n, k1, k2⟩ := w2
          cases e
          exact ⟨b, xs, rfl, o, n, by rw [upd_ne hb]; exact k1, k2.mono rd⟩
        | dict kvs =>
          obtain ⟨b', e, o, n, q⟩ := w2
          cases e
          refine ⟨b, rfl, o, n, ?_⟩
          rw [upd_ne hb]
          exact q.mono rd
        | _ => exact w2
  · rcases get_set_some q1 with ⟨rfl, z1⟩ | ⟨n1, q1⟩
    · rcases get_set_some q2 with ⟨rfl, z⟩ | ⟨n2, q2⟩
      · exact absurd rfl hne
      · exact S.inj i l _ e1 v1 hne hi q2 q3
    · rcases get_set_some q2 with ⟨rfl, z⟩ | ⟨n2, q2⟩
      · exact S.inj j i d1 _ v1 hne q1 hi q3
      · exact S.inj j l d1 e1 v1 hne q1 q2 q3
variable {X : Cx}
/-! ### d[k], d[k] = e -/
def getDV (d e : PyData) : Option PyData := match d with
  | .dict kvs => (match kOf e, dkOf kvs with
    | some k, some ps => vl ps k
    | _, _ => none)
  | _ => none
theorem ex_dget (hu : X.A.units + 65 < cLine) {a b : Expr} {ma mb : Sem1} {pos : Pos} (ha : PE X a (RdT X.K tabs ma)) (hb : PE X b (RdT X.K tabs mb)) (hs : NoSl b) : PE X (.Subscript a b pos) (Rd1 X.K tabs (binR getDV ma mb)) :=
  PE.imp (pe_dget (by omega) ha hb hs) fun σ H Q h => by
    obtain ⟨δ, O, ρ, st, z, st', S, W, e, c⟩ := h
    obtain ⟨x, st1, e1, f1⟩ := bnd_some e
    obtain ⟨y, st2, e2, f2⟩ := bnd_some f1
    obtain ⟨g3, rfl⟩ := up_some f2
    refine ⟨δ, O, ρ, st, x, st1, S, W, e1, fun w H1 E1 W1 R1 => ?_⟩
    refine ⟨δ, O, ρ, st1, y, _, S.ext E1 W.dl, W1, e2, fun w2 H2 E2 W2 R2 => ?_⟩
    have R1' := R1.ext E2 W1
    unfold getDV at g3
    split at g3
    · split at g3
      · rename_i k ps q1 q2
        obtain ⟨p, vs, rfl, h1, h2⟩ := R1'.dK q2
        have hk := key_rp R2 q1
        subst hk
        rcases krs_vl k h2 with ⟨_, z2⟩ | ⟨v, d, z1, z2, r⟩
        · rw [z2] at g3; cases g3
        · rw [z2] at g3
          cases g3
          refine ⟨p, v, rfl, ?_, c v H2 (E1.trans E2) W2 r⟩
          rw [← z1]
          exact .k h1
      · cases g3
    · cases g3
def putO (ρ : Rho) (i : Nat) (k d : PyData) : Option Rho := match ρ[i]?, kOf k with
  | some (some (.ow (.dict kvs))), some kk => (match dkOf kvs with
    | some ps => if ps.length < 1000000 then some (ρ.set i (some (.ow (.dict (encK (ptD ps kk d)))))) else none
    | none => none)
  | _, _ => none
def putS (i : Nat) (mk m : Sem1) : SemS := fun ρ => do let d ← m ρ; let k ← mk ρ; let ρ' ← up (putO ρ i k d); pure (.nx ρ')
theorem s_put (hu : X.A.units + 65 < cLine) {i : Nat} {x : PySem.Str} {e ix : Expr} {m mk : Sem1} {px tpos pos : Pos} (hN : X.N[i]? = some x) (hv : Vis X.env.scope x) (hd : (x == ("__debug__" : PySem.Str)) = false) (hcd : (x == ("__classdict__" : PySem.Str)) = false) (he : PE X e (Rd1 X.K tabs m)) (hk : PE X ix (RdT X.K tabs mk))
    (hs : swapsWith e (some (.Subscript (.Name x px) ix tpos)) pos.line X.env = pure false) :
    PS X (.Assign [.Subscript (.Name x px) ix tpos] e pos) (RdS X.K tabs δ O0 H0 (putS i mk m)) :=
  PS.imp (ps_dput (by omega) (pe_var hN hv hd hcd) hk he hs) fun D σ H ⟨O, ρ, st, out, st', B, S, W, e, f⟩ => by
    obtain ⟨d, st1, e1, f1⟩ := bnd_some e
    obtain ⟨k, st2, e2, f2⟩ := bnd_some f1
    obtain ⟨ρ', st3, e3, f3⟩ := bnd_some f2
    obtain ⟨g, rfl⟩ := up_some e3
    obtain ⟨rfl, rfl⟩ := pur_some f3
    unfold putO at g
    split at g
    · rename_i kvs kk hi hkk
      split at g
      · rename_i ps hps
        split at g
        · rename_i hl
          cases g
          refine ⟨δ, O, ρ, st, d, _, S, W, e1, fun w H1 E1 W1 R1 => ?_⟩
          have S1 := S.ext E1 W.dl
          obtain ⟨v, z1, z2⟩ := S1.at_ i _ hi
          refine ⟨v, z1, δ, O, ρ, st1, k, _, S1, W1, e2, fun u H2 E2 W2 R2 => ?_⟩
          have S2 := S1.ext E2 W1.dl
          obtain ⟨v', y1, y2⟩ := S2.at_ i _ hi
          rw [z1] at y1
          cases y1
          obtain ⟨a, rfl, ho, hne, hδ⟩ := y2.owA
          obtain ⟨a', vs, ea, h1, h2⟩ := TRp.dK (.inr y2) hps
          cases ea
          have hk2 := key_rp R2 hkk
          subst hk2
          have L := (Lat2.of (O := O) E1).trans (Lat2.of (O := O) E2)
          have rd : Rds (mask O H2) (mask O (L2.upd H2 a (.dK (putK vs kk w)))) := rds_upd ho
          have hs1 : Slot1 X.K δ O (L2.upd H2 a (.dK (putK vs kk w))) (.ref a) (.ow (.dict (encK (ptD ps kk d)))) := slot_dK ho hδ upd_same ((krs_put kk (R1.mono (rds_ext E2 W1.dl)) h2).mono rd)
          obtain ⟨P1, P2, P3, P4⟩ := own_putG (B.of L) S2 W2 hi z1 (by rw [h1]; trivial) hs1
          exact ⟨a, _, rfl, .k h1 (by rw [h2.len]; exact Nat.lt_of_lt_of_le hl (line_le (Nat.le_refl _))), f O σ _ P1 P2 P3 ((L.rds W.dl).trans P4)⟩
        · cases g
      · cases g
    · cases g
/-! ### a new dict -/
def newD : Sem1 := fun _ => pure (.dict [])
theorem ef_dnew {pos : Pos} : PE X (.Dict [] [] pos) (RdF X.K tabs newD) :=
  PE.imp pe_dnewK fun σ H Q ⟨δ, O, ρ, st, z, st', S, W, e, c⟩ => by
    obtain ⟨rfl, rfl⟩ := pur_some e
    intro p hp
    exact c p _ hp (Lat2.newOwn hp) (W.newOwn hp) (slot_dK (ps := []) (vs := []) (.inr rfl) (W.ne_new hp) upd_same .nil)
end
end Fo
/-! dicts whose keys are tuples, nested or not -/
namespace Fo
open PySem PySem.Spec PyProof.Rows L2
mutual
def nkOf : PyData → Option NestedKey
  | .none => some .none
  | .int i => some (.num i)
  | .tuple ds => (nksOf ds).map .tup
  | _ => none
def nksOf : List PyData → Option (List NestedKey)
  | [] => some []
  | d :: ds => match nkOf d, nksOf ds with
    | some k, some ks => some (k :: ks)
    | _, _ => none
end
mutual
theorem nkOf_data : ∀ {d : PyData} {k : NestedKey}, nkOf d = some k → k.data = d
  | .none, k, h => by unfold nkOf at h; cases h; rfl
  | .int i, k, h => by unfold nkOf at h; cases h; rfl
  | .tuple ds, k, h => by
    unfold nkOf at h
    cases e : nksOf ds with
    | none => rw [e] at h; cases h
    | some ks =>
      rw [e] at h
      cases h
      unfold NestedKey.data
      rw [nksOf_datas e]
  | .bool _, _, h => by unfold nkOf at h; cases h
  | .str _, _, h => by unfold nkOf at h; cases h
  | .list _, _, h => by unfold nkOf at h; cases h
  | .dict _, _, h => by unfold nkOf at h; cases h
theorem nksOf_datas : ∀ {ds : List PyData} {ks : List NestedKey}, nksOf ds = some ks → NestedKey.datas ks = ds
  | [], ks, h => by unfold nksOf at h; cases h; rfl
  | d :: ds, ks, h => by
    unfold nksOf at h
    split at h
    · rename_i k ks' h1 h2
      cases h
      unfold NestedKey.datas
      rw [nkOf_data h1, nksOf_datas h2]
    · cases h
end
mutual
theorem nkOf_hash : ∀ {d : PyData} {k : NestedKey}, nkOf d = some k → ∀ w w' : World, k.hash w = k.hash w'
  | .none, k, h, w, w' => by unfold nkOf at h; cases h; rfl
  | .int i, k, h, w, w' => by unfold nkOf at h; cases h; rfl
  | .tuple ds, k, h, w, w' => by
    unfold nkOf at h
    cases e : nksOf ds with
    | none => rw [e] at h; cases h
    | some ks =>
      rw [e] at h
      cases h
      unfold NestedKey.hash
      rw [nksOf_hash e w w']
  | .bool _, _, h, _, _ => by unfold nkOf at h; cases h
  | .str _, _, h, _, _ => by unfold nkOf at h; cases h
  | .list _, _, h, _, _ => by unfold nkOf at h; cases h
  | .dict _, _, h, _, _ => by unfold nkOf at h; cases h
theorem nksOf_hash : ∀ {ds : List PyData} {ks : List NestedKey}, nksOf ds = some ks → ∀ w w' : World, NestedKey.hashes w ks = NestedKey.hashes w' ks
  | [], ks, h, w, w' => by unfold nksOf at h; cases h; rfl
  | d :: ds, ks, h, w, w' => by
    unfold nksOf at h
    split at h
    · rename_i k ks' h1 h2
      cases h
      unfold NestedKey.hashes
      rw [nkOf_hash h1 w w', nksOf_hash h2 w w']
    · cases h
end
mutual
theorem data_inj : ∀ {a b : NestedKey}, a.data = b.data → a = b
  | .none, b, h => by cases b <;> simp_all [NestedKey.data]
  | .num i, b, h => by cases b <;> simp_all [NestedKey.data]
  | .text i, b, h => by cases b <;> simp_all [NestedKey.data]
  | .tup ks, b, h => by
    cases b with
    | tup ls =>
      unfold NestedKey.data at h
      injection h with h
      rw [datas_inj h]
    | _ => simp [NestedKey.data] at h
theorem datas_inj : ∀ {a b : List NestedKey}, NestedKey.datas a = NestedKey.datas b → a = b
  | [], b, h => by cases b <;> simp_all [NestedKey.datas]
  | k :: ks, b, h => by
    cases b with
    | nil => simp [NestedKey.datas] at h
    | cons l ls =>
      unfold NestedKey.datas at h
      injection h with h1 h2
      rw [data_inj h1, datas_inj h2]
end
/-- a key that is a tuple -/
def tkOf (d : PyData) : Option NestedKey := match d with
  | .tuple ds => (nksOf ds).bind fun ks => if (NestedKey.tup ks).depth ≤ 8 then some (.tup ks) else none
  | _ => none
theorem tkOf_some {d : PyData} {k : NestedKey} (h : tkOf d = some k) : nkOf d = some k ∧ k.depth ≤ 8 ∧ ∃ l, k = .tup l := by
  unfold tkOf at h
  split at h
  · rename_i ds
    cases e : nksOf ds with
    | none => rw [e] at h; cases h
    | some ks =>
      rw [e] at h
      have h : (if (NestedKey.tup ks).depth ≤ 8 then some (NestedKey.tup ks) else none) = some k := h
      split at h
      · rename_i hd
        cases h
        refine ⟨?_, hd, _, rfl⟩
        unfold nkOf
        rw [e]
        rfl
      · cases h
  · cases h
def dnOf : List (PyData × PyData) → Option (List (NestedKey × PyData))
  | [] => some []
  | p :: r => match tkOf p.1, dnOf r with
    | some k, some ps => some ((k, p.2) :: ps)
    | _, _ => none
def encN (ps : List (NestedKey × PyData)) : List (PyData × PyData) := ps.map fun p => (p.1.data, p.2)
theorem dnOf_some : ∀ {kvs : List (PyData × PyData)} {ps : List (NestedKey × PyData)}, dnOf kvs = some ps → kvs = encN ps
  | [], _, h => by cases h; rfl
  | p :: r, ps, h => by
    unfold dnOf at h
    split at h
    · rename_i k qs h1 h2
      cases h
      rw [dnOf_some h2]
      show p :: _ = (k.data, p.2) :: _
      rw [nkOf_data (tkOf_some h1).1]
      rfl
    · cases h
/-- an entry stands for one -/
def NR (K : PySem.W.Frag) (M : Hp) (x : NE) (p : NestedKey × PyData) : Prop := x.1 = p.1 ∧ (tkOf x.1.data = some x.1 ∧ Rp K M (.ref x.2.1) x.1.data) ∧ ∃ v, RelV v x.2.2 ∧ Rp K M v p.2
structure NAt (K : PySem.W.Frag) (M : Hp) (a : Addr) (o : Option HO) (xs : List NE) (ps : List (NestedKey × PyData)) : Prop where
  ob : (o = some (.dK []) ∧ xs = []) ∨ ∃ es, o = some (.ext (dnP a es)) ∧ DNc a es xs
  vs : Paired (NR K M) xs ps
section
variable {K : PySem.W.Frag} {M M' H : Hp} {a : Addr} {o : Option HO}
theorem nr_of : ∀ {xs : List NE} {vs : List V} {ds : List PyData} {ps : List (NestedKey × PyData)}, RpAll K M (nkV xs) (nkD xs) → Vals vs (xs.map (·.2.2)) → RpAll K M vs ds → dnOf ((nkD xs).zip ds) = some ps → Paired (NR K M) xs ps
  | [], vs, ds, ps, _, _, _, h => by cases h; exact .nil
  | x :: xs, [], _, _, _, v, _, _ => by cases v
  | x :: xs, v :: vs, [], _, _, _, q, _ => by cases q
  | x :: xs, v :: vs, d :: ds, ps, .cons k ks, .cons r rs, .cons q qs, h => by
    have h : dnOf ((x.1.data, d) :: (nkD xs).zip ds) = some ps := h
    unfold dnOf at h
    split at h
    · rename_i k' ps' h1 h2
      cases h
      have e : k' = x.1 := data_inj (nkOf_data (tkOf_some h1).1)
      subst e
      exact .cons ⟨rfl, ⟨h1, k⟩, v, r, q⟩ (nr_of ks rs qs h2)
    · cases h
theorem of_nr : ∀ {xs : List NE} {ps : List (NestedKey × PyData)}, Paired (NR K M) xs ps → RpAll K M (nkV xs) (nkD xs) ∧ ∃ vs ds, Vals vs (xs.map (·.2.2)) ∧ RpAll K M vs ds ∧ encN ps = (nkD xs).zip ds
  | _, _, .nil => ⟨.nil, [], [], .nil, .nil, rfl⟩
  | x :: xs, p :: ps, .cons h t => by
    obtain ⟨h1, h2, v, h3, h4⟩ := h
    obtain ⟨q1, vs, ds, q2, q3, q4⟩ := of_nr t
    refine ⟨.cons h2.2 q1, v :: vs, p.2 :: ds, .cons h3 q2, .cons h4 q3, ?_⟩
    show (p.1.data, p.2) :: encN ps = (x.1.data, p.2) :: (nkD xs).zip ds
    rw [q4, h1]
theorem DkAt.nt {kvs : List (PyData × PyData)} {ps : List (NestedKey × PyData)} (h : DkAt K M a o kvs) (e : dnOf kvs = some ps) : ∃ xs, NAt K M a o xs ps := by
  rcases h with ⟨ks, xs, ds, h1, h2, h3, h4⟩ | ⟨es, xs, vs, ds, h1, h2, h3, h4, h5, h6⟩
  · subst h4
    cases ks with
    | nil =>
      cases xs with
      | nil => cases e; exact ⟨[], .inl ⟨h1, rfl⟩, .nil⟩
      | cons x xs => simp at h2
    | cons k ks =>
      cases xs with
      | nil => simp at h2
      | cons x xs =>
        cases h3 with
        | cons q qs =>
          rename_i d ds
          have e : dnOf ((keyD k, d) :: (ks.map keyD).zip ds) = some ps := e
          unfold dnOf at e
          cases k <;> simp [keyD, tkOf] at e
  · subst h6
    exact ⟨xs, .inr ⟨es, h1, h2⟩, nr_of h3 h4 h5 e⟩
theorem NAt.dk {xs : List NE} {ps : List (NestedKey × PyData)} (h : NAt K M a o xs ps) : DkAt K M a o (encN ps) := by
  obtain ⟨q1, vs, ds, q2, q3, q4⟩ := of_nr h.vs
  rcases h.ob with ⟨h1, h2⟩ | ⟨es, h1, h2⟩
  · subst h2
    cases h.vs
    exact .inl ⟨[], [], [], h1, rfl, .nil, rfl⟩
  · exact .inr ⟨es, xs, vs, ds, h1, h2, q1, q2, q3, q4⟩
theorem NR.mono (r : Rds M M') {x : NE} {p : NestedKey × PyData} (h : NR K M x p) : NR K M' x p := by
  obtain ⟨h1, h2, v, h3, h4⟩ := h
  exact ⟨h1, ⟨h2.1, h2.2.mono r⟩, v, h3, h4.mono r⟩
theorem NRs.mono (r : Rds M M') : ∀ {xs : List NE} {ps : List (NestedKey × PyData)}, Paired (NR K M) xs ps → Paired (NR K M') xs ps
  | _, _, .nil => .nil
  | _, _, .cons h t => .cons (h.mono r) (NRs.mono r t)
def vlN (ps : List (NestedKey × PyData)) (k : NestedKey) : Option PyData := (ps.find? fun p => decide (p.1 = k)).map (·.2)
def ptN (ps : List (NestedKey × PyData)) (k : NestedKey) (d : PyData) : List (NestedKey × PyData) :=
  if (vlN ps k).isSome = true then ps.map (fun p => if p.1 = k then (p.1, d) else p) else ps ++ [(k, d)]
theorem nr_vl (k : NestedKey) : ∀ {xs : List NE} {ps : List (NestedKey × PyData)}, Paired (NR K M) xs ps → (atKey xs k = none ∧ vlN ps k = none) ∨ ∃ p v d, atKey xs k = some p ∧ vlN ps k = some d ∧ RelV v p.2 ∧ Rp K M v d
  | _, _, .nil => .inl ⟨rfl, rfl⟩
  | x :: xs, p :: ps, .cons h t => by
    obtain ⟨h1, h2, v, h3, h4⟩ := h
    by_cases e : p.1 = k
    · refine .inr ⟨x.2, v, p.2, ?_, ?_, h3, h4⟩
      · unfold atKey; simp [List.find?_cons, h1, e]
      · unfold vlN; simp [List.find?_cons, e]
    · have e1 : atKey (x :: xs) k = atKey xs k := by
        unfold atKey
        rw [List.find?_cons, h1]
        simp [e]
      have e2 : vlN (p :: ps) k = vlN ps k := by
        unfold vlN
        rw [List.find?_cons]
        simp [e]
      rw [e1, e2]
      exact nr_vl k t
theorem nr_some (k : NestedKey) {xs : List NE} {ps : List (NestedKey × PyData)} (h : Paired (NR K M) xs ps) : (atKey xs k).isSome = (vlN ps k).isSome := by
  rcases nr_vl k h with ⟨e1, e2⟩ | ⟨p, v, d, e1, e2, _⟩ <;> rw [e1, e2] <;> rfl
theorem nr_map (k : NestedKey) {v : V} {u : Value} {d : PyData} (rv : RelV v u) (r : Rp K M v d) : ∀ {xs : List NE} {ps : List (NestedKey × PyData)}, Paired (NR K M) xs ps → Paired (NR K M) (xs.map (putAt k u)) (ps.map fun p => if p.1 = k then (p.1, d) else p)
  | _, _, .nil => .nil
  | x :: xs, p :: ps, .cons h t => by
    rw [List.map_cons, List.map_cons]
    refine .cons ?_ (nr_map k rv r t)
    obtain ⟨h1, h2, w, h3, h4⟩ := h
    unfold putAt
    by_cases e : p.1 = k
    · rw [if_pos e, if_pos (by rw [h1]; exact e)]
      exact ⟨h1, h2, v, rv, r⟩
    · rw [if_neg e, if_neg (by rw [h1]; exact e)]
      exact ⟨h1, h2, w, h3, h4⟩
theorem nr_snoc {x : NE} {p : NestedKey × PyData} (h : NR K M x p) : ∀ {xs : List NE} {ps : List (NestedKey × PyData)}, Paired (NR K M) xs ps → Paired (NR K M) (xs ++ [x]) (ps ++ [p])
  | _, _, .nil => .cons h .nil
  | _, _, .cons q t => .cons q (nr_snoc h t)
theorem nr_put (k : NestedKey) {b : Addr} {v : V} {u : Value} {d : PyData} (tk : tkOf k.data = some k) (rk : Rp K M (.ref b) k.data) (rv : RelV v u) (r : Rp K M v d) {xs : List NE} {ps : List (NestedKey × PyData)} (h : Paired (NR K M) xs ps) : Paired (NR K M) (storedH xs k b u) (ptN ps k d) := by
  unfold storedH ptN
  rw [nr_some k h]
  split
  · exact nr_map k rv r h
  · exact nr_snoc ⟨rfl, ⟨tk, rk⟩, v, rv, r⟩ h
/-- the entries behind d[k] = u -/
theorem dnc_put {xs : List NE} {k : NestedKey} {b : Addr} {u : Value} {o : Obj} {ar : Array DictEntry} {ep : Nat} (w0 : World) (lo : (a == sysModules) = false) (c : xs = [] ∨ ∃ es, DNc a es xs) (hh : ∀ w w' : World, k.hash w = k.hash w') (hd : k.depth ≤ 8) (ht : ∃ l, k = .tup l)
    (hx0 : o.ExactDict) (hdt : o.data = .dict ar ep) (har : ar.toList = (storedH xs k b u).map fun x => ⟨x.1.hash w0, .ref x.2.1, x.2.2⟩) : DNc a o (storedH xs k b u) := by
  have hx : (∀ x ∈ xs, (∀ w w' : World, x.1.hash w = x.1.hash w') ) := by
    rcases c with rfl | ⟨es, c⟩
    · intro x hx; cases hx
    · intro x hx w w'
      obtain ⟨ar, ep, _, q⟩ := c.eq
      have e := (q w).symm.trans (q w')
      have := List.map_inj_left.mp e x hx
      exact (DictEntry.mk.inj this).1
  have hx2 : ∀ x ∈ xs, x.1.depth ≤ 8 ∧ ∃ l, x.1 = .tup l := by
    rcases c with rfl | ⟨es, c⟩
    · intro x hx; cases hx
    · exact fun x hx => ⟨c.dp x hx, c.tp x hx⟩
  have hnd : (xs.map (·.1)).Nodup := by
    rcases c with rfl | ⟨es, c⟩
    · exact .nil
    · exact c.nd
  have key : ∀ x ∈ storedH xs k b u, x.1 = k ∨ ∃ y ∈ xs, y.1 = x.1 := by
    intro x hx
    unfold storedH at hx
    split at hx
    · obtain ⟨y, hy, rfl⟩ := List.mem_map.mp hx
      refine .inr ⟨y, hy, ?_⟩
      unfold putAt
      split <;> rfl
    · rcases List.mem_append.mp hx with z | z
      · exact .inr ⟨x, z, rfl⟩
      · rw [List.mem_singleton.mp z]; exact .inl rfl
  refine ⟨lo, hx0, ⟨ar, ep, hdt, fun w => har.trans ?_⟩, ?_, fun x hx' => ?_, ?_, fun x hx' => ?_⟩
  · refine List.map_congr_left fun x hx' => ?_
    have : x.1.hash w0 = x.1.hash w := by
      rcases key x hx' with e | ⟨y, hy, e⟩
      · rw [e]; exact hh _ _
      · rw [← e]; exact hx y hy _ _
    rw [this]
  · unfold storedH
    split
    · rw [List.map_map]
      have : ((fun x : NE => x.1) ∘ putAt k u) = fun x => x.1 := by
        funext x
        show (putAt k u x).1 = x.1
        unfold putAt
        split <;> rfl
      rw [this]
      exact hnd
    · rename_i hn
      rw [List.map_append]
      refine List.nodup_append.mpr ⟨hnd, by simp, ?_⟩
      intro z hz y hy e
      rw [List.map_cons, List.map_nil, List.mem_singleton] at hy
      obtain ⟨x, hx', rfl⟩ := List.mem_map.mp hz
      apply hn
      unfold atKey
      rw [Option.isSome_map, List.find?_isSome]
      exact ⟨x, hx', by rw [e, hy]; simp⟩
  · rcases key x hx' with e | ⟨y, hy, e⟩
    · rw [e]; exact hd
    · rw [← e]; exact (hx2 y hy).1
  · unfold storedH
    split
    · rename_i hs
      intro e
      rw [List.map_eq_nil_iff] at e
      rw [e] at hs
      cases hs
    · simp
  · rcases key x hx' with e | ⟨y, hy, e⟩
    · rw [e]; exact ht
    · rw [← e]; exact (hx2 y hy).2
end
/-! ### at the heap -/
section
variable {P : Program} {w : World} {K : PySem.W.Frag} {H : Hp} {h : Heap}
mutual
theorem nis_of (I : HOk P w H h) : ∀ {d : PyData} {k : NestedKey} {v : V} {u : Value}, nkOf d = some k → Rp K H v d → RelV v u → NestedIs h k u
  | .none, k, v, u, e, r, q => by unfold nkOf at e; cases e; cases r; cases q; exact .none
  | .int i, k, v, u, e, r, q => by
    unfold nkOf at e
    cases e
    cases r
    obtain ⟨t, rfl⟩ := q
    exact .int i t
  | .tuple ds, k, v, u, e, r, q => by
    unfold nkOf at e
    cases e2 : nksOf ds with
    | none => rw [e2] at e; cases e
    | some ks =>
      rw [e2] at e
      cases e
      cases r with
      | tup hh rr =>
        rename_i a xs
        obtain rfl : u = Value.ref a := q
        obtain ⟨_, its, rv, ob, ho, hc, n, hd⟩ := I a _ hh
        exact .tup ho hc hd (by simpa using niss_of I e2 rr rv)
  | .bool _, _, _, _, e, _, _ => by unfold nkOf at e; cases e
  | .str _, _, _, _, e, _, _ => by unfold nkOf at e; cases e
  | .list _, _, _, _, e, _, _ => by unfold nkOf at e; cases e
  | .dict _, _, _, _, e, _, _ => by unfold nkOf at e; cases e
theorem niss_of (I : HOk P w H h) : ∀ {ds : List PyData} {ks : List NestedKey} {vs : List V} {us : List Value}, nksOf ds = some ks → RpAll K H vs ds → Vals vs us → NestedAll h ks us
  | [], ks, vs, us, e, r, q => by unfold nksOf at e; cases e; cases r; cases q; exact .nil
  | d :: ds, ks, vs, us, e, r, q => by
    unfold nksOf at e
    split at e
    · rename_i k ks' h1 h2
      cases e
      cases r with
      | cons r1 r2 =>
        cases q with
        | cons q1 q2 => exact .cons (nis_of I h1 r1 q1) (niss_of I h2 r2 q2)
    · cases e
end
mutual
theorem nkOf_back : ∀ {k : NestedKey} {d : PyData}, k.data = d → (∃ k', nkOf d = some k') → nkOf d = some k
  | k, d, e, ⟨k', h⟩ => by
    have := nkOf_data h
    rw [← e] at this
    rw [h, data_inj this]
end
theorem tk_is (I : HOk P w H h) {d : PyData} {k : NestedKey} {v : V} (e : tkOf d = some k) (r : Rp K H v d) : ∃ b, v = .ref b ∧ (nestedKind P w).is h k b := by
  obtain ⟨h1, h2, l, h3⟩ := tkOf_some e
  have hd := nkOf_data h1
  subst h3
  cases d with
  | tuple ds =>
    cases r with
    | tup hh rr => exact ⟨_, rfl, nis_of I h1 (.tup hh rr) rfl, h2⟩
  | _ => simp [tkOf] at e
end
end Fo
namespace Fo
open PySem PySem.Spec PyProof.Rows L2
section
variable {X : Cx} {tabs : Tb} {pins : List (Addr × Obj)} {σ : L2.St} {H M : Hp} {s : Shared} {a : Addr} {A : Around} {E : Value → Shared → Prop} {xs : List NE} {ps : List (NestedKey × PyData)}
abbrev nk (X : Cx) : HeapKind X.prog X.w NestedKey := nestedKind X.prog X.w
theorem NAt.heap (n : NAt X.K M a (H a) xs ps) (r : Rds M H) (I : Inv X pins σ H s) : (a == sysModules) = false ∧ s.heap.DictOfH (nk X) a xs := by
  rcases n.ob with ⟨h1, h2⟩ | ⟨es, h1, h2⟩
  · subst h2
    obtain ⟨z, hd, vs, rel, ob, es, ep, g1, g2, g3, _, g5, _⟩ := dk_of I.hok h1
    cases rel
    refine ⟨hd, ob, es, ep, g1, g2, g3, ?_, (fun x hx => by cases hx), List.Pairwise.nil⟩
    cases e : es.toList with
    | nil => rfl
    | cons q qs => rw [e] at g5; cases g5
  · obtain ⟨g1, _⟩ := (show ObjOk X.prog X.w H s.heap a (.ext (dnP a es)) from I.hok a _ h1)
    obtain ⟨ar, ep, g3, g4⟩ := h2.eq
    refine ⟨h2.lo, es, ar, ep, g1, h2.xd, g3, g4 X.w, fun x hx => ?_, h2.nd⟩
    have key : ∀ {xs : List NE} {ps : List (NestedKey × PyData)}, Paired (NR X.K M) xs ps → ∀ x ∈ xs, (nk X).is s.heap x.1 x.2.1 := by
      intro xs ps h
      induction h with
      | nil => intro x hx; cases hx
      | cons h t ih =>
        intro x hx
        rcases List.mem_cons.mp hx with e | hx
        · subst e
          obtain ⟨_, ⟨q1, q2⟩, _⟩ := h
          obtain ⟨b, e1, e2⟩ := tk_is (P := X.prog) (w := X.w) I.hok q1 (q2.mono r)
          cases e1
          exact e2
        · exact ih x hx
    exact key n.vs x hx
theorem nk_room {A : Around} (hu : A.units + 65 < cLine) : (nk X).room A.in1 := by
  show A.units + 1 + 8 < cLine
  omega
theorem nk_room0 {A : Around} (hu : A.units + 65 < cLine) : (nk X).room A := by
  show A.units + 8 < cLine
  omega
/-- the new description, after a store -/
theorem n_stored {k : NestedKey} {b : Addr} {v : V} {u : Value} {d : PyData} {h' : Heap} {t' : Nat} (n : NAt X.K M a (H a) xs ps) (r : Rds M H) (I : Inv X pins σ H s) (tk : tkOf k.data = some k) (dd : h'.DictOfH (nk X) a (storedH xs k b u)) (sb : Heap.SameBut a s.heap h') :
    ∃ es, DNc a es (storedH xs k b u) ∧ Inv X pins σ (L2.upd H a (.ext (dnP a es))) { s with heap := h', toks := t' } := by
  obtain ⟨h1, h2, h3⟩ := tkOf_some tk
  have lo := (n.heap r I).1
  obtain ⟨ob, ar, ep, g1, g2, g3, g4, _, _⟩ := dd
  have c := dnc_put (a := a) (xs := xs) (k := k) (b := b) (u := u) X.w lo (n.ob.elim (fun q => .inl q.2) fun ⟨es, _, q⟩ => .inr ⟨es, q⟩) (nkOf_hash h1) h2 h3 g2 g3 g4
  refine ⟨ob, c, d_write I ?_ sb ⟨ob, g1⟩ ⟨g1, ⟨ob, g1⟩, ?_⟩⟩
  · rcases n.ob with ⟨q, _⟩ | ⟨es, q, _⟩ <;> rw [q] <;> trivial
  · intro h1 h2 q1 k
    exact k _ q1
/-! ### in -/
def inNV (neg : Bool) (d e : PyData) : Option PyData := match e with
  | .dict kvs => (match tkOf d, dnOf kvs with
    | some k, some ps => some (.bool (if neg then !(vlN ps k).isSome else (vlN ps k).isSome))
    | _, _ => inDV neg d (.dict kvs))
  | e => inDV neg d e
theorem os_inN (hu : X.A.units + 65 < cLine) (neg : Bool) : OpS X (compareOp (if neg then .NotIn else .In)) (inNV neg) := by
  intro pins s σ H x y v u tabs δ O st d e z Q I rx ry W hx hy hz c
  unfold inNV at hz
  split at hz
  · split at hz
    · rename_i k ps e1 e2
      cases hz
      obtain ⟨a, rfl, q⟩ := hy.dk
      obtain ⟨xs, n⟩ := q.nt e2
      obtain ⟨lo, dd⟩ := n.heap rds_mask I
      have hx' : Rp X.K H x d := by
        rcases hx with h | h
        · exact h.mono rds_mask
        · obtain ⟨h1, _, _⟩ := tkOf_some e1
          cases d <;> first | exact h.elim | simp [tkOf] at e1
      obtain ⟨b, rfl, hb⟩ := tk_is (P := X.prog) (w := X.w) I.hok e1 hx'
      obtain rfl : v = Value.ref b := rx
      obtain rfl : u = Value.ref a := ry
      cases neg with
      | false =>
        refine wpAny_in_heap (knd := nk X) (nk_room hu) hb lo dd ?_
        rw [nr_some k n.vs]
        exact ⟨.bl _, H, I.tok _, rfl, c.same W (.bl _)⟩
      | true =>
        refine wpAny_notIn_heap (knd := nk X) (nk_room hu) hb lo dd ?_
        rw [nr_some k n.vs]
        exact ⟨.bl _, H, I.tok _, rfl, c.same W (.bl _)⟩
    · exact os_inD hu neg pins s σ H x y v u tabs δ O st d _ z Q I rx ry W hx hy hz c
  · exact os_inD hu neg pins s σ H x y v u tabs δ O st d e z Q I rx ry W hx hy hz c
theorem tk_rp {K : PySem.W.Frag} {δ : Option Addr} {O : Addr → Prop} {x : V} {d : PyData} {k : NestedKey} (hx : TRp K δ O H x d) (e1 : tkOf d = some k) : Rp K (mask O H) x d := by
  rcases hx with h | h
  · exact h
  · cases d <;> first | exact h.elim | simp [tkOf] at e1
/-! ### d[k], whatever d is -/
def getW (d e : PyData) : Option PyData := match d with
  | .dict kvs => (match tkOf e, dnOf kvs with
    | some k, some ps => vlN ps k
    | _, _ => getDV (.dict kvs) e)
  | d => getV d e
def rDkG : R2 := fun x y H Q => ∃ a v, x = .ref a ∧ DGet H a y (some v) ∧ Q v H
theorem ix_dk (hu : X.A.units + 65 < cLine) : IxR X rDkG := by
  intro value slice pins s σ H x y v u Q I rx ry ⟨a, z, ex, g, q⟩ hs
  subst ex
  obtain rfl : v = Value.ref a := rx
  unfold subscriptTail
  refine wpAny_bind ?_
  have hT := dict_typeIs I g
  rw [getitemInPython_of_ne hT.not_modules]
  refine wpAny_bind (wpAny_specialOf hT PySem.F.slot_dict_getitem.lookup ?_)
  have fin : wpAny (model X.prog X.w) X.A (subscripted slice false (.ref a) u) (fun r s₃ => wpAny (model X.prog X.w) X.A (letTemporaryGo value (.ref a) r >>= fun _ => pure r) (EP X pins σ Q) X.xe s₃) X.xe s := by
    rw [hs]
    exact wpAny_operating (d_getItem (by omega) I g ry fun w' s3 I3 rw' => wpAny_bind (wpAny_letTemporaryGo (wpAny_pure ⟨z, H, I3, rw', q⟩)))
  first
    | exact wpAny_pure (wpAny_bind fin)
    | exact wpAny_bind (wpAny_pure (wpAny_bind fin))
    | exact wpAny_bind fin
/-- the tuple-keyed dict at a holds v at k -/
def rDnG (K : PySem.W.Frag) : R2 := fun x y H Q => ∃ a M xs ps k d, x = .ref a ∧ NAt K M a (H a) xs ps ∧ Rds M H ∧ tkOf d = some k ∧ Rp K M y d ∧ ∃ e, vlN ps k = some e ∧ ∀ w, Rp K M w e → Q w H
theorem ix_dn (hu : X.A.units + 65 < cLine) : IxR X (rDnG X.K) := by
  intro value slice pins s σ H x y v u Q I rx ry ⟨a, M, xs, ps, k, d, ex, n, r, e1, ry', e, ev, q⟩ hs
  subst ex
  obtain rfl : v = Value.ref a := rx
  obtain ⟨lo, dd⟩ := n.heap r I
  obtain ⟨b, rfl, hb⟩ := tk_is (P := X.prog) (w := X.w) I.hok e1 (ry'.mono r)
  obtain rfl : u = Value.ref b := ry
  rcases nr_vl k n.vs with ⟨_, z⟩ | ⟨p, w, d', z1, z2, z3, z4⟩
  · rw [z] at ev; cases ev
  · rw [z2] at ev
    cases ev
    exact subscriptTail_builtinR (x := p.2) (T := "dict") dd.typeIs PySem.F.slot_dict_getitem.lookup (wpAny_getItem_heap (knd := nk X) (nk_room hu) hb dd z1 ⟨rfl, w, H, I.tok _, z3, q w z4⟩) hs
theorem ex_ixW (hu : X.A.units + 65 < cLine) {a b : Expr} {ma mb : Sem1} {pos : Pos} (ha : PE X a (RdT X.K tabs ma)) (hb : PE X b (RdT X.K tabs mb)) (hs : PlainIx b) : PE X (.Subscript a b pos) (Rd1 X.K tabs (binR getW ma mb)) :=
  PE.imp (pe_ix (IxR.or (IxR.or ix_list ix_tup) (IxR.or (ix_dk hu) (ix_dn hu))) ha hb hs) fun σ H Q h => by
    obtain ⟨δ, O, ρ, st, z, st', S, W, e, c⟩ := h
    obtain ⟨x, st1, e1, f1⟩ := bnd_some e
    obtain ⟨y, st2, e2, f2⟩ := bnd_some f1
    obtain ⟨g3, rfl⟩ := up_some f2
    refine ⟨δ, O, ρ, st, x, st1, S, W, e1, fun w H1 E1 W1 R1 => ?_⟩
    refine ⟨δ, O, ρ, st1, y, _, S.ext E1 W.dl, W1, e2, fun w2 H2 E2 W2 R2 => ?_⟩
    have R1' := R1.ext E2 W1
    unfold getW at g3
    split at g3
    · split at g3
      · rename_i k ps q1 q2
        obtain ⟨p, rfl, q⟩ := R1'.dk
        obtain ⟨xs, n⟩ := q.nt q2
        exact .inr (.inr ⟨p, _, xs, ps, k, y, rfl, n, rds_mask, q1, tk_rp R2 q1, z, g3, fun w r => c w H2 (E1.trans E2) W2 r⟩)
      · simp only [getDV] at g3
        split at g3
        · rename_i k ps q1 q2
          obtain ⟨p, vs, rfl, h1, h2⟩ := R1'.dK q2
          have hk := key_rp R2 q1
          subst hk
          rcases krs_vl k h2 with ⟨_, z2⟩ | ⟨v, d, z1, z2, r⟩
          · rw [z2] at g3; cases g3
          · rw [z2] at g3
            cases g3
            refine .inr (.inl ⟨p, v, rfl, ?_, c v H2 (E1.trans E2) W2 r⟩)
            rw [← z1]
            exact .k h1
        · cases g3
    · unfold getV at g3
      split at g3
      · obtain ⟨p, vs, rfl, h1, h2⟩ := R1'.lst
        obtain ⟨v, k1, k2⟩ := atI_map h2 g3
        exact .inl (.inl ⟨p, vs, _, v, rfl, R2.int, SqL.of h1, k1, c v H2 (E1.trans E2) W2 k2⟩)
      · obtain ⟨p, vs, rfl, h1, h2, _⟩ := R1'.tup
        obtain ⟨v, k1, k2⟩ := atI_map h2 g3
        exact .inl (.inr ⟨p, vs, _, v, rfl, R2.int, SqT.of h1, k1, c v H2 (E1.trans E2) W2 k2⟩)
      · cases g3
/-! ### -e -/
def negV : PyData → Option PyData
  | .int i => some (.int (-i))
  | _ => none
theorem ex_neg {a : Expr} {pos : Pos} {m : Sem1} (ha : PE X a (RdT X.K tabs m)) : PE X (.UnaryOp .USub a pos) (Rd1 X.K tabs (unR negV m)) :=
  PE.imp (pe_un un_neg ha) fun σ H Q ⟨δ, O, ρ, st, z, st', S, W, e, c⟩ => by
    obtain ⟨x, st1, e1, f1⟩ := bnd_some e
    obtain ⟨g, rfl⟩ := up_some f1
    refine ⟨δ, O, ρ, st, x, _, S, W, e1, fun w H1 E1 W1 R1 => ?_⟩
    unfold negV at g
    split at g
    · cases g
      exact ⟨_, R1.int, c _ H1 E1 W1 (.int _)⟩
    · cases g
end
end Fo
namespace Fo
open PySem PySem.Spec PyProof.Rows L2
section
variable {X : Cx} {tabs : Tb} {pins : List (Addr × Obj)} {σ : L2.St} {H M : Hp} {s : Shared} {a : Addr} {A : Around} {E : Value → Shared → Prop} {xs : List NE} {ps : List (NestedKey × PyData)}
/-- a dict, whatever its keys -/
def IsDG (H : Hp) (a : Addr) : Prop := (∃ kvs, H a = some (.dK kvs)) ∨ ∃ es : Obj, (a == sysModules) = false ∧ es.ExactDict ∧ H a = some (.ext (dnP a es))
theorem DkAt.isDG {K : PySem.W.Frag} {kvs : List (PyData × PyData)} (h : DkAt K M a (H a) kvs) : IsDG H a := by
  rcases h with ⟨ks, xs, ds, h1, h2, h3, h4⟩ | ⟨es, xs, vs, ds, h1, h2, h3, h4, h5, h6⟩
  · exact .inl ⟨_, h1⟩
  · exact .inr ⟨_, h2.lo, h2.xd, h1⟩
theorem isDG_at (I : Inv X pins σ H s) (d : IsDG H a) : s.TypeIs (.ref a) "dict" ∧ (∀ b, Value.ref a = .ref b → ∃ ob, s.heap.get? b = some ob ∧ ob.dict = none) ∧ (a == sysModules) = false := by
  rcases d with ⟨kvs, e⟩ | ⟨es, lo, xd, e⟩
  · exact isD_at I (.inl ⟨kvs, .inl e⟩)
  · obtain ⟨g1, _⟩ := (show ObjOk X.prog X.w H s.heap a (.ext (dnP a es)) from I.hok a _ e)
    refine ⟨?_, fun b q => ?_, lo⟩
    · exact ⟨es, g1, xd.1⟩
    · cases q
      exact ⟨es, g1, xd.2.1⟩
/-! ### d.get(k), d.get(k, x) -/
def RGet (K : PySem.W.Frag) (H : Hp) (a : Addr) (y : V) (z : V) (Q : V → Prop) : Prop :=
  (∃ o, DGet H a y o ∧ Q (o.getD z)) ∨
  ∃ M xs ps k d, NAt K M a (H a) xs ps ∧ Rds M H ∧ tkOf d = some k ∧ Rp K M y d ∧ (vlN ps k = none → Q z) ∧ ∀ e, vlN ps k = some e → ∀ w, Rp K M w e → Q w
theorem rget_call1 (hu : A.units + 65 < cLine) (I : Inv X pins σ H s) {y : V} {u : Value} {Q : V → Prop} {P : Value → Shared → Prop} (g : RGet X.K H a y .non Q) (ry : RelV y u) (h : ∀ w w' s', Inv X pins σ H s' → RelV w w' → Q w → P w' s') :
    wpAny (model X.prog X.w) A (call (.builtin "dict.get") [.ref a, u]) P E s := by
  rcases g with ⟨o, g, q⟩ | ⟨M, xs, ps, k, d, n, r, e1, ry', q1, q2⟩
  · exact d_get1 (by omega) I g ry fun w' s' I' rw' => h _ w' s' I' rw' q
  · obtain ⟨lo, dd⟩ := n.heap r I
    obtain ⟨b, rfl, hb⟩ := tk_is (P := X.prog) (w := X.w) I.hok e1 (ry'.mono r)
    obtain rfl : u = Value.ref b := ry
    refine call_meetsIn PySem.F.slot_dict_get dd.typeIs PySem.F.entry_dict_get (PySem.F.args_dict_get_2 _ _) (meetsH_dict_get (nk X) a b lo) ⟨nk_room (X := X) hu, k, xs, hb, dd, ?_⟩
    rcases nr_vl k n.vs with ⟨z1, z2⟩ | ⟨p, w, d', z1, z2, z3, z4⟩
    · rw [z1]
      exact h .non .none _ (I.tok _) rfl (q1 z2)
    · rw [z1]
      exact h w p.2 _ (I.tok _) z3 (q2 d' z2 w z4)
theorem rget_call2 (hu : A.units + 65 < cLine) (I : Inv X pins σ H s) {y z : V} {u t : Value} {Q : V → Prop} {P : Value → Shared → Prop} (g : RGet X.K H a y z Q) (ry : RelV y u) (rz : RelV z t) (h : ∀ w w' s', Inv X pins σ H s' → RelV w w' → Q w → P w' s') :
    wpAny (model X.prog X.w) A (call (.builtin "dict.get") [.ref a, u, t]) P E s := by
  rcases g with ⟨o, g, q⟩ | ⟨M, xs, ps, k, d, n, r, e1, ry', q1, q2⟩
  · exact d_get2 (by omega) I g ry rz fun w' s' I' rw' => h _ w' s' I' rw' q
  · obtain ⟨lo, dd⟩ := n.heap r I
    obtain ⟨b, rfl, hb⟩ := tk_is (P := X.prog) (w := X.w) I.hok e1 (ry'.mono r)
    obtain rfl : u = Value.ref b := ry
    refine call_meetsIn PySem.F.slot_dict_get dd.typeIs PySem.F.entry_dict_get (PySem.F.args_dict_get_3 _ _ _) (meetsH_dict_get_default (nk X) a b lo t) ⟨nk_room (X := X) hu, k, xs, hb, dd, ?_⟩
    rcases nr_vl k n.vs with ⟨z1, z2⟩ | ⟨p, w, d', z1, z2, z3, z4⟩
    · rw [z1]
      exact h z t _ (I.tok _) rz (q1 z2)
    · rw [z1]
      exact h w p.2 _ (I.tok _) z3 (q2 d' z2 w z4)
def tGetG1 (K : PySem.W.Frag) (td ty : TE) : TE := fun σ H Q => td σ H fun x H1 => ∃ a, x = .ref a ∧ IsDG H1 a ∧ ty σ H1 fun y H2 => RGet K H2 a y .non fun w => Q w H2
def tGetG2 (K : PySem.W.Frag) (td ty tx : TE) : TE := fun σ H Q => td σ H fun x H1 => ∃ a, x = .ref a ∧ IsDG H1 a ∧ ty σ H1 fun y H2 => tx σ H2 fun z H3 => RGet K H3 a y z fun w => Q w H3
variable {o e f : Expr} {apos cpos : Pos} {td ty tx : TE}
theorem pe_getG1 (hu : X.A.units + 65 < cLine) (ho : PE X o td) (he : PE X e ty) (m : M1 X o "get" apos e cpos) : PE X (.Call (.Attribute o "get" apos) [e] [] cpos) (tGetG1 X.K td ty) :=
  ⟨fun pins s σ H Q I h => wpAny_Call_method m.base m.few m.line PySem.F.plainAttrs_dict PySem.F.slot_dict_get PySem.F.type_dict_get (thn (ho.run pins s σ H _ I h) (fun u s1 ⟨x, H1, I1, rx, a, ex, d, q1⟩ => by
    subst ex
    obtain rfl : u = Value.ref a := rx
    obtain ⟨t1, t2, _⟩ := isDG_at I1 d
    refine ⟨t1, t2, ?_⟩
    rw [m.trees]
    exact Calls.callWith_builtin rfl (Calls.evalArgs_plain (Calls.spliced_cons (thn (he.run pins s1 σ H1 _ I1 q1) fun iv s2 ⟨y, H2, I2, ry, g⟩ => Calls.spliced_nil (rget_call1 hu I2 g ry fun w w' s3 I3 rw' q2 => ⟨w, H2, I3, rw', q2⟩))))))⟩
theorem pe_getG2 (hu : X.A.units + 65 < cLine) (ho : PE X o td) (he : PE X e ty) (hf : PE X f tx) (m : M2 X o "get" apos e f cpos) : PE X (.Call (.Attribute o "get" apos) [e, f] [] cpos) (tGetG2 X.K td ty tx) :=
  ⟨fun pins s σ H Q I h => wpAny_Call_method m.base m.few m.line PySem.F.plainAttrs_dict PySem.F.slot_dict_get PySem.F.type_dict_get (thn (ho.run pins s σ H _ I h) (fun u s1 ⟨x, H1, I1, rx, a, ex, d, q1⟩ => by
    subst ex
    obtain rfl : u = Value.ref a := rx
    obtain ⟨t1, t2, _⟩ := isDG_at I1 d
    refine ⟨t1, t2, ?_⟩
    rw [m.trees]
    exact Calls.callWith_builtin rfl (Calls.evalArgs_plain (Calls.spliced_cons (thn (he.run pins s1 σ H1 _ I1 q1) fun iv s2 ⟨y, H2, I2, ry, q2⟩ => Calls.spliced_cons (thn (hf.run pins s2 σ H2 _ I2 q2) fun fv s3 ⟨z, H3, I3, rz, g⟩ => Calls.spliced_nil (rget_call2 hu I3 g ry rz fun w w' s4 I4 rw' q3 => ⟨w, H3, I4, rw', q3⟩)))))))⟩
/-- what d holds at e, z else -/
def getX (d e z : PyData) : Option PyData := match d with
  | .dict kvs => (match tkOf e, dnOf kvs with
    | some k, some ps => some ((vlN ps k).getD z)
    | _, _ => (match kOf e, dkOf kvs with
      | some k, some ps => some ((vl ps k).getD z)
      | _, _ => none))
  | _ => none
theorem getX_rget {K : PySem.W.Frag} {δ : Option Addr} {O : Addr → Prop} {a : Addr} {y z : V} {kvs : List (PyData × PyData)} {e x r : PyData} {Q : V → Prop} (q : DkAt K (mask O H) a (H a) kvs) (hy : TRp K δ O H y e) (hz : Rp K (mask O H) z x) (g : getX (.dict kvs) e x = some r) (c : ∀ w, Rp K (mask O H) w r → Q w) : RGet K H a y z Q := by
  simp only [getX] at g
  split at g
  · rename_i k ps q1 q2
    cases g
    obtain ⟨xs, n⟩ := q.nt q2
    refine .inr ⟨_, xs, ps, k, e, n, rds_mask, q1, tk_rp hy q1, fun en => c z (by rw [en]; exact hz), fun e' en w hw => c w (by rw [en]; exact hw)⟩
  · split at g
    · rename_i k ps q1 q2
      cases g
      obtain ⟨vs, h1, h2⟩ := q.dK q2
      have hk := key_rp hy q1
      subst hk
      refine .inl ⟨valV vs k, .k h1, ?_⟩
      rcases krs_vl k h2 with ⟨z1, z2⟩ | ⟨v, d, z1, z2, r⟩
      · rw [z1]
        exact c _ (by rw [z2]; exact hz)
      · rw [z1]
        exact c _ (by rw [z2]; exact r)
    · cases g
def getR1 (mo me : Sem1) : Sem1 := fun ρ => do let d ← mo ρ; let e ← me ρ; up (getX d e .none)
def getR2 (mo me mf : Sem1) : Sem1 := fun ρ => do let d ← mo ρ; let e ← me ρ; let z ← mf ρ; up (getX d e z)
theorem getX_dict {d e z r : PyData} (h : getX d e z = some r) : ∃ kvs, d = .dict kvs := by
  unfold getX at h
  split at h
  · exact ⟨_, rfl⟩
  · cases h
theorem ex_get1 (hu : X.A.units + 65 < cLine) {mo me : Sem1} (ho : PE X o (RdT X.K tabs mo)) (he : PE X e (RdT X.K tabs me)) (m : M1 X o "get" apos e cpos) : PE X (.Call (.Attribute o "get" apos) [e] [] cpos) (Rd1 X.K tabs (getR1 mo me)) :=
  PE.imp (pe_getG1 hu ho he m) fun σ H Q ⟨δ, O, ρ, st, z, st', S, W, e0, c⟩ => by
    obtain ⟨d, st1, e1, f1⟩ := bnd_some e0
    obtain ⟨y, st2, e2, f2⟩ := bnd_some f1
    obtain ⟨g, rfl⟩ := up_some f2
    obtain ⟨kvs, rfl⟩ := getX_dict g
    refine ⟨δ, O, ρ, st, _, st1, S, W, e1, fun w H1 E1 W1 R1 => ?_⟩
    obtain ⟨a, rfl, q⟩ := R1.dk
    refine ⟨a, rfl, q.isDG, δ, O, ρ, st1, y, _, S.ext E1 W.dl, W1, e2, fun w2 H2 E2 W2 R2 => ?_⟩
    obtain ⟨a', ea, q'⟩ := (R1.ext E2 W1).dk
    cases ea
    exact getX_rget q' R2 .non g fun w hw => c w H2 (E1.trans E2) W2 hw
theorem ex_get2 (hu : X.A.units + 65 < cLine) {mo me mf : Sem1} (ho : PE X o (RdT X.K tabs mo)) (he : PE X e (RdT X.K tabs me)) (hf : PE X f (Rd1 X.K tabs mf)) (m : M2 X o "get" apos e f cpos) : PE X (.Call (.Attribute o "get" apos) [e, f] [] cpos) (Rd1 X.K tabs (getR2 mo me mf)) :=
  PE.imp (pe_getG2 hu ho he hf m) fun σ H Q ⟨δ, O, ρ, st, z, st', S, W, e0, c⟩ => by
    obtain ⟨d, st1, e1, f1⟩ := bnd_some e0
    obtain ⟨y, st2, e2, f2⟩ := bnd_some f1
    obtain ⟨x, st3, e3, f3⟩ := bnd_some f2
    obtain ⟨g, rfl⟩ := up_some f3
    obtain ⟨kvs, rfl⟩ := getX_dict g
    refine ⟨δ, O, ρ, st, _, st1, S, W, e1, fun w H1 E1 W1 R1 => ?_⟩
    obtain ⟨a, rfl, q⟩ := R1.dk
    refine ⟨a, rfl, q.isDG, δ, O, ρ, st1, y, st2, S.ext E1 W.dl, W1, e2, fun w2 H2 E2 W2 R2 => ?_⟩
    refine ⟨δ, O, ρ, st2, x, _, (S.ext E1 W.dl).ext E2 W1.dl, W2, e3, fun w3 H3 E3 W3 R3 => ?_⟩
    obtain ⟨a', ea, q'⟩ := ((R1.ext E2 W1).ext E3 W2).dk
    cases ea
    exact getX_rget q' (R2.ext E3 W2) R3 g fun w hw => c w H3 ((E1.trans E2).trans E3) W3 hw
end
end Fo
namespace Fo
open PySem PySem.Spec PyProof.Rows L2
section
variable {X : Cx} {tabs : Tb} {δ : Option Addr} {O0 : Addr → Prop} {H0 : Hp}
theorem PS.or {s : Stmt} {t t' : TS} (h : PS X s t) (h' : PS X s t') : PS X s (fun D σ H => t D σ H ∨ t' D σ H) := ⟨fun pins s σ H D I q => q.elim (h.run pins s σ H D I) (h'.run pins s σ H D I)⟩
/-- d[k] = v, the key a tuple -/
def sNPut (K : PySem.W.Frag) (td ty tv : TE) : TS := fun D σ H => tv σ H fun v H1 => td σ H1 fun x H2 => ty σ H2 fun y H3 => ∃ a M xs ps k, x = .ref a ∧ NAt K M a (H3 a) xs ps ∧ Rds M H3 ∧ tkOf k.data = some k ∧ Rp K M y k.data ∧ xs.length < sizeLine ∧
  ∀ b u es, y = .ref b → RelV v u → DNc a es (storedH xs k b u) → D.nx σ (L2.upd H3 a (.ext (dnP a es)))
theorem ps_nput {o i value : Expr} {pos pos' : Pos} {td ty tv : TE} (hu : X.A.units + 65 < cLine) (ho : PE X o td) (hi : PE X i ty) (hv : PE X value tv) (hs : swapsWith value (some (.Subscript o i pos')) pos.line X.env = pure false) :
    PS X (.Assign [.Subscript o i pos'] value pos) (sNPut X.K td ty tv) :=
  ⟨fun pins s σ H D I h => wpAny_Assign_Subscript (thn (hv.run pins s σ H _ I h) fun r s1 ⟨v, H1, I1, rv, q1⟩ => thn (ho.run pins s1 σ H1 _ I1 q1) fun u s2 ⟨x, H2, I2, rx, q2⟩ => thn (hi.run pins s2 σ H2 _ I2 q2) fun iv s3 ⟨y, H3, I3, ry, a, M, xs, ps, k, ex, n, rM, tk, ry', hl, q3⟩ => by
    subst ex
    obtain rfl : u = Value.ref a := rx
    obtain ⟨lo, dd⟩ := n.heap rM I3
    obtain ⟨b, rfl, hb⟩ := tk_is (P := X.prog) (w := X.w) I3.hok tk (ry'.mono rM)
    obtain rfl : iv = Value.ref b := ry
    refine wpAny_setItem_heap (hsz := Nat.le_of_lt hl) (knd := nk X) (nk_room hu) hb dd fun h' dd' sb => ?_
    obtain ⟨es, c, I4⟩ := n_stored (t' := s3.toks + (nk X).draws k) (v := v) (d := .none) n rM I3 tk dd' sb
    exact ⟨σ, _, I4, q3 b r es rfl rv c⟩) hs⟩
def putN (ρ : Rho) (i : Nat) (k : NestedKey) (d : PyData) : Option Rho := match ρ[i]? with
  | some (some (.ow (.dict kvs))) => (match dnOf kvs with
    | some ps => if ps.length < 1000000 then some (ρ.set i (some (.ow (.dict (encN (ptN ps k d)))))) else none
    | none => none)
  | _ => none
def nputS (i : Nat) (mk m : Sem1) : SemS := fun ρ => do let d ← m ρ; let k ← mk ρ; let kk ← up (tkOf k); let ρ' ← up (putN ρ i kk d); pure (.nx ρ')
theorem tk_self {d : PyData} {k : NestedKey} (h : tkOf d = some k) : tkOf k.data = some k := by rw [nkOf_data (tkOf_some h).1]; exact h
theorem s_nput (hu : X.A.units + 65 < cLine) {i : Nat} {x : PySem.Str} {e ix : Expr} {m mk : Sem1} {px tpos pos : Pos} (hN : X.N[i]? = some x) (hv : Vis X.env.scope x) (hd : (x == ("__debug__" : PySem.Str)) = false) (hcd : (x == ("__classdict__" : PySem.Str)) = false) (he : PE X e (Rd1 X.K tabs m)) (hk : PE X ix (RdT X.K tabs mk))
    (hs : swapsWith e (some (.Subscript (.Name x px) ix tpos)) pos.line X.env = pure false) :
    PS X (.Assign [.Subscript (.Name x px) ix tpos] e pos) (RdS X.K tabs δ O0 H0 (nputS i mk m)) :=
  PS.imp (ps_nput hu (pe_var hN hv hd hcd) hk he hs) fun D σ H ⟨O, ρ, st, out, st', B, S, W, e, f⟩ => by
    obtain ⟨d, st1, e1, f1⟩ := bnd_some e
    obtain ⟨k, st2, e2, f2⟩ := bnd_some f1
    obtain ⟨kk, st3, e3, f3⟩ := bnd_some f2
    obtain ⟨hkk, rfl⟩ := up_some e3
    obtain ⟨ρ', st4, e4, f4⟩ := bnd_some f3
    obtain ⟨g, rfl⟩ := up_some e4
    obtain ⟨rfl, rfl⟩ := pur_some f4
    unfold putN at g
    split at g
    · rename_i kvs hi
      split at g
      · rename_i ps hps
        split at g
        · rename_i hl
          cases g
          refine ⟨δ, O, ρ, st, d, _, S, W, e1, fun w H1 E1 W1 R1 => ?_⟩
          have S1 := S.ext E1 W.dl
          obtain ⟨v, z1, z2⟩ := S1.at_ i _ hi
          refine ⟨v, z1, δ, O, ρ, st1, k, _, S1, W1, e2, fun u H2 E2 W2 R2 => ?_⟩
          have S2 := S1.ext E2 W1.dl
          obtain ⟨v', y1, y2⟩ := S2.at_ i _ hi
          rw [z1] at y1
          cases y1
          obtain ⟨a, rfl, ho, hne, hδ⟩ := y2.owA
          obtain ⟨a', ea, q⟩ := TRp.dk (.inr y2)
          cases ea
          obtain ⟨xs, n⟩ := q.nt hps
          have hlen : xs.length = ps.length := Paired.length n.vs
          refine ⟨a, _, xs, ps, kk, rfl, n, rds_mask, tk_self hkk, by rw [nkOf_data (tkOf_some hkk).1]; exact tk_rp R2 hkk, by rw [hlen]; exact Nat.lt_of_lt_of_le hl (line_le (Nat.le_refl _)), fun b r es eb rv c => ?_⟩
          subst eb
          have L := (Lat2.of (O := O) E1).trans (Lat2.of (O := O) E2)
          have rd : Rds (mask O H2) (mask O (L2.upd H2 a (.ext (dnP a es)))) := rds_upd ho
          have nr := nr_put kk (tk_self hkk) (by rw [nkOf_data (tkOf_some hkk).1]; exact tk_rp R2 hkk) rv (R1.mono (rds_ext E2 W1.dl)) n.vs
          have hs1 : Slot1 X.K δ O (L2.upd H2 a (.ext (dnP a es))) (.ref a) (.ow (.dict (encN (ptN ps kk d)))) :=
            ⟨a, rfl, ho, hδ, NAt.dk ⟨.inr ⟨es, upd_same, c⟩, NRs.mono rd nr⟩⟩
          have hmu : Mut (H2 a) := by
            rcases n.ob with ⟨z, _⟩ | ⟨es, z, _⟩ <;> rw [z] <;> trivial
          obtain ⟨P1, P2, P3, P4⟩ := own_putG (B.of L) S2 W2 hi z1 hmu hs1
          exact f O σ _ P1 P2 P3 ((L.rds W.dl).trans P4)
        · cases g
      · cases g
    · cases g
/-- x[k] = e, x owned: a list, a dict -/
def setGO (ρ : Rho) (i : Nat) (k d : PyData) : Option Rho := match tkOf k with
  | some kk => putN ρ i kk d
  | none => (match ρ[i]? with
    | some (some (.ow (.dict _))) => putO ρ i k d
    | _ => setO ρ i k d)
def setG (i : Nat) (mk m : Sem1) : SemS := fun ρ => do let d ← m ρ; let k ← mk ρ; let ρ' ← up (setGO ρ i k d); pure (.nx ρ')
theorem s_setG (hu : X.A.units + 65 < cLine) {i : Nat} {x : PySem.Str} {e ix : Expr} {m mk : Sem1} {px tpos pos : Pos} (hN : X.N[i]? = some x) (hv : Vis X.env.scope x) (hd : (x == ("__debug__" : PySem.Str)) = false) (hcd : (x == ("__classdict__" : PySem.Str)) = false) (he : PE X e (Rd1 X.K tabs m)) (hk : PE X ix (RdT X.K tabs mk))
    (hs : swapsWithSole [.Subscript (.Name x px) ix tpos] e pos.line X.env = pure false) (hw : swappedStores [.Subscript (.Name x px) ix tpos] e X.env = pure none) (hs2 : swapsWith e (some (.Subscript (.Name x px) ix tpos)) pos.line X.env = pure false)
    (ha : ∀ v, assign (.Subscript (.Name x px) ix tpos) X.env v = (do
      let ov ← holding [v] (eval (.Name x px) X.env)
      let iv ← holding [v, ov] (eval ix X.env)
      standAt tpos
      holding [v, ov, iv] (setItem ov iv v)
      release [v, ov, iv] [])) :
    PS X (.Assign [.Subscript (.Name x px) ix tpos] e pos) (RdS X.K tabs δ O0 H0 (setG i mk m)) :=
  PS.imp (PS.or (s_nput (δ := δ) (O0 := O0) (H0 := H0) hu hN hv hd hcd he hk hs2) (PS.or (s_put (δ := δ) (O0 := O0) (H0 := H0) hu hN hv hd hcd he hk hs2) (s_set (δ := δ) (O0 := O0) (H0 := H0) hN hv hd hcd he hk hs hw ha))) fun D σ H ⟨O, ρ, st, out, st', B, S, W, e, f⟩ => by
    obtain ⟨d, st1, e1, f1⟩ := bnd_some e
    obtain ⟨k, st2, e2, f2⟩ := bnd_some f1
    obtain ⟨ρ', st3, e3, f3⟩ := bnd_some f2
    obtain ⟨g, rfl⟩ := up_some e3
    obtain ⟨rfl, rfl⟩ := pur_some f3
    unfold setGO at g
    split at g
    · rename_i kk hkk
      refine .inl ⟨O, ρ, st, _, _, B, S, W, ?_, f⟩
      show (m ρ st).bind _ = _
      rw [e1]
      show (mk ρ st1).bind _ = _
      rw [e2]
      show (up (tkOf k) _).bind _ = _
      rw [hkk]
      show (up (putN ρ i kk d) _).bind _ = _
      rw [g]
      rfl
    · split at g
      · refine .inr (.inl ⟨O, ρ, st, _, _, B, S, W, ?_, f⟩)
        show (m ρ st).bind _ = _
        rw [e1]
        show (mk ρ st1).bind _ = _
        rw [e2]
        show (up (putO ρ i k d) _).bind _ = _
        rw [g]
        rfl
      · refine .inr (.inr ⟨O, ρ, st, _, _, B, S, W, ?_, f⟩)
        show (m ρ st).bind _ = _
        rw [e1]
        show (mk ρ st1).bind _ = _
        rw [e2]
        show (up (setO ρ i k d) _).bind _ = _
        rw [g]
        rfl
end
end Fo
/-! comprehensions that make a dict, keys of any kind -/
namespace L2
open PySem PySem.Spec PyProof.Rows Fo
/-- a store by a comprehension: what must hold behind it -/
def DSt (K : PySem.W.Frag) (H : Hp) (D : Addr) (y z : V) (N : Hp → Prop) : Prop :=
  (∃ kvs k, y = kV k ∧ H D = some (.dK kvs) ∧ kvs.length < sizeLine ∧ N (upd H D (.dK (putK kvs k z)))) ∨
  ∃ M xs ps k, NAt K M D (H D) xs ps ∧ Rds M H ∧ tkOf k.data = some k ∧ Rp K M y k.data ∧ xs.length < sizeLine ∧ ∀ b u es, y = .ref b → RelV z u → DNc D es (storedH xs k b u) → N (upd H D (.ext (dnP D es)))
theorem dst_run {Y : Cx} {pp : List (Addr × Obj)} {τ : St} {H : Hp} {t : Shared} {E : Value → Shared → Prop} {D : Addr} {y z : V} {u r : Value} {N : Hp → Prop} {Z : Unit → Shared → Prop} (hu : Y.A.units + 65 < cLine) (J : Inv Y pp τ H t) (d : DSt Y.K H D y z N) (ry : RelV y u) (rz : RelV z r)
    (h : ∀ H' t', Inv Y pp τ H' t' → N H' → Z () t') : wpAny (model Y.prog Y.w) Y.A (dictSet D u r) Z E t := by
  rcases d with ⟨kvs, k, ey, e, hl, n⟩ | ⟨M, xs, ps, k, n, rM, tk, ry', hl, nn⟩
  · subst ey
    exact d_dictSet J e hl ry rz fun t' J' => h _ t' J' n
  · obtain ⟨lo, dd⟩ := n.heap rM J
    obtain ⟨b, rfl, hb⟩ := tk_is (P := Y.prog) (w := Y.w) J.hok tk (ry'.mono rM)
    obtain rfl : u = Value.ref b := ry
    refine wpAny_dictSet_heap (hsz := Nat.le_of_lt hl) (knd := nk Y) (nk_room0 hu) hb dd fun h' dd' sb => ?_
    obtain ⟨es, c, J'⟩ := n_stored (t' := t.toks + (nk Y).draws k) (v := z) (d := .none) n rM J tk dd' sb
    exact h _ _ J' (nn b r es rfl rz c)
section
variable {X : Cx}
/-- {k: v for target in iter if ..}: D the new dict -/
def tDx (K : PySem.W.Frag) (wi : TI) (g : TG) (tt : TT) (tk tv : TE) (vs : List Nat) : TE := fun σ H Q => wi σ H fun J H1 => ∀ D, H1 D = none → ∃ W : Nat → Nat → Hp → Prop, (∃ m, W 0 m (upd H1 D (.dK []))) ∧ ∀ i m H, W i m H →
  (J.stop i H ∧ Q (.ref D) H) ∨ (J.go i H ∧ ∃ Nx : Hp → Prop, (∀ H', Nx H' → ∃ m', m' < m ∧ W (i + 1) m' H') ∧ ∀ x H', J.yld i H x H' → g x (wipe σ vs) H' fun σ2 H2 => wipe σ2 vs = wipe σ vs ∧ tt σ2 H2 fun b H3 =>
    if b = true then tk σ2 H3 fun y H4 => tv σ2 H4 fun z H5 => DSt K H5 D y z Nx else Nx H3)
theorem dx_go {pp : List (Addr × Obj)} {t : Shared} {σ : St} {H : Hp} {Q : VK} {kx vx tg iter : Expr} {ifs : List Expr} {scope : Scope} {own : List (Str × Nat)} {pos pos' : Pos} {wi : TI} {g : TG} {tt : TT} {tk tv : TE} {use : Option (Value → Sem Unit)} {Z : Value → Shared → Prop}
    (hc : X.calm = true) (hN : X.N.Nodup) (hu : X.A.units + 65 < cLine) (I : Inv X pp σ H t) (hi : PI X tg iter wi) (ok : BlkOk X.N X.env.scope scope own)
    (hg : ∀ t H C cl fp, PG (X.blk t H scope (compEnvC scope cl C X.env) fp) tg g) (ht : ∀ t H C cl fp, PTs (X.blk t H scope (compEnvC scope cl C X.env) fp) ifs tt) (hk : ∀ t H C cl fp, PE (X.blk t H scope (compEnvC scope cl C X.env) fp) kx tk) (he : ∀ t H C cl fp, PE (X.blk t H scope (compEnvC scope cl C X.env) fp) vx tv)
    (hs : ∀ x, foldedSetIterable iter X.env x = pure x) (h : tDx X.K wi g tt tk tv (own.map (·.2)) σ H Q)
    (hR : ∀ D C t' m H', Inv X pp σ H' t' → Q (.ref D) H' → t'.heap.Ns C m → FpOk X pp H' C → compPost (model X.prog X.w) X.A X.xe use Z (.ref D) C (.ok .next) t') :
    wpAny (model X.prog X.w) X.A (comprehension (.DictComp kx vx [⟨tg, iter, ifs, 0⟩] scope pos) scope X.env pos' newDict false (eval iter X.env) use) Z X.xe t := by
  have closed : ∀ y ∈ scope.names, y.2 = .free → ∃ c, X.env.cells.lookup y.1 = some c := fun y hy e => (ok.free y hy e).elim (fun k => I.ok.has _ (.inl k)) fun k => I.ok.has _ (.inr k)
  refine wpAny_comprehension_free (use := use) rfl hs (closure_ok closed) ok.kind (fun y hy e => by rw [ok.uniq y hy, e]) (thn (hi.run pp t σ H _ I h) fun _ t1 hx => thn hx fun _ t2 hq => ?_)
  obtain ⟨it, fp, tn, J, H2, ei, I2, T, s2, f2, q⟩ := hq
  subst ei
  refine wpAny_newObj_type (newEnv_comp ?_)
  generalize hD : t2.heap.objs.size = D
  obtain ⟨W, ⟨m0, w0⟩, turn⟩ := q D (I2.hok.fresh (Nat.le_of_eq hD))
  generalize h3e : ({ t2 with heap := t2.heap.push { cls := .type "dict", data := .dict #[] } } : Shared) = t3
  have hp3 : t3.heap = t2.heap.push { cls := .type "dict", data := .dict #[] } := by rw [← h3e]
  have I3 : Inv X pp σ (upd H2 D (.dK [])) t3 := by
    subst h3e
    exact I2.laid (t' := t2.toks) (fun b o e => Heap.get?_push_of_some _ e) (Nat.le_of_eq hD) (by rw [← hD]; exact dk_empty t2.heap I2.big)
  have f3 : ∀ b ∈ fp, FpOk X pp (upd H2 D (.dK [])) b ∧ b < t3.heap.objs.size := fun b hb => by
    obtain ⟨o, eo, _⟩ := T.obj _ _ s2 b hb
    have lt := Heap.lt_size eo
    exact ⟨⟨by rw [upd_ne (by rw [← hD]; exact Nat.ne_of_lt lt)]; exact (f2 b hb).1, (f2 b hb).2⟩, by rw [hp3, Heap.size_push]; exact Nat.lt_succ_of_lt lt⟩
  have s3 : tn 0 t3.heap := T.keep _ _ _ s2 fun b _ o e => by rw [hp3]; exact Heap.get?_push_of_some _ e
  have I4 := block_start I3 ok hN f3
  have pg := hg t3 (upd H2 D (.dK [])) t3.heap.objs.size (cellsFrom (t3.heap.objs.size + 1) scope.names (cloFrom X.env.cells scope.names [])) fp
  have pt := ht t3 (upd H2 D (.dK [])) t3.heap.objs.size (cellsFrom (t3.heap.objs.size + 1) scope.names (cloFrom X.env.cells scope.names [])) fp
  have pk := hk t3 (upd H2 D (.dK [])) t3.heap.objs.size (cellsFrom (t3.heap.objs.size + 1) scope.names (cloFrom X.env.cells scope.names [])) fp
  have pv := he t3 (upd H2 D (.dK [])) t3.heap.objs.size (cellsFrom (t3.heap.objs.size + 1) scope.names (cloFrom X.env.cells scope.names [])) fp
  have n3 : ∀ b ∈ fp, (upd H2 D (.dK [])) b = none := fun b hb => (f3 b hb).1.1
  show codeAny _ _ (.compStart (.DictComp kx vx [⟨tg, iter, ifs, 0⟩] scope pos) 0 (.ref it) (.ref D) (compEnvC scope (cellsFrom (t3.heap.objs.size + 1) scope.names (cloFrom X.env.cells scope.names [])) t3.heap.objs.size X.env)) (compPost (model X.prog X.w) X.A X.xe use Z (.ref D) t3.heap.objs.size) { t3 with heap := pushCells (t3.heap.push { cls := .type "dict", data := .dict #[] }) scope.names }
  generalize hce : compEnvC scope (cellsFrom (t3.heap.objs.size + 1) scope.names (cloFrom X.env.cells scope.names [])) t3.heap.objs.size X.env = ce at I4 pg pt pk pv ⊢
  have cl : ce.locals = t3.heap.objs.size := by subst hce; rfl
  generalize hG : upd H2 D (.dK []) = G at I3 I4 pg pt pk pv w0 n3 f3
  generalize h4e : ({ t3 with heap := pushCells (t3.heap.push { cls := .type "dict", data := .dict #[] }) scope.names } : Shared) = t4 at I4 ⊢
  have s4 : tn 0 t4.heap := T.keep _ _ _ s3 fun b _ o e => by rw [← h4e]; exact pushCells_keeps _ _ _ _ (Heap.get?_push_of_some _ e)
  have huB : (X.blk t3 G scope ce fp).A.units + 65 < cLine := hu
  have fpo : ∀ {σ' : St} {H' : Hp} {t' : Shared}, Inv (X.blk t3 G scope ce fp) [] σ' H' t' → (∀ b ∈ fp, H' b = none) → ∀ b ∈ fp, FpOk (X.blk t3 G scope ce fp) [] H' b := fun {σ' H' t'} I' hn b hb =>
    ⟨hn b hb, (I'.ok.exf b hb).1, I'.ok.exfs b hb, .inl hb, fun x c e => (I'.ok.exf b hb).2 x c e, fun p hp => absurd (show p ∈ ([] : List (Addr × Obj)) ++ [] from hp) (by simp)⟩
  have loop : codeAny (model X.prog X.w) X.A (.compLoop (.DictComp kx vx [⟨tg, iter, ifs, 0⟩] scope pos) 0 (.ref it) (.ref D) ce) (compPost (model X.prog X.w) X.A X.xe use Z (.ref D) t3.heap.objs.size) t4 := by
    refine compLoop_anyD (fun n t' => ∃ i H', Inv (X.blk t3 G scope ce fp) [] (wipe σ (own.map (·.2))) H' t' ∧ tn i t'.heap ∧ (∀ b ∈ fp, H' b = none) ∧ W i n H') ?_ m0 ⟨0, G, I4, s4, n3, w0⟩
    rintro n t5 ⟨i, H5, I5, s5, n5, w5⟩
    rcases turn i n H5 w5 with ⟨stop, qq⟩ | ⟨go, Nx, hNx, step⟩
    · refine thnF (T.done (X.blk t3 G scope ce fp) rfl rfl rfl hc i [] t5 _ H5 (fun _ _ => False) I5 (fpo I5 n5) s5 stop) fun r t6 ⟨hr, I6⟩ => ?_
      subst hr
      have I7 : Inv X pp σ H5 t6 := I3.call' (ch := fp) I6.os I6.base I6.hok I6.bare fun b hb => ⟨(f3 b hb).1.2.2.2.1, (f3 b hb).1.2.1, (f3 b hb).1.2.2.2.2.1, (f3 b hb).1.2.2.2.2.2⟩
      have nC : H5 t3.heap.objs.size = none := by
        have z : H5 ce.locals = none := I6.free
        rwa [cl] at z
      obtain ⟨m, hn, _⟩ := I6.loc
      exact hR D t3.heap.objs.size t6 m H5 I7 qq (by rw [← cl]; exact hn) (I3.fpOk (Nat.le_refl _) nC)
    · refine thnF (T.item (X.blk t3 G scope ce fp) rfl rfl rfl hc i [] t5 _ H5 (fun _ _ => False) I5 (fpo I5 n5) s5 go) fun r t6 ⟨u, hr, h6⟩ => ?_
      subst hr
      refine thnF h6 fun _ t7 ⟨x, H7, I7, r7, y7, s7, n7⟩ => ?_
      refine thnF (pg.run _ t7 _ H7 x u _ (I7.pinned (fpo I7 n7) (T.obj _ _ s7)) r7 (step x H7 y7)) fun _ t8 ⟨σ8, H8, I8, hw8, q8⟩ => ?_
      refine thnF (pt.run _ t8 σ8 H8 _ I8 q8) fun b t9 ⟨H9, I9, q9⟩ => ?_
      have fin : ∀ {t' : Shared} {H' : Hp}, Inv (X.blk t3 G scope ce fp) ([] ++ pinsAt fp t7.heap) σ8 H' t' → Nx H' → ∃ m, m < n ∧ ∃ i H', Inv (X.blk t3 G scope ce fp) [] (wipe σ (own.map (·.2))) H' t' ∧ tn i t'.heap ∧ (∀ b ∈ fp, H' b = none) ∧ W i m H' := fun {t' H'} I' nx => by
        obtain ⟨m', hm, w'⟩ := hNx H' nx
        have pin : ∀ b ∈ fp, ∀ o, t7.heap.get? b = some o → t'.heap.get? b = some o ∧ H' b = none := fun b hb o e =>
          ⟨(I'.pin (b, o) (List.mem_append_right _ (List.mem_append_right _ (mem_pinsAt hb e)))).1, (I'.pin (b, o) (List.mem_append_right _ (List.mem_append_right _ (mem_pinsAt hb e)))).2.1⟩
        refine ⟨m', hm, i + 1, H', (I'.unpinned (pins := [])).weak (by rw [← hw8, wipe_length]) (fun j v e => by rw [← hw8] at e; exact (wipe_some e).1), T.keep _ _ _ s7 fun b hb o e => (pin b hb o e).1, fun b hb => ?_, w'⟩
        obtain ⟨o, e, _⟩ := T.obj _ _ s7 b hb
        exact (pin b hb o e).2
      cases b with
      | false =>
        simp only [Bool.false_eq_true, if_false] at q9 ⊢
        exact fin I9 q9
      | true =>
        simp only [if_true] at q9 ⊢
        refine thnF (pk.run _ t9 σ8 H9 _ I9 q9) fun z ta ⟨yk, Ha, Ia, ra, qa⟩ => ?_
        refine thnF (pv.run _ ta σ8 Ha _ Ia qa) fun z2 tb ⟨yv, Hb, Ib, rb, ds⟩ => ?_
        exact dst_run (Y := X.blk t3 G scope ce fp) huB Ib ds ra rb fun H' t' I' nx => fin I' nx
  exact codeAny_compStart_dict loop (T.self X.A 0 _ _ _ s4 loop)
theorem pe_dx {kx vx tg iter : Expr} {ifs : List Expr} {scope : Scope} {own : List (Str × Nat)} {pos : Pos} {wi : TI} {g : TG} {tt : TT} {tk tv : TE} (hc : X.calm = true) (hN : X.N.Nodup) (hu : X.A.units + 65 < cLine) (hi : PI X tg iter wi) (ok : BlkOk X.N X.env.scope scope own)
    (hg : ∀ t H C cl fp, PG (X.blk t H scope (compEnvC scope cl C X.env) fp) tg g) (ht : ∀ t H C cl fp, PTs (X.blk t H scope (compEnvC scope cl C X.env) fp) ifs tt) (hk : ∀ t H C cl fp, PE (X.blk t H scope (compEnvC scope cl C X.env) fp) kx tk) (he : ∀ t H C cl fp, PE (X.blk t H scope (compEnvC scope cl C X.env) fp) vx tv)
    (hs : ∀ x, foldedSetIterable iter X.env x = pure x) : PE X (.DictComp kx vx [⟨tg, iter, ifs, 0⟩] scope pos) (tDx X.K wi g tt tk tv (own.map (·.2))) := ⟨fun pp t σ H Q I h => by
  rw [arm_eval_DictComp]
  exact dx_go hc hN hu I hi ok hg ht hk he hs h fun D C t' m H' I' q hn f => ⟨m, hn, fun h'' sb => ⟨.ref D, H', I'.turned (t' := t'.toks) (fun b o hb e => (sb.2 b hb).trans e) f.1 f.2.1 f.2.2.2.1 f.2.2.2.2.1 f.2.2.2.2.2, rfl, q⟩⟩⟩
end
end L2
namespace Fo
open PySem PySem.Spec PyProof.Rows L2
/-- d[k] = v, as a value -/
def dput (kvs : List (PyData × PyData)) (k d : PyData) : Option (List (PyData × PyData)) := if kvs.length < 1000000 then (match tkOf k with
  | some kk => (dnOf kvs).map fun ps => encN (ptN ps kk d)
  | none => (match kOf k, dkOf kvs with
    | some kk, some ps => some (encK (ptD ps kk d))
    | _, _ => none)) else none
def dcGo (tg : Tg) (tt : SemB) (tk tv : Sem1) (ρ : Rho) : List PyData → List (PyData × PyData) → M (List (PyData × PyData))
  | [], acc => pure acc
  | x :: xs, acc => do
    let ρ1 ← up (storeT tg x ρ)
    let b ← tt ρ1
    if b = true then do
      let k ← tk ρ1
      let v ← tv ρ1
      let acc2 ← up (dput acc k v)
      dcGo tg tt tk tv ρ xs acc2
    else dcGo tg tt tk tv ρ xs acc
def dcR (it : SemL) (tg : Tg) (vs : List Nat) (tt : SemB) (tk tv : Sem1) : Sem1 := fun ρ => do
  let items ← it ρ
  let acc ← dcGo tg tt tk tv (wipeR ρ vs) items []
  pure (.dict acc)
section
variable {K : PySem.W.Frag} {tabs : Tb} {δ : Option Addr} {O O2 : Addr → Prop} {ρ : Rho} {σ : L2.St} {H H2 : Hp} {st : Dr}
theorem dput_dst {D : Addr} {acc acc2 : List (PyData × PyData)} {y z : V} {k d : PyData} {N : Hp → Prop} (hO : O D) (g : dput acc k d = some acc2) (q : DkAt K (mask O H) D (H D) acc) (hy : Rp K (mask O H) y k) (hz : Rp K (mask O H) z d)
    (c : ∀ o, (∃ u, H D = some u ∧ Mut (some u)) → DkAt K (mask O (L2.upd H D o)) D (some o) acc2 → N (L2.upd H D o)) : DSt K H D y z N := by
  unfold dput at g
  split at g
  · rename_i hl
    split at g
    · rename_i kk hkk
      cases e : dnOf acc with
      | none => rw [e] at g; cases g
      | some ps =>
        rw [e] at g
        cases g
        obtain ⟨xs, n⟩ := q.nt e
        have hlen : xs.length = ps.length := Paired.length n.vs
        have hps : ps.length = acc.length := by rw [dnOf_some e]; unfold encN; rw [List.length_map]
        have hk := nkOf_data (tkOf_some hkk).1
        refine .inr ⟨_, xs, ps, kk, n, rds_mask, tk_self hkk, by rw [hk]; exact hy, by rw [hlen, hps]; exact Nat.lt_of_lt_of_le hl (line_le (Nat.le_refl _)), fun b u es eb ru cc => ?_⟩
        subst eb
        refine c _ ?_ ?_
        · rcases n.ob with ⟨w, _⟩ | ⟨es, w, _⟩
          · exact ⟨_, w, trivial⟩
          · exact ⟨_, w, trivial⟩
        · have rd : Rds (mask O H) (mask O (L2.upd H D (.ext (dnP D es)))) := rds_upd hO
          exact NAt.dk ⟨.inr ⟨es, rfl, cc⟩, NRs.mono rd (nr_put kk (tk_self hkk) (by rw [hk]; exact hy) ru hz n.vs)⟩
    · split at g
      · rename_i kk ps hkk e
        cases g
        obtain ⟨vs, h1, h2⟩ := q.dK e
        have hk := key_rp (TRp.of (δ := none) hy) hkk
        subst hk
        have hps : ps.length = acc.length := by rw [dkOf_some e]; unfold encK; rw [List.length_map]
        refine .inl ⟨vs, kk, rfl, h1, by rw [h2.len, hps]; exact Nat.lt_of_lt_of_le hl (line_le (Nat.le_refl _)), ?_⟩
        refine c _ ⟨_, h1, trivial⟩ ?_
        have rd : Rds (mask O H) (mask O (L2.upd H D (.dK (putK vs kk z)))) := rds_upd hO
        have hs := krs_put kk (hz.mono rd) (h2.mono rd)
        obtain ⟨ks, xs, ds, e1, e2, e3, e4⟩ := krs_un hs
        exact .inl ⟨ks, xs, ds, by rw [e1], e2, e3, by rw [e4, enc_zip]⟩
      · cases g
  · cases g
theorem dx_to {it : SemL} {tg : Tg} {own : List (PySem.Str × Nat)} {tt : SemB} {tk tv : Sem1} (hsub : ∀ j ∈ tg.slots, j ∈ own.map (·.2)) {Q : VK} (h : RdF K tabs (dcR it tg (own.map (·.2)) tt tk tv) σ H Q) :
    tDx K (RdIt K tabs it) (RdG K tg) (RdB K tabs tt) (Rd1 K tabs tk) (Rd1 K tabs tv) (own.map (·.2)) σ H Q := by
  obtain ⟨δ, O, ρ, st, z, st', S, W, e, c⟩ := h
  obtain ⟨items, st1, e1, f1⟩ := bnd_some e
  obtain ⟨out, st2, e3, f3⟩ := bnd_some f1
  obtain ⟨rfl, rfl⟩ := pur_some f3
  refine ⟨δ, O, ρ, st, items, _, S, W, e1, fun J H1 E1 W1 hJ D hD => ?_⟩
  have S1 := S.ext E1 W.dl
  have hδD : δ ≠ some D := W1.ne_new hD
  refine ⟨fun i m H2 => ∃ stj acc, m = items.length - i ∧ WOk K tabs δ (plus O D) stj H2 ∧ Lat2 δ O H1 (plus O D) H2 ∧ DkAt K (mask (plus O D) H2) D (H2 D) acc ∧ dcGo tg tt tk tv (wipeR ρ (own.map (·.2))) (items.drop i) acc stj = some (out, st'),
    ⟨items.length, _, [], by simp, W1.newOwn hD, Lat2.newOwn hD, .inl ⟨[], [], [], upd_same, rfl, .nil, rfl⟩, by simpa using e3⟩, ?_⟩
  rintro i m H2 ⟨stj, acc, rfl, W2, L2, q2, hgo⟩
  have hstep := hJ tabs.m (plus O D) stj H2 W2 L2 i
  by_cases hi : i < items.length
  · refine .inr ⟨(hstep.1 hi).1, fun H' => ∃ stj acc, WOk K tabs δ (plus O D) stj H' ∧ Lat2 δ O H1 (plus O D) H' ∧ DkAt K (mask (plus O D) H') D (H' D) acc ∧ dcGo tg tt tk tv (wipeR ρ (own.map (·.2))) (items.drop (i + 1)) acc stj = some (out, st'), ?_, ?_⟩
    · rintro H' ⟨stj', acc', r1, r2, r3, r4⟩
      exact ⟨items.length - (i + 1), by omega, stj', acc', rfl, r1, r2, r3, r4⟩
    · intro x H3 hy
      obtain ⟨E3, W3, d, hd, r3⟩ := (hstep.1 hi).2 x H3 hy
      have hdrop : items.drop i = d :: items.drop (i + 1) := by
        rw [List.drop_eq_getElem_cons hi]
        rw [List.getElem?_eq_getElem hi] at hd
        cases hd
        rfl
      rw [hdrop] at hgo
      obtain ⟨ρ1, sta, ga, ha⟩ := bnd_some hgo
      obtain ⟨ga2, rfl⟩ := up_some ga
      obtain ⟨b, stb, gb, hb⟩ := bnd_some ha
      have L3 := L2.trans (Lat2.of E3)
      have S3 : Slots K δ (plus O D) (wipeR ρ (own.map (·.2))) (_root_.L2.wipe σ (own.map (·.2))) H3 := ((S1.lat L3 W1.dl).wipe _)
      refine ⟨δ, plus O D, _, d, ρ1, S3, r3, ga2, fun σ' S' hk => ⟨wipe_eq ?_ fun j hj => hk j fun z => hj (hsub j z), ?_⟩⟩
      · rw [← S'.len, storeT_len ga2, wipeR_len, S.len]
      refine ⟨δ, plus O D, ρ1, _, b, stb, S', W3, gb, fun H4 E4 W4 => ?_⟩
      have L4 := L3.trans (Lat2.of E4)
      have keep : ∀ {Ha Hb : Hp} {sx : Dr}, Ext δ Ha Hb → WOk K tabs δ (plus O D) sx Ha → DkAt K (mask (plus O D) Ha) D (Ha D) acc → DkAt K (mask (plus O D) Hb) D (Hb D) acc := fun {Ha Hb sx} E w q =>
        (q.mono (rds_ext E w.dl)).to fun u k1 t => E.keep _ _ k1 (fun z => hδD z.symm) t
      have q4 := keep E4 W3 (keep E3 W2 q2)
      cases b with
      | false => exact iteF ⟨stb, acc, W4, L4, q4, by simpa using hb⟩
      | true =>
        refine iteT ?_
        obtain ⟨k, stc, gc, hc1⟩ := bnd_some (show ((tk ρ1) >>= fun k => (tv ρ1) >>= fun v => (up (dput acc k v)) >>= fun acc2 => dcGo tg tt tk tv (wipeR ρ (own.map (·.2))) (items.drop (i + 1)) acc2) stb = some (out, st') by simpa using hb)
        obtain ⟨v, std, gd, hd1⟩ := bnd_some hc1
        obtain ⟨acc2, ste, ge, he1⟩ := bnd_some hd1
        obtain ⟨gp, rfl⟩ := up_some ge
        refine ⟨δ, plus O D, ρ1, stb, k, stc, S'.ext E4 W3.dl, W4, gc, fun y H5 E5 W5 R5 => ?_⟩
        refine ⟨δ, plus O D, ρ1, stc, v, _, (S'.ext E4 W3.dl).ext E5 W4.dl, W5, gd, fun w H6 E6 W6 R6 => ?_⟩
        have q6 := keep E6 W5 (keep E5 W4 q4)
        have L6 := (L4.trans (Lat2.of E5)).trans (Lat2.of E6)
        refine dput_dst (.inr rfl) gp q6 (R5.mono (rds_ext E6 W5.dl)) R6 fun o ⟨u, hu, mu⟩ qq => ?_
        refine ⟨ste, acc2, W6.upd (.inr rfl) hδD (by rw [hu]; exact mu), L6.upd hD (by rw [hu]; exact fun z => nomatch z), ?_, he1⟩
        rw [upd_same]
        exact qq
  · refine .inl ⟨hstep.2 (by omega), ?_⟩
    rw [List.drop_of_length_le (by omega)] at hgo
    obtain ⟨rfl, rfl⟩ := pur_some hgo
    exact c D H2 (E1.dom D hD) ((Lat2.of E1).trans L2) W2 ⟨D, rfl, .inr rfl, hδD, q2⟩
theorem rdF_1 {m : Sem1} {Q : VK} (h : Rd1 K tabs m σ H Q) (hd : ∀ ρ st z st', m ρ st = some (z, st') → ∃ kvs, z = .dict kvs) : RdF K tabs m σ H Q := by
  obtain ⟨δ, O, ρ, st, z, st', S, W, e, c⟩ := h
  obtain ⟨kvs, rfl⟩ := hd _ _ _ _ e
  refine ⟨δ, O, ρ, st, _, st', S, W, e, fun a H1 ha L W1 s1 => ?_⟩
  obtain ⟨b, eb, _, _, q⟩ := s1
  cases eb
  exact c _ H1 L.ext (W1.less W.dl fun x h => .inl h) (((q.mono (rds_less fun x h => .inl h)).to fun u k1 _ => mask_some.mpr ⟨W.fresh ha, k1⟩).rp)
theorem dcR_dict {it : SemL} {tg : Tg} {vs : List Nat} {tt : SemB} {tk tv : Sem1} : ∀ ρ st z st', dcR it tg vs tt tk tv ρ st = some (z, st') → ∃ kvs, z = .dict kvs := fun ρ st z st' e => by
  obtain ⟨items, st1, e1, f1⟩ := bnd_some e
  obtain ⟨out, st2, e3, f3⟩ := bnd_some f1
  obtain ⟨rfl, rfl⟩ := pur_some f3
  exact ⟨_, rfl⟩
variable {X : Cx}
theorem ef_dc {kx vx tgE iter : Expr} {ifs : List Expr} {scope : Scope} {own : List (PySem.Str × Nat)} {pos : Pos} {it : SemL} {tg : Tg} {tt : SemB} {tk tv : Sem1} (hc : X.calm = true) (hN : X.N.Nodup) (hu : X.A.units + 65 < cLine) (hi : PI X tgE iter (RdIt X.K tabs it)) (ok : BlkOk X.N X.env.scope scope own)
    (hg : ∀ t H C cl fp, PG (X.blk t H scope (compEnvC scope cl C X.env) fp) tgE (RdG X.K tg)) (ht : ∀ t H C cl fp, PTs (X.blk t H scope (compEnvC scope cl C X.env) fp) ifs (RdB X.K tabs tt))
    (hk : ∀ t H C cl fp, PE (X.blk t H scope (compEnvC scope cl C X.env) fp) kx (Rd1 X.K tabs tk)) (hv : ∀ t H C cl fp, PE (X.blk t H scope (compEnvC scope cl C X.env) fp) vx (Rd1 X.K tabs tv)) (hs : ∀ x, foldedSetIterable iter X.env x = pure x)
    (hsub : ∀ j ∈ tg.slots, j ∈ own.map (·.2)) : PE X (.DictComp kx vx [⟨tgE, iter, ifs, 0⟩] scope pos) (RdF X.K tabs (dcR it tg (own.map (·.2)) tt tk tv)) :=
  PE.imp (pe_dx hc hN hu hi ok hg ht hk hv hs) fun σ H Q h => dx_to hsub h
theorem ex_dc {kx vx tgE iter : Expr} {ifs : List Expr} {scope : Scope} {own : List (PySem.Str × Nat)} {pos : Pos} {it : SemL} {tg : Tg} {tt : SemB} {tk tv : Sem1} (h : PE X (.DictComp kx vx [⟨tgE, iter, ifs, 0⟩] scope pos) (RdF X.K tabs (dcR it tg (own.map (·.2)) tt tk tv))) :
    PE X (.DictComp kx vx [⟨tgE, iter, ifs, 0⟩] scope pos) (Rd1 X.K tabs (dcR it tg (own.map (·.2)) tt tk tv)) := PE.imp h fun σ H Q q => rdF_1 q dcR_dict
theorem ex_dnew {pos : Pos} : PE X (.Dict [] [] pos) (Rd1 X.K tabs newD) := PE.imp ef_dnew fun σ H Q q => rdF_1 q fun ρ st z st' e => ⟨[], (pur_some e).1.symm⟩
end
end Fo
/-! the keys of a dict, walked -/
namespace Fo
open PySem PySem.Spec PyProof.Rows L2
/-- the keys of the dict at d, tuples -/
def Itn (d : Addr) (o : Obj) (xs : List NE) : It where
  go := fun i H => H d = some (.ext (dnP d o)) ∧ i < xs.length
  yld := fun i H x H' => H' = H ∧ ∃ e, xs[i]? = some e ∧ x = .ref e.2.1
  stop := fun i H => H d = some (.ext (dnP d o)) ∧ xs.length ≤ i
section
variable {P : Program} {w : World} {K : PySem.W.Frag}
theorem turn_dn {tg : Expr} {d : Addr} {o : Obj} {xs : List NE} {ar : Array DictEntry} {ep : Nat} (it : Addr) (hd0 : o.data = .dict ar ep) (har : ∀ w : World, ar.toList = xs.map fun x => ⟨x.1.hash w, .ref x.2.1, x.2.2⟩) : Turn P w K tg (Itn d o xs) [it] it (fun i h => h.IsKeyIter it d i xs.length ep) := by
  have hsz : ar.size = xs.length := by
    have := congrArg List.length (har w)
    rwa [Array.length_toList, List.length_map] at this
  refine ⟨by simp, fun i h st b hb => ?_, fun i h h' st k => st.at fun oi e => k it (by simp) oi e, ?_, ?_, fun A i s Q E st h => ?_⟩
  · rw [List.mem_singleton] at hb
    rw [hb]
    obtain ⟨oi, e, c, dd⟩ := st
    exact ⟨oi, e, fun v z => by rw [dd] at z; cases z⟩
  · intro X hP hw hK hc i pins s σ H E I hf st ⟨hd, hi⟩
    subst hP hw hK
    obtain ⟨f0, f1, _, f3, f4, f5⟩ := hf it (by simp)
    obtain ⟨gd, _⟩ := (show ObjOk X.prog X.w H s.heap d (.ext (dnP d o)) from I.hok d _ hd)
    obtain ⟨e, he⟩ : ∃ e, xs[i]? = some e := ⟨xs[i], List.getElem?_eq_getElem hi⟩
    have hen : ar[i]? = some ⟨e.1.hash X.w, .ref e.2.1, e.2.2⟩ := by
      rw [← Array.getElem?_toList, har X.w, List.getElem?_map, he]
      rfl
    refine next_key_item st gd hd0 hsz hen fun h' st' sb => ?_
    have I1 : Inv X pins σ H { s with heap := h' } := I.turned (t' := s.toks) (fun b ob hb e => (sb.2 b hb).trans e) f0 f1 f3 f4 f5
    obtain ⟨oi, eo, c, dd⟩ := id st'
    exact ⟨_, rfl, go_of (s := { s with heap := h' }) eo c dd (by decide) ⟨.ref e.2.1, H, I1, rfl, ⟨rfl, e, he, rfl⟩, st', fun b hb => (hf b hb).1⟩⟩
  · intro X hP hw hK hc i pins s σ H E I hf st ⟨hd, hi⟩
    subst hP hw hK
    obtain ⟨f0, f1, _, f3, f4, f5⟩ := hf it (by simp)
    obtain ⟨gd, _⟩ := (show ObjOk X.prog X.w H s.heap d (.ext (dnP d o)) from I.hok d _ hd)
    exact next_key_end (I.ok.hd hc) st gd hd0 hsz hi fun h' eb => ⟨rfl, I.turned (t' := s.toks) (fun b ob hb e => eb b ob hb e) f0 f1 f3 f4 f5⟩
  · refine wpAny_pyIter_slot st.typeIs F.slot_dict_keyiterator_iter (wpAny_call_entry F.slot_dict_keyiterator_iter st.typeIs F.entry_dict_keyiterator_iter ?_ (F.args_dict_keyiterator_iter_1 _))
    exact wpAny_pure ⟨_, rfl, "dict_keyiterator", _, st.typeIs, F.slot_dict_keyiterator_next.lookup, h⟩
end
section
variable {X : Cx} {tabs : Tb} {tg e : Expr}
def iDn (td : TE) : TI := fun σ H R => td σ H fun x H1 => ∃ d o xs, x = .ref d ∧ H1 d = some (.ext (dnP d o)) ∧ DNc d o xs ∧ R (Itn d o xs) H1
theorem pi_dn {td : TE} (he : PE X e td) : PI X tg e (iDn td) :=
  ⟨fun pins s σ H R I h => thn (he.run pins s σ H _ I h) fun u s1 ⟨x, H1, I1, rx, d, o, xs, ex, hd, c, q⟩ => by
    subst ex
    obtain rfl : u = Value.ref d := rx
    obtain ⟨gd, _⟩ := (show ObjOk X.prog X.w H1 s1.heap d (.ext (dnP d o)) from I1.hok d _ hd)
    obtain ⟨ar, ep, e1, e2⟩ := c.eq
    have hsz : ar.size = xs.length := by
      have := congrArg List.length (e2 X.w)
      rwa [Array.length_toList, List.length_map] at this
    refine iter_keys c.lo gd c.xd e1 (pi_one (tk := s1.toks) I1 _ (turn_dn _ e1 e2) ⟨_, Heap.get?_push_size _ rfl, rfl, ?_⟩ q)
    rw [hsz] <;> rfl⟩
theorem it_dn {K : PySem.W.Frag} {δ : Option Addr} {L : (Addr → Prop) → Hp → Prop} {d : Addr} {o : Obj} {xs : List NE} {ps : List (NestedKey × PyData)} (h : ∀ O2 H2, L O2 H2 → H2 d = some (.ext (dnP d o)) ∧ Paired (NR K (mask O2 H2)) xs ps) : ItOk K tabs δ L (Itn d o xs) (ps.map fun p => p.1.data) := by
  intro mm O2 st2 H2 W2 hL i
  obtain ⟨h1, h2⟩ := h O2 H2 hL
  have hl : xs.length = ps.length := Paired.length h2
  rw [List.length_map]
  refine ⟨fun hi => ⟨⟨h1, by omega⟩, fun x H3 ⟨e3, e, he, ex⟩ => ?_⟩, fun hi => ⟨h1, by omega⟩⟩
  subst e3 ex
  refine ⟨Ext.refl _ _, W2, ?_⟩
  have key : ∀ {xs : List NE} {ps : List (NestedKey × PyData)} {i : Nat} {e : NE}, Paired (NR K (mask O2 H3)) xs ps → xs[i]? = some e → ∃ p, ps[i]? = some p ∧ Rp K (mask O2 H3) (.ref e.2.1) p.1.data := by
    intro xs ps i e h
    induction h generalizing i with
    | nil => intro z; simp at z
    | cons h t ih =>
      intro z
      cases i with
      | zero =>
        simp at z
        subst z
        exact ⟨_, rfl, by rw [← h.1]; exact h.2.1.2⟩
      | succ i => simpa using ih (by simpa using z)
  obtain ⟨p, hp, r⟩ := key h2 he
  exact ⟨p.1.data, by rw [List.getElem?_map, hp]; rfl, r⟩
/-- what is walked: a list's, a tuple's items, a dict's keys -/
def itemsW (d : PyData) : Option (List PyData) := match d with
  | .dict kvs => (match dnOf kvs with
    | some (p :: ps) => some ((p :: ps).map fun p => p.1.data)
    | _ => none)
  | d => itemsO d
def itemsG (m : Sem1) : SemL := fun ρ => do let v ← m ρ; up (itemsW v)
theorem PI.or {t t' : TI} (h : PI X tg e t) (h' : PI X tg e t') : PI X tg e (fun σ H R => t σ H R ∨ t' σ H R) := ⟨fun pins s σ H R I q => q.elim (h.run pins s σ H R I) (h'.run pins s σ H R I)⟩
theorem itemsW_not {v : PyData} {items : List PyData} (h : itemsW v = some items) : (∃ kvs p ps, v = .dict kvs ∧ dnOf kvs = some (p :: ps) ∧ items = (p :: ps).map fun p => p.1.data) ∨ itemsO v = some items := by
  unfold itemsW at h
  split at h
  · split at h
    · rename_i kvs p ps e
      cases h
      exact .inl ⟨_, p, ps, rfl, e, rfl⟩
    · cases h
  · exact .inr h
theorem ei_valW {m : Sem1} (he : PE X e (Rd1 X.K tabs m)) : PI X tg e (RdI X.K tabs (itemsG m)) :=
  PI.imp (PI.or (pi_dn he) (ei_val he)) fun σ H R ⟨δ, O, ρ, st, items, st', S, W, e0, c⟩ => by
    obtain ⟨v, st1, e1, f1⟩ := bnd_some e0
    obtain ⟨g, rfl⟩ := up_some f1
    rcases itemsW_not g with ⟨kvs, p, ps, rfl, hd, rfl⟩ | g
    · refine .inl ⟨δ, O, ρ, st, _, _, S, W, e1, fun w H1 E1 W1 R1 => ?_⟩
      obtain ⟨a, rfl, q⟩ := R1.dk
      obtain ⟨xs, n⟩ := q.nt hd
      rcases n.ob with ⟨_, z⟩ | ⟨o, z, cc⟩
      · subst z; cases n.vs
      · refine ⟨a, o, xs, rfl, (mask_some.mp z).2, cc, c _ _ E1 W1 (it_dn fun O2 H2 L => ?_)⟩
        exact ⟨(mask_some.mp (L.keep _ _ z fun ps z => nomatch z)).2, NRs.mono L n.vs⟩
    · refine .inr ⟨δ, O, ρ, st, items, _, S, W, ?_, c⟩
      show (m ρ st).bind _ = _
      rw [e1]
      show (up (itemsO v) _) = _
      rw [g]
      rfl
theorem ei_valTW {m : Sem1} (he : PE X e (RdT X.K tabs m)) : PI X tg e (RdIt X.K tabs (itemsG m)) :=
  PI.imp (PI.or (pi_dn he) (ei_valT he)) fun σ H R ⟨δ, O, ρ, st, items, st', S, W, e0, c⟩ => by
    obtain ⟨v, st1, e1, f1⟩ := bnd_some e0
    obtain ⟨g, rfl⟩ := up_some f1
    rcases itemsW_not g with ⟨kvs, p, ps, rfl, hd, rfl⟩ | g
    · refine .inl ⟨δ, O, ρ, st, _, _, S, W, e1, fun w H1 E1 W1 R1 => ?_⟩
      have R0 := R1
      obtain ⟨a, rfl, q⟩ := R1.dk
      obtain ⟨xs, n⟩ := q.nt hd
      rcases n.ob with ⟨_, z⟩ | ⟨o, z, cc⟩
      · subst z; cases n.vs
      · refine ⟨a, o, xs, rfl, z, cc, c _ _ E1 W1 (it_dn fun O2 H2 L => ⟨?_, NRs.mono (L.rds W1.dl) n.vs⟩)⟩
        refine L.ext.keep _ _ z (fun ez => ?_) (fun ps z => nomatch z)
        have hO := W1.dl a ez.symm
        rcases R0 with R0 | ⟨b, eb, ob, hδ, _⟩
        · obtain ⟨b, eb, qq⟩ := R0.dk
          cases eb
          rcases qq with ⟨_, _, _, h1, _⟩ | ⟨_, _, _, _, h1, _⟩
          · exact (mask_some.mp h1).1 hO
          · exact (mask_some.mp h1).1 hO
        · cases eb
          exact hδ ez.symm
    · refine .inr ⟨δ, O, ρ, st, items, _, S, W, ?_, c⟩
      show (m ρ st).bind _ = _
      rw [e1]
      show (up (itemsO v) _) = _
      rw [g]
      rfl
end
end Fo
/-! sorted, len, list, tuple, sum: of lists, tuples, dicts -/
namespace Fo
open PySem PySem.Spec PyProof.Rows L2 PySem.W
section
variable {X : Cx} {tabs : Tb}
theorem canLay_all : ∀ {l : List PyData}, (∀ d ∈ l, SeqAt.shaped d = true) → PyData.canLayAll0 l = true
  | [], _ => by simp [PyData.canLayAll0]
  | d :: l, h => by
    simp only [PyData.canLayAll0, Bool.and_eq_true]
    exact ⟨SeqAt.canLay_of_shaped (h d (List.mem_cons_self ..)), canLay_all fun e he => h e (List.mem_cons_of_mem _ he)⟩
/-- sorted of what is collected -/
theorem sorted_body {pins : List (Addr × Obj)} {s : Shared} {σ : L2.St} {H M : Hp} {r : Addr} {vs : List Value} {ys : List V} {es : List PyData} {tabs : Tb} {δ : Option Addr} {O : Addr → Prop} {st : Dr} {Q : VK} (hu : X.A.units + 70 < cLine) (I : Inv X pins σ H s) (W : WOk X.K tabs δ O st H)
    (rv : Vals ys vs) (k2 : RpAll X.K (mask O H) ys es) (hs : sOk es = true) (c : Cont X.K tabs δ O st H (.list (srtD es)) Q)
    (coll : ∀ R : List Value → Shared → Prop, (∀ h' tk, (∀ b o, s.heap.get? b = some o → h'.get? b = some o) → R vs { s with heap := h', toks := tk }) → wpAny (model X.prog X.w) X.A.in1 (collect (.ref r)) R X.xe s) :
    wpAny (model X.prog X.w) X.A (call (.builtin "sorted") [.ref r]) (EP X pins σ Q) X.xe s := by
  obtain ⟨h1, h2, h3⟩ := sOk_p hs
  have hlen : vs.length = es.length := by rw [← rv.length, k2.length]
  have hL : vs.length ≤ sizeLine := by rw [hlen]; exact line_le h3
  obtain ⟨as, ra⟩ := Dp.readsAll I es ys vs ((k2.mono rds_mask).dp (canLay_all h2)) rv
  have er := reads_each ra
  have hal : AllAlike es := fun d hd d' hd' => alike_of (h1 d hd d' hd')
  refine Calls.call_function_entry PyProof.Rows.kind_sorted PyProof.Rows.plain_sorted PyProof.Rows.entry_sorted (PyProof.Rows.args_sorted1 _) ?_
  unfold Builtin.«sorted»
  refine wpAny_bind (m := checkCount "sorted" 1 1 _) (wpAny_pure ?_)
  refine wpAny_bind (coll _ fun h' tk kp => ?_)
  refine wpAny_bind (wpAny_newList ?_ hL)
  have I1 : Inv X pins σ H { s with heap := h', toks := tk } := I.kept kp
  have hoL : (h'.push (seqObj "list" vs.toArray 0)).get? h'.objs.size = some (seqObj "list" vs.toArray 0) := Heap.get?_push_size _ rfl
  have old : ∀ b o, s.heap.get? b = some o → (sortingHeap (h'.push (seqObj "list" vs.toArray 0)) h'.objs.size vs).get? b = some o := fun b o e =>
    sortingHeap_old (Nat.ne_of_lt (Heap.lt_size (kp b o e))) (Heap.get?_push_of_some _ (kp b o e))
  have er' : EachIs (fun v d => ∃ as, Reads (sortingHeap (h'.push (seqObj "list" vs.toArray 0)) h'.objs.size vs) v d as) vs es := er.mono fun _ _ ⟨as, r⟩ => ⟨as, PyProof.Rows.Reads.keeps old r⟩
  have S := sorts_ok (prog := X.prog) (w := X.w) (A := X.A.in1.in1) (s := { s with heap := sortingHeap (h'.push (seqObj "list" vs.toArray 0)) h'.objs.size vs, toks := tk }) er' hs (by show X.A.units + 1 + 1 + 65 < cLine; omega)
  have ev := sortVals_data (h' := sortingHeap (h'.push (seqObj "list" vs.toArray 0)) h'.objs.size vs) (enc := id) (bs := es) false (vals_each rv k2) (by simpa using er') (by simpa using hal)
  rw [List.map_id, ← srt_merge h1] at ev
  obtain ⟨zs, v1, v2⟩ := each_vals ev
  show wpAny _ _ _ _ _ { s with heap := h'.push (seqObj "list" vs.toArray 0), toks := tk }
  refine wpAny_bind (wpAny_holding (wpAny_call_entry PyProof.Rows.slot_list_sort ⟨_, hoL, rfl⟩ PyProof.Rows.entry_list_sort
    (list_sort_vals (κ := dataKind (sortingHeap (h'.push (seqObj "list" vs.toArray 0)) h'.objs.size vs) es) (s := { s with heap := h'.push (seqObj "list" vs.toArray 0), toks := tk }) hoL S hL ⟨_, rfl, ?_⟩) (PyProof.Rows.args_list_sort _)))
  obtain ⟨ep, he'⟩ := PyProof.Rows.sortedHeap_at (vs := vs) (out := (sortVals (dataKind (sortingHeap (h'.push (seqObj "list" vs.toArray 0)) h'.objs.size vs) es) false vs vs).toArray) hoL
  have hl2 : zs.length ≤ sizeLine := by
    rw [(paired_rp v2).length]
    unfold srtD
    rw [isrt_len]
    exact line_le h3
  refine wpAny_pure ⟨_, rfl, .ref h'.objs.size, L2.upd H h'.objs.size (.lst zs), I1.laid (t' := tk) (fun b u e => ?_) (Nat.le_refl _) ⟨hl2, _, ep, v1, he'⟩, rfl, c.lst W (paired_rp v2) _ (I1.hok.fresh (Nat.le_refl _))⟩
  have hb : b < h'.objs.size := Heap.lt_size e
  rw [PyProof.Rows.sortedHeap_old (Nat.ne_of_lt hb) (by rw [size_push']; exact Nat.lt_succ_of_lt hb)]
  exact Heap.get?_push_of_some _ e
/-- a dict's keys, as data -/
def keysD (kvs : List (PyData × PyData)) : Option (List PyData) := match dkOf kvs with
  | some ps => some (ps.map fun p => keyD p.1)
  | none => (dnOf kvs).map fun ps => ps.map fun p => p.1.data
theorem vals_keys {K : PySem.W.Frag} {M : Hp} : ∀ {xs : List NE} {ps : List (NestedKey × PyData)}, Paired (NR K M) xs ps → Vals (xs.map fun x => V.ref x.2.1) (xs.map fun x => Value.ref x.2.1) ∧ RpAll K M (xs.map fun x => V.ref x.2.1) (ps.map fun p => p.1.data)
  | _, _, .nil => ⟨.nil, .nil⟩
  | x :: xs, p :: ps, .cons h t => by
    obtain ⟨h1, h2⟩ := vals_keys t
    exact ⟨.cons rfl h1, .cons (by show Rp K M (V.ref x.2.1) p.1.data; rw [← h.1]; exact h.2.1.2) h2⟩
theorem rp_key {K : PySem.W.Frag} {M : Hp} (k : Key) : Rp K M (kV k) (keyD k) := by cases k <;> constructor
/-- the keys' values, and that they are collected -/
theorem dict_coll {pins : List (Addr × Obj)} {s : Shared} {σ : L2.St} {H : Hp} {a : Addr} {O : Addr → Prop} {kvs : List (PyData × PyData)} {es : List PyData} (I : Inv X pins σ H s) (hc : X.calm = true) (q : DkAt X.K (mask O H) a (H a) kvs) (e : keysD kvs = some es) (hl : es.length ≤ 1000000) :
    ∃ (ys : List V) (vs : List Value) (o : Obj) (ar : Array DictEntry) (ep : Nat), Vals ys vs ∧ RpAll X.K (mask O H) ys es ∧ (a == sysModules) = false ∧ s.heap.get? a = some o ∧ o.ExactDict ∧ o.data = .dict ar ep ∧ ar.size = es.length ∧ (∀ (j : Nat) (v : Value), (∃ en : DictEntry, ar[j]? = some en ∧ v = en.key) → vs[j]? = some v) ∧ vs.length = es.length := by
  unfold keysD at e
  split at e
  · rename_i ps hps
    cases e
    obtain ⟨kv, h1, h2⟩ := q.dK hps
    obtain ⟨z, lo, vs, rel, o, ar, ep, g1, g2, g3, g4, g5, g6⟩ := dk_of I.hok h1
    have key : ∀ {kv : List (Key × V)} {ps : List (Key × PyData)} {vs : List (Key × Value)} {l : List DictEntry}, KRs X.K (mask O H) kv ps → KV kv vs → Pairs (mixKind X.prog X.w) l vs → Vals (ps.map fun p => kV p.1) (l.map (·.key)) ∧ RpAll X.K (mask O H) (ps.map fun p => kV p.1) (ps.map fun p => keyD p.1) ∧ l.length = ps.length := by
      intro kv ps vs l h
      induction h generalizing vs l with
      | nil => intro r p; cases r; cases p; exact ⟨.nil, .nil, rfl⟩
      | cons h t ih =>
        intro r p
        cases r with
        | cons r1 r2 =>
          cases p with
          | cons p1 pv p2 =>
            obtain ⟨i1, i2, i3⟩ := ih r2 p2
            refine ⟨.cons ?_ i1, .cons (rp_key _) i2, by simp [i3]⟩
            have e1 := h.1
            have e2 := r1.1
            show L2.RelV (kV _) _
            rw [← e1, e2]
            exact relV_key p1
    obtain ⟨i1, i2, i3⟩ := key h2 rel g5
    have hsz : ar.size = ps.length := by rw [← i3, Array.length_toList]
    refine ⟨_, _, o, ar, ep, i1, i2, lo, g1, g2, g3, by rw [List.length_map]; exact hsz, fun j v ⟨en, e1, e2⟩ => ?_, by rw [List.length_map, i3, List.length_map]⟩
    subst e2
    rw [List.getElem?_map, Array.getElem?_toList, e1]
    rfl
  · cases e2 : dnOf kvs with
    | none => rw [e2] at e; cases e
    | some ps =>
      rw [e2] at e
      cases e
      obtain ⟨xs, n⟩ := q.nt e2
      obtain ⟨lo, o, ar, ep, g1, g2, g3, g4, _, _⟩ := n.heap rds_mask I
      obtain ⟨i1, i2⟩ := vals_keys n.vs
      have hlx : xs.length = ps.length := Paired.length n.vs
      have hsz : ar.size = xs.length := by
        have := congrArg List.length g4
        rwa [Array.length_toList, List.length_map] at this
      refine ⟨_, _, o, ar, ep, i1, i2, lo, g1, g2, g3, by rw [hsz, hlx, List.length_map], fun j v ⟨en, e1, ev⟩ => ?_, by rw [List.length_map, List.length_map, hlx]⟩
      subst ev
      rw [← Array.getElem?_toList, g4, List.getElem?_map] at e1
      rw [List.getElem?_map]
      cases hx : xs[j]? with
      | none => rw [hx] at e1; cases e1
      | some x => rw [hx] at e1; cases e1; rfl
theorem acc_eq {vs : List Value} {ar : Array DictEntry} {acc : Array Value} {n : Nat} (h : ∀ (j : Nat) (v : Value), (∃ en : DictEntry, ar[j]? = some en ∧ v = en.key) → vs[j]? = some v) (hl : vs.length = n) (it : ItemsOf (fun i v => ∃ en : DictEntry, ar[i]? = some en ∧ v = en.key) acc n) : acc.toList = vs := by
  apply List.ext_getElem?
  intro j
  cases e : acc.toList[j]? with
  | none =>
    have := List.getElem?_eq_none_iff.mp e
    rw [Array.length_toList, it.1] at this
    rw [List.getElem?_eq_none (by omega)]
  | some v => exact (h j v (it.2 j v (by rw [← Array.getElem?_toList]; exact e))).symm
/-- what sorted takes -/
def seqD : PyData → Option (List PyData)
  | .list ds => some ds
  | .tuple ds => some ds
  | .dict kvs => keysD kvs
  | _ => none
def sortedW : List PyData → Option PyData
  | [d] => (match seqD d with
    | some ds => if sOk ds = true then some (.list (srtD ds)) else none
    | none => none)
  | _ => none
theorem cs_sortedW (hc : X.calm = true) (hu : X.A.units + 70 < cLine) : CallS X (.builtin "sorted") sortedW := by
  intro pins s σ H xs us tabs δ O st ds z Q I rx W hx hz c
  unfold sortedW at hz
  split at hz
  · rename_i d
    cases e : seqD d with
    | none => simp only [e] at hz; cases hz
    | some es =>
      simp only [e] at hz
      split at hz
      · rename_i hs
        cases hz
        obtain ⟨_, _, h3⟩ := sOk_p hs
        cases hx with
        | cons q1 q2 =>
          cases q2
          cases d with
          | list es' =>
            cases e
            exact cs_sorted hu pins s σ H _ us tabs δ O st [.list es] _ Q I rx W (.cons q1 .nil) (by show (if sOk es = true then some (PyData.list (srtD es)) else none) = _; rw [if_pos hs]) c
          | tuple es' =>
            cases e
            obtain ⟨a, vs, rfl, k1, k2, _⟩ := q1.tup
            obtain ⟨its, rv, tp, hz⟩ := I.tuple (SqT.of (K := X.K) k1)
            rw [Vals.ref1 rx]
            have hlen : its.length = es.length := by rw [← rv.length, k2.length]
            obtain ⟨o, g1, g2, n, g3⟩ := tp
            exact sorted_body (M := H) hu I W rv k2 hs c fun R h => wpAny_collect_seq a (.inr rfl) g1 g2 g3 (fun h' kp => by simpa using h h' s.toks kp) (by simp; rw [hlen]; exact line_le h3)
          | dict kvs =>
            obtain ⟨a, rfl, q⟩ := q1.dk
            rw [Vals.ref1 rx]
            obtain ⟨ys, vs, o, ar, ep, rv, k2, lo, g1, g2, g3, g4, g5, g6⟩ := dict_coll I hc q e h3
            refine sorted_body (M := H) hu I W rv k2 hs c fun R h => ?_
            refine kdu_collect (kdl_raw lo g2 g3) (I.ok.hd hc) g1 (by rw [g4]; exact line_le h3) fun h' tk acc kp it => ?_
            have := acc_eq g5 (g6.trans g4.symm) it
            rw [this]
            exact h h' tk kp
          | _ => cases e
      · cases hz
  · cases hz
end
end Fo
namespace Fo
open PySem PySem.Spec PyProof.Rows L2 PySem.W
section
variable {X : Cx} {tabs : Tb}
/-! ### len -/
def lenDk (kvs : List (PyData × PyData)) : Option PyData := match keysD kvs with
  | some ks => if ks.length ≤ 1000000 then some (.int (ks.length : Nat)) else none
  | none => none
def lenW : List PyData → Option PyData
  | [.dict kvs] => lenDk kvs
  | ds => lenV ds
theorem cs_lenW : CallS X (.builtin "len") lenW := by
  intro pins s σ H xs us tabs δ O st ds z Q I rx W hx hz c
  unfold lenW at hz
  split at hz
  · rename_i kvs
    cases hx with
    | cons q1 q2 =>
      cases q2
      obtain ⟨a, rfl, q⟩ := q1.dk
      unfold lenDk at hz
      split at hz
      · rename_i ks hks
        split at hz
        · rename_i hle
          cases hz
          unfold keysD at hks
          split at hks
          · rename_i ps hps
            cases hks
            obtain ⟨kv, h1, h2⟩ := q.dK hps
            refine call_lenD pins s σ H _ us Q I rx ⟨a, kv, rfl, h1, ?_⟩
            rw [h2.len]
            have c' := c.same W (.int _)
            rw [List.length_map] at c'
            exact c'
          · cases e2 : dnOf kvs with
            | none => rw [e2] at hks; cases hks
            | some ps =>
              rw [e2] at hks
              cases hks
              obtain ⟨xs, n⟩ := q.nt e2
              have hl : xs.length = ps.length := Paired.length n.vs
              obtain ⟨lo, dd⟩ := n.heap rds_mask I
              rw [Vals.ref1 rx]
              rw [List.length_map] at hle
              refine call_len_dictH lo dd (by omega) ⟨.int _, H, I.tok _, ⟨_, rfl⟩, ?_⟩
              have c' := c.same W (.int _)
              rw [List.length_map, ← hl] at c'
              exact c'
        · cases hz
      · cases hz
  · exact cs_len pins s σ H _ us tabs δ O st _ z Q I rx W hx hz c
/-! ### list of a dict -/
def listW : List PyData → Option PyData
  | [.dict kvs] => (match keysD kvs with
    | some ks => if ks.length ≤ 1000000 then some (.list ks) else none
    | none => none)
  | ds => listV ds
theorem cs_listW (hc : X.calm = true) : CallS X (.type "list") listW := by
  intro pins s σ H xs us tabs δ O st ds z Q I rx W hx hz c
  unfold listW at hz
  split at hz
  · rename_i kvs
    cases hx with
    | cons q1 q2 =>
      cases q2
      obtain ⟨a, rfl, q⟩ := q1.dk
      split at hz
      · rename_i ks hks
        split at hz
        · rename_i hle
          cases hz
          rw [Vals.ref1 rx]
          obtain ⟨ys, vs, o, ar, ep, rv, k2, lo, g1, g2, g3, g4, g5, g6⟩ := dict_coll I hc q hks hle
          refine kdl_call (kdl_raw lo g2 g3) (I.ok.hd hc) g1 (by rw [g4]; exact line_le hle) fun h' tk acc' c' kp e it => ?_
          have ea := acc_eq g5 (g6.trans g4.symm) it
          refine ⟨.ref s.heap.objs.size, _, I.laid (t' := tk) (o := .lst ys) kp (Nat.le_refl _) ⟨by rw [k2.length]; exact line_le hle, vs, c', rv, by rw [← ea, Array.toArray_toList]; exact e⟩, rfl, c.lst W k2 _ (I.hok.fresh (Nat.le_refl _))⟩
        · cases hz
      · cases hz
  · exact cs_list pins s σ H _ us tabs δ O st _ z Q I rx W hx hz c
/-! ### the least, the greatest -/
def bstO (op : CmpOp) (ds : List PyData) : Option PyData := match ds with
  | x :: xs => if sOk (x :: xs) = true then some (xs.foldl (fun a y => if (match op with | .Lt => cmpB .Lt y a | _ => cmpB .Lt a y) = true then y else a) x) else none
  | [] => none
def seqL : PyData → Option (List PyData)
  | .list ds => some ds
  | .tuple ds => some ds
  | _ => none
def minW : List PyData → Option PyData
  | [d] => (seqL d).bind (bstO .Lt)
  | ds => min2V ds
def maxW : List PyData → Option PyData
  | [d] => (seqL d).bind (bstO .Gt)
  | ds => max2V ds
theorem fold_min {ds : List PyData} (h : ∀ d ∈ ds, ∀ e ∈ ds, cmpOk d e = true) : ∀ (xs : List PyData) (x : PyData), x ∈ ds → (∀ y ∈ xs, y ∈ ds) → xs.foldl (fun a y => if cmpB .Lt y a = true then y else a) x = minD x xs ∧ minD x xs ∈ ds
  | [], x, hx, _ => ⟨rfl, hx⟩
  | y :: xs, x, hx, hy => by
    have e := dataLt_cmp (h y (hy y (List.mem_cons_self ..)) x hx)
    have hm : (if dataLt y x then y else x) ∈ ds := by
      split
      · exact hy y (List.mem_cons_self ..)
      · exact hx
    have ih := fold_min h xs (if dataLt y x then y else x) hm fun z hz => hy z (List.mem_cons_of_mem _ hz)
    unfold minD at ih ⊢
    rw [List.foldl_cons, List.foldl_cons, ← e]
    exact ih
theorem fold_max {ds : List PyData} (h : ∀ d ∈ ds, ∀ e ∈ ds, cmpOk d e = true) : ∀ (xs : List PyData) (x : PyData), x ∈ ds → (∀ y ∈ xs, y ∈ ds) → xs.foldl (fun a y => if cmpB .Lt a y = true then y else a) x = maxD x xs ∧ maxD x xs ∈ ds
  | [], x, hx, _ => ⟨rfl, hx⟩
  | y :: xs, x, hx, hy => by
    have e := dataLt_cmp (h x hx y (hy y (List.mem_cons_self ..)))
    have hm : (if dataLt x y then y else x) ∈ ds := by
      split
      · exact hy y (List.mem_cons_self ..)
      · exact hx
    have ih := fold_max h xs (if dataLt x y then y else x) hm fun z hz => hy z (List.mem_cons_of_mem _ hz)
    unfold maxD at ih ⊢
    rw [List.foldl_cons, List.foldl_cons, ← e]
    exact ih
theorem depth_all : ∀ {l : List PyData}, (∀ d ∈ l, SeqAt.shaped d = true) → PyData.depthAll l ≤ 64
  | [], _ => by unfold PyData.depthAll; omega
  | d :: l, h => by
    have h1 := SeqAt.depth_of_shaped (h d (List.mem_cons_self ..))
    have h2 := depth_all fun e he => h e (List.mem_cons_of_mem _ he)
    unfold PyData.depthAll
    omega
theorem cmpOk_non {d : PyData} (h : cmpOk .none d = true) : False := by
  cases d <;> simp [cmpOk] at h
theorem alike_all {ds : List PyData} (h : ∀ d ∈ ds, ∀ e ∈ ds, cmpOk d e = true) : AlikeAll ds := ⟨fun x hx y hy => alike_of (h x hx y hy), fun x hx e => cmpOk_non (d := .none) (by have := h x hx x hx; rw [e] at this; exact this)⟩
theorem readsAll_get {h : Heap} {vs : List Value} {ds : List PyData} {as : List Addr} (r : ReadsAll h vs ds as) {i : Nat} {v : Value} (e : vs[i]? = some v) : ∃ d bs, ds[i]? = some d ∧ Reads h v d bs := by
  obtain ⟨bs, r1, hl, _, _⟩ := readsAll_at r i v e
  exact ⟨_, bs, by rw [List.getElem?_eq_getElem hl]; rw [List.getD_eq_getElem?_getD, List.getElem?_eq_getElem hl]; rfl, r1⟩
theorem seqL_case {K : PySem.W.Frag} {δ : Option Addr} {O : Addr → Prop} {H : Hp} {x : V} {d : PyData} {ds : List PyData} (h : TRp K δ O H x d) (e : seqL d = some ds) : (∃ a xs, x = .ref a ∧ H a = some (.lst xs) ∧ RpAll K (mask O H) xs ds) ∨ ∃ a xs, x = .ref a ∧ H a = some (.tup xs) ∧ RpAll K (mask O H) xs ds := by
  cases d with
  | list es => cases e; exact .inl h.lst
  | tuple es =>
    cases e
    obtain ⟨a, xs, h1, h2, h3, _⟩ := h.tup
    exact .inr ⟨a, xs, h1, h2, h3⟩
  | _ => cases e
theorem bst_fin {pins : List (Addr × Obj)} {s : Shared} {σ : L2.St} {H : Hp} {tabs : Tb} {δ : Option Addr} {O : Addr → Prop} {st : Dr} {Q : VK} {ys : List V} {its : List Value} {es : List PyData} {as : List Addr} {z : PyData} (I : Inv X pins σ H s) (W : WOk X.K tabs δ O st H) (rv : Vals ys its) (k2 : RpAll X.K (mask O H) ys es) (ra : ReadsAll s.heap its es as) (hs : ∀ d ∈ es, SeqAt.shaped d = true) (c : Cont X.K tabs δ O st H z Q)
    {i : Nat} {v : Value} {h' : Heap} {tk : Nat} {bs : List Addr} (hv : its[i]? = some v) (hr : Reads h' v z bs) (kp : ∀ b o, s.heap.get? b = some o → h'.get? b = some o) : EP X pins σ Q v { s with heap := h', toks := tk } := by
  obtain ⟨d, cs, hd, rd⟩ := readsAll_get ra hv
  have e : d = z := (Reads.unique (PyProof.Rows.Reads.keeps kp rd) _ _ hr).1
  subst e
  obtain ⟨w, hw, rw1⟩ := k2.get hd
  have key : ∀ {ys : List V} {its : List Value} {i : Nat} {w : V} {v : Value}, Vals ys its → ys[i]? = some w → its[i]? = some v → L2.RelV w v := by
    intro ys its i w v r
    induction r generalizing i with
    | nil => intro a; simp at a
    | cons r t ih =>
      intro a b
      cases i with
      | zero => simp at a b; subst a b; exact r
      | succ i => exact ih (by simpa using a) (by simpa using b)
  exact ⟨w, H, I.kept kp, key rv hw hv, c.same W rw1⟩
theorem cs_minW (hc : X.calm = true) (hu : X.A.units + 70 < cLine) : CallS X (.builtin "min") minW := by
  intro pins s σ H xs us tabs δ O st ds z Q I rx W hx hz c
  unfold minW at hz
  split at hz
  · rename_i d
    cases e : seqL d with
    | none => rw [e] at hz; cases hz
    | some es =>
      rw [e] at hz
      have hz : bstO .Lt es = some z := hz
      cases es with
      | nil => cases hz
      | cons y es =>
        have hz : (if sOk (y :: es) = true then some (es.foldl (fun a y => if (match CmpOp.Lt with | .Lt => cmpB .Lt y a | _ => cmpB .Lt a y) = true then y else a) y) else none) = some z := hz
        split at hz
        · rename_i hok
          obtain ⟨h1, h2, h3⟩ := sOk_p hok
          obtain ⟨f1, f2⟩ := fold_min h1 es y (List.mem_cons_self ..) fun z hz => List.mem_cons_of_mem _ hz
          have ez : minD y es = z := by rw [← f1]; exact Option.some.inj hz
          cases hx with
          | cons q1 q2 =>
            cases q2
            rcases seqL_case q1 e with ⟨a, ys, rfl, k1, k2⟩ | ⟨a, ys, rfl, k1, k2⟩
            · obtain ⟨its, rv, hl, _⟩ := I.list (SqL.of (K := X.K) k1)
              rw [Vals.ref1 rx]
              obtain ⟨as, ra⟩ := Dp.readsAll I _ ys its ((k2.mono rds_mask).dp (canLay_all h2)) rv
              exact min_list_data (I.ok.hd hc) hl.isList (by simpa using ra) (alike_all h1) (by have := depth_all h2; omega) fun i v h' tk bs hv hr kp => bst_fin I W rv k2 ra h2 c (by simpa using hv) (by rw [← ez]; exact hr) kp
            · obtain ⟨its, rv, hl, _⟩ := I.tuple (SqT.of (K := X.K) k1)
              rw [Vals.ref1 rx]
              obtain ⟨as, ra⟩ := Dp.readsAll I _ ys its ((k2.mono rds_mask).dp (canLay_all h2)) rv
              exact min_tuple_data (I.ok.hd hc) hl (by simpa using ra) (alike_all h1) (by have := depth_all h2; omega) fun i v h' tk bs hv hr kp => bst_fin I W rv k2 ra h2 c (by simpa using hv) (by rw [← ez]; exact hr) kp
        · cases hz
  · exact cs_min2 hc pins s σ H _ us tabs δ O st _ z Q I rx W hx hz c
theorem cs_maxW (hc : X.calm = true) (hu : X.A.units + 70 < cLine) : CallS X (.builtin "max") maxW := by
  intro pins s σ H xs us tabs δ O st ds z Q I rx W hx hz c
  unfold maxW at hz
  split at hz
  · rename_i d
    cases e : seqL d with
    | none => rw [e] at hz; cases hz
    | some es =>
      rw [e] at hz
      have hz : bstO .Gt es = some z := hz
      cases es with
      | nil => cases hz
      | cons y es =>
        have hz : (if sOk (y :: es) = true then some (es.foldl (fun a y => if (match CmpOp.Gt with | .Lt => cmpB .Lt y a | _ => cmpB .Lt a y) = true then y else a) y) else none) = some z := hz
        split at hz
        · rename_i hok
          obtain ⟨h1, h2, h3⟩ := sOk_p hok
          obtain ⟨f1, f2⟩ := fold_max h1 es y (List.mem_cons_self ..) fun z hz => List.mem_cons_of_mem _ hz
          have ez : maxD y es = z := by rw [← f1]; exact Option.some.inj hz
          cases hx with
          | cons q1 q2 =>
            cases q2
            rcases seqL_case q1 e with ⟨a, ys, rfl, k1, k2⟩ | ⟨a, ys, rfl, k1, k2⟩
            · obtain ⟨its, rv, hl, _⟩ := I.list (SqL.of (K := X.K) k1)
              rw [Vals.ref1 rx]
              obtain ⟨as, ra⟩ := Dp.readsAll I _ ys its ((k2.mono rds_mask).dp (canLay_all h2)) rv
              exact max_list_data (I.ok.hd hc) hl.isList (by simpa using ra) (alike_all h1) (by have := depth_all h2; omega) fun i v h' tk bs hv hr kp => bst_fin I W rv k2 ra h2 c (by simpa using hv) (by rw [← ez]; exact hr) kp
            · obtain ⟨its, rv, hl, _⟩ := I.tuple (SqT.of (K := X.K) k1)
              rw [Vals.ref1 rx]
              obtain ⟨as, ra⟩ := Dp.readsAll I _ ys its ((k2.mono rds_mask).dp (canLay_all h2)) rv
              exact max_tuple_data (I.ok.hd hc) hl (by simpa using ra) (alike_all h1) (by have := depth_all h2; omega) fun i v h' tk bs hv hr kp => bst_fin I W rv k2 ra h2 c (by simpa using hv) (by rw [← ez]; exact hr) kp
        · cases hz
  · exact cs_max2 hc pins s σ H _ us tabs δ O st _ z Q I rx W hx hz c
end
end Fo
namespace L2
open PySem PySem.Spec PyProof.Rows Fo
section
variable {X : Cx}
theorem ps_setDx {i : Nat} {y : Str} {py pos spos : Pos} {kx vx tg iter : Expr} {ifs : List Expr} {scope : Scope} {own : List (Str × Nat)} {wi : TI} {g : TG} {tt : TT} {tk tv : TE} (hc : X.calm = true) (hN : X.N.Nodup) (hu : X.A.units + 65 < cLine) (hy : X.N[i]? = some y) (hyl : X.env.scope.names.lookup y = some .local)
    (hsw : swapsWith (.DictComp kx vx [⟨tg, iter, ifs, 0⟩] scope pos) (some (.Name y py)) spos.line X.env = pure true) (hi : PI X tg iter wi) (ok : BlkOk X.N X.env.scope scope own)
    (hg : ∀ t H C cl fp, PG (X.blk t H scope (compEnvC scope cl C X.env) fp) tg g) (ht : ∀ t H C cl fp, PTs (X.blk t H scope (compEnvC scope cl C X.env) fp) ifs tt) (hk : ∀ t H C cl fp, PE (X.blk t H scope (compEnvC scope cl C X.env) fp) kx tk) (he : ∀ t H C cl fp, PE (X.blk t H scope (compEnvC scope cl C X.env) fp) vx tv)
    (hs : ∀ x, foldedSetIterable iter X.env x = pure x) : PS X (.Assign [.Name y py] (.DictComp kx vx [⟨tg, iter, ifs, 0⟩] scope pos) spos) (tAsg (tDx X.K wi g tt tk tv (own.map (·.2))) (gName i)) := ⟨fun pp t σ H D I h => by
  rw [exec_Assign_Name_used _ _ _ _ hsw]
  refine wpAny_bind (wpAny_standAt (wpAny_bind ?_))
  show wpAny _ X.A (do let _ ← comprehension (.DictComp kx vx [⟨tg, iter, ifs, 0⟩] scope pos) scope X.env (firstIterPos [⟨tg, iter, ifs, 0⟩] pos) newDict false (eval iter X.env) (some (assign (.Name y py) X.env))) _ _ t
  have h1 : tDx X.K wi g tt tk tv (own.map (·.2)) σ H (fun x H1 => gName i x σ H1 D.nx) := h
  refine wpAny_bind (thn (dx_go (Z := fun _ t' => SP X pp D .next t') hc hN hu I hi ok hg ht hk he hs h1 fun L C t' m H' I' q hn f => ?_) fun _ t' hq => wpAny_pure (wpAny_pure hq))
  show wpAny _ _ (assign (.Name y py) X.env (.ref L)) _ _ _
  refine wpAny_assign_Name (store_ok2 (v := V.ref L) I' hN hy (.inl hyl) rfl (fun t2 I2 ⟨a, sb, ha⟩ => ?_) (.inr hyl))
  obtain ⟨f0, f1, _, f3, f4, f5⟩ := f
  have haC : C ≠ a := ha.elim (fun z => by rw [z]; exact f1) fun z e => f4 y a z e.symm
  exact ⟨m, hn.sameBut sb haC, fun h3 sb3 => ⟨_, H', I2.turned (t' := t2.toks) (fun b o hb e => (sb3.2 b hb).trans e) f0 f1 f3 f4 f5, q⟩⟩⟩
end
end L2
namespace Fo
open PySem PySem.Spec PyProof.Rows L2 PySem.W
section
variable {X : Cx} {tabs : Tb} {δ : Option Addr} {O0 : Addr → Prop} {H0 : Hp}
theorem s_ownDc {i : Nat} {y : PySem.Str} {py pos spos : Pos} {kx vx tgE iter : Expr} {ifs : List Expr} {scope : Scope} {own : List (PySem.Str × Nat)} {it : SemL} {tg : Tg} {tt : SemB} {tk tv : Sem1} (hc : X.calm = true) (hN : X.N.Nodup) (hu : X.A.units + 65 < cLine) (hy : X.N[i]? = some y) (hyl : X.env.scope.names.lookup y = some .local)
    (hsw : swapsWith (.DictComp kx vx [⟨tgE, iter, ifs, 0⟩] scope pos) (some (.Name y py)) spos.line X.env = pure true) (hi : PI X tgE iter (RdIt X.K tabs it)) (ok : BlkOk X.N X.env.scope scope own)
    (hg : ∀ t H C cl fp, PG (X.blk t H scope (compEnvC scope cl C X.env) fp) tgE (RdG X.K tg)) (ht : ∀ t H C cl fp, PTs (X.blk t H scope (compEnvC scope cl C X.env) fp) ifs (RdB X.K tabs tt)) (hk : ∀ t H C cl fp, PE (X.blk t H scope (compEnvC scope cl C X.env) fp) kx (Rd1 X.K tabs tk))
    (hv : ∀ t H C cl fp, PE (X.blk t H scope (compEnvC scope cl C X.env) fp) vx (Rd1 X.K tabs tv)) (hs : ∀ x, foldedSetIterable iter X.env x = pure x) (hsub : ∀ j ∈ tg.slots, j ∈ own.map (·.2)) :
    PS X (.Assign [.Name y py] (.DictComp kx vx [⟨tgE, iter, ifs, 0⟩] scope pos) spos) (RdS X.K tabs δ O0 H0 (ownS (dcR it tg (own.map (·.2)) tt tk tv) i)) :=
  PS.imp (ps_setDx hc hN hu hy hyl hsw hi ok hg ht hk hv hs) fun D σ H h => dx_to hsub (own_to h)
theorem s_setDc {i : Nat} {y : PySem.Str} {py pos spos : Pos} {kx vx tgE iter : Expr} {ifs : List Expr} {scope : Scope} {own : List (PySem.Str × Nat)} {it : SemL} {tg : Tg} {tt : SemB} {tk tv : Sem1} (hc : X.calm = true) (hN : X.N.Nodup) (hu : X.A.units + 65 < cLine) (hy : X.N[i]? = some y) (hyl : X.env.scope.names.lookup y = some .local)
    (hsw : swapsWith (.DictComp kx vx [⟨tgE, iter, ifs, 0⟩] scope pos) (some (.Name y py)) spos.line X.env = pure true) (hi : PI X tgE iter (RdIt X.K tabs it)) (ok : BlkOk X.N X.env.scope scope own)
    (hg : ∀ t H C cl fp, PG (X.blk t H scope (compEnvC scope cl C X.env) fp) tgE (RdG X.K tg)) (ht : ∀ t H C cl fp, PTs (X.blk t H scope (compEnvC scope cl C X.env) fp) ifs (RdB X.K tabs tt)) (hk : ∀ t H C cl fp, PE (X.blk t H scope (compEnvC scope cl C X.env) fp) kx (Rd1 X.K tabs tk))
    (hv : ∀ t H C cl fp, PE (X.blk t H scope (compEnvC scope cl C X.env) fp) vx (Rd1 X.K tabs tv)) (hs : ∀ x, foldedSetIterable iter X.env x = pure x) (hsub : ∀ j ∈ tg.slots, j ∈ own.map (·.2)) :
    PS X (.Assign [.Name y py] (.DictComp kx vx [⟨tgE, iter, ifs, 0⟩] scope pos) spos) (RdS X.K tabs δ O0 H0 (asgS (dcR it tg (own.map (·.2)) tt tk tv) (.nm i))) :=
  PS.imp (ps_setDx hc hN hu hy hyl hsw hi ok hg ht hk hv hs) fun D σ H h => dx_to hsub (rdF_1 (asg_nm h) dcR_dict)
/-! ### count, index of lists -/
def countV (d k : PyData) : Option PyData := match d, k with
  | .list ds, .int k => (Fo.intsOf ds).map fun ns => .int (ns.count k : Nat)
  | .list ds, k => if SeqAt.shaped (.list ds) = true ∧ SeqAt.shaped k = true then some (.int (ds.countP (fun z => PyData.eqv z k) : Nat)) else none
  | _, _ => none
def rCountD (K : PySem.W.Frag) : V → List V → Hp → VK → Prop := fun x xs H Q => ∃ (a : Addr) (y : V) (d : PyData) (ds : List PyData), x = V.ref a ∧ xs = [y] ∧ Dp K H (V.ref a) (.list ds) ∧ Dp K H y d ∧
  SeqAt.shaped (.list ds) = true ∧ SeqAt.shaped d = true ∧ Q (.int (ds.countP (fun z => PyData.eqv z d) : Nat)) H
theorem mt_countD (hu : X.A.units + 65 < cLine) : MtR X "list.count" (rCountD X.K) := by
  intro pins s σ H x xs v us Q I rx rxs h
  obtain ⟨a, y, d, ds, rfl, rfl, hl, hy, sl, sd, q⟩ := h
  cases rx
  cases rxs with
  | cons ry rt =>
    rename_i uy ut
    cases rt
    obtain ⟨bs, r1⟩ := Dp.reads I d y uy hy ry
    have hxs : PyData.canLayAll0 ds = true := SeqAt.canLay_of_shaped sl
    have hroom : X.A.units + 1 + min (PyData.depthAll ds) d.depth < cLine := room_in_shaped sd hu
    cases hl with
    | lst hs ha =>
      obtain ⟨its, rv, ⟨⟨cls, dd, data, sls⟩, n, ho, hc, hdn, hdt⟩, hlen⟩ := I.list hs
      simp only at hc hdt
      subst hc hdt
      obtain ⟨as, h4⟩ := Dp.readsAll I ds _ its ha rv
      have hmap : its.map (SeqAt.readOf s.heap) = ds := SeqAt.readsAll_map ds its as hxs h4
      refine call_meets PySem.F.slot_list_count ⟨_, ho, rfl⟩ PySem.F.entry_list_count (PySem.F.args_list_count_2 _ _)
        (SeqAt.list_countAt a its.toArray n dd sls uy (fun u => PyData.eqv (SeqAt.readOf s.heap u) d)) ⟨ho, SeqAt.items_eqAt (vs := its.toArray) (show ReadsAll s.heap its.toArray.toList ds as from h4) r1 hxs (SeqAt.canLay_of_shaped sd) hroom, ?_⟩
      have ec : its.toArray.toList.countP (fun u => PyData.eqv (SeqAt.readOf s.heap u) d) = ds.countP fun z => PyData.eqv z d := by
        rw [← hmap, List.countP_map]
        rfl
      refine ⟨.int (ds.countP (fun z => PyData.eqv z d) : Nat), H, I.tok _, ⟨s.toks, ?_⟩, q⟩
      show Value.int ((its.toArray.toList.countP (fun u => PyData.eqv (SeqAt.readOf s.heap u) d) : Nat) : Int) s.toks = Value.int ((ds.countP (fun z => PyData.eqv z d) : Nat) : Int) s.toks
      rw [ec]
def rCnt2 (K : PySem.W.Frag) : V → List V → Hp → VK → Prop := fun x xs H Q => rCntI K x xs H Q ∨ rCountD K x xs H Q
theorem mt_cnt2 (hu : X.A.units + 65 < cLine) : MtR X "list.count" (rCnt2 X.K) := by
  intro pins s σ H x xs v us Q I rx rxs h
  rcases h with h | h
  · exact mt_lcount pins s σ H x xs v us Q I rx rxs h
  · exact mt_countD hu pins s σ H x xs v us Q I rx rxs h
def ixD (ds : List PyData) (k : PyData) : Option Nat := (ds.findIdx? fun z => PyData.eqv z k)
def indexV (d k : PyData) : Option PyData := match d with
  | .list ds => if SeqAt.shaped (.list ds) = true ∧ SeqAt.shaped k = true then (ixD ds k).map fun j => .int (j : Nat) else none
  | _ => none
theorem ex_lmeth {o e : Expr} {name : PySem.Str} {id : String} {g : PyData → PyData → Option PyData} {r : V → List V → Hp → VK → Prop} {mo me : Sem1} {apos cpos : Pos} (slot : Slot "list" name id) (hty : typeOf (.builtin id) = pure (.type "method_descriptor")) (hm : MtR X id r) (hd : ∀ d k z, g d k = some z → ∃ ds, d = .list ds)
    (hr : ∀ {H : Hp} {δ : Option Addr} {O : Addr → Prop} {st : Dr} {x y : V} {d k z : PyData} {Q : VK}, WOk X.K tabs δ O st H → TRp X.K δ O H x d → TRp X.K δ O H y k → g d k = some z → Cont X.K tabs δ O st H z Q → r x [y] H Q)
    (ho : PE X o (RdT X.K tabs mo)) (he : PE X e (RdT X.K tabs me)) (hp : plain e = true) (hbase : attributeBase o name X.env (eval o X.env) = eval o X.env) (hline : (apos.endLine == cpos.line) = true) :
    PE X (.Call (.Attribute o name apos) [e] [] cpos) (Rd1 X.K tabs (binR g mo me)) := by
  have hp1 : starEach [e] X.env = [(false, eval e X.env)] := plain_star hp
  refine PE.imp (pe_bm F.plainAttrs_list slot hty hm ho (pa_cons he pa_nil (plain_star hp)) hbase (by rw [hp1]; rfl) hline (plain_star hp) rfl) fun σ H Q h => ?_
  obtain ⟨δ, O, ρ, st, z, st', S, W, e0, c⟩ := h
  obtain ⟨x, st1, e1, f1⟩ := bnd_some e0
  obtain ⟨y, st2, e2, f2⟩ := bnd_some f1
  obtain ⟨g3, rfl⟩ := up_some f2
  obtain ⟨ds, rfl⟩ := hd _ _ _ g3
  refine ⟨δ, O, ρ, st, _, st1, S, W, e1, fun w H1 E1 W1 R1 => ?_⟩
  obtain ⟨a, xs, ea, h1, h2⟩ := R1.lst
  subst ea
  refine ⟨.inl ⟨rfl, xs, SqL.of h1⟩, δ, O, ρ, st1, y, _, S.ext E1 W.dl, W1, e2, fun w2 H2 E2 W2 R2 => ?_⟩
  exact hr W2 (R1.ext E2 W1) R2 g3 fun w H' E' W' R' => c w H' ((E1.trans E2).trans E') W' R'
theorem ints_dp {K : PySem.W.Frag} {H : Hp} {xs : List V} {ds : List PyData} {ns : List Int} (r : RpAll K H xs ds) (e : Fo.intsOf ds = some ns) : xs = ns.map V.int := (ints_of r e).1
theorem ex_count (hu : X.A.units + 65 < cLine) {o e : Expr} {mo me : Sem1} {apos cpos : Pos} (ho : PE X o (RdT X.K tabs mo)) (he : PE X e (RdT X.K tabs me)) (hp : plain e = true) (hbase : attributeBase o "count" X.env (eval o X.env) = eval o X.env) (hline : (apos.endLine == cpos.line) = true) :
    PE X (.Call (.Attribute o "count" apos) [e] [] cpos) (Rd1 X.K tabs (binR countV mo me)) :=
  ex_lmeth (r := rCnt2 X.K) F.slot_list_count F.type_list_count (mt_cnt2 hu) (fun d k z h => by
    unfold countV at h
    split at h
    · exact ⟨_, rfl⟩
    · exact ⟨_, rfl⟩
    · cases h) (fun {H δ O st x y d k z Q} W hx hy hz c => by
    unfold countV at hz
    split at hz
    · rename_i ds k
      cases e : Fo.intsOf ds with
      | none => rw [e] at hz; cases hz
      | some ns =>
        rw [e] at hz
        cases hz
        obtain ⟨a, xs, rfl, h1, h2⟩ := hx.lst
        have := ints_dp h2 e
        subst this
        cases hy.int
        exact .inl ⟨a, ns, k, rfl, rfl, SqL.of h1, c.same W (.int _)⟩
    · rename_i ds hk
      split at hz
      · rename_i hs
        cases hz
        obtain ⟨a, xs, ea, h1, h2⟩ := hx.lst
        have hl := hx.dp (SeqAt.canLay_of_shaped hs.1)
        subst ea
        exact .inr ⟨a, y, _, ds, rfl, rfl, hl, hy.dp (SeqAt.canLay_of_shaped hs.2), hs.1, hs.2, c.same W (.int _)⟩
      · cases hz
    · cases hz) ho he hp hbase hline
theorem ex_index (hu : X.A.units + 65 < cLine) {o e : Expr} {mo me : Sem1} {apos cpos : Pos} (ho : PE X o (RdT X.K tabs mo)) (he : PE X e (RdT X.K tabs me)) (hp : plain e = true) (hbase : attributeBase o "index" X.env (eval o X.env) = eval o X.env) (hline : (apos.endLine == cpos.line) = true) :
    PE X (.Call (.Attribute o "index" apos) [e] [] cpos) (Rd1 X.K tabs (binR indexV mo me)) :=
  ex_lmeth (r := rIndexD X.K) F.slot_list_index F.type_list_index (mt_indexD hu) (fun d k z h => by
    unfold indexV at h
    split at h
    · exact ⟨_, rfl⟩
    · cases h) (fun {H δ O st x y d k z Q} W hx hy hz c => by
    unfold indexV at hz
    split at hz
    · rename_i ds
      split at hz
      · rename_i hs
        cases e : ixD ds k with
        | none => rw [e] at hz; cases hz
        | some j =>
          rw [e] at hz
          cases hz
          obtain ⟨a, xs, ea, h1, h2⟩ := hx.lst
          have hl := hx.dp (SeqAt.canLay_of_shaped hs.1)
          subst ea
          unfold ixD at e
          rw [List.findIdx?_eq_some_iff_getElem] at e
          obtain ⟨hlt, q1, q2⟩ := e
          refine ⟨a, y, k, ds, j, ds[j], rfl, rfl, hl, hy.dp (SeqAt.canLay_of_shaped hs.2), hs.1, hs.2, List.getElem?_eq_getElem hlt, q1, fun m z' hm hz' => ?_, c.same W (.int _)⟩
          obtain ⟨hml, em⟩ := List.getElem?_eq_some_iff.mp hz'
          have := q2 m hm
          rw [← em]
          simpa using this
      · cases hz
    · cases hz) ho he hp hbase hline
/-! ### several names, stored in order -/
def GsV (is : List Nat) : TGs := fun vs σ H Q => vs.length = is.length ∧ Q (storeV σ is vs) H
theorem eg_V (hN : X.N.Nodup) : ∀ {es : List Expr} {is : List Nat}, Paired (NmOk X) es is → PGs X es (GsV is)
  | _, _, .nil => PGs.imp pgs_nil fun vs σ H Q ⟨l, c⟩ => by
    cases vs with
    | nil => exact ⟨rfl, c⟩
    | cons v vs => simp at l
  | e :: es, i :: is, .cons h t => by
    obtain ⟨x, pos, rfl, hi, hx, hf⟩ := h.ok
    refine PGs.imp (pgs_cons (pg_name hN hi hx hf) (eg_V hN t) rfl) fun vs σ H Q ⟨l, c⟩ => ?_
    cases vs with
    | nil => simp at l
    | cons v vs => exact ⟨v, vs, rfl, by simpa using l, c⟩
theorem Ents.ext {K : PySem.W.Frag} {tabs : Tb} {O' : Addr → Prop} {H H1 H2 : Hp} {st : Dr} {ws : List V} {ens : List En} (E : Ents K δ O' H1 H ws ens) (e : Ext δ H1 H2) (W : WOk K tabs δ O' st H1) : Ents K δ O' H2 H ws ens :=
  ⟨by
    have key : ∀ {ws : List V} {ens : List En}, Paired (Slot1 K δ O' H1) ws ens → Paired (Slot1 K δ O' H2) ws ens := by
      intro ws ens h
      induction h with
      | nil => exact .nil
      | cons h t ih => exact .cons (Slot1.lat (Lat2.of e) W.dl h) ih
    exact key E.at_, E.nw, E.inj⟩
theorem s_tupN {ts vs : List Expr} {is : List Nat} {r : SemE} {k k' : Nat} {p p' pos : Pos} (hc : X.calm = true) (hN : X.N.Nodup) (ht : Paired (NmOk X) ts is) (ha : PA X vs (RdM X.K tabs r)) (hl : is.length ≤ 1000)
    (hs : swapsWithSole [.Tuple ts k p] (.Tuple vs k' p') pos.line X.env = pure false) (hw : swappedStores [.Tuple ts k p] (.Tuple vs k' p') X.env = pure none) (h1 : (assignEach [.Tuple ts k p] X.env).map (·.2) = [assign (.Tuple ts k p) X.env]) :
    PS X (.Assign [.Tuple ts k p] (.Tuple vs k' p') pos) (RdS X.K tabs δ O0 H0 (parS is r)) := by
  obtain ⟨q1, q2⟩ := nms_plain ht
  refine PS.imp (ps_asg (pe_tup ha) (pg_tup (n := is.length) hc (eg_V hN ht) q1 q2) hs hw h1) fun D σ H ⟨O, ρ, st, out, st', B, S, W, e, f⟩ => ?_
  obtain ⟨ens, st1, e1, f1⟩ := bnd_some e
  split at f1
  · rename_i hlen
    obtain ⟨rfl, rfl⟩ := pur_some f1
    refine ⟨δ, O, ρ, st, ens, _, S, W, e1, fun O' ws H' L W' E => ?_⟩
    have hwl : ws.length = is.length := (Paired.len E.at_).trans hlen
    refine ⟨by rw [hwl]; exact line_le (by omega), fun a ha => ?_⟩
    have E2 : Ext δ H' (L2.upd H' a (.tup ws)) := Ext.new ha
    have W2 := W'.new (o := .tup ws) ha
    have L2' := L.trans (Lat2.of (O := O') E2)
    have En2 := Ents.ext E E2 W'
    have F := f O' (storeV σ is ws) _ (B.ents S L2' En2 is) (En2.slots S (S.lat L2' W.dl) is) W2 (L2'.rds W.dl)
    exact ⟨a, ws, rfl, SqT.of upd_same, hwl, hwl, F⟩
  · cases f1
end
end Fo
/-! enumerate, zip: lists and tuples, in any mix -/
namespace L2
open PySem PySem.Spec PyProof.Rows
/-- b: a list, else a tuple -/
def SqA (b : Bool) (K : PySem.W.Frag) (H : Hp) (a : Addr) (xs : List V) : Prop := if b = true then SqL K H a xs else SqT K H a xs
def itO (b : Bool) (l : Addr) : Obj := if b = true then { cls := .type "list_iterator", data := .fields #[.ref l, .int 0 0] } else { cls := .type "tuple_iterator", data := .fields #[.ref l, .int 0 0] }
def IsItr (b : Bool) (h : Heap) (it l : Addr) (i : Nat) : Prop := if b = true then h.IsListIter it l i else h.IsTupleIter it l i
def IsSq (b : Bool) (h : Heap) (l : Addr) (items : Array Value) : Prop := if b = true then h.IsList l items else h.IsTuple l items
section
variable {P : Program} {w : World} {A : Around}
theorem draws_sq (b : Bool) (hh : A.handled = none) (it l : Addr) (hne : l ≠ it) (items : Array Value) : Draws P w A it [it, l] items.size (fun i v => items[i]? = some v) (fun i h => IsItr b h it l i ∧ IsSq b h l items) := by
  cases b with
  | true => exact Draws.list hh it l hne items
  | false => exact Draws.tuple hh it l hne items
theorem begins_sq (b : Bool) (l : Addr) (items : Array Value) : Begins (.ref l) (itO b l) fun h => IsSq b h l items := by
  cases b with
  | true => exact begins_list l items
  | false => exact begins_tuple l items
theorem itr_of {b : Bool} {h : Heap} {it l : Addr} (e : h.get? it = some (itO b l)) : IsItr b h it l 0 := by
  cases b with
  | true => exact ⟨_, e, rfl, rfl⟩
  | false => exact ⟨_, e, rfl, rfl⟩
theorem itr_obj {b : Bool} {h : Heap} {it l : Addr} {i : Nat} (e : IsItr b h it l i) : ∃ o, h.get? it = some o ∧ ∀ v, o.data ≠ .cell v := by
  cases b with
  | true => obtain ⟨o, e1, _, d1⟩ := (show h.IsListIter it l i from e); exact ⟨o, e1, fun v q => by rw [d1] at q; cases q⟩
  | false => obtain ⟨o, e1, _, d1⟩ := (show h.IsTupleIter it l i from e); exact ⟨o, e1, fun v q => by rw [d1] at q; cases q⟩
theorem itr_keep {b : Bool} {h h' : Heap} {it l : Addr} {i : Nat} (e : IsItr b h it l i) (k : ∀ o, h.get? it = some o → h'.get? it = some o) : IsItr b h' it l i := by
  cases b with
  | true => exact (show h.IsListIter it l i from e).at fun o q => k o q
  | false => exact (show h.IsTupleIter it l i from e).at fun o q => k o q
theorem sq_in {X : Cx} {pins : List (Addr × Obj)} {σ : St} {H : Hp} {s : Shared} {b : Bool} {a : Addr} {xs : List V} (I : Inv X pins σ H s) (h : SqA b X.K H a xs) : ∃ its : List Value, Vals xs its ∧ IsSq b s.heap a its.toArray := by
  cases b with
  | true => obtain ⟨its, rv, p, _⟩ := I.list (show SqL X.K H a xs from h); exact ⟨its, rv, p.isList⟩
  | false => obtain ⟨its, rv, p, _⟩ := I.tuple (show SqT X.K H a xs from h); exact ⟨its, rv, p⟩
theorem sq_lt {b : Bool} {h : Heap} {a : Addr} {items : Array Value} (e : IsSq b h a items) : a < h.objs.size := by
  cases b with
  | true => obtain ⟨o, q, _⟩ := (show h.IsList a items from e); exact Heap.lt_size q
  | false => obtain ⟨o, q, _⟩ := (show h.IsTuple a items from e); exact Heap.lt_size q
theorem sq_inj {X : Cx} {pins : List (Addr × Obj)} {σ : St} {H : Hp} {s : Shared} {b : Bool} {a : Addr} {xs ys : List V} (I : Inv X pins σ H s) (h : SqA b X.K H a xs) (h' : SqA b X.K H a ys) : xs = ys := by
  cases b with
  | true => exact I.list_inj (show SqL X.K H a xs from h) h'
  | false => exact I.tuple_inj (show SqT X.K H a xs from h) h'
end
/-! ### a walk that gives pairs -/
/-- how the turn at i stands: a walk of pairs in the state, or its end -/
structure WkOk (P : Program) (w : World) (K : PySem.W.Frag) (J : It) (I : Addr) (fp : List Addr) (tn : Nat → Heap → Prop) : Prop where
  mem : I ∈ fp
  obj : ∀ i h, tn i h → ∀ b ∈ fp, ∃ o, h.get? b = some o ∧ ∀ v, o.data ≠ .cell v
  keep : ∀ i h h', tn i h → (∀ b ∈ fp, ∀ o, h.get? b = some o → h'.get? b = some o) → tn i h'
  self : ∀ (A : Around) (i : Nat) (s : Shared) (Q : Value → Shared → Prop) (E : Value → Shared → Prop), tn i s.heap → Q (.ref I) s → wpAny (model P w) A (pyIter (.ref I)) Q E s
  go : ∀ (X : Cx), X.prog = P → X.w = w → X.K = K → X.calm = true → ∀ (i : Nat) (pins : List (Addr × Obj)) (s : Shared) (σ : St) (H : Hp), Inv X pins σ H s → tn i s.heap → J.go i H →
    ∃ n fw wr Pt St Mid x y, WalksT P w X.A I fw wr n Pt St Mid ∧ (∀ b ∈ wr, b ∈ fp) ∧ i < n ∧ St i s.heap ∧ (∀ h, St (i + 1) h → tn (i + 1) h) ∧
      (∀ vals, Pt i vals → ∃ u v, vals = #[u, v] ∧ RelV x u ∧ RelV y v) ∧ ∀ T, H T = none → J.yld i H (.ref T) (upd H T (.tup [x, y]))
  stop : ∀ (X : Cx), X.prog = P → X.w = w → X.K = K → X.calm = true → ∀ (i : Nat) (pins : List (Addr × Obj)) (s : Shared) (σ : St) (H : Hp), Inv X pins σ H s → tn i s.heap → J.stop i H →
    ∃ fw wr Pt St Mid, WalksT P w X.A I fw wr i Pt St Mid ∧ (∀ b ∈ wr, b ∈ fp) ∧ St i s.heap
theorem turn_of {P : Program} {w : World} {K : PySem.W.Frag} {J : It} {I : Addr} {fp : List Addr} {tn : Nat → Heap → Prop} {elts : List Expr} {kk : Nat} {tpos : Pos} (W : WkOk P w K J I fp tn) : Turn P w K (.Tuple elts kk tpos) J fp I tn where
  mem := W.mem
  obj := W.obj
  keep := W.keep
  self := W.self
  item := by
    intro X hP hw hK hc i pins s σ H E IV hf st hg
    obtain ⟨n, fw, wr, Pt, St, Mid, x, y, T, hsub, hi, hst, hn, hv, hy⟩ := W.go X hP hw hK hc i pins s σ H IV st hg
    subst hP hw hK
    refine T.item i s _ E hi hst fun T0 vals h' tk hPt hT0 hTt hM hk => ?_
    obtain ⟨u, v, rfl, ru, rv⟩ := hv vals hPt
    have hap := T.apart i T0 h' hM
    refine ⟨_, rfl, T.go elts kk tpos i T0 { s with heap := h', toks := tk } _ E hM fun h'' st'' hk2 => ?_⟩
    obtain ⟨o, eo, co, no, eo2⟩ := hTt
    have eo' : h''.get? T0 = some o := hk2 T0 o hap eo
    have new : ObjOk X.prog X.w (upd H T0 (.tup [x, y])) h'' T0 (.tup [x, y]) := ⟨by show 2 ≤ sizeLine; decide, [u, v], .cons ru (.cons rv .nil), ⟨o, eo', co, no, eo2⟩⟩
    have IV1 : Inv X pins σ (upd H T0 (.tup [x, y])) { s with heap := h'', toks := tk } := IV.turnedNew (ch := wr) (fun b ob hb q => hk2 b ob hb (hk b ob hb q)) (fun b hb => hf b (hsub b hb)) hT0 new
    refine ⟨.ref T0, _, IV1, rfl, hy T0 (IV.hok.fresh hT0), hn h'' st'', fun b hb => ?_⟩
    obtain ⟨ob, eb, _⟩ := W.obj i s.heap st b hb
    rw [upd_ne (Nat.ne_of_lt (Nat.lt_of_lt_of_le (Heap.lt_size eb) hT0))]
    exact (hf b hb).1
  done := by
    intro X hP hw hK hc i pins s σ H E IV hf st hg
    obtain ⟨fw, wr, Pt, St, Mid, T, hsub, hst⟩ := W.stop X hP hw hK hc i pins s σ H IV st hg
    subst hP hw hK
    exact T.done s _ E hst fun h' tk hk => ⟨rfl, IV.turnedL (ch := wr) hk fun b hb => hf b (hsub b hb)⟩
/-! ### enumerate -/
def ItE (b : Bool) (K : PySem.W.Frag) (a : Addr) (n : Nat) : It where
  go := fun i H => ∃ (xs : List V) (x : V), SqA b K H a xs ∧ xs.length = n ∧ xs[i]? = some x
  yld := fun i H v H' => ∃ T x, v = .ref T ∧ H T = none ∧ H' = upd H T (.tup [.int (i : Nat), x]) ∧ ∀ xs, SqA b K H a xs → xs[i]? = some x
  stop := fun i H => ∃ xs : List V, SqA b K H a xs ∧ xs.length = n ∧ n ≤ i
def tnE (b : Bool) (a e it : Addr) (n : Nat) (i : Nat) (h : Heap) : Prop := i ≤ n ∧ (∃ old, IsEnum h e it ((i : Nat) : Int) old) ∧ IsItr b h it a i ∧ e ≠ it ∧ e ≠ a ∧ a ≠ it
theorem wk_enum {P : Program} {w : World} {K : PySem.W.Frag} {b : Bool} {a e it : Addr} {n : Nat} : WkOk P w K (ItE b K a n) e [e, it] (tnE b a e it n) where
  mem := by simp
  obj := fun i h ⟨_, ⟨old, he⟩, hit, _⟩ c hc => by
    rcases (show c = e ∨ c = it by simpa using hc) with q | q
    · rw [q]; exact ⟨_, he, fun v q => nomatch q⟩
    · rw [q]; exact itr_obj hit
  keep := fun i h h' ⟨h0, ⟨old, he⟩, hit, h1⟩ k => ⟨h0, ⟨old, k e (by simp) _ he⟩, itr_keep hit fun o q => k it (by simp) o q, h1⟩
  self := fun A i s Q E ⟨_, ⟨_, he⟩, _⟩ h => wpAny_pyIter_enum he h
  go := by
    intro X hP hw hK hc i pins s σ H I ⟨h0, ⟨old, he⟩, hit, h1, h2, h3⟩ ⟨xs, x, hq, hl, hx⟩
    subst hP hw hK
    obtain ⟨its, rv, hs⟩ := sq_in I hq
    have hlen := rv.length
    obtain ⟨u, hu, ru⟩ := rv.get hx
    have hd : X.A.in1.handled = none := I.ok.hd hc
    have hlt : i < xs.length := by
      rcases Nat.lt_or_ge i xs.length with z | z
      · exact z
      · rw [List.getElem?_eq_none z] at hx; cases hx
    refine ⟨_, _, _, _, _, _, .int (i : Nat), x, WalksT.enumerateD (draws_sq b hd it a h3 its.toArray) e h1 (by simp [h1, h2]) (by simp), fun b hb => hb, ?_, ⟨⟨old, he⟩, hit, hs⟩, ?_, ?_, fun T hT => ⟨T, x, rfl, hT, rfl, fun ys hy => by rw [sq_inj I hy hq]; exact hx⟩⟩
    · simp; omega
    · intro h ⟨⟨old', he'⟩, hit', _⟩
      exact ⟨by omega, ⟨old', he'⟩, hit', h1, h2, h3⟩
    · rintro vals ⟨t, x', hx', rfl⟩
      have hu' : its.toArray[i]? = some u := by simpa using hu
      have hx2 : its.toArray[i]? = some x' := hx'
      rw [hu'] at hx2
      cases hx2
      exact ⟨_, _, rfl, ⟨_, rfl⟩, ru⟩
  stop := by
    intro X hP hw hK hc i pins s σ H I ⟨h0, ⟨old, he⟩, hit, h1, h2, h3⟩ ⟨xs, hq, hl, hx⟩
    subst hP hw hK
    obtain ⟨its, rv, hs⟩ := sq_in I hq
    have hlen := rv.length
    have hd : X.A.in1.handled = none := I.ok.hd hc
    have W := WalksT.enumerateD (draws_sq (P := X.prog) (w := X.w) b hd it a h3 its.toArray) e h1 (by simp [h1, h2]) (by simp)
    have hn : its.toArray.size = i := by simp; omega
    rw [hn] at W
    exact ⟨_, _, _, _, _, W, fun b hb => hb, ⟨⟨old, he⟩, hit, hs⟩⟩
theorem meets_enumB {v : Value} {o : Obj} {Hq : Heap → Prop} (B : Begins v o Hq) : Meets (Builtin.«enumerate.__new__» ⟨[.type "enumerate", v], []⟩) (fun _ R s => Hq s.heap ∧ R (.ok (.ret (.ref (s.heap.push o).objs.size)))
        { s with heap := (s.heap.push o).push { cls := .type "enumerate", data := .fields #[.none, .bool false, .ref s.heap.objs.size, rawInt 0, .none, .none] } }) :=
  .of_wp fun prog w A R s h => by
    obtain ⟨hp, g, d, tk, os⟩ := s
    obtain ⟨h1, h⟩ := h
    have hsub := sub_enumerate
    have q1 : ∀ {A' : Around} {E : Value → Shared → Prop} {Q : Value → Shared → Prop}, Q (.ref hp.objs.size) ⟨hp.push o, g, d, tk, os⟩ → wpAny (model prog w) A' (pyIter v) Q E ⟨hp, g, d, tk, os⟩ := fun q => B.iter prog w _ _ ⟨hp, g, d, tk, os⟩ _ h1 q
    wp_walk using q1
    refine wpAny_stack_any fun st => wpAny_pure ?_
    split
    · rename_i c _ _ _ _ _
      cases (c == Value.type "enumerate")
      · wp_walk using q1
        exact ⟨_, rfl, h⟩
      · wp_walk using q1
        exact ⟨_, rfl, h⟩
    · wp_walk using q1
      exact ⟨_, rfl, h⟩
theorem call_enumB {P : Program} {w : World} {A : Around} {E : Value → Shared → Prop} {s : Shared} {v : Value} {o : Obj} {Hq : Heap → Prop} {Q : Value → Shared → Prop} (B : Begins v o Hq) (h1 : Hq s.heap)
    (h : ∀ h', IsEnum h' (s.heap.objs.size + 1) s.heap.objs.size 0 .none → h'.get? s.heap.objs.size = some o → (∀ b ob, s.heap.get? b = some ob → h'.get? b = some ob) → Q (.ref (s.heap.objs.size + 1)) { s with heap := h' }) :
    wpAny (model P w) A (call (.type "enumerate") [v]) Q E s := by
  refine callType_new F.called_enumerate (by decide) (F.typeCall_enumerate_1 _) (F.newCall_enumerate_1 _) (fun obj => F.args_object_init_2 obj _) F.entry_enumerate_new (meets_enumB B) ⟨h1, ?_⟩
  have hz : (s.heap.push o).objs.size = s.heap.objs.size + 1 := Heap.size_push ..
  have he := Heap.get?_push_size (s.heap.push o) (o := { cls := .type "enumerate", data := .fields #[.none, .bool false, .ref s.heap.objs.size, rawInt 0, .none, .none] }) rfl
  show _ ∧ _
  rw [hz] at he ⊢
  exact ⟨⟨_, he, rfl⟩, h _ he (Heap.get?_push_of_some _ (Heap.get?_push_size _ B.free)) fun b ob x => Heap.get?_push_of_some _ (Heap.get?_push_of_some _ x)⟩
def iEnumA (K : PySem.W.Frag) (ta : TA) : TI := fun σ H R => ta σ H fun vs H1 => ∃ b a xs, vs = [.ref a] ∧ SqA b K H1 a xs ∧ R (ItE b K a xs.length) H1
theorem pi_enumA {X : Cx} {e : Expr} {ta : TA} {p pos tpos : Pos} {elts : List Expr} {kk : Nat} (hg : Gl X "enumerate") (hm : X.mg "enumerate" = none) (ha : PA X [e] ta) (hs : starEach [e] X.env = [(false, eval e X.env)]) :
    PI X (.Tuple elts kk tpos) (.Call (.Name "enumerate" p) [e] [] pos) (iEnumA X.K ta) := by
  refine ⟨fun pins s σ H R I h => ?_⟩
  refine Call_ (ld_blt I hg hm boot_enumerate (PyProof.Rows.callWith_type1 (thn (ha.run pos pins s σ H _ I h) fun us s1 ⟨vs, H1, I1, r1, q1⟩ => ?_) hs rfl))
  obtain ⟨b, a, xs, ex, hq, q⟩ := q1
  subst ex
  cases r1 with
  | cons r rr =>
    cases rr
    cases r
    obtain ⟨its, rv, p'⟩ := sq_in I1 hq
    have hlt := sq_lt p'
    refine call_enumB (begins_sq b a its.toArray) p' fun h' he hit hk => wpAny_pyIter_enum he ?_
    have I2 : Inv X pins σ H1 { s1 with heap := h' } := I1.kept (t' := s1.toks) hk
    refine ⟨s1.heap.objs.size + 1, [s1.heap.objs.size + 1, s1.heap.objs.size], _, _, H1, rfl, I2, turn_of (wk_enum (b := b) (a := a) (e := s1.heap.objs.size + 1) (it := s1.heap.objs.size) (n := xs.length)), ⟨Nat.zero_le _, ⟨.none, he⟩, itr_of hit, Nat.succ_ne_self _, Nat.ne_of_gt (Nat.lt_succ_of_lt hlt), Nat.ne_of_lt hlt⟩, fun c hc => ?_, q⟩
    have hle : s1.heap.objs.size ≤ c := by
      rcases (show c = s1.heap.objs.size + 1 ∨ c = s1.heap.objs.size by simpa using hc) with z | z
      · rw [z]; exact Nat.le_add_right _ _
      · rw [z]; exact Nat.le_refl _
    exact I1.fpOk hle (I1.hok.fresh hle)
/-! ### zip -/
def ItZ (b c : Bool) (K : PySem.W.Frag) (a d : Addr) (m n : Nat) : It where
  go := fun i H => ∃ (xs ys : List V) (x y : V), SqA b K H a xs ∧ SqA c K H d ys ∧ xs.length = m ∧ ys.length = n ∧ xs[i]? = some x ∧ ys[i]? = some y
  yld := fun i H v H' => ∃ T x y, v = .ref T ∧ H T = none ∧ H' = upd H T (.tup [x, y]) ∧ (∀ xs, SqA b K H a xs → xs[i]? = some x) ∧ ∀ ys, SqA c K H d ys → ys[i]? = some y
  stop := fun i H => ∃ xs ys : List V, SqA b K H a xs ∧ SqA c K H d ys ∧ xs.length = m ∧ ys.length = n ∧ min m n ≤ i
def tnZ (b c : Bool) (a d z TI TO i1 i2 : Addr) (m n : Nat) (i : Nat) (h : Heap) : Prop := i ≤ min m n ∧ IsZip h z TI TO .none ∧ IsTupOf2 h TI (.ref i1) (.ref i2) ∧ (∃ x y, IsTupOf2 h TO x y) ∧ IsItr b h i1 a i ∧ IsItr c h i2 d i
theorem wk_zip {P : Program} {w : World} {K : PySem.W.Frag} {b c : Bool} {a d z TI TO i1 i2 : Addr} {m n : Nat} (S : ZipSep2 z TI TO i1 i2 [i1, a] [i2, d]) (n1 : a ≠ i1) (n2 : d ≠ i2) : WkOk P w K (ItZ b c K a d m n) z [z, TI, TO, i1, i2] (tnZ b c a d z TI TO i1 i2 m n) where
  mem := by simp
  obj := fun i h ⟨_, hz, hTI, ⟨x, y, hTO⟩, h1, h2⟩ k hk => by
    rcases (show k = z ∨ k = TI ∨ k = TO ∨ k = i1 ∨ k = i2 by simpa using hk) with q | q | q | q | q
    · rw [q]; exact ⟨_, hz, fun v q => nomatch q⟩
    · rw [q]; exact ⟨_, hTI, fun v q => nomatch q⟩
    · rw [q]; exact ⟨_, hTO, fun v q => nomatch q⟩
    · rw [q]; exact itr_obj h1
    · rw [q]; exact itr_obj h2
  keep := fun i h h' ⟨h0, hz, hTI, ⟨x, y, hTO⟩, h1, h2⟩ k => ⟨h0, k z (by simp) _ hz, k TI (by simp) _ hTI, ⟨x, y, k TO (by simp) _ hTO⟩, itr_keep h1 fun o q => k i1 (by simp) o q, itr_keep h2 fun o q => k i2 (by simp) o q⟩
  self := fun A i s Q E ⟨_, hz, _⟩ h => wpAny_pyIter_zip hz h
  go := by
    intro X hP hw hK hc i pins s σ H I ⟨h0, hz, hTI, hTO, h1, h2⟩ ⟨xs, ys, x, y, hqx, hqy, lx, ly, hx, hy⟩
    subst hP hw hK
    obtain ⟨its, rv, hs⟩ := sq_in I hqx
    obtain ⟨its2, rv2, hs2⟩ := sq_in I hqy
    have hlen := rv.length
    have hlen2 := rv2.length
    obtain ⟨u, hu, ru⟩ := rv.get hx
    obtain ⟨u2, hu2, ru2⟩ := rv2.get hy
    have hd : X.A.in1.handled = none := I.ok.hd hc
    have hlt : i < xs.length := by
      rcases Nat.lt_or_ge i xs.length with z | z
      · exact z
      · rw [List.getElem?_eq_none z] at hx; cases hx
    have hlt2 : i < ys.length := by
      rcases Nat.lt_or_ge i ys.length with z | z
      · exact z
      · rw [List.getElem?_eq_none z] at hy; cases hy
    refine ⟨_, _, _, _, _, _, x, y, WalksT.zipD2 S (draws_sq b hd i1 a n1 its.toArray) (draws_sq c hd i2 d n2 its2.toArray), fun k hk => ?_, ?_, ⟨hz, hTI, hTO, ⟨h1, hs⟩, ⟨h2, hs2⟩⟩, ?_, ?_, fun T hT => ⟨T, x, y, rfl, hT, rfl, fun l hl => by rw [sq_inj I hl hqx]; exact hx, fun l hl => by rw [sq_inj I hl hqy]; exact hy⟩⟩
    · rcases (show k = z ∨ k = TO ∨ k = i1 ∨ k = i2 by simpa using hk) with q | q | q | q <;> simp [q]
    · simp; omega
    · intro h ⟨hz', hTI', hTO', ⟨h1', _⟩, ⟨h2', _⟩⟩
      exact ⟨by omega, hz', hTI', hTO', h1', h2'⟩
    · rintro vals ⟨x1, x2, hx1, hx2, rfl⟩
      have e1 : its.toArray[i]? = some u := by simpa using hu
      have e2 : its2.toArray[i]? = some u2 := by simpa using hu2
      have f1 : its.toArray[i]? = some x1 := hx1
      have f2 : its2.toArray[i]? = some x2 := hx2
      rw [e1] at f1
      rw [e2] at f2
      cases f1
      cases f2
      exact ⟨_, _, rfl, ru, ru2⟩
  stop := by
    intro X hP hw hK hc i pins s σ H I ⟨h0, hz, hTI, hTO, h1, h2⟩ ⟨xs, ys, hqx, hqy, lx, ly, hx⟩
    subst hP hw hK
    obtain ⟨its, rv, hs⟩ := sq_in I hqx
    obtain ⟨its2, rv2, hs2⟩ := sq_in I hqy
    have hlen := rv.length
    have hlen2 := rv2.length
    have hd : X.A.in1.handled = none := I.ok.hd hc
    have W := WalksT.zipD2 S (draws_sq (P := X.prog) (w := X.w) b hd i1 a n1 its.toArray) (draws_sq c hd i2 d n2 its2.toArray)
    have hn : min its.toArray.size its2.toArray.size = i := by simp; omega
    rw [hn] at W
    exact ⟨_, _, _, _, _, W, fun k hk => by rcases (show k = z ∨ k = TO ∨ k = i1 ∨ k = i2 by simpa using hk) with q | q | q | q <;> simp [q], ⟨hz, hTI, hTO, ⟨h1, hs⟩, ⟨h2, hs2⟩⟩⟩
def iZipB (K : PySem.W.Frag) (ta : TA) : TI := fun σ H R => ta σ H fun vs H1 => ∃ b c a d xs ys, vs = [.ref a, .ref d] ∧ SqA b K H1 a xs ∧ SqA c K H1 d ys ∧ R (ItZ b c K a d xs.length ys.length) H1
theorem pi_zipB {X : Cx} {e e2 : Expr} {ta : TA} {p pos tpos : Pos} {elts : List Expr} {kk : Nat} (hg : Gl X "zip") (hm : X.mg "zip" = none) (ha : PA X [e, e2] ta)
    (hs : starEach [e, e2] X.env = (false, eval e X.env) :: starEach [e2] X.env) (hpl : (backTo pos (starEach [e2] X.env)).any (·.1) = false) :
    PI X (.Tuple elts kk tpos) (.Call (.Name "zip" p) [e, e2] [] pos) (iZipB X.K ta) := by
  refine ⟨fun pins s σ H R I h => ?_⟩
  refine Call_ (ld_blt I hg hm PyProof.Rows.boot_zip (PyProof.Rows.callWith_type1 (thn (ha.run pos pins s σ H _ I h) fun us s1 ⟨vs, H1, I1, r1, q1⟩ => ?_) hs hpl))
  obtain ⟨b, c, a, d, xs, ys, ex, hq, hq2, q⟩ := q1
  subst ex
  cases r1 with
  | cons r rr =>
    cases rr with
    | cons r' rr =>
      cases rr
      cases r
      cases r'
      obtain ⟨its, rv, p1⟩ := sq_in I1 hq
      obtain ⟨its2, rv2, p2⟩ := sq_in I1 hq2
      have lt1 := sq_lt p1
      have lt2 := sq_lt p2
      refine zip_begins2 (begins_sq b a its.toArray) (begins_sq c d its2.toArray) p1 p2 fun h' hz hTI hTO h1 h2 hsz hk => wpAny_pyIter_zip hz ?_
      have I2 : Inv X pins σ H1 { s1 with heap := h' } := I1.kept (t' := s1.toks) hk
      refine ⟨s1.heap.objs.size + 4, [s1.heap.objs.size + 4, s1.heap.objs.size + 2, s1.heap.objs.size + 3, s1.heap.objs.size, s1.heap.objs.size + 1], _, _, H1, rfl, I2, turn_of (wk_zip (m := xs.length) (n := ys.length) (b := b) (c := c) (zip_sep2 (N := s1.heap.objs.size) (fp1 := [a]) (fp2 := [d]) (fun k hk => ?_) fun k hk => ?_) (Nat.ne_of_lt lt1) (Nat.ne_of_lt (Nat.lt_succ_of_lt lt2))), ⟨Nat.zero_le _, hz, hTI, ⟨_, _, hTO⟩, itr_of h1, itr_of h2⟩, fun k hk => ?_, q⟩
      · rw [List.mem_singleton.mp hk]; exact lt1
      · rw [List.mem_singleton.mp hk]; exact lt2
      · have hle : s1.heap.objs.size ≤ k := by
          rcases (show k = s1.heap.objs.size + 4 ∨ k = s1.heap.objs.size + 2 ∨ k = s1.heap.objs.size + 3 ∨ k = s1.heap.objs.size ∨ k = s1.heap.objs.size + 1 by simpa using hk) with z | z | z | z | z <;> rw [z]
          · exact Nat.le_add_right _ _
          · exact Nat.le_add_right _ _
          · exact Nat.le_add_right _ _
          · exact Nat.le_refl _
          · exact Nat.le_add_right _ _
        exact I1.fpOk hle (I1.hok.fresh hle)
end L2
namespace Fo
open PySem PySem.Spec PyProof.Rows L2
def enumD : Nat → List PyData → List PyData
  | _, [] => []
  | k, d :: ds => .tuple [.int (k : Nat), d] :: enumD (k + 1) ds
def zipD (as bs : List PyData) : List PyData := List.zipWith (fun a b => .tuple [a, b]) as bs
theorem enumD_len : ∀ (k : Nat) (ds : List PyData), (enumD k ds).length = ds.length
  | _, [] => rfl
  | k, d :: ds => by simp [enumD, enumD_len (k + 1) ds]
theorem enumD_get : ∀ (k : Nat) (ds : List PyData) (i : Nat) {d : PyData}, ds[i]? = some d → (enumD k ds)[i]? = some (.tuple [.int ((k + i : Nat) : Int), d])
  | k, [], i, d, h => by simp at h
  | k, x :: ds, 0, d, h => by
    simp at h
    subst h
    rfl
  | k, x :: ds, i + 1, d, h => by
    have := enumD_get (k + 1) ds i (d := d) (by simpa using h)
    have e : k + (i + 1) = k + 1 + i := by omega
    rw [e]
    simpa [enumD] using this
def enumR (m : Sem1) : SemL := fun ρ => do let v ← m ρ; let ds ← up (itemsO v); pure (enumD 0 ds)
def zipR (ma mb : Sem1) : SemL := fun ρ => do let v ← ma ρ; let u ← mb ρ; let ds ← up (itemsO v); let es ← up (itemsO u); pure (zipD ds es)
abbrev sqO (b : Bool) (xs : List V) : HO := if b = true then HO.lst xs else HO.tup xs
section
variable {K : PySem.W.Frag} {tabs : Tb} {δ : Option Addr}
theorem rp_pair {O : Addr → Prop} {H : Hp} {T : Addr} {st : Dr} {x y : V} {d e : PyData} (W : WOk K tabs δ O st H) (hT : H T = none) (h1 : Rp K (mask O H) x d) (h2 : Rp K (mask O H) y e) : Rp K (mask O (upd H T (.tup [x, y]))) (.ref T) (.tuple [d, e]) :=
  .tup (mask_some.mpr ⟨W.fresh hT, upd_same⟩) (.cons (h1.mono (rds_new W hT)) (.cons (h2.mono (rds_new W hT)) .nil))
theorem src_sq {b : Bool} {a : Addr} {H : Hp} {xs : List V} (h : H a = some (sqO b xs)) : SqA b K H a xs := by
  cases b with
  | true => exact SqL.of h
  | false => exact SqT.of h
theorem sqO_tbl {b : Bool} {xs : List V} : ∀ ps, sqO b xs ≠ .tbl ps := fun ps z => by cases b <;> cases z
theorem rp_items {v : V} {d : PyData} {ds : List PyData} {M : Hp} (h : itemsO d = some ds) (r : Rp K M v d) : ∃ b a xs, v = .ref a ∧ M a = some (sqO b xs) ∧ RpAll K M xs ds := by
  unfold itemsO at h
  split at h
  · cases h
    cases r with
    | lst h1 h2 => exact ⟨true, _, _, rfl, h1, h2⟩
  · cases h
    cases r with
    | tup h1 h2 => exact ⟨false, _, _, rfl, h1, h2⟩
  · cases h
/-- a source, told in all heaps behind -/
def SrcK (K : PySem.W.Frag) (L : (Addr → Prop) → Hp → Prop) (b : Bool) (a : Addr) (ds : List PyData) : Prop := ∀ O2 H2, L O2 H2 → ∃ xs, H2 a = some (sqO b xs) ∧ RpAll K (mask O2 H2) xs ds
theorem src_E {O : Addr → Prop} {H1 : Hp} {v : V} {d : PyData} {ds : List PyData} (h : itemsO d = some ds) (r : Rp K (mask O H1) v d) :
    ∃ b a xs, v = .ref a ∧ SqA b K H1 a xs ∧ xs.length = ds.length ∧ SrcK K (fun O2 H2 => Rds (mask O H1) (mask O2 H2)) b a ds := by
  obtain ⟨b, a, xs, rfl, h1, h2⟩ := rp_items h r
  exact ⟨b, a, xs, rfl, src_sq (mask_some.mp h1).2, h2.length, fun O2 H2 L => ⟨xs, (mask_some.mp (L.keep _ _ h1 sqO_tbl)).2, h2.mono L⟩⟩
theorem src_T {O : Addr → Prop} {H1 : Hp} {st : Dr} {v : V} {d : PyData} {ds : List PyData} (W : WOk K tabs δ O st H1) (h : itemsO d = some ds) (r : TRp K δ O H1 v d) :
    ∃ b a xs, v = .ref a ∧ SqA b K H1 a xs ∧ xs.length = ds.length ∧ SrcK K (fun O2 H2 => Lat2 δ O H1 O2 H2) b a ds := by
  rcases r with r | r
  · obtain ⟨b, a, xs, h1, h2, h3, h4⟩ := src_E h r
    exact ⟨b, a, xs, h1, h2, h3, fun O2 H2 L => h4 O2 H2 (L.rds W.dl)⟩
  · unfold itemsO at h
    split at h
    · cases h
      obtain ⟨a, xs, rfl, oa, na, h1, h2⟩ := r
      exact ⟨true, a, xs, rfl, SqL.of h1, h2.length, fun O2 H2 L => ⟨xs, L.ext.keep _ _ h1 (fun z => na z.symm) (fun ps z => nomatch z), h2.mono (L.rds W.dl)⟩⟩
    · exact r.elim
    · cases h
theorem it_enum {L : (Addr → Prop) → Hp → Prop} {b : Bool} {a : Addr} {items : List PyData} {n : Nat} (hn : n = items.length) (h : SrcK K L b a items) : ItOk K tabs δ L (ItE b K a n) (enumD 0 items) := by
  intro mm O2 st2 H2 W2 hL i
  obtain ⟨xs, h1, h2⟩ := h O2 H2 hL
  have hq := src_sq (K := K) h1
  have hl := h2.length
  rw [enumD_len]
  refine ⟨fun hi => ?_, fun hi => ⟨xs, hq, by omega, by omega⟩⟩
  obtain ⟨v, k1, k2⟩ := h2.get (List.getElem?_eq_getElem hi)
  refine ⟨⟨xs, v, hq, by omega, k1⟩, fun x H3 hy => ?_⟩
  obtain ⟨T, y, rfl, hT, rfl, hy⟩ := hy
  have e := hy xs hq
  rw [k1] at e
  cases e
  have q := enumD_get 0 items i (List.getElem?_eq_getElem hi)
  rw [Nat.zero_add] at q
  exact ⟨Ext.new hT, W2.new hT, _, q, rp_pair W2 hT (.int _) k2⟩
theorem it_zip {L : (Addr → Prop) → Hp → Prop} {b c : Bool} {a d : Addr} {as bs : List PyData} {m n : Nat} (hm : m = as.length) (hn : n = bs.length) (h : SrcK K L b a as) (h' : SrcK K L c d bs) : ItOk K tabs δ L (ItZ b c K a d m n) (zipD as bs) := by
  intro mm O2 st2 H2 W2 hL i
  obtain ⟨xs, h1, h2⟩ := h O2 H2 hL
  obtain ⟨ys, g1, g2⟩ := h' O2 H2 hL
  have hq := src_sq (K := K) h1
  have gq := src_sq (K := K) g1
  have hl := h2.length
  have gl := g2.length
  have zl : (zipD as bs).length = min as.length bs.length := by simp [zipD]
  rw [zl]
  refine ⟨fun hi => ?_, fun hi => ⟨xs, ys, hq, gq, by omega, by omega, by omega⟩⟩
  have i1 : i < as.length := by omega
  have i2 : i < bs.length := by omega
  obtain ⟨v, k1, k2⟩ := h2.get (List.getElem?_eq_getElem i1)
  obtain ⟨u, l1, l2⟩ := g2.get (List.getElem?_eq_getElem i2)
  refine ⟨⟨xs, ys, v, u, hq, gq, by omega, by omega, k1, l1⟩, fun x H3 hy => ?_⟩
  obtain ⟨T, y, z, rfl, hT, rfl, hy, hz⟩ := hy
  have e := hy xs hq
  rw [k1] at e
  cases e
  have e := hz ys gq
  rw [l1] at e
  cases e
  exact ⟨Ext.new hT, W2.new hT, .tuple [as[i], bs[i]], by rw [zipD, List.getElem?_zipWith, List.getElem?_eq_getElem i1, List.getElem?_eq_getElem i2], rp_pair W2 hT k2 l2⟩
end
section
variable {X : Cx} {tabs : Tb}
theorem one_some {m : Sem1} {ρ : Rho} {st st1 : Dr} {v : PyData} (e : m ρ st = some (v, st1)) : consR m nilR ρ st = some ([v], st1) := by
  show (m ρ st).bind _ = _
  rw [e]
  rfl
theorem two_some {m m2 : Sem1} {ρ : Rho} {st st1 st2 : Dr} {v u : PyData} (e : m ρ st = some (v, st1)) (e2 : m2 ρ st1 = some (u, st2)) : consR m (consR m2 nilR) ρ st = some ([v, u], st2) := by
  show (m ρ st).bind _ = _
  rw [e]
  show ((consR m2 nilR ρ st1).bind _) = _
  rw [one_some e2]
  rfl
theorem enum_some {m : Sem1} {ρ : Rho} {st st' : Dr} {items : List PyData} (h : enumR m ρ st = some (items, st')) : ∃ v ds, m ρ st = some (v, st') ∧ itemsO v = some ds ∧ items = enumD 0 ds := by
  obtain ⟨v, st1, e1, f1⟩ := bnd_some h
  obtain ⟨ds, st2, e2, f2⟩ := bnd_some f1
  obtain ⟨g, rfl⟩ := up_some e2
  obtain ⟨rfl, rfl⟩ := pur_some f2
  exact ⟨v, ds, e1, g, rfl⟩
theorem zip_some {m m2 : Sem1} {ρ : Rho} {st st' : Dr} {items : List PyData} (h : zipR m m2 ρ st = some (items, st')) : ∃ v u st1 ds es, m ρ st = some (v, st1) ∧ m2 ρ st1 = some (u, st') ∧ itemsO v = some ds ∧ itemsO u = some es ∧ items = zipD ds es := by
  obtain ⟨v, st1, e1, f1⟩ := bnd_some h
  obtain ⟨u, st2, e2, f2⟩ := bnd_some f1
  obtain ⟨ds, st3, e3, f3⟩ := bnd_some f2
  obtain ⟨g, rfl⟩ := up_some e3
  obtain ⟨es, st4, e4, f4⟩ := bnd_some f3
  obtain ⟨g2, rfl⟩ := up_some e4
  obtain ⟨rfl, rfl⟩ := pur_some f4
  exact ⟨v, u, st1, ds, es, e1, e2, g, g2, rfl⟩
theorem ei_enum {e : Expr} {p pos tpos : Pos} {elts : List Expr} {kk : Nat} {m : Sem1} (hg : Gl X "enumerate") (hm : X.mg "enumerate" = none) (hp : plain e = true) (he : PE X e (Rd1 X.K tabs m)) :
    PI X (.Tuple elts kk tpos) (.Call (.Name "enumerate" p) [e] [] pos) (RdI X.K tabs (enumR m)) :=
  PI.imp (pi_enumA hg hm (ea_cons hp he ea_nil) (plain_star hp)) fun σ H R ⟨δ, O, ρ, st, items, st', S, W, e0, c⟩ => by
    obtain ⟨v, ds, e1, g, rfl⟩ := enum_some e0
    refine ⟨δ, O, ρ, st, _, _, S, W, one_some e1, fun ws H1 E1 W1 R1 => ?_⟩
    cases R1 with
    | cons r rr =>
      cases rr
      obtain ⟨b, a, xs, rfl, hq, hl, hs⟩ := src_E g r
      exact ⟨b, a, xs, rfl, hq, c _ _ E1 W1 (it_enum hl hs)⟩
theorem ei_enumT {e : Expr} {p pos tpos : Pos} {elts : List Expr} {kk : Nat} {m : Sem1} (hg : Gl X "enumerate") (hm : X.mg "enumerate" = none) (hp : plain e = true) (he : PE X e (RdT X.K tabs m)) :
    PI X (.Tuple elts kk tpos) (.Call (.Name "enumerate" p) [e] [] pos) (RdIt X.K tabs (enumR m)) :=
  PI.imp (pi_enumA hg hm (eat_cons hp he eat_nil) (plain_star hp)) fun σ H R ⟨δ, O, ρ, st, items, st', S, W, e0, c⟩ => by
    obtain ⟨v, ds, e1, g, rfl⟩ := enum_some e0
    refine ⟨δ, O, ρ, st, _, _, S, W, one_some e1, fun ws H1 E1 W1 R1 => ?_⟩
    cases R1 with
    | cons r rr =>
      cases rr
      obtain ⟨b, a, xs, rfl, hq, hl, hs⟩ := src_T W1 g r
      exact ⟨b, a, xs, rfl, hq, c _ _ E1 W1 (it_enum hl hs)⟩
theorem zip_star {e e2 : Expr} {env : Env} (hp : plain e = true) : starEach [e, e2] env = (false, eval e env) :: starEach [e2] env := plain_star hp
theorem zip_pl {e2 : Expr} {env : Env} {pos : Pos} (hp : plain e2 = true) : (backTo pos (starEach [e2] env)).any (·.1) = false := by rw [plain_star hp]; rfl
theorem ei_zip {e e2 : Expr} {p pos tpos : Pos} {elts : List Expr} {kk : Nat} {m m2 : Sem1} (hg : Gl X "zip") (hm : X.mg "zip" = none) (hp : plain e = true) (hp2 : plain e2 = true) (he : PE X e (Rd1 X.K tabs m)) (he2 : PE X e2 (Rd1 X.K tabs m2)) :
    PI X (.Tuple elts kk tpos) (.Call (.Name "zip" p) [e, e2] [] pos) (RdI X.K tabs (zipR m m2)) :=
  PI.imp (pi_zipB hg hm (ea_cons hp he (ea_cons hp2 he2 ea_nil)) (zip_star hp) (zip_pl hp2)) fun σ H R ⟨δ, O, ρ, st, items, st', S, W, e0, c⟩ => by
    obtain ⟨v, u, st1, ds, es, e1, e2, g, g2, rfl⟩ := zip_some e0
    refine ⟨δ, O, ρ, st, _, _, S, W, two_some e1 e2, fun ws H1 E1 W1 R1 => ?_⟩
    cases R1 with
    | cons r rr =>
      cases rr with
      | cons r2 rr =>
        cases rr
        obtain ⟨b, a, xs, rfl, hq, hl, hs⟩ := src_E g r
        obtain ⟨b2, a2, xs2, rfl, hq2, hl2, hs2⟩ := src_E g2 r2
        exact ⟨b, b2, a, a2, xs, xs2, rfl, hq, hq2, c _ _ E1 W1 (it_zip hl hl2 hs hs2)⟩
theorem ei_zipT {e e2 : Expr} {p pos tpos : Pos} {elts : List Expr} {kk : Nat} {m m2 : Sem1} (hg : Gl X "zip") (hm : X.mg "zip" = none) (hp : plain e = true) (hp2 : plain e2 = true) (he : PE X e (RdT X.K tabs m)) (he2 : PE X e2 (RdT X.K tabs m2)) :
    PI X (.Tuple elts kk tpos) (.Call (.Name "zip" p) [e, e2] [] pos) (RdIt X.K tabs (zipR m m2)) :=
  PI.imp (pi_zipB hg hm (eat_cons hp he (eat_cons hp2 he2 eat_nil)) (zip_star hp) (zip_pl hp2)) fun σ H R ⟨δ, O, ρ, st, items, st', S, W, e0, c⟩ => by
    obtain ⟨v, u, st1, ds, es, e1, e2, g, g2, rfl⟩ := zip_some e0
    refine ⟨δ, O, ρ, st, _, _, S, W, two_some e1 e2, fun ws H1 E1 W1 R1 => ?_⟩
    cases R1 with
    | cons r rr =>
      cases rr with
      | cons r2 rr =>
        cases rr
        obtain ⟨b, a, xs, rfl, hq, hl, hs⟩ := src_T W1 g r
        obtain ⟨b2, a2, xs2, rfl, hq2, hl2, hs2⟩ := src_T W1 g2 r2
        exact ⟨b, b2, a, a2, xs, xs2, rfl, hq, hq2, c _ _ E1 W1 (it_zip hl hl2 hs hs2)⟩
end
end Fo
/-! a dict display of one pair -/
namespace L2
open PySem PySem.Spec PyProof.Rows Fo
def tD1 (K : PySem.W.Frag) (tk tv : TE) : TE := fun σ H Q => ∀ D, H D = none → tk σ (upd H D (.dK [])) fun y H1 => tv σ H1 fun z H2 => DSt K H2 D y z fun H3 => Q (.ref D) H3
theorem pe_d1 {X : Cx} {k v : Expr} {pos : Pos} {tk tv : TE} (hu : X.A.units + 65 < cLine) (hk : PE X k tk) (hv : PE X v tv) : PE X (.Dict [some k] [v] pos) (tD1 X.K tk tv) := by
  refine ⟨fun pins s σ H Q I q => ?_⟩
  have hn := I.hok.fresh (Nat.le_refl s.heap.objs.size)
  have I1 := I.laid (a := s.heap.objs.size) (o := .dK []) (h' := s.heap.push { cls := .type "dict", data := .dict #[] }) (t' := s.toks) (fun _ _ q => Heap.get?_push_of_some _ q) (Nat.le_refl _) (dk_empty s.heap I.big)
  refine wpAny_Dict_any rfl rfl (by simp) (by show 1 ≤ 15; omega) (pairTrees_cons_walk (thn (hk.run pins _ σ _ _ I1 (q _ hn)) fun u s1 ⟨y, H1, I2, ry, q1⟩ => thn (hv.run pins s1 σ H1 _ I2 q1) fun u2 s2 ⟨z, H2, I3, rz, ds⟩ => pairTrees_nil_walk ?_))
  unfold storeAll
  rw [List.forIn_cons]
  refine wpAny_bind (wpAny_bind (dst_run hu I3 ds ry rz fun H' t' I' q' => wpAny_pure ?_))
  show wpAny _ _ (forIn [] PUnit.unit _) _ _ _
  rw [List.forIn_nil]
  exact wpAny_pure ⟨.ref s.heap.objs.size, H', I', rfl, q'⟩
end L2
namespace Fo
open PySem PySem.Spec PyProof.Rows L2
def d1R (mk mv : Sem1) : Sem1 := fun ρ => do let k ← mk ρ; let v ← mv ρ; let acc ← up (dput [] k v); pure (.dict acc)
section
variable {X : Cx} {tabs : Tb}
theorem d1R_some {mk mv : Sem1} {ρ : Rho} {st st' : Dr} {z : PyData} (e : d1R mk mv ρ st = some (z, st')) : ∃ k st1 v acc, mk ρ st = some (k, st1) ∧ mv ρ st1 = some (v, st') ∧ dput [] k v = some acc ∧ z = .dict acc := by
  obtain ⟨k, st1, e1, f1⟩ := bnd_some e
  obtain ⟨v, st2, e2, f2⟩ := bnd_some f1
  obtain ⟨acc, st3, e3, f3⟩ := bnd_some f2
  obtain ⟨g, rfl⟩ := up_some e3
  obtain ⟨rfl, rfl⟩ := pur_some f3
  exact ⟨k, st1, v, acc, e1, e2, g, rfl⟩
theorem d1R_dict {mk mv : Sem1} : ∀ ρ st z st', d1R mk mv ρ st = some (z, st') → ∃ kvs, z = .dict kvs := fun ρ st z st' e => by
  obtain ⟨_, _, _, acc, _, _, _, h⟩ := d1R_some e
  exact ⟨acc, h⟩
theorem ef_d1 {k v : Expr} {pos : Pos} {mk mv : Sem1} (hu : X.A.units + 65 < cLine) (hk : PE X k (Rd1 X.K tabs mk)) (hv : PE X v (Rd1 X.K tabs mv)) : PE X (.Dict [some k] [v] pos) (RdF X.K tabs (d1R mk mv)) :=
  PE.imp (pe_d1 hu hk hv) fun σ H Q ⟨δ, O, ρ, st, z, st', S, W, e, c⟩ => by
    obtain ⟨kd, st1, vd, acc, e1, e2, g, rfl⟩ := d1R_some e
    intro D hD
    have hδD : δ ≠ some D := W.ne_new hD
    have W0 : WOk X.K tabs δ (plus O D) st (L2.upd H D (.dK [])) := W.newOwn hD
    have L0 : Lat2 δ O H (plus O D) (L2.upd H D (.dK [])) := Lat2.newOwn hD
    have S0 : Slots X.K δ (plus O D) ρ σ (L2.upd H D (.dK [])) := S.lat L0 W.dl
    have q0 : DkAt X.K (mask (plus O D) (L2.upd H D (.dK []))) D (L2.upd H D (.dK []) D) [] := .inl ⟨[], [], [], upd_same, rfl, .nil, rfl⟩
    have keep : ∀ {Ha Hb : Hp} {sx : Dr}, Ext δ Ha Hb → WOk X.K tabs δ (plus O D) sx Ha → DkAt X.K (mask (plus O D) Ha) D (Ha D) [] → DkAt X.K (mask (plus O D) Hb) D (Hb D) [] := fun {Ha Hb sx} E w q =>
      (q.mono (rds_ext E w.dl)).to fun u k1 t => E.keep _ _ k1 (fun z => hδD z.symm) t
    refine ⟨δ, plus O D, ρ, st, kd, st1, S0, W0, e1, fun y H1 E1 W1 R1 => ?_⟩
    refine ⟨δ, plus O D, ρ, st1, vd, st', S0.ext E1 W0.dl, W1, e2, fun w H2 E2 W2 R2 => ?_⟩
    have q2 := keep E2 W1 (keep E1 W0 q0)
    have L3 := (L0.trans (Lat2.of E1)).trans (Lat2.of E2)
    refine dput_dst (.inr rfl) g q2 (R1.mono (rds_ext E2 W1.dl)) R2 fun o ⟨u, hu, mu⟩ qq => ?_
    refine c D _ hD (L3.upd hD (by rw [hu]; exact fun z => nomatch z)) (W2.upd (.inr rfl) hδD (by rw [hu]; exact mu)) ⟨D, rfl, .inr rfl, hδD, ?_⟩
    rw [upd_same]
    exact qq
theorem ex_d1 {k v : Expr} {pos : Pos} {mk mv : Sem1} (hu : X.A.units + 65 < cLine) (hk : PE X k (Rd1 X.K tabs mk)) (hv : PE X v (Rd1 X.K tabs mv)) : PE X (.Dict [some k] [v] pos) (Rd1 X.K tabs (d1R mk mv)) := PE.imp (ef_d1 hu hk hv) fun σ H Q q => rdF_1 q d1R_dict
/-- f(..).get(k, d) -/
theorem ex_getC (hu : X.A.units + 65 < cLine) {fn a : Expr} {args : List Expr} {kws : List Keyword} {fpos apos cpos : Pos} {e f : Expr} {mo me mf : Sem1} (ho : PE X (.Call fn (a :: args) kws fpos) (Rd1 X.K tabs mo)) (he : PE X e (RdT X.K tabs me)) (hf : PE X f (Rd1 X.K tabs mf)) (h1 : plain e = true) (h2 : plain f = true) (hl : (apos.endLine == cpos.line) = true) :
    PE X (.Call (.Attribute (.Call fn (a :: args) kws fpos) "get" apos) [e, f] [] cpos) (Rd1 X.K tabs (getR2 mo me mf)) := by
  have t : backTo cpos (starEach [e, f] X.env) = [(false, eval e X.env), (false, eval f X.env)] := by rw [plain_star h1, plain_star h2]; rfl
  refine ex_get2 hu (ex_T ho) he hf ⟨?_, by rw [t]; rfl, hl, t⟩
  unfold attributeBase
  cases fn <;> rfl
end
end Fo
namespace L2
open PySem PySem.Spec PyProof.Rows
theorem tuple_mul1 (l : Addr) (items : Array Value) (n : Nat) (dd : Option Addr) (sl : Array (Option Value)) (x : Int) (u : Tok) (c0 : (decide (x < -(2 ^ 63)) || decide (x ≥ 2 ^ 63)) = false) (c1 : (items.isEmpty || x == 1) = true) :
    Meets (Builtin.«tuple.__mul__» ⟨[.ref l, .int x u], []⟩) (fun _ R s => s.heap.get? l = some { cls := .type "tuple", dict := dd, data := .seq items n, slots := sl } ∧
      R (.ok (.ret (Value.ref l))) s) :=
  .of_wp fun prog w A R s h => by
    obtain ⟨hp, g, d, tk, os⟩ := s
    obtain ⟨hl, h⟩ := h
    have f1 := AutoSeq1.idx_int
    wp_walk using wpAny_loadPart' hl
    repeat (first
      | (refine wpAny_ite_false (decide_eq_false (by rw [c0]; exact Bool.false_ne_true)) ?_; wp_walk using wpAny_loadPart' hl)
      | (refine wpAny_ite_true (decide_eq_true c1) ?_; wp_walk using wpAny_loadPart' hl))
    exact ⟨_, rfl, h⟩
theorem tuple_mul0 (l : Addr) (items : Array Value) (n : Nat) (dd : Option Addr) (sl : Array (Option Value)) (x : Int) (u : Tok) (c0 : (decide (x < -(2 ^ 63)) || decide (x ≥ 2 ^ 63)) = false) (c1 : (items.isEmpty || x == 1) = false) (c2 : (decide (x ≤ 0) || items.isEmpty) = true) :
    Meets (Builtin.«tuple.__mul__» ⟨[.ref l, .int x u], []⟩) (fun _ R s => s.heap.get? l = some { cls := .type "tuple", dict := dd, data := .seq items n, slots := sl } ∧
      R (.ok (.ret (Value.ref s.heap.objs.size))) { s with heap := s.heap.push { cls := Value.type "tuple", data := Data.seq #[] }, toks := s.toks }) :=
  .of_wp fun prog w A R s h => by
    obtain ⟨hp, g, d, tk, os⟩ := s
    obtain ⟨hl, h⟩ := h
    have f1 := AutoSeq1.idx_int
    wp_walk using wpAny_loadPart' hl
    repeat (first
      | (refine wpAny_ite_false (decide_eq_false (by rw [c0]; exact Bool.false_ne_true)) ?_; wp_walk using wpAny_loadPart' hl)
      | (refine wpAny_ite_false (decide_eq_false (by rw [c1]; exact Bool.false_ne_true)) ?_; wp_walk using wpAny_loadPart' hl)
      | (refine wpAny_ite_true (decide_eq_true c2) ?_; wp_walk using wpAny_loadPart' hl))
    exact ⟨_, rfl, h⟩
def rRepT1 (K : PySem.W.Frag) : R2 := fun x y H Q => ∃ l k xs, x = .ref l ∧ y = .int k ∧ SqT K H l xs ∧ k = 1 ∧ Q (.ref l) H
def rRepT0 (K : PySem.W.Frag) : R2 := fun x y H Q => ∃ l k xs, x = .ref l ∧ y = .int k ∧ SqT K H l xs ∧ xs ≠ [] ∧ k = 0 ∧ ∀ p, H p = none → Q (.ref p) (upd H p (.tup []))
section
variable {X : Cx}
theorem op_repT1 : OpR X (binaryOp .Mult) (rRepT1 X.K) := by
  intro pins s σ H x y v u Q I rx ry h
  obtain ⟨l, k, xs, rfl, rfl, hT, rfl, q⟩ := h
  cases rx
  obtain ⟨t, rfl⟩ := ry
  obtain ⟨its, r, ⟨⟨cls, dd, data, sl⟩, ho, hc, n, hd⟩, hs⟩ := I.tuple hT
  simp only at hc hd
  subst hc hd
  have c0 : (decide ((1 : Int) < -(2 ^ 63)) || decide ((1 : Int) ≥ 2 ^ 63)) = false := by decide
  have c1 : (its.toArray.isEmpty || (1 : Int) == 1) = true := by simp
  refine wpAny_binaryOp_repeat_ref (T := "tuple") (U := "int") (by decide) ⟨_, ho, rfl⟩ (fun s' => typeIs_int s' 1 t) noFill_tuple_mul F.fills_int_mul F.slot_int_rmul repeat_tuple F.slot_int_index.lookup
    (call_meets F.slot_int_rmul (typeIs_int s 1 t) F.entry_int_rmul (F.args_int_rmul_2 _ _) (int_rmul_tuple 1 t l its.toArray n dd sl)
      ⟨ho, rfl, ⟨_, ho, rfl⟩, call_meets F.slot_tuple_mul ⟨_, ho, rfl⟩ F.entry_tuple_mul (F.args_tuple_mul_2 _ _) (tuple_mul1 l its.toArray n dd sl 1 t c0 c1) ⟨ho, ?_⟩⟩)
  exact ⟨.ref l, _, I, rfl, q⟩
theorem op_repT0 : OpR X (binaryOp .Mult) (rRepT0 X.K) := by
  intro pins s σ H x y v u Q I rx ry h
  obtain ⟨l, k, xs, rfl, rfl, hT, hne, rfl, q⟩ := h
  cases rx
  obtain ⟨t, rfl⟩ := ry
  obtain ⟨its, r, ⟨⟨cls, dd, data, sl⟩, ho, hc, n, hd⟩, hs⟩ := I.tuple hT
  simp only at hc hd
  subst hc hd
  have hle : its.length = xs.length := r.length.symm
  have hi : its.toArray.isEmpty = false := by
    cases its with
    | nil => exact absurd (List.eq_nil_of_length_eq_zero hle.symm) hne
    | cons a b => rfl
  have c0 : (decide ((0 : Int) < -(2 ^ 63)) || decide ((0 : Int) ≥ 2 ^ 63)) = false := by decide
  have c1 : (its.toArray.isEmpty || (0 : Int) == 1) = false := by rw [hi]; rfl
  have c2 : (decide ((0 : Int) ≤ 0) || its.toArray.isEmpty) = true := rfl
  refine wpAny_binaryOp_repeat_ref (T := "tuple") (U := "int") (by decide) ⟨_, ho, rfl⟩ (fun s' => typeIs_int s' 0 t) noFill_tuple_mul F.fills_int_mul F.slot_int_rmul repeat_tuple F.slot_int_index.lookup
    (call_meets F.slot_int_rmul (typeIs_int s 0 t) F.entry_int_rmul (F.args_int_rmul_2 _ _) (int_rmul_tuple 0 t l its.toArray n dd sl)
      ⟨ho, rfl, ⟨_, ho, rfl⟩, call_meets F.slot_tuple_mul ⟨_, ho, rfl⟩ F.entry_tuple_mul (F.args_tuple_mul_2 _ _) (tuple_mul0 l its.toArray n dd sl 0 t c0 c1 c2) ⟨ho, ?_⟩⟩)
  refine ⟨.ref s.heap.objs.size, _, I.laid (t' := s.toks) (o := .tup []) (fun b ob q => Heap.get?_push_of_some _ q) (Nat.le_refl _) ?_, rfl, q _ (I.hok.fresh (Nat.le_refl _))⟩
  exact ⟨Nat.zero_le _, _, .nil, IsTup.new _ _⟩
end
end L2
namespace Fo
open PySem PySem.Spec PyProof.Rows L2
section
variable {X : Cx}
/-- a tuple some times -/
def mulW : PyData → PyData → Option PyData
  | .tuple xs, .int k => if 0 ≤ k ∧ k ≤ 1000 ∧ 0 < xs.length ∧ xs.length ≤ 1000 then some (.tuple (List.replicate k.toNat xs).flatten) else none
  | d, e => mulV d e
theorem os_mulW : OpS X (binaryOp .Mult) mulW := by
  intro pins s σ H x y v u tabs δ O st d e z Q I rx ry W hx hy hz c
  unfold mulW at hz
  split at hz
  · rename_i xs k
    split at hz
    · rename_i hb
      cases hz
      obtain ⟨a, vs, rfl, h1, h2, h3⟩ := hx.tup
      have hne : vs ≠ [] := fun z => by
        subst z
        have := h2.length
        simp at this
        omega
      have hi := hy.int
      have vl : vs.length ≤ 1000 := by rw [h2.length]; exact hb.2.2.2
      by_cases e1 : k = 1
      · subst e1
        refine op_repT1 pins s σ H _ _ v u Q I rx ry ⟨a, 1, vs, rfl, hi, SqT.of h1, rfl, ?_⟩
        have e : (List.replicate (1 : Int).toNat xs).flatten = xs := List.append_nil xs
        rw [e] at c
        exact c.same W h3
      · by_cases e0 : k = 0
        · subst e0
          exact op_repT0 pins s σ H _ _ v u Q I rx ry ⟨a, 0, vs, rfl, hi, SqT.of h1, hne, rfl, c.tup W .nil⟩
        · exact op_repT pins s σ H _ _ v u Q I rx ry ⟨a, k, vs, rfl, hi, SqT.of h1, hne, by omega, hb.2.1, vl, c.tup W (h2.rep _)⟩
    · cases hz
  · exact os_mul pins s σ H x y v u tabs δ O st d e z Q I rx ry W hx hy hz c
end
end Fo
/-! math.gcd -/
namespace Fo
open PySem PySem.Spec PyProof.Rows L2
section
variable {X : Cx} {tabs : Tb}
def gcdV : List PyData → Option PyData
  | [.int a, .int b] => some (.int ((Nat.gcd a.natAbs b.natAbs : Nat) : Int))
  | _ => none
theorem cs_gcd : CallS X (.builtin "math.gcd") gcdV := by
  intro pins s σ H xs us tabs δ O st ds z Q I rx W hx hz c
  unfold gcdV at hz
  split at hz
  · cases hz
    cases hx with
    | cons h1 h2 =>
      cases h2 with
      | cons h2 h3 =>
        cases h3
        have e1 := h1.int
        have e2 := h2.int
        subst e1 e2
        exact cr_gcd pins s σ H _ us Q I rx ⟨_, _, rfl, c.same W (.int _)⟩
  · cases hz
theorem ex_gcd {p pos : Pos} {e : Expr} {es : List Expr} {r : SemL} (hg : Gl X "gcd") (hm : X.mg "gcd" = some (.builtin "math.gcd"))
    (hp : (e :: es).all plain = true) (ha : PA X (e :: es) (RdLT X.K tabs r)) : PE X (.Call (.Name "gcd" p) (e :: es) [] pos) (Rd1 X.K tabs (bltR gcdV r)) :=
  PE.imp (pe_callBfun (cs_gcd).r hg hm ha (by decide) (plain_star (plain_hd hp).1) (plain_any (plain_hd hp).2)) fun σ H Q h => blt_to h
end
end Fo
/-! [e for x in d]: d an owned dict, keys ints or texts, locked while it is walked -/
namespace Fo
open PySem PySem.Spec PyProof.Rows L2
/-- the keys of the owned dict in slot k -/
def ownKs (ρ : Rho) (k : Nat) : Option (List PyData) := match ρ[k]? with
  | some (some (.ow (.dict kvs))) => (match dkOf kvs with
    | some (p :: ps) => some ((p :: ps).map fun p => keyD p.1)
    | _ => none)
  | _ => none
def lcK (k : Nat) (tg : Tg) (vs : List Nat) (tt : SemB) (te : Sem1) : Sem1 := fun ρ => do
  let items ← up (ownKs ρ k)
  let its ← up (if items.length ≤ 1000000 then some items else none)
  let out ← lcGo tg tt te (wipeR (ρ.set k none) vs) its
  pure (.list out)
theorem ownKs_some {ρ : Rho} {k : Nat} {items : List PyData} (h : ownKs ρ k = some items) : ∃ kvs ps, ρ[k]? = some (some (.ow (.dict kvs))) ∧ dkOf kvs = some ps ∧ items = ps.map fun p => keyD p.1 := by
  unfold ownKs at h
  split at h
  · rename_i kvs e
    split at h
    · rename_i p ps e2
      cases h
      exact ⟨kvs, _, e, e2, rfl⟩
    · cases h
  · cases h
/-- the name in slot i, whatever it holds -/
def tNmV (i : Nat) : TE := fun σ H Q => ∃ v, σ[i]? = some (some v) ∧ Q v H
section
variable {K : PySem.W.Frag} {tabs : Tb} {δ : Option Addr} {O : Addr → Prop} {ρ : Rho} {σ : L2.St} {H : Hp} {st : Dr}
theorem it_k {L : (Addr → Prop) → Hp → Prop} {d : Addr} {od : Obj} {vs : List (Key × V)} {ps : List (Key × PyData)} {M : Hp} (r : KRs K M vs ps) (h : ∀ O2 H2, L O2 H2 → H2 d = some (.frz od (.dK vs))) : ItOk K tabs δ L (Itk d od vs) (ps.map fun p => keyD p.1) := by
  intro mm O2 st2 H2 W2 hL i
  have h1 := h O2 H2 hL
  have hl : vs.length = ps.length := r.len
  rw [List.length_map]
  refine ⟨fun hi => ⟨⟨h1, by omega⟩, fun x H3 ⟨e3, k, v, he, ex⟩ => ?_⟩, fun hi => ⟨h1, by omega⟩⟩
  subst e3 ex
  refine ⟨Ext.refl _ _, W2, keyD k, ?_, rp_key k⟩
  have key : ∀ {vs : List (Key × V)} {ps : List (Key × PyData)} {i : Nat}, KRs K M vs ps → vs[i]? = some (k, v) → (ps.map fun p => keyD p.1)[i]? = some (keyD k) := by
    intro vs ps i h
    induction h generalizing i with
    | nil => intro z; simp at z
    | cons h t ih =>
      intro z
      cases i with
      | zero =>
        simp at z
        subst z
        have := h.1
        simp only at this
        simp [← this]
      | succ i => simpa using ih (by simpa using z)
  exact key r he
/-- a dict is locked: nothing else is seen to change -/
theorem lock_ext {a : Addr} {od : Obj} {u : HO} {H2 : Hp} (ha : H a = some u) (mu : Mut (some u)) (E : Ext δ (upd H a (.frz od u)) H2) : Ext δ H (upd H2 a u) :=
  ⟨fun b o e hd ht => by
    by_cases hb : b = a
    · subst hb
      rw [upd_same, ← ha, e]
    · rw [upd_ne hb]
      exact E.keep b o (by rw [upd_ne hb]; exact e) hd ht, fun b ps e => by
    by_cases hb : b = a
    · subst hb
      rw [ha] at e
      cases e
      exact mu.elim
    · obtain ⟨qs, q⟩ := E.tbl b ps (by rw [upd_ne hb]; exact e)
      exact ⟨qs, by rw [upd_ne hb]; exact q⟩, fun b e => by
    by_cases hb : b = a
    · subst hb
      rw [upd_same] at e
      cases e
    · rw [upd_ne hb] at e
      have := E.dom b e
      rw [upd_ne hb] at this
      exact this⟩
theorem Slots.lock {a : Addr} {od : Obj} {u : HO} {k : Nat} {kvs : List (PyData × PyData)} (S : Slots K δ O ρ σ H) (hk : ρ[k]? = some (some (.ow (.dict kvs)))) (hv : σ[k]? = some (some (.ref a))) (oa : O a) (ha : H a = some u) : Slots K δ O (ρ.set k none) σ (L2.upd H a (.frz od u)) := by
  have rd : Rds (mask O H) (mask O (L2.upd H a (.frz od u))) := rds_upd oa
  refine ⟨fun i en h => ?_, fun i j d e v hij hi hj hs => ?_, by rw [List.length_set]; exact S.len⟩
  · by_cases hik : i = k
    · subst hik
      rw [List.getElem?_set] at h
      simp at h
    · rw [List.getElem?_set_ne (fun z => hik z.symm)] at h
      obtain ⟨v, q1, q2⟩ := S.at_ i en h
      refine ⟨v, q1, ?_⟩
      have ne : ∀ d, en = .ow d → v ≠ .ref a := fun d ed ev => by
        subst ed ev
        exact S.inj i k d _ _ hik h hk q1 hv
      cases en with
      | va d => exact Rp.mono rd q2
      | dr => exact q2
      | ow d =>
        cases d with
        | list ds =>
          obtain ⟨b, xs, e, o, n, k1, k2⟩ := q2
          have hb : b ≠ a := fun z => ne _ rfl (by rw [e, z])
          exact ⟨b, xs, e, o, n, by rw [L2.upd_ne hb]; exact k1, k2.mono rd⟩
        | dict kvs =>
          obtain ⟨b, e, o, n, q⟩ := q2
          have hb : b ≠ a := fun z => ne _ rfl (by rw [e, z])
          exact ⟨b, e, o, n, by rw [L2.upd_ne hb]; exact q.mono rd⟩
        | _ => exact q2
  · have hi2 : i ≠ k := fun z => by
      subst z
      rw [List.getElem?_set] at hi
      simp at hi
    have hj2 : j ≠ k := fun z => by
      subst z
      rw [List.getElem?_set] at hj
      simp at hj
    rw [List.getElem?_set_ne (fun z => hi2 z.symm)] at hi
    rw [List.getElem?_set_ne (fun z => hj2 z.symm)] at hj
    exact S.inj i j d e v hij hi hj hs
end
section
variable {K : PySem.W.Frag} {tabs : Tb} {δ : Option Addr} {O : Addr → Prop} {ρ : Rho} {σ : L2.St} {H H1 : Hp} {st1 st' : Dr}
/-- a comprehension's turns, over a walk that is there -/
theorem lc_in {tg : Tg} {vs0 : List Nat} {tt : SemB} {te : Sem1} {items out : List PyData} {J : It} {Q : VK} (hsub : ∀ j ∈ tg.slots, j ∈ vs0) (S1 : Slots K δ O ρ σ H1) (W1 : WOk K tabs δ O st1 H1) (hJ : ItOk K tabs δ (fun O2 H2 => Lat2 δ O H1 O2 H2) J items) (hlen : items.length ≤ 1000000)
    (e3 : lcGo tg tt te (wipeR ρ vs0) items st1 = some (out, st'))
    (c : ∀ D H2 vs, H1 D = none → Lat2 δ O H1 (plus O D) H2 → WOk K tabs δ (plus O D) st' H2 → H2 D = some (.lst vs) → RpAll K (mask (plus O D) H2) vs out → Q (.ref D) H2) :
    ∀ D, H1 D = none → ∃ W : Nat → Nat → Hp → Prop, (∃ m, W 0 m (L2.upd H1 D (.lst []))) ∧ ∀ i m H, W i m H →
      (J.stop i H ∧ Q (.ref D) H) ∨ (J.go i H ∧ ∃ Nx : Hp → Prop, (∀ H', Nx H' → ∃ m', m' < m ∧ W (i + 1) m' H') ∧ ∀ x H', J.yld i H x H' → RdG K tg x (L2.wipe σ vs0) H' fun σ2 H2 => L2.wipe σ2 vs0 = L2.wipe σ vs0 ∧ RdB K tabs tt σ2 H2 fun b H3 =>
        if b = true then Rd1 K tabs te σ2 H3 fun y H4 => ∃ acc, H4 D = some (.lst acc) ∧ acc.length < sizeLine ∧ Nx (L2.upd H4 D (.lst (acc ++ [y]))) else Nx H3) := by
  intro D hD
  have hδD : δ ≠ some D := fun z => by
    have := W1.own D (W1.dl D z)
    exact this hD
  have nOD : ¬ O D := fun z => W1.own D z hD
  refine ⟨fun i m H2 => ∃ stj acc rest vs, m = items.length - i ∧ WOk K tabs δ (plus O D) stj H2 ∧ Lat2 δ O H1 (plus O D) H2 ∧ H2 D = some (.lst vs) ∧ RpAll K (mask (plus O D) H2) vs acc ∧ acc.length ≤ i ∧
    lcGo tg tt te (wipeR ρ vs0) (items.drop i) stj = some (rest, st') ∧ acc ++ rest = out, ⟨items.length, _, [], out, [], by simp, W1.newOwn hD, Lat2.newOwn hD, upd_same, .nil, Nat.le_refl _, by simpa using e3, rfl⟩, ?_⟩
  rintro i m H2 ⟨stj, acc, rest, vs, rfl, W2, L2, hv, hr, hal, hgo, hout⟩
  have hstep := hJ tabs.m (plus O D) stj H2 W2 L2 i
  by_cases hi : i < items.length
  · refine .inr ⟨(hstep.1 hi).1, fun H' => ∃ stj acc rest vs, WOk K tabs δ (plus O D) stj H' ∧ Lat2 δ O H1 (plus O D) H' ∧ H' D = some (.lst vs) ∧ RpAll K (mask (plus O D) H') vs acc ∧ acc.length ≤ i + 1 ∧
      lcGo tg tt te (wipeR ρ vs0) (items.drop (i + 1)) stj = some (rest, st') ∧ acc ++ rest = out, ?_, ?_⟩
    · rintro H' ⟨stj', acc', rest', vs', q1, q2, q3, q4, q5, q6, q7⟩
      exact ⟨items.length - (i + 1), by omega, stj', acc', rest', vs', rfl, q1, q2, q3, q4, q5, q6, q7⟩
    · intro x H3 hy
      obtain ⟨E3, W3, d, hd, r3⟩ := (hstep.1 hi).2 x H3 hy
      have hdrop : items.drop i = d :: items.drop (i + 1) := by
        rw [List.drop_eq_getElem_cons hi]
        rw [List.getElem?_eq_getElem hi] at hd
        cases hd
        rfl
      rw [hdrop] at hgo
      obtain ⟨ρ1, sta, ga, ha⟩ := bnd_some hgo
      obtain ⟨ga2, rfl⟩ := up_some ga
      obtain ⟨b, stb, gb, hb⟩ := bnd_some ha
      have L3 := L2.trans (Lat2.of E3)
      have S3 : Slots K δ (plus O D) (wipeR ρ vs0) (_root_.L2.wipe σ vs0) H3 := ((S1.lat L3 W1.dl).wipe _)
      refine ⟨δ, plus O D, _, d, ρ1, S3, r3, ga2, fun σ' S' hk => ⟨wipe_eq ?_ fun j hj => hk j fun z => hj (hsub j z), ?_⟩⟩
      · rw [← S'.len, storeT_len ga2, wipeR_len, S1.len]
      refine ⟨δ, plus O D, ρ1, _, b, stb, S', W3, gb, fun H4 E4 W4 => ?_⟩
      have L4 := L3.trans (Lat2.of E4)
      have hv4 : H4 D = some (.lst vs) := E4.keep _ _ (E3.keep _ _ hv (fun z => hδD z.symm) (fun ps z => nomatch z)) (fun z => hδD z.symm) (fun ps z => nomatch z)
      have hr4 : RpAll K (mask (plus O D) H4) vs acc := (hr.mono (rds_ext E3 W2.dl)).mono (rds_ext E4 W3.dl)
      cases b with
      | false =>
        refine iteF ⟨stb, acc, rest, vs, W4, L4, hv4, hr4, by omega, by simpa using hb, hout⟩
      | true =>
        refine iteT ?_
        obtain ⟨y, stc, gc, hc'⟩ := bnd_some (show ((te ρ1) >>= fun y => (lcGo tg tt te (wipeR ρ vs0) (items.drop (i + 1))) >>= fun ys => (pure (y :: ys) : M (List PyData))) stb = some (rest, st') by simpa using hb)
        obtain ⟨ys, std, gd, hd'⟩ := bnd_some hc'
        obtain ⟨rfl, rfl⟩ := pur_some hd'
        refine ⟨δ, plus O D, ρ1, stb, y, stc, S'.ext E4 W3.dl, W4, gc, fun w H5 E5 W5 R5 => ?_⟩
        have hv5 : H5 D = some (.lst vs) := E5.keep _ _ hv4 (fun z => hδD z.symm) (fun ps z => nomatch z)
        have hr5 : RpAll K (mask (plus O D) H5) vs acc := hr4.mono (rds_ext E5 W4.dl)
        have hvl := hr5.length
        refine ⟨vs, hv5, ?_, stc, acc ++ [y], ys, vs ++ [w], W5.upd (.inr rfl) hδD (by rw [hv5]; trivial), ?_, upd_same, ?_, by rw [List.length_append, List.length_singleton]; omega, gd, by rw [List.append_assoc]; exact hout⟩
        · have : vs.length ≤ 1000000 - 1 := by omega
          exact Nat.lt_of_le_of_lt this (by rw [sizeLine_eq]; decide)
        · exact (L4.trans (Lat2.of E5)).upd hD (by rw [hv5]; exact fun z => nomatch z)
        · exact (hr5.mono (rds_upd (.inr rfl))).append (.cons (R5.mono (rds_upd (.inr rfl))) .nil)
  · refine .inl ⟨hstep.2 (by omega), ?_⟩
    rw [List.drop_of_length_le (by omega)] at hgo
    obtain ⟨rfl, rfl⟩ := pur_some hgo
    rw [List.append_nil] at hout
    subst hout
    exact c D H2 vs hD L2 W2 hv hr
theorem lcK_to {k : Nat} {tg : Tg} {vs0 : List Nat} {tt : SemB} {te : Sem1} (hsub : ∀ j ∈ tg.slots, j ∈ vs0) {Q : VK} (h : Rd1 K tabs (lcK k tg vs0 tt te) σ H Q) : tLockE (tLc (iKeys (tNmV k)) (RdG K tg) (RdB K tabs tt) (Rd1 K tabs te) vs0) σ H Q := by
  obtain ⟨δ, O, ρ, st, z, st', S, W, e, c⟩ := h
  obtain ⟨items, st1, e1, f1⟩ := bnd_some e
  obtain ⟨e0, er1⟩ := up_some e1
  obtain ⟨its, st1', g1, f2⟩ := bnd_some f1
  obtain ⟨g1, er2⟩ := up_some g1
  subst er1 er2
  obtain ⟨out, st2, e3, f3⟩ := bnd_some f2
  obtain ⟨rfl, rfl⟩ := pur_some f3
  split at g1
  · rename_i hlen
    cases g1
    obtain ⟨kvs, ps, hk, hps, rfl⟩ := ownKs_some e0
    obtain ⟨v, hv, a, rfl, oa, na, q⟩ := S.at_ k _ hk
    obtain ⟨vs, ha, r⟩ := q.dK hps
    refine ⟨a, _, ha, trivial, fun od => ⟨_, hv, a, od, rfl, .inl ⟨vs, upd_same, ?_⟩⟩⟩
    have S0 : Slots K δ O (ρ.set k none) σ (upd H a (.frz od (.dK vs))) := S.lock hk hv oa ha
    have W0 : WOk K tabs δ O _ (upd H a (.frz od (.dK vs))) := W.upd oa na (by rw [ha]; trivial)
    refine lc_in (Q := fun v H' => H' a = some (.frz od (.dK vs)) ∧ Q v (L2.upd H' a (.dK vs))) hsub S0 W0 (it_k r fun O2 H2 L => L.ext.keep _ _ upd_same (fun z => na z.symm) (fun ps z => nomatch z)) hlen e3 fun D H2 ws hD L W2 hv2 hr => ?_
    have hfz : H2 a = some (.frz od (.dK vs)) := L.ext.keep _ _ upd_same (fun z => na z.symm) (fun ps z => nomatch z)
    have hDa : D ≠ a := fun z => by
      rw [z, upd_same] at hD
      cases hD
    have nD : ¬ O D := fun z => W0.own D z hD
    refine ⟨hfz, c _ _ (lock_ext ha trivial L.ext) ?_ ?_⟩
    · have W3 : WOk K tabs δ O st' H2 := W2.less W0.dl fun a h => .inl h
      have kt : ∀ b ps, H2 b = some (.tbl ps) → L2.upd H2 a (.dK vs) b = some (.tbl ps) := fun b ps e' => by
        have : b ≠ a := fun z => by rw [z, hfz] at e'; cases e'
        rw [upd_ne this]
        exact e'
      have kf : ∀ b o, H2 b = some (.frz o uT) → L2.upd H2 a (.dK vs) b = some (.frz o uT) := fun b o e' => by
        have : b ≠ a := fun z => by rw [z, hfz] at e'; unfold uT at e'; cases e'
        rw [upd_ne this]
        exact e'
      refine ⟨fun P hP => (W3.tab P hP).keep kt kf, fun P hP => ⟨(W3.tab2 P hP).1, TabG.keep (W3.tab2 P hP).2 kt⟩, fun b hb => ?_, fun b hb z => ?_⟩
      · obtain ⟨h1, sa, e', hs⟩ := W3.dr b hb
        have : b ≠ a := fun z => na (by rw [hb, z])
        exact ⟨h1, sa, by rw [upd_ne this]; exact e', (rds_upd oa).seqL hs⟩
      · by_cases hb2 : b = a
        · subst hb2
          rw [upd_same] at z
          cases z
        · rw [upd_ne hb2] at z
          exact W3.own b hb z
    · refine .lst (mask_some.mpr ⟨nD, by rw [upd_ne hDa]; exact hv2⟩) ?_
      exact (hr.mono (rds_less fun a h => .inl h)).mono (rds_upd oa)
  · cases g1
theorem ex_nmV {X : Cx} {i : Nat} {x : PySem.Str} {pos : Pos} (hN : X.N[i]? = some x) (hv : Vis X.env.scope x) (hd : (x == ("__debug__" : PySem.Str)) = false) (hcd : (x == ("__classdict__" : PySem.Str)) = false) : PE X (.Name x pos) (tNmV i) := PE.imp (pe_var hN hv hd hcd) fun σ H Q h => h
theorem ex_lcK {X : Cx} {elt tgE : Expr} {ifs : List Expr} {scope : Scope} {own : List (PySem.Str × Nat)} {pos p : Pos} {k : Nat} {x : PySem.Str} {tg : Tg} {tt : SemB} {te : Sem1} (hc : X.calm = true) (hN : X.N.Nodup) (hi : PE X (.Name x p) (tNmV k)) (ok : BlkOk X.N X.env.scope scope own)
    (hg : ∀ (s : Shared) (H : Hp) (C : Addr) (cl : List (PySem.Str × Addr)) (fp : List Addr), PG (X.blk s H scope (compEnvC scope cl C X.env) fp) tgE (RdG X.K tg))
    (ht : ∀ (s : Shared) (H : Hp) (C : Addr) (cl : List (PySem.Str × Addr)) (fp : List Addr), PTs (X.blk s H scope (compEnvC scope cl C X.env) fp) ifs (RdB X.K tabs tt))
    (he : ∀ (s : Shared) (H : Hp) (C : Addr) (cl : List (PySem.Str × Addr)) (fp : List Addr), PE (X.blk s H scope (compEnvC scope cl C X.env) fp) elt (Rd1 X.K tabs te))
    (hsub : ∀ j ∈ tg.slots, j ∈ own.map (·.2)) : PE X (.ListComp elt [⟨tgE, .Name x p, ifs, 0⟩] scope pos) (Rd1 X.K tabs (lcK k tg (own.map (·.2)) tt te)) :=
  PE.imp (pe_lock (pe_lc hc hN (pi_keys hi) ok hg ht he (fun v => rfl))) fun σ H Q h => lcK_to hsub h
end
end Fo
/-! the reader of expressions -/
namespace Fo
open PySem PySem.Spec PyProof.Rows L2
structure FnI where
  d : Bool
  n : Nat
  sem : SemF
structure Cfg where
  N : List PySem.Str
  sc : Scope
  fns : List (PySem.Str × FnI)
  cis : List (PySem.Str × Int)
  blts : List PySem.Str
  gen : Bool
  gen2 : Bool
  fn : PySem.Str → Bool
  dr : Option PySem.Str
/-- what the module's name of a built-in function stands for -/
def bltAt (x : PySem.Str) : Option Value := if (x == ("gcd" : PySem.Str)) = true then some (.builtin "math.gcd") else none
structure CfgOk (X : Cx) (tabs : Tb) (C : Cfg) : Prop where
  N : X.N = C.N
  nd : C.N.Nodup
  sc : X.env.scope = C.sc
  calm : X.calm = true
  fn : ∀ x, C.fn x = true → X.fn x = true
  room : ∃ k, Room (k + 2 * C.gen.toNat + C.gen2.toNat) X.A ∧ ∀ p ∈ C.fns, FnS X tabs k p.1 p.2.d p.2.n p.2.sem
  cis : ∀ p ∈ C.cis, ∃ t, X.mg p.1 = some (.int p.2 t)
  blts : ∀ x ∈ C.blts, X.mg x = bltAt x
  tab : C.gen = true → ∃ c P, P ∈ tabs.l ∧ GxR.TabB X.base X.mg c P ∧ X.env.code = .ref c
  tab2 : C.gen2 = true → ∃ c P, P ∈ tabs.m ∧ CodeSrc X c P ∧ X.env.code = .ref c
def Cfg.blk (C : Cfg) (scope : Scope) : Cfg := { C with sc := relS scope C.sc, gen2 := false, fn := fun x => scope.names.lookup x == some .cell }
def Cfg.gx (C : Cfg) (scope : Scope) : Cfg := { C with sc := scope, fn := fun _ => false, gen := false, gen2 := C.gen }
section
variable {X : Cx} {tabs : Tb} {C : Cfg}
theorem CfgOk.b0 (h : CfgOk X tabs C) {x : PySem.Str} (hx : x ∈ C.blts) (hn : (x == ("gcd" : PySem.Str)) = false := by decide) : X.mg x = none := by
  rw [h.blts x hx]
  unfold bltAt
  rw [hn]
  rfl
theorem CfgOk.bg (h : CfgOk X tabs C) (hx : ("gcd" : PySem.Str) ∈ C.blts) : X.mg "gcd" = some (.builtin "math.gcd") := by
  rw [h.blts _ hx]
  rfl
theorem CfgOk.blk (h : CfgOk X tabs C) (s : Shared) (H : Hp) (scope : Scope) (Cc : Addr) (cl : List (PySem.Str × Addr)) (fp : List Addr) : CfgOk (X.blk s H scope (compEnvC scope cl Cc X.env) fp) tabs (C.blk scope) :=
  ⟨h.N, h.nd, by show relS scope X.env.scope = relS scope C.sc; rw [h.sc], h.calm, fun _ e => e, h.room.elim fun k ⟨r, f⟩ => ⟨k, r.mono (by show k + 2 * C.gen.toNat + 0 ≤ _; omega), fun p hp => ⟨(f p hp).ok⟩⟩, h.cis, h.blts, h.tab, fun z => (by cases z)⟩
/-- a generator's own code: one level down -/
theorem CfgOk.gxB (h : CfgOk X tabs C) (hg : C.gen = true ∨ C.gen2 = true) (s : Shared) (H : Hp) (scope : Scope) (code : Value) (fp : List Addr) (m : List Addr) (b : Bool) (hb : b = true → C.gen = true) (hT : b = true → ∃ c P, P ∈ m ∧ CodeSrc (X.gen s H scope code fp) c P ∧ code = .ref c) :
    CfgOk (X.gen s H scope code fp) ⟨tabs.l, m⟩ { C.gx scope with gen2 := b } :=
  ⟨h.N, h.nd, rfl, h.calm, fun _ e => (by cases e), h.room.elim fun k ⟨r, f⟩ => ⟨k, by
    have hb2 : b.toNat ≤ C.gen.toNat := by
      cases b with
      | false => exact Nat.zero_le _
      | true => rw [hb rfl]; exact Nat.le_refl _
    have r : Room (k + C.gen.toNat + 1) X.A := r.mono (by
      rcases hg with e | e
      · rw [e]
        show k + 1 + 1 ≤ k + 2 * 1 + C.gen2.toNat
        omega
      · rw [e]
        show k + C.gen.toNat + 1 ≤ k + 2 * C.gen.toNat + 1
        omega)
    have a1 := r.dp
    have a2 := r.un
    refine ⟨r.hd, ?_, ?_⟩
    · show X.A.depth + 1 + 3 * (k + 2 * 0 + b.toNat) + 5 < _
      omega
    · show X.A.units + 1 + 1 + 3 + 16 * (k + 2 * 0 + b.toNat) + 200 < _
      omega, fun p hp => ⟨(f p hp).ok⟩⟩, h.cis, h.blts, fun z => (by cases z), hT⟩
theorem CfgOk.gx (h : CfgOk X tabs C) (hg : C.gen = true ∨ C.gen2 = true) (s : Shared) (H : Hp) (scope : Scope) (code : Value) (fp : List Addr) (m : List Addr) (hT : C.gen = true → ∃ c P, P ∈ m ∧ CodeSrc (X.gen s H scope code fp) c P ∧ code = .ref c) : CfgOk (X.gen s H scope code fp) ⟨tabs.l, m⟩ (C.gx scope) :=
  h.gxB hg s H scope code fp m C.gen id hT
theorem CfgOk.gx0 (h : CfgOk X tabs C) (hg : C.gen = true ∨ C.gen2 = true) (s : Shared) (H : Hp) (scope : Scope) (code : Value) (fp : List Addr) : CfgOk (X.gen s H scope code fp) ⟨tabs.l, []⟩ { C.gx scope with gen2 := false } :=
  h.gxB hg s H scope code fp [] false (fun z => by cases z) (fun z => by cases z)
theorem CfgOk.un (h : CfgOk X tabs C) : X.A.units + 70 < cLine := by
  obtain ⟨k, r, _⟩ := h.room
  have := r.un
  omega
theorem CfgOk.dp (h : CfgOk X tabs C) : X.A.depth < recursionLimit := by
  obtain ⟨k, r, _⟩ := h.room
  have := r.dp
  omega
/-! ### names -/
def visB (sc : Scope) (x : PySem.Str) : Bool := match sc.names.lookup x with
  | some .local => true
  | some .cell => true
  | some .free => true
  | _ => false
theorem vis_of {sc : Scope} {x : PySem.Str} (h : visB sc x = true) : Vis sc x := by
  unfold visB at h
  split at h
  · rename_i e; exact .inl e
  · rename_i e; exact .inr (.inl e)
  · rename_i e; exact .inr (.inr e)
  · cases h
def ixOf (x : PySem.Str) : List PySem.Str → Option Nat
  | [] => none
  | y :: ys => if y = x then some 0 else (ixOf x ys).map (· + 1)
theorem ixOf_some {x : PySem.Str} : ∀ {l : List PySem.Str} {i : Nat}, ixOf x l = some i → l[i]? = some x
  | [], _, h => by cases h
  | y :: ys, i, h => by
    unfold ixOf at h
    split at h
    · rename_i e
      cases h
      rw [e]
      rfl
    · cases e : ixOf x ys with
      | none => rw [e] at h; cases h
      | some j =>
        rw [e] at h
        cases h
        simpa using ixOf_some e
def okNm (x : PySem.Str) : Bool := !(x == ("__debug__" : PySem.Str)) && !(x == ("__classdict__" : PySem.Str))
def varI (C : Cfg) (x : PySem.Str) : Option Nat := if visB C.sc x = true ∧ okNm x = true then ixOf x C.N else none
theorem varI_some {x : PySem.Str} {i : Nat} (h : CfgOk X tabs C) (e : varI C x = some i) : X.N[i]? = some x ∧ Vis X.env.scope x ∧ (x == ("__debug__" : PySem.Str)) = false ∧ (x == ("__classdict__" : PySem.Str)) = false := by
  unfold varI at e
  split at e
  · rename_i q
    obtain ⟨q1, q2⟩ := q
    unfold okNm at q2
    rw [Bool.and_eq_true, Bool.not_eq_true', Bool.not_eq_true'] at q2
    exact ⟨by rw [h.N]; exact ixOf_some e, by rw [h.sc]; exact vis_of q1, q2.1, q2.2⟩
  · cases e
def glB (C : Cfg) (x : PySem.Str) : Bool := decide (C.sc.names.lookup x = some .globalImplicit)
theorem gl_of {x : PySem.Str} (h : CfgOk X tabs C) (e : glB C x = true) : Gl X x := by
  have := of_decide_eq_true e
  show X.env.scope.names.lookup x = _
  rw [h.sc]
  exact this
theorem lookup_mem {α : Type} {x : PySem.Str} : ∀ {l : List (PySem.Str × α)} {a : α}, l.lookup x = some a → (x, a) ∈ l := fun h => PySem.mem_of_lookup h
def locB (sc : Scope) (x : PySem.Str) : Bool := match sc.names.lookup x with
  | some .local => true
  | some .cell => true
  | _ => false
theorem loc_of {sc : Scope} {x : PySem.Str} (h : locB sc x = true) : Loc sc x := by
  unfold locB at h
  split at h
  · rename_i e; exact .inl e
  · rename_i e; exact .inr e
  · cases h
def tgNm (C : Cfg) : Expr → Option Nat
  | .Name x _ => if locB C.sc x = true ∧ (C.fn x = true ∨ C.sc.names.lookup x = some .local) then ixOf x C.N else none
  | _ => none
theorem tgNm_some {e : Expr} {i : Nat} (h : CfgOk X tabs C) (q : tgNm C e = some i) : NmOk X e i := by
  unfold tgNm at q
  split at q
  · split at q
    · rename_i c
      refine ⟨_, _, rfl, by rw [h.N]; exact ixOf_some q, by rw [h.sc]; exact loc_of c.1, ?_⟩
      rcases c.2 with w | w
      · exact .inl (h.fn _ w)
      · exact .inr (by rw [h.sc]; exact w)
    · cases q
  · cases q
def tgNms (C : Cfg) : List Expr → Option (List Nat)
  | [] => some []
  | e :: es => match tgNm C e, tgNms C es with
    | some i, some is => some (i :: is)
    | _, _ => none
theorem tgNms_some (h : CfgOk X tabs C) : ∀ {es : List Expr} {is : List Nat}, tgNms C es = some is → Paired (NmOk X) es is
  | [], _, q => by cases q; exact .nil
  | e :: es, is, q => by
    unfold tgNms at q
    split at q
    · rename_i e1 e2
      cases q
      exact .cons (tgNm_some h e1) (tgNms_some h e2)
    · cases q
def tgOf (C : Cfg) (e : Expr) : Option Tg := match e with
  | .Name x p => (tgNm C (.Name x p)).map .nm
  | .Tuple es _ _ => (tgNms C es).map .tp
  | _ => none
theorem tgOf_some {e : Expr} {t : Tg} (h : CfgOk X tabs C) (q : tgOf C e = some t) : PG X e (RdG X.K t) := by
  have hN : X.N.Nodup := by rw [h.N]; exact h.nd
  unfold tgOf at q
  split at q
  · rename_i x p
    cases e1 : tgNm C (.Name x p) with
    | none => rw [e1] at q; cases q
    | some i =>
      rw [e1] at q
      cases q
      exact eg_nm hN (tgNm_some h e1)
  · rename_i es k p
    cases e1 : tgNms C es with
    | none => rw [e1] at q; cases q
    | some is =>
      rw [e1] at q
      cases q
      exact eg_tp h.calm hN (tgNms_some h e1)
  · cases q
theorem tgNm_g2 (C : Cfg) (b : Bool) (e : Expr) : tgNm { C with gen2 := b } e = tgNm C e := by cases e <;> rfl
theorem tgNms_g2 (C : Cfg) (b : Bool) : ∀ es : List Expr, tgNms { C with gen2 := b } es = tgNms C es
  | [] => rfl
  | e :: es => by
    unfold tgNms
    rw [tgNm_g2, tgNms_g2 C b es]
theorem tgOf_g2 (C : Cfg) (b : Bool) (e : Expr) : tgOf { C with gen2 := b } e = tgOf C e := by
  unfold tgOf
  split
  · rw [tgNm_g2]
  · rw [tgNms_g2]
  · rfl
/-! ### what is not read -/
def bad : Sem1 := fun _ => up none
def badB : SemB := fun _ => up none
def badL : SemL := fun _ => up none
theorem pe_bad {e : Expr} : PE X e (Rd1 X.K tabs bad) := ⟨fun pins s σ H Q I ⟨δ, O, ρ, st, z, st', S, W, e, c⟩ => by cases e⟩
theorem pt_bad {e : Expr} : PT X e (RdB X.K tabs badB) := ⟨fun pins s σ H Q I ⟨δ, O, ρ, st, z, st', S, W, e, c⟩ => by cases e⟩
theorem pa_bad {e : List Expr} : PA X e (RdL X.K tabs badL) := ⟨fun pos pins s σ H Q I ⟨δ, O, ρ, st, z, st', S, W, e, c⟩ => by cases e⟩
theorem pa_badT {e : List Expr} : PA X e (RdLT X.K tabs badL) := ⟨fun pos pins s σ H Q I ⟨δ, O, ρ, st, z, st', S, W, e, c⟩ => by cases e⟩
theorem pi_bad {tg e : Expr} : PI X tg e (RdI X.K tabs badL) := ⟨fun pins s σ H R I ⟨δ, O, ρ, st, z, st', S, W, e, c⟩ => by cases e⟩
def lenR (n : Nat) (r : SemL) : SemL := fun ρ => do let ds ← r ρ; if ds.length = n then pure ds else up none
theorem len_some {n : Nat} {r : SemL} {ρ : Rho} {st st' : Dr} {ds : List PyData} (h : lenR n r ρ st = some (ds, st')) : r ρ st = some (ds, st') ∧ ds.length = n := by
  obtain ⟨es, st1, e1, f1⟩ := bnd_some h
  split at f1
  · rename_i hl
    obtain ⟨rfl, rfl⟩ := pur_some f1
    exact ⟨e1, hl⟩
  · cases f1
theorem ea_len {es : List Expr} {n : Nat} {r : SemL} (h : PA X es (RdL X.K tabs r)) : PA X es (RdL X.K tabs (lenR n r)) := PA.imp h fun σ H Q ⟨δ, O, ρ, st, z, st', S, W, e, c⟩ => ⟨δ, O, ρ, st, z, st', S, W, (len_some e).1, c⟩
theorem eat_len {es : List Expr} {n : Nat} {r : SemL} (h : PA X es (RdLT X.K tabs r)) : PA X es (RdLT X.K tabs (lenR n r)) := PA.imp h fun σ H Q ⟨δ, O, ρ, st, z, st', S, W, e, c⟩ => ⟨δ, O, ρ, st, z, st', S, W, (len_some e).1, c⟩
/-! ### operators -/
def opV : Operator → Option (PyData → PyData → Option PyData)
  | .Add => some addV
  | .Sub => some subV
  | .Mult => some mulW
  | .Mod => some modV
  | .FloorDiv => some fdivV
  | .Pow => some powV
  | _ => none
theorem opV_some {op : Operator} {g : PyData → PyData → Option PyData} (h : opV op = some g) : OpS X (binaryOp op) g := by
  cases op <;> first | cases h | skip
  · exact os_add
  · exact os_sub
  · exact os_mulW
  · exact os_mod
  · exact os_pow
  · exact os_fdiv
def cmpG : CmpOp → PyData → PyData → Option PyData
  | .Eq => eqV
  | .NotEq => neV
  | .In => inNV false
  | .NotIn => inNV true
  | .Is => isV false
  | .IsNot => isV true
  | op => cmpV op
theorem cmpG_os {op : CmpOp} (hu : X.A.units + 65 < cLine) : OpS X (compareOp op) (cmpG op) := by
  cases op
  · exact os_eq hu
  · exact os_ne hu
  · exact os_cmp hu (.inl rfl)
  · exact os_cmp hu (.inr (.inl rfl))
  · exact os_cmp hu (.inr (.inr (.inl rfl)))
  · exact os_cmp hu (.inr (.inr (.inr rfl)))
  · exact os_is false
  · exact os_is true
  · exact os_inN hu false
  · exact os_inN hu true
theorem ite_bool {c : Prop} [Decidable c] {b : Bool} {z : PyData} (h : (if c then some (PyData.bool b) else none) = some z) : ∃ b, z = .bool b := by
  split at h
  · cases h; exact ⟨_, rfl⟩
  · cases h
theorem inNV_bool {neg : Bool} {d e z : PyData} (h : inNV neg d e = some z) : ∃ b, z = .bool b := by
  have k : ∀ {e : PyData}, inV neg d e = some z → ∃ b, z = .bool b := by
    intro e h
    cases e <;> first | exact ite_bool h | cases h
  have k2 : ∀ {e : PyData}, inDV neg d e = some z → ∃ b, z = .bool b := by
    intro e h
    unfold inDV at h
    split at h
    · split at h
      · cases h; exact ⟨_, rfl⟩
      · cases h
    · exact k h
  unfold inNV at h
  split at h
  · split at h
    · cases h; exact ⟨_, rfl⟩
    · exact k2 h
  · exact k2 h
theorem cmpG_bool (op : CmpOp) : BoolV (cmpG op) := by
  intro d e z h
  cases op
  · exact ite_bool h
  · exact ite_bool h
  · exact ite_bool h
  · exact ite_bool h
  · exact ite_bool h
  · exact ite_bool h
  · cases e <;> first | cases h | skip
    · exact ⟨_, rfl⟩
    · cases d <;> first | cases h | skip
      exact ⟨_, rfl⟩
  · cases e <;> first | cases h | skip
    · exact ⟨_, rfl⟩
    · cases d <;> first | cases h | skip
      exact ⟨_, rfl⟩
  · exact inNV_bool h
  · exact inNV_bool h
end
end Fo
namespace Fo
open PySem PySem.Spec PyProof.Rows L2
/-- readers one level down -/
structure Sms where
  E : Cfg → Expr → Sem1
  T : Cfg → Expr → Sem1
  B : Cfg → Expr → SemB
def botS : Sms := ⟨fun _ _ => bad, fun _ _ => bad, fun _ _ => badB⟩
section
variable (s : Sms) (C : Cfg)
def lL : List Expr → SemL
  | [] => nilR
  | e :: es => match e with
    | .Starred e' _ => starR (s.T C e') (lL es)
    | e => if plain e = true then consR (s.E C e) (lL es) else badL
def lLT : List Expr → SemL
  | [] => nilR
  | e :: es => if plain e = true then consR (s.T C e) (lLT es) else badL
def rngArgs (e : Expr) : Option (List Expr) := match e with
  | .Call (.Name f _) args [] _ => if f = "range" ∧ glB C f = true ∧ f ∈ C.blts then (match args with | [a] => if [a].all plain = true then some [a] else none | [a, b] => if [a, b].all plain = true then some [a, b] else none | _ => none) else none
  | _ => none
def enumA (tg e : Expr) : Option Expr := match tg, e with
  | .Tuple _ _ _, .Call (.Name f _) [a] [] _ => if f = "enumerate" ∧ glB C f = true ∧ f ∈ C.blts ∧ plain a = true then some a else none
  | _, _ => none
def zipA (tg e : Expr) : Option (Expr × Expr) := match tg, e with
  | .Tuple _ _ _, .Call (.Name f _) [a, b] [] _ => if f = "zip" ∧ glB C f = true ∧ f ∈ C.blts ∧ plain a = true ∧ plain b = true then some (a, b) else none
  | _, _ => none
def itS (tg e : Expr) : SemL := match rngArgs C e with
  | some as => rngR (lenR as.length (lLT s C as))
  | none => match enumA C tg e with
    | some a => enumR (s.E C a)
    | none => match zipA C tg e with
      | some (a, b) => zipR (s.E C a) (s.E C b)
      | none => itemsG (s.E C e)
def itT (tg e : Expr) : SemL := match rngArgs C e with
  | some as => rngR (lenR as.length (lLT s C as))
  | none => match enumA C tg e with
    | some a => enumR (s.T C a)
    | none => match zipA C tg e with
      | some (a, b) => zipR (s.T C a) (s.T C b)
      | none => itemsG (s.T C e)
def notSet : Expr → Bool
  | .Set .. => false
  | .List .. => false
  | _ => true
def notSet1 : Expr → Bool
  | .Set .. => false
  | _ => true
def ownOf (N : List PySem.Str) (scope : Scope) : List (PySem.Str × Nat) := scope.names.filterMap fun (x, k) => if k = .local ∨ k = .cell then (ixOf x N).map fun i => (x, i) else none
def ifsB : List Expr → SemB
  | [] => yesB
  | [c] => s.B C c
  | _ => badB
def subB (t : Tg) (vs : List Nat) : Bool := t.slots.all fun j => decide (j ∈ vs)
def lcE (elt tg iter : Expr) (ifs : List Expr) (scope : Scope) : Sem1 := match tgOf (C.blk scope) tg with
  | some t => if blkC C.N C.sc scope (ownOf C.N scope) = true ∧ notSet1 iter = true ∧ subB t ((ownOf C.N scope).map (·.2)) = true then
      lcR (itT s C tg iter) t ((ownOf C.N scope).map (·.2)) (ifsB s (C.blk scope) ifs) (s.E (C.blk scope) elt) else bad
  | none => bad
/-- a name that may hold an owned dict whose keys are walked -/
def dkNm (iter : Expr) : Option Nat := match iter with
  | .Name x _ => if x = "near" then varI C x else none
  | _ => none
def lcEK (elt tg iter : Expr) (ifs : List Expr) (scope : Scope) : Sem1 := match dkNm C iter with
  | some k => (match tgOf (C.blk scope) tg with
    | some t => if blkC C.N C.sc scope (ownOf C.N scope) = true ∧ subB t ((ownOf C.N scope).map (·.2)) = true then
        lcK k t ((ownOf C.N scope).map (·.2)) (ifsB s (C.blk scope) ifs) (s.E (C.blk scope) elt) else bad
    | none => bad)
  | none => lcE s C elt tg iter ifs scope
def dcE (kx vx tg iter : Expr) (ifs : List Expr) (scope : Scope) : Sem1 := match tgOf (C.blk scope) tg with
  | some t => if blkC C.N C.sc scope (ownOf C.N scope) = true ∧ notSet1 iter = true ∧ subB t ((ownOf C.N scope).map (·.2)) = true then
      dcR (itT s C tg iter) t ((ownOf C.N scope).map (·.2)) (ifsB s (C.blk scope) ifs) (s.E (C.blk scope) kx) (s.E (C.blk scope) vx) else bad
  | none => bad
/-- whom a method is asked of -/
def recvB : Expr → Bool
  | .Name _ _ => true
  | .Subscript _ _ _ => true
  | .Call _ (_ :: _) _ _ => true
  | _ => false
theorem recv_base {o : Expr} {m : PySem.Str} {env : Env} (h : recvB o = true) : attributeBase o m env (eval o env) = eval o env := by
  cases o with
  | Call f args kws p =>
    cases args with
    | nil => cases h
    | cons a as => unfold attributeBase; cases f <;> rfl
  | _ => first | rfl | cases h
def methE (o : Expr) (a : PySem.Str) (ap : Pos) (e : Expr) (cp : Pos) : Sem1 :=
  if recvB o = true ∧ plain e = true ∧ (ap.endLine == cp.line) = true then
    (if a = "get" then getR1 (s.T C o) (s.T C e) else if a = "count" then binR countV (s.T C o) (s.T C e) else if a = "index" then binR indexV (s.T C o) (s.T C e) else bad) else bad
def genC (N : List PySem.Str) (sc scope : Scope) (own : List (PySem.Str × Nat)) : Bool :=
  decide (scope.kind = .function) && !scope.isCoroutine && (scope.names.all fun y => decide (scope.names.lookup y.1 = some y.2)) && (scope.names.all fun y => decide (y.2 ≠ .cell)) && decide (scope.names.lookup (".0" : PySem.Str) = some .local) && (own.all fun p => decide (N[p.2]? = some p.1)) &&
    (scope.names.all fun y => !decide (y.2 = .free) || (decide (sc.names.lookup y.1 = some .cell) || decide (sc.names.lookup y.1 = some .free))) && (scope.names.all fun y => !decide (y.2 = .local) || (decide (y.1 ∈ own.map (·.1)) || decide (y.1 ∉ N)))
def gxE (k : Bool) (f : PySem.Str) (elt tg iter : Expr) (ifs : List Expr) (scope : Scope) : Sem1 := match tgOf (C.gx scope) tg with
  | some t => if (C.gen = true ∨ C.gen2 = true) ∧ glB C f = true ∧ f ∈ C.blts ∧ genC C.N C.sc scope (ownOf C.N scope) = true ∧ notSet iter = true ∧ subB t ((ownOf C.N scope).map (·.2)) = true then
      gxR k (itT s C tg iter) t ((ownOf C.N scope).map (·.2)) (ifsB s (C.gx scope) ifs) (s.E (C.gx scope) elt) else bad
  | none => bad
def sgE (f : PySem.Str) (elt tg iter : Expr) (ifs : List Expr) (scope : Scope) : Sem1 := match tgOf (C.gx scope) tg with
  | some t => if (C.gen = true ∨ C.gen2 = true) ∧ glB C f = true ∧ f ∈ C.blts ∧ genC C.N C.sc scope (ownOf C.N scope) = true ∧ notSet iter = true ∧ subB t ((ownOf C.N scope).map (·.2)) = true then
      sgR (itT s C tg iter) t ((ownOf C.N scope).map (·.2)) (ifsB s (C.gx scope) ifs) (s.E (C.gx scope) elt) else bad
  | none => bad
/-- built-ins of plain values -/
def bltG (f : PySem.Str) : Option (List PyData → Option PyData) :=
  if f = "len" then some lenW else if f = "abs" then some absV else if f = "int" then some intV1 else if f = "max" then some maxW else if f = "min" then some minW else if f = "tuple" then some tupleV else if f = "list" then some listW else if f = "gcd" then some gcdV else if f = "sum" then some sumW else if f = "sorted" then some sortedW else none
def tyOf (x : PySem.Str) : Option String :=
  if x = "int" then some "int" else if x = "bool" then some "bool" else if x = "str" then some "str" else if x = "list" then some "list" else if x = "tuple" then some "tuple" else if x = "dict" then some "dict" else none
def cllArg : List Expr → Option (PySem.Str × Expr)
  | [.Call (.Name x _) [e] [] _] => some (x, e)
  | _ => none
/-- sorted(set(e)), len(set(e)), tuple(range(e)), list(range(e)) -/
def setE (f : PySem.Str) (args : List Expr) : Option Sem1 := match cllArg args with
  | some (x, e) => if glB C x = true ∧ x ∈ C.blts ∧ plain e = true then
      (if f = "sorted" ∧ x = "set" then some (unR ssV (s.T C e)) else if f = "len" ∧ x = "set" then some (unR lsV (s.T C e))
       else if f = "tuple" ∧ x = "range" then some (unR (trV .tuple) (s.T C e)) else if f = "list" ∧ x = "range" then some (unR (trV .list) (s.T C e)) else none) else none
  | none => none
def callE (f : PySem.Str) (args : List Expr) : Sem1 := match C.fns.lookup f with
  | some F => if glB C f = true ∧ (f == ("__debug__" : PySem.Str)) = false then
      (if F.d = true then (match args with
        | .Name y _ :: es => (match varI C y with
          | some i => if es.all plain = true ∧ 0 < F.n then callD F.sem i (lenR (F.n - 1) (lL s C es)) else bad
          | none => bad)
        | _ => bad)
       else if args.all plain = true ∧ args ≠ [] then callR F.sem (lenR F.n (lL s C args)) else bad) else bad
  | none => if glB C f = true ∧ f ∈ C.blts ∧ args.all plain = true ∧ args ≠ [] then
      (if f = "isinstance" then (match args with
        | [e, .Name t _] => (match tyOf t with
          | some T => if glB C t = true ∧ t ∈ C.blts then unR (isiV T) (s.T C e) else bad
          | none => bad)
        | [e, .Tuple [.Name t _, .Name t2 _] _ _] => (match tyOf t with
          | some S => (match tyOf t2 with
            | some T => if (glB C t = true ∧ t ∈ C.blts) ∧ glB C t2 = true ∧ t2 ∈ C.blts then unR (isiV2 S T) (s.T C e) else bad
            | none => bad)
          | none => bad)
        | _ => bad)
      else match setE s C f args with
        | some r => r
        | none => (match bltG f with
          | some g => bltR g (lLT s C args)
          | none => bad)) else bad
def optO : Option Expr → SemO
  | none => noO
  | some e => someO (s.T C e)
def boolE (op : BoolOp) : List Expr → Sem1
  | [] => bad
  | [a] => s.E C a
  | a :: es => match op with
    | .And => andR (s.E C a) (boolE op es)
    | .Or => orR (s.E C a) (boolE op es)
def boolB (op : BoolOp) : List Expr → SemB
  | [] => badB
  | [a] => s.B C a
  | a :: es => match op with
    | .And => andB (s.B C a) (boolB op es)
    | .Or => orB (s.B C a) (boolB op es)
def isSlice : Expr → Bool
  | .Slice .. => true
  | _ => false
def stepE0 (e : Expr) : Sem1 := match e with
  | .Constant (.int i) _ _ => cstR (.int i)
  | .Constant (.bool i) _ _ => cstR (.bool i)
  | .Constant .none _ _ => cstR .none
  | .Constant (.str x) _ _ => cstR (.str x)
  | .Name x _ => (match varI C x with
    | some i => vaR i
    | none => match C.cis.lookup x with
      | some n => if glB C x = true ∧ (x == ("__debug__" : PySem.Str)) = false then cstR (.int n) else bad
      | none => bad)
  | .BinOp a op b _ => (match opV op with
    | some g => binR g (s.T C a) (s.T C b)
    | none => bad)
  | .UnaryOp .Not a _ => notR (s.E C a)
  | .UnaryOp .USub a _ => unR negV (s.T C a)
  | .BoolOp op es _ => boolE s C op es
  | .Compare a [op] [b] _ => if behindInMarks op b = false then binR (cmpG op) (s.T C a) (s.T C b) else bad
  | .Compare a [op, op'] [b, d] _ => if lastMarks [op, op'] [b, d] = false then chnR (cmpG op) (cmpG op') (s.T C a) (s.T C b) (s.T C d) else bad
  | .IfExp t a b _ => iteR (s.B C t) (s.E C a) (s.E C b)
  | .Tuple es _ _ => dispR .tuple (lL s C es)
  | .List es _ => dispR .list (lL s C es)
  | .Subscript a (.Slice lo hi none _) _ => slcR (s.T C a) (optO s C lo) (optO s C hi)
  | .Subscript a (.Slice none none (some (.UnaryOp .USub (.Constant (.int 1) _ _) _)) _) _ => unR revV (s.T C a)
  | .Subscript a b _ => if isSlice b = false then binR getW (s.T C a) (s.T C b) else bad
  | .ListComp elt [⟨tg, iter, ifs, 0⟩] scope _ => lcEK s C elt tg iter ifs scope
  | .DictComp kx vx [⟨tg, iter, ifs, 0⟩] scope _ => dcE s C kx vx tg iter ifs scope
  | .Dict [] [] _ => newD
  | .Dict [some k] [v] _ => d1R (s.E C k) (s.E C v)
  | .Call (.Attribute o a ap) [e] [] cp => methE s C o a ap e cp
  | .Call (.Attribute o a ap) [e, f] [] cp => if recvB o = true ∧ a = "get" ∧ plain e = true ∧ plain f = true ∧ (ap.endLine == cp.line) = true then getR2 (s.T C o) (s.T C e) (s.E C f) else bad
  | .Call (.Name f _) [.GeneratorExp elt [⟨tg, iter, ifs, 0⟩] scope _] [] _ => if f = "any" then gxE s C true f elt tg iter ifs scope else if f = "all" then gxE s C false f elt tg iter ifs scope else if f = "sum" then sgE s C f elt tg iter ifs scope else bad
  | .Call (.Name f _) args [] _ => callE s C f args
  | _ => bad
/-- the draws' own fields -/
def drE (e : Expr) : Option Sem1 := match C.dr with
  | none => none
  | some x => match varI C x with
    | none => none
    | some i => match e with
      | .Subscript (.Name y _) (.Constant (.int k) _ _) _ => if y = x ∧ k ≠ 0 then some (drR i k) else none
      | .Subscript (.Subscript (.Name y _) (.Constant (.int k) _ _) _) e' _ => if y = x ∧ k = 0 ∧ isSlice e' = false then some (drGet i (s.T C e')) else none
      | .Call (.Name f _) [.Subscript (.Name y _) (.Constant (.int k) _ _) _] [] _ => if f = "len" ∧ y = x ∧ k = 0 ∧ glB C f = true ∧ f ∈ C.blts then some (drLen i) else none
      | _ => none
def stepE (e : Expr) : Sem1 := match drE s C e with
  | some m => m
  | none => stepE0 s C e
def stepT (e : Expr) : Sem1 := match e with
  | .Name x _ => (match varI C x with
    | some i => tvR i
    | none => stepE s C e)
  | e => stepE s C e
def stepB (e : Expr) : SemB := match e with
  | .UnaryOp .Not a _ => notB (s.B C a)
  | .BoolOp op es _ => boolB s C op es
  | .IfExp _ _ _ _ => badB
  | .Compare a [op] [b] _ => if behindInMarks op b = false then tstR (binR (cmpG op) (s.T C a) (s.T C b)) else badB
  | .Compare a [op, op'] [b, d] _ => if lastMarks [op, op'] [b, d] = false then tstR (chnR (cmpG op) (cmpG op') (s.T C a) (s.T C b) (s.T C d)) else badB
  | .Compare .. => badB
  | .UnaryOp .. => badB
  | e => tstR (stepT s C e)
end
def step (s : Sms) : Sms := ⟨stepE s, stepT s, stepB s⟩
def rd : Nat → Sms
  | 0 => botS
  | n + 1 => step (rd n)
structure Good (s : Sms) : Prop where
  E : ∀ {X : Cx} {tabs : Tb} {C : Cfg}, CfgOk X tabs C → ∀ e, PE X e (Rd1 X.K tabs (s.E C e))
  T : ∀ {X : Cx} {tabs : Tb} {C : Cfg}, CfgOk X tabs C → ∀ e, PE X e (RdT X.K tabs (s.T C e))
  B : ∀ {X : Cx} {tabs : Tb} {C : Cfg}, CfgOk X tabs C → ∀ e, PT X e (RdB X.K tabs (s.B C e))
theorem good_bot : Good botS := ⟨fun _ _ => pe_bad, fun _ _ => ex_T pe_bad, fun _ _ => pt_bad⟩
section
variable {s : Sms} {X : Cx} {tabs : Tb} {C : Cfg}
theorem pa_lL (G : Good s) (h : CfgOk X tabs C) : ∀ es : List Expr, PA X es (RdL X.K tabs (lL s C es))
  | [] => by unfold lL; exact ea_nil
  | e :: es => by
    unfold lL
    split
    · exact ea_star (G.T h _) (pa_lL G h es)
    · split
      · rename_i hp
        exact ea_cons hp (G.E h _) (pa_lL G h es)
      · exact pa_bad
theorem pa_lLT (G : Good s) (h : CfgOk X tabs C) : ∀ es : List Expr, PA X es (RdLT X.K tabs (lLT s C es))
  | [] => by unfold lLT; exact eat_nil
  | e :: es => by
    unfold lLT
    split
    · rename_i hp
      exact eat_cons hp (G.T h _) (pa_lLT G h es)
    · exact pa_badT
theorem bad_all {P : Prop} (h : False) : P := h.elim
theorem rng_ok (h : CfgOk X tabs C) {tg e : Expr} {as : List Expr} {r : SemL} (q : rngArgs C e = some as) (hr : PA X as (RdLT X.K tabs r)) : PI X tg e (RdI X.K tabs (rngR (lenR as.length r))) := by
  unfold rngArgs at q
  split at q
  · split at q
    · rename_i c
      obtain ⟨rfl, c2, c3⟩ := c
      split at q
      · split at q
        · rename_i hp
          cases q
          exact ei_rng1 (gl_of h c2) (h.b0 c3) hp (eat_len hr) fun ρ st ds st' w => (len_some w).2
        · cases q
      · split at q
        · rename_i hp
          cases q
          exact ei_rng2 (gl_of h c2) (h.b0 c3) hp (eat_len hr) fun ρ st ds st' w => (len_some w).2
        · cases q
      · cases q
    · cases q
  · cases q
theorem enumA_some {tg e a : Expr} (q : enumA C tg e = some a) : ∃ ts k tp p pos, tg = .Tuple ts k tp ∧ e = .Call (.Name "enumerate" p) [a] [] pos ∧ glB C "enumerate" = true ∧ ("enumerate" : PySem.Str) ∈ C.blts ∧ plain a = true := by
  unfold enumA at q
  split at q
  · split at q
    · rename_i c
      obtain ⟨rfl, c2, c3, c4⟩ := c
      cases q
      exact ⟨_, _, _, _, _, rfl, rfl, c2, c3, c4⟩
    · cases q
  · cases q
theorem zipA_some {tg e a b : Expr} (q : zipA C tg e = some (a, b)) : ∃ ts k tp p pos, tg = .Tuple ts k tp ∧ e = .Call (.Name "zip" p) [a, b] [] pos ∧ glB C "zip" = true ∧ ("zip" : PySem.Str) ∈ C.blts ∧ plain a = true ∧ plain b = true := by
  unfold zipA at q
  split at q
  · split at q
    · rename_i c
      obtain ⟨rfl, c2, c3, c4, c5⟩ := c
      cases q
      exact ⟨_, _, _, _, _, rfl, rfl, c2, c3, c4, c5⟩
    · cases q
  · cases q
theorem pi_itS (G : Good s) (h : CfgOk X tabs C) (tg e : Expr) : PI X tg e (RdI X.K tabs (itS s C tg e)) := by
  unfold itS
  split
  · rename_i as q
    exact rng_ok h q (pa_lLT G h as)
  · split
    · rename_i a q
      obtain ⟨ts, k, tp, p, pos, rfl, rfl, c2, c3, c4⟩ := enumA_some q
      exact ei_enum (gl_of h c2) (h.b0 c3) c4 (G.E h a)
    · split
      · rename_i a b q
        obtain ⟨ts, k, tp, p, pos, rfl, rfl, c2, c3, c4, c5⟩ := zipA_some q
        exact ei_zip (gl_of h c2) (h.b0 c3) c4 c5 (G.E h a) (G.E h b)
      · exact ei_valW (G.E h e)
theorem pi_itT (G : Good s) (h : CfgOk X tabs C) (tg e : Expr) : PI X tg e (RdIt X.K tabs (itT s C tg e)) := by
  unfold itT
  split
  · rename_i as q
    exact ei_T (rng_ok h q (pa_lLT G h as))
  · split
    · rename_i a q
      obtain ⟨ts, k, tp, p, pos, rfl, rfl, c2, c3, c4⟩ := enumA_some q
      exact ei_enumT (gl_of h c2) (h.b0 c3) c4 (G.T h a)
    · split
      · rename_i a b q
        obtain ⟨ts, k, tp, p, pos, rfl, rfl, c2, c3, c4, c5⟩ := zipA_some q
        exact ei_zipT (gl_of h c2) (h.b0 c3) c4 c5 (G.T h a) (G.T h b)
      · exact ei_valTW (G.T h e)
theorem notSet_f {e : Expr} {env : Env} (h : notSet e = true) : ∀ x, foldedSetIterable e env x = pure x := by
  intro x
  cases e <;> first | rfl | cases h
theorem notSet1_f {e : Expr} {env : Env} (h : notSet1 e = true) : ∀ x, foldedSetIterable e env x = pure x := by
  intro x
  cases e <;> first | rfl | cases h
theorem notSet_g {e : Expr} {env : Env} (h : notSet e = true) : ∀ x, genFold e env x = pure x := by
  intro x
  cases e <;> first | rfl | cases h
theorem pts_ifs (G : Good s) (h : CfgOk X tabs C) (ifs : List Expr) : PTs X ifs (RdB X.K tabs (ifsB s C ifs)) := by
  unfold ifsB
  split
  · exact ets_nil
  · exact ets_one (G.B h _)
  · exact ⟨fun pins s σ H Q I ⟨δ, O, ρ, st, z, st', S, W, e, c⟩ => by cases e⟩
theorem sub_of {t : Tg} {vs : List Nat} (h : subB t vs = true) : ∀ j ∈ t.slots, j ∈ vs := by
  unfold subB at h
  rw [List.all_eq_true] at h
  exact fun j hj => of_decide_eq_true (h j hj)
theorem nd_of (h : CfgOk X tabs C) : X.N.Nodup := by rw [h.N]; exact h.nd
theorem pe_lcE (G : Good s) (h : CfgOk X tabs C) {elt tg iter : Expr} {ifs : List Expr} {scope : Scope} {pos : Pos} : PE X (.ListComp elt [⟨tg, iter, ifs, 0⟩] scope pos) (Rd1 X.K tabs (lcE s C elt tg iter ifs scope)) := by
  unfold lcE
  split
  · rename_i t ht
    split
    · rename_i c
      obtain ⟨c1, c2, c3⟩ := c
      exact ex_lc h.calm (nd_of h) (pi_itT G h _ _) (by rw [h.N, h.sc]; exact blkOk_by c1) (fun s H Cc cl fp => tgOf_some (h.blk s H scope Cc cl fp) ht) (fun s H Cc cl fp => pts_ifs G (h.blk s H scope Cc cl fp) ifs) (fun s H Cc cl fp => G.E (h.blk s H scope Cc cl fp) elt) (notSet1_f c2) (sub_of c3)
    · exact pe_bad
  · exact pe_bad
theorem pe_lcEK (G : Good s) (h : CfgOk X tabs C) {elt tg iter : Expr} {ifs : List Expr} {scope : Scope} {pos : Pos} : PE X (.ListComp elt [⟨tg, iter, ifs, 0⟩] scope pos) (Rd1 X.K tabs (lcEK s C elt tg iter ifs scope)) := by
  unfold lcEK
  split
  · rename_i k hk
    unfold dkNm at hk
    split at hk
    · split at hk
      · obtain ⟨q1, q2, q3, q4⟩ := varI_some h hk
        split
        · rename_i t ht
          split
          · rename_i c
            obtain ⟨c1, c3⟩ := c
            exact ex_lcK h.calm (nd_of h) (ex_nmV q1 q2 q3 q4) (by rw [h.N, h.sc]; exact blkOk_by c1) (fun s H Cc cl fp => tgOf_some (h.blk s H scope Cc cl fp) ht) (fun s H Cc cl fp => pts_ifs G (h.blk s H scope Cc cl fp) ifs) (fun s H Cc cl fp => G.E (h.blk s H scope Cc cl fp) elt) (sub_of c3)
          · exact pe_bad
        · exact pe_bad
      · cases hk
    · cases hk
  · exact pe_lcE G h
theorem pe_badF {e : Expr} : PE X e (RdF X.K tabs bad) := ⟨fun pins s σ H Q I ⟨δ, O, ρ, st, z, st', S, W, e, c⟩ => by cases e⟩
theorem CfgOk.u65 (h : CfgOk X tabs C) : X.A.units + 65 < cLine := by
  have := h.un
  omega
theorem pe_dcF (G : Good s) (h : CfgOk X tabs C) {kx vx tg iter : Expr} {ifs : List Expr} {scope : Scope} {pos : Pos} : PE X (.DictComp kx vx [⟨tg, iter, ifs, 0⟩] scope pos) (RdF X.K tabs (dcE s C kx vx tg iter ifs scope)) := by
  unfold dcE
  split
  · rename_i t ht
    split
    · rename_i c
      obtain ⟨c1, c2, c3⟩ := c
      exact ef_dc h.calm (nd_of h) h.u65 (pi_itT G h _ _) (by rw [h.N, h.sc]; exact blkOk_by c1) (fun s H Cc cl fp => tgOf_some (h.blk s H scope Cc cl fp) ht) (fun s H Cc cl fp => pts_ifs G (h.blk s H scope Cc cl fp) ifs) (fun s H Cc cl fp => G.E (h.blk s H scope Cc cl fp) kx) (fun s H Cc cl fp => G.E (h.blk s H scope Cc cl fp) vx) (notSet1_f c2) (sub_of c3)
    · exact pe_badF
  · exact pe_badF
theorem dcE_dict {kx vx tg iter : Expr} {ifs : List Expr} {scope : Scope} : ∀ ρ st z st', dcE s C kx vx tg iter ifs scope ρ st = some (z, st') → ∃ kvs, z = .dict kvs := fun ρ st z st' e => by
  unfold dcE at e
  cases ht : tgOf (C.blk scope) tg with
  | none => rw [ht] at e; cases e
  | some t =>
    rw [ht] at e
    by_cases hc : blkC C.N C.sc scope (ownOf C.N scope) = true ∧ notSet1 iter = true ∧ subB t ((ownOf C.N scope).map (·.2)) = true
    · simp only [if_pos hc] at e
      exact dcR_dict _ _ _ _ e
    · simp only [if_neg hc] at e
      cases e
theorem pe_dcE (G : Good s) (h : CfgOk X tabs C) {kx vx tg iter : Expr} {ifs : List Expr} {scope : Scope} {pos : Pos} : PE X (.DictComp kx vx [⟨tg, iter, ifs, 0⟩] scope pos) (Rd1 X.K tabs (dcE s C kx vx tg iter ifs scope)) :=
  PE.imp (pe_dcF G h) fun σ H Q q => rdF_1 q dcE_dict
theorem few1 {e : Expr} {cpos : Pos} (hp : plain e = true) : backTo cpos (starEach [e] X.env) = [(false, eval e X.env)] := by rw [plain_star hp]; rfl
theorem few2 {e f : Expr} {cpos : Pos} (hp : plain e = true) (hf : plain f = true) : backTo cpos (starEach [e, f] X.env) = [(false, eval e X.env), (false, eval f X.env)] := by rw [plain_star hp, plain_star hf]; rfl
theorem pe_methE (G : Good s) (h : CfgOk X tabs C) {a : PySem.Str} {ap cp : Pos} {o e : Expr} : PE X (.Call (.Attribute o a ap) [e] [] cp) (Rd1 X.K tabs (methE s C o a ap e cp)) := by
  unfold methE
  split
  · rename_i c
    obtain ⟨c0, c1, c2⟩ := c
    split
    · rename_i ea
      subst ea
      exact ex_get1 h.u65 (G.T h _) (G.T h _) ⟨recv_base c0, by rw [few1 c1]; rfl, c2, few1 c1⟩
    · split
      · rename_i ea
        subst ea
        exact ex_count h.u65 (G.T h _) (G.T h _) c1 (recv_base c0) c2
      · split
        · rename_i ea
          subst ea
          exact ex_index h.u65 (G.T h _) (G.T h _) c1 (recv_base c0) c2
        · exact pe_bad
  · exact pe_bad
theorem genOk_by {N : List PySem.Str} {sc scope : Scope} {own : List (PySem.Str × Nat)} (h : genC N sc scope own = true) : GenOk N sc scope own := by
  unfold genC at h
  simp only [Bool.and_eq_true, List.all_eq_true, decide_eq_true_eq, Bool.not_eq_true', Bool.or_eq_true, decide_eq_false_iff_not] at h
  obtain ⟨⟨⟨⟨⟨⟨⟨h1, h2⟩, h3⟩, h4⟩, h5⟩, h6⟩, h7⟩, h8⟩ := h
  exact ⟨h1, h2, h3, h4, h5, h6, fun y hy e => (h7 y hy).elim (fun w => absurd e w) id, fun y hy e => (h8 y hy).elim (fun w => absurd e w) id⟩
/-- a generator's own code, made where tables of defs are at hand: its own table is known -/
theorem gx_src {P P' : Addr} {cd : Addr} {code : Value} {scope : Scope} {fp : List Addr} {s : Shared} {H : Hp} {H1 : Hp} (TB : CodeSrc X cd P) (hA : AS tabs.l P code P' H1 H) : ∃ c P0, P0 ∈ P' :: tabs.m ∧ CodeSrc (X.gen s H scope code fp) c P0 ∧ code = .ref c := by
  obtain ⟨c', oc, rfl, e, k⟩ := hA.2.2.2.2
  exact ⟨c', P', List.mem_cons_self .., TB.gen e k, rfl⟩
theorem pe_gxE (G : Good s) (h : CfgOk X tabs C) {k : Bool} {f : PySem.Str} (hf : f = if k then "any" else "all") {elt tg iter : Expr} {ifs : List Expr} {scope : Scope} {p gpos pos : Pos} : PE X (.Call (.Name f p) [.GeneratorExp elt [⟨tg, iter, ifs, 0⟩] scope gpos] [] pos) (Rd1 X.K tabs (gxE s C k f elt tg iter ifs scope)) := by
  unfold gxE
  split
  · rename_i t ht
    split
    · rename_i c
      obtain ⟨c0, c1, c2, c3, c4, c5⟩ := c
      have ok : GenOk X.N X.env.scope scope (ownOf C.N scope) := by rw [h.N, h.sc]; exact genOk_by c3
      by_cases hgen : C.gen = true
      · obtain ⟨cd, P, hP, TB, hcode⟩ := h.tab hgen
        have TB := CodeSrc.of TB
        cases k with
        | true =>
          have hf : f = "any" := hf
          subst hf
          exact ex_any h.calm (nd_of h) h.dp (gl_of h c1) (h.b0 c2) TB (looksS tabs.l P) (gnS hP) hcode ok (pi_itT G h _ _) (fun s H code fp => tgOf_some (h.gx0 c0 s H scope code fp) ((tgOf_g2 (C.gx scope) false tg).trans ht)) (fun s H code P' fp ⟨H1, hA⟩ => pts_ifs G (h.gx c0 s H scope code fp (P' :: tabs.m) fun _ => gx_src TB hA) ifs) (fun s H code P' fp ⟨H1, hA⟩ => G.E (h.gx c0 s H scope code fp (P' :: tabs.m) fun _ => gx_src TB hA) elt) (notSet_g c4) (sub_of c5)
        | false =>
          have hf : f = "all" := hf
          subst hf
          exact ex_all h.calm (nd_of h) h.dp (gl_of h c1) (h.b0 c2) (by decide +kernel) TB (looksS tabs.l P) (gnS hP) hcode ok (pi_itT G h _ _) (fun s H code fp => tgOf_some (h.gx0 c0 s H scope code fp) ((tgOf_g2 (C.gx scope) false tg).trans ht)) (fun s H code P' fp ⟨H1, hA⟩ => pts_ifs G (h.gx c0 s H scope code fp (P' :: tabs.m) fun _ => gx_src TB hA) ifs) (fun s H code P' fp ⟨H1, hA⟩ => G.E (h.gx c0 s H scope code fp (P' :: tabs.m) fun _ => gx_src TB hA) elt) (notSet_g c4) (sub_of c5)
      · obtain ⟨cd, P, hP, TB, hcode⟩ := h.tab2 (c0.elim (fun z => absurd z hgen) id)
        cases k with
        | true =>
          have hf : f = "any" := hf
          subst hf
          exact ex_any h.calm (nd_of h) h.dp (gl_of h c1) (h.b0 c2) TB (looksW P) (gnW hP) hcode ok (pi_itT G h _ _) (fun s H code fp => tgOf_some (h.gx0 c0 s H scope code fp) ((tgOf_g2 (C.gx scope) false tg).trans ht)) (fun s H code P' fp _ => pts_ifs G (h.gx c0 s H scope code fp tabs.m fun z => absurd z hgen) ifs) (fun s H code P' fp _ => G.E (h.gx c0 s H scope code fp tabs.m fun z => absurd z hgen) elt) (notSet_g c4) (sub_of c5)
        | false =>
          have hf : f = "all" := hf
          subst hf
          exact ex_all h.calm (nd_of h) h.dp (gl_of h c1) (h.b0 c2) (by decide +kernel) TB (looksW P) (gnW hP) hcode ok (pi_itT G h _ _) (fun s H code fp => tgOf_some (h.gx0 c0 s H scope code fp) ((tgOf_g2 (C.gx scope) false tg).trans ht)) (fun s H code P' fp _ => pts_ifs G (h.gx c0 s H scope code fp tabs.m fun z => absurd z hgen) ifs) (fun s H code P' fp _ => G.E (h.gx c0 s H scope code fp tabs.m fun z => absurd z hgen) elt) (notSet_g c4) (sub_of c5)
    · exact pe_bad
  · exact pe_bad
theorem pe_sgE (G : Good s) (h : CfgOk X tabs C) {f : PySem.Str} (hf : f = "sum") {elt tg iter : Expr} {ifs : List Expr} {scope : Scope} {p gpos pos : Pos} : PE X (.Call (.Name f p) [.GeneratorExp elt [⟨tg, iter, ifs, 0⟩] scope gpos] [] pos) (Rd1 X.K tabs (sgE s C f elt tg iter ifs scope)) := by
  unfold sgE
  split
  · rename_i t ht
    split
    · rename_i c
      obtain ⟨c0, c1, c2, c3, c4, c5⟩ := c
      have ok : GenOk X.N X.env.scope scope (ownOf C.N scope) := by rw [h.N, h.sc]; exact genOk_by c3
      subst hf
      by_cases hgen : C.gen = true
      · obtain ⟨cd, P, hP, TB, hcode⟩ := h.tab hgen
        have TB := CodeSrc.of TB
        exact ex_sum h.calm (nd_of h) h.dp (gl_of h c1) (h.b0 c2) (by decide +kernel) TB (looksS tabs.l P) (gnS hP) hcode ok (pi_itT G h _ _) (fun s H code fp => tgOf_some (h.gx0 c0 s H scope code fp) ((tgOf_g2 (C.gx scope) false tg).trans ht)) (fun s H code P' fp ⟨H1, hA⟩ => pts_ifs G (h.gx c0 s H scope code fp (P' :: tabs.m) fun _ => gx_src TB hA) ifs) (fun s H code P' fp ⟨H1, hA⟩ => G.E (h.gx c0 s H scope code fp (P' :: tabs.m) fun _ => gx_src TB hA) elt) (notSet_g c4) (sub_of c5)
      · obtain ⟨cd, P, hP, TB, hcode⟩ := h.tab2 (c0.elim (fun z => absurd z hgen) id)
        exact ex_sum h.calm (nd_of h) h.dp (gl_of h c1) (h.b0 c2) (by decide +kernel) TB (looksW P) (gnW hP) hcode ok (pi_itT G h _ _) (fun s H code fp => tgOf_some (h.gx0 c0 s H scope code fp) ((tgOf_g2 (C.gx scope) false tg).trans ht)) (fun s H code P' fp _ => pts_ifs G (h.gx c0 s H scope code fp tabs.m fun z => absurd z hgen) ifs) (fun s H code P' fp _ => G.E (h.gx c0 s H scope code fp tabs.m fun z => absurd z hgen) elt) (notSet_g c4) (sub_of c5)
    · exact pe_bad
  · exact pe_bad
end
end Fo
namespace Fo
open PySem PySem.Spec PyProof.Rows L2
section
variable {s : Sms} {X : Cx} {tabs : Tb} {C : Cfg}
theorem cllArg_some {args : List Expr} {x : PySem.Str} {e : Expr} (h : cllArg args = some (x, e)) : ∃ p q, args = [.Call (.Name x p) [e] [] q] := by
  unfold cllArg at h
  split at h
  · cases h
    exact ⟨_, _, rfl⟩
  · cases h
theorem pe_setE (G : Good s) (h : CfgOk X tabs C) {f : PySem.Str} {args : List Expr} {p pos : Pos} {r : Sem1} (q : setE s C f args = some r) (c1 : glB C f = true) (c2 : f ∈ C.blts) :
    PE X (.Call (.Name f p) args [] pos) (Rd1 X.K tabs r) := by
  unfold setE at q
  split at q
  · rename_i x e he
    obtain ⟨p2, q2, rfl⟩ := cllArg_some he
    split at q
    · rename_i c
      obtain ⟨d1, d2, d3⟩ := c
      split at q
      · rename_i hf
        obtain ⟨rfl, rfl⟩ := hf
        cases q
        exact ex_ss h.calm (G.T h e) d3 (gl_of h c1) (h.b0 c2) (gl_of h d1) (h.b0 d2)
      split at q
      · rename_i hf
        obtain ⟨rfl, rfl⟩ := hf
        cases q
        exact ex_ls h.calm (G.T h e) d3 (gl_of h c1) (h.b0 c2) (gl_of h d1) (h.b0 d2)
      split at q
      · rename_i hf
        obtain ⟨rfl, rfl⟩ := hf
        cases q
        exact ex_tr h.calm (G.T h e) d3 (gl_of h c1) (h.b0 c2) (gl_of h d1) (h.b0 d2)
      split at q
      · rename_i hf
        obtain ⟨rfl, rfl⟩ := hf
        cases q
        exact ex_lr h.calm (G.T h e) d3 (gl_of h c1) (h.b0 c2) (gl_of h d1) (h.b0 d2)
      · cases q
    · cases q
  · cases q
theorem pe_blt (G : Good s) (h : CfgOk X tabs C) {f : PySem.Str} {e : Expr} {es : List Expr} {p pos : Pos} {g : List PyData → Option PyData} (q : bltG f = some g) (c1 : glB C f = true) (c2 : f ∈ C.blts) (c3 : (e :: es).all plain = true) :
    PE X (.Call (.Name f p) (e :: es) [] pos) (Rd1 X.K tabs (bltR g (lLT s C (e :: es)))) := by
  have hu := h.un
  have ha := pa_lLT G h (e :: es)
  unfold bltG at q
  split at q
  · rename_i e; subst e; cases q
    exact ex_bltB (id := "len") cs_lenW (gl_of h c1) (h.b0 c2) (by decide +kernel) c3 ha (by decide) (by decide)
  split at q
  · rename_i e; subst e; cases q
    exact ex_bltB (id := "abs") cs_abs (gl_of h c1) (h.b0 c2) (by decide +kernel) c3 ha (by decide) (by decide)
  split at q
  · rename_i e; subst e; cases q
    exact ex_bltT (T := "int") cs_int (gl_of h c1) (h.b0 c2) (by decide +kernel) c3 ha (by decide) (by decide)
  split at q
  · rename_i e; subst e; cases q
    exact ex_bltB (id := "max") (cs_maxW h.calm hu) (gl_of h c1) (h.b0 c2) (by decide +kernel) c3 ha (by decide) (by decide)
  split at q
  · rename_i e; subst e; cases q
    exact ex_bltB (id := "min") (cs_minW h.calm hu) (gl_of h c1) (h.b0 c2) (by decide +kernel) c3 ha (by decide) (by decide)
  split at q
  · rename_i e; subst e; cases q
    exact ex_bltT (T := "tuple") cs_tuple (gl_of h c1) (h.b0 c2) (by decide +kernel) c3 ha (by decide) (by decide)
  split at q
  · rename_i e; subst e; cases q
    exact ex_bltT (T := "list") (cs_listW h.calm) (gl_of h c1) (h.b0 c2) (by decide +kernel) c3 ha (by decide) (by decide)
  split at q
  · rename_i e; subst e; cases q
    exact ex_gcd (gl_of h c1) (h.bg c2) c3 ha
  split at q
  · rename_i e; subst e; cases q
    exact ex_bltB (id := "sum") (cs_sumW h.calm) (gl_of h c1) (h.b0 c2) (by decide +kernel) c3 ha (by decide) (by decide)
  split at q
  · rename_i e; subst e; cases q
    exact ex_bltB (id := "sorted") (cs_sortedW h.calm hu) (gl_of h c1) (h.b0 c2) (by decide +kernel) c3 ha (by decide) (by decide)
  cases q
theorem tyOf_some {x : PySem.Str} {T : String} (h : tyOf x = some T) : T ∈ ["int", "bool", "str", "list", "tuple", "dict"] ∧ bootBuiltins x = some (.type T) ∧ x ≠ "__name__" ∧ (x == ("__debug__" : PySem.Str)) = false := by
  unfold tyOf at h
  split at h
  · rename_i e; subst e; cases h; decide +kernel
  split at h
  · rename_i e; subst e; cases h; decide +kernel
  split at h
  · rename_i e; subst e; cases h; decide +kernel
  split at h
  · rename_i e; subst e; cases h; decide +kernel
  split at h
  · rename_i e; subst e; cases h; decide +kernel
  split at h
  · rename_i e; subst e; cases h; decide +kernel
  cases h
theorem tyOf_ng {x : PySem.Str} {T : String} (h : tyOf x = some T) : (x == ("gcd" : PySem.Str)) = false := by
  unfold tyOf at h
  split at h
  · rename_i e; subst e; decide +kernel
  split at h
  · rename_i e; subst e; decide +kernel
  split at h
  · rename_i e; subst e; decide +kernel
  split at h
  · rename_i e; subst e; decide +kernel
  split at h
  · rename_i e; subst e; decide +kernel
  split at h
  · rename_i e; subst e; decide +kernel
  cases h
theorem pe_callE (G : Good s) (h : CfgOk X tabs C) {f : PySem.Str} {args : List Expr} {p pos : Pos} : PE X (.Call (.Name f p) args [] pos) (Rd1 X.K tabs (callE s C f args)) := by
  unfold callE
  split
  · rename_i F hF
    obtain ⟨k, r, hf⟩ := h.room
    have fs := hf _ (lookup_mem hF)
    have rk : Room k X.A := r.mono (by omega)
    split
    · rename_i c
      obtain ⟨c1, c2⟩ := c
      split
      · rename_i hd
        rw [hd] at fs
        split
        · split
          · rename_i i hi
            obtain ⟨v1, v2, v3, v4⟩ := varI_some h hi
            split
            · rename_i hp
              obtain ⟨hp, hn⟩ := hp
              obtain ⟨n, hn'⟩ : ∃ n, F.n = n + 1 := ⟨F.n - 1, by omega⟩
              rw [hn'] at fs ⊢
              exact ex_callD fs rk (gl_of h c1) c2 v1 v2 v3 v4 hp (ea_len (pa_lL G h _)) fun ρ st ds st' w => (len_some w).2
            · exact pe_bad
          · exact pe_bad
        · exact pe_bad
      · rename_i hd
        have hd : F.d = false := by simpa using hd
        rw [hd] at fs
        split
        · rename_i hp
          obtain ⟨hp, hne⟩ := hp
          cases args with
          | nil => exact absurd rfl hne
          | cons e es => exact ex_call fs rk (gl_of h c1) c2 hp (ea_len (pa_lL G h _)) fun ρ st ds st' w => (len_some w).2
        · exact pe_bad
    · exact pe_bad
  · split
    · rename_i c
      obtain ⟨c1, c2, c3, c4⟩ := c
      split
      · rename_i hf
        subst hf
        split
        · split
          · rename_i T hT
            obtain ⟨t1, t2, t3, t4⟩ := tyOf_some hT
            split
            · rename_i c
              have hp : plain _ = true := (plain_hd c3).1
              exact ex_isi (G.T h _) hp t1 (gl_of h c1) (h.b0 c2) (gl_of h c.1) (h.b0 c.2 (tyOf_ng hT)) t2 t3 t4
            · exact pe_bad
          · exact pe_bad
        · split
          · rename_i S hS
            obtain ⟨s1, s2, s3, s4⟩ := tyOf_some hS
            split
            · rename_i T hT
              obtain ⟨t1, t2, t3, t4⟩ := tyOf_some hT
              split
              · rename_i c
                have hp : plain _ = true := (plain_hd c3).1
                exact ex_isi2 (G.T h _) hp s1 t1 (gl_of h c1) (h.b0 c2) (gl_of h c.1.1) (h.b0 c.1.2 (tyOf_ng hS)) s2 s3 s4 (gl_of h c.2.1) (h.b0 c.2.2 (tyOf_ng hT)) t2 t3 t4
              · exact pe_bad
            · exact pe_bad
          · exact pe_bad
        · exact pe_bad
      · split
        · rename_i r hr
          exact pe_setE G h hr c1 c2
        · split
          · rename_i g hg
            cases args with
            | nil => exact absurd rfl c4
            | cons e es => exact pe_blt G h hg c1 c2 c3
          · exact pe_bad
    · exact pe_bad
theorem pw_boolB (G : Good s) (h : CfgOk X tabs C) (op : BoolOp) {pos : Pos} : ∀ es : List Expr, PW X (.BoolOp op es pos) (RdB X.K tabs (boolB s C op es))
  | [] => ⟨fun w pins s σ H Q I ⟨δ, O, ρ, st, z, st', S, W, e, c⟩ => by cases e⟩
  | [a] => by
    unfold boolB
    cases op with
    | And => exact pw_and1 (G.B h a)
    | Or => exact pw_or1 (G.B h a)
  | a :: b :: es => by
    unfold boolB
    cases op with
    | And => exact ew_and (G.B h a) (pw_boolB G h .And (b :: es))
    | Or => exact ew_or (G.B h a) (pw_boolB G h .Or (b :: es))
theorem eval_bool1 {op : BoolOp} {a : Expr} {pos : Pos} {env : Env} : eval (.BoolOp op [a] pos) env = eval a env := rfl
theorem pe_boolE (G : Good s) (h : CfgOk X tabs C) (op : BoolOp) {pos : Pos} : ∀ es : List Expr, PE X (.BoolOp op es pos) (Rd1 X.K tabs (boolE s C op es))
  | [] => pe_bad
  | [a] => ⟨fun pins s σ H Q I q => by
    rw [eval_bool1]
    exact (G.E h a).run pins s σ H Q I (by unfold boolE at q; exact q)⟩
  | a :: b :: es => by
    unfold boolE
    cases op with
    | And => exact ex_and (G.E h a) (pe_boolE G h .And (b :: es))
    | Or => exact ex_or (G.E h a) (pe_boolE G h .Or (b :: es))
theorem po_optO (G : Good s) (h : CfgOk X tabs C) (o : Option Expr) : PO X o (RdO X.K tabs (optO s C o)) := by
  unfold optO
  split
  · exact eo_none
  · exact eo_some (G.T h _)
theorem plainIx_of {b : Expr} (h : isSlice b = false) : PlainIx b := by
  intro o i
  cases b <;> first | rfl | cases h
theorem pe_stepE0 (G : Good s) (h : CfgOk X tabs C) (e : Expr) : PE X e (Rd1 X.K tabs (stepE0 s C e)) := by
  have hu : X.A.units + 65 < cLine := by have := h.un; omega
  unfold stepE0
  split
  · exact ex_int
  · exact ex_bl
  · exact ex_non
  · exact ex_str
  · split
    · rename_i i hi
      obtain ⟨v1, v2, v3, v4⟩ := varI_some h hi
      exact ex_var v1 v2 v3 v4
    · split
      · rename_i n hn
        split
        · rename_i c
          obtain ⟨t, ht⟩ := h.cis _ (lookup_mem hn)
          exact ex_cst (pe_glob (v := .int n) (gl_of h c.1) ht ⟨_, rfl⟩ c.2) fun _ => .int _
        · exact pe_bad
      · exact pe_bad
  · split
    · rename_i g hg
      exact ex_bin (opV_some hg) (G.T h _) (G.T h _)
    · exact pe_bad
  · exact ex_not (G.E h _)
  · exact ex_neg (G.T h _)
  · exact pe_boolE G h _ _
  · split
    · rename_i hm
      exact ex_cmp (cmpG_os hu) (G.T h _) (G.T h _) hm
    · exact pe_bad
  · split
    · rename_i hm
      exact ex_chain (cmpG_os hu) (cmpG_os hu) (G.T h _) (G.T h _) (G.T h _) hm
    · exact pe_bad
  · exact ex_ite (G.B h _) (G.E h _) (G.E h _)
  · exact ex_tup (pa_lL G h _)
  · exact ex_lst (pa_lL G h _)
  · exact ex_slc (G.T h _) (po_optO G h _) (po_optO G h _)
  · exact ex_rev (G.T h _)
  · split
    · rename_i hs
      exact ex_ixW hu (G.T h _) (G.T h _) (plainIx_of hs)
    · exact pe_bad
  · exact pe_lcEK G h
  · exact pe_dcE G h
  · exact ex_dnew
  · exact ex_d1 h.u65 (G.E h _) (G.E h _)
  · exact pe_methE G h
  · split
    · rename_i c
      obtain ⟨c0, rfl, c1, c2, c3⟩ := c
      exact ex_get2 hu (G.T h _) (G.T h _) (G.E h _) ⟨recv_base c0, by rw [few2 c1 c2]; rfl, c3, few2 c1 c2⟩
    · exact pe_bad
  · split
    · rename_i hf
      exact pe_gxE G h (k := true) hf
    · split
      · rename_i hf
        exact pe_gxE G h (k := false) hf
      · split
        · rename_i hf
          exact pe_sgE G h hf
        · exact pe_bad
  · exact pe_callE G h
  · exact pe_bad
theorem pe_drE (h : CfgOk X tabs C) (G : Good s) {e : Expr} {m : Sem1} (q : drE s C e = some m) : PE X e (Rd1 X.K tabs m) := by
  unfold drE at q
  split at q
  · cases q
  · split at q
    · cases q
    · rename_i x _ i hi
      obtain ⟨v1, v2, v3, v4⟩ := varI_some h hi
      split at q
      · split at q
        · rename_i c
          obtain ⟨rfl, c2⟩ := c
          cases q
          exact ex_dr v1 v2 v3 v4
        · cases q
      · split at q
        · rename_i c
          obtain ⟨rfl, rfl, c3⟩ := c
          cases q
          exact ex_drGet v1 v2 v3 v4 (G.T h _) (plainIx_of c3)
        · cases q
      · split at q
        · rename_i c
          obtain ⟨rfl, rfl, rfl, c4, c5⟩ := c
          cases q
          exact ex_drLen v1 v2 v3 v4 (gl_of h c4) (h.b0 c5)
        · cases q
      · cases q
theorem pe_stepE (G : Good s) (h : CfgOk X tabs C) (e : Expr) : PE X e (Rd1 X.K tabs (stepE s C e)) := by
  unfold stepE
  split
  · rename_i m hm
    exact pe_drE h G hm
  · exact pe_stepE0 G h e
theorem pe_stepT (G : Good s) (h : CfgOk X tabs C) (e : Expr) : PE X e (RdT X.K tabs (stepT s C e)) := by
  unfold stepT
  split
  · split
    · rename_i i hi
      obtain ⟨v1, v2, v3, v4⟩ := varI_some h hi
      exact ex_tv v1 v2 v3 v4
    · exact ex_T (pe_stepE G h _)
  · exact ex_T (pe_stepE G h _)
theorem pt_stepB (G : Good s) (h : CfgOk X tabs C) (e : Expr) : PT X e (RdB X.K tabs (stepB s C e)) := by
  have hu : X.A.units + 65 < cLine := by have := h.un; omega
  unfold stepB
  split
  · exact et_not (G.B h _)
  · exact (pw_boolB G h _ _).pt
  · exact pt_bad
  · split
    · rename_i hm
      exact et_cmp (cmpG_os hu) (cmpG_bool _) (G.T h _) (G.T h _) hm
    · exact pt_bad
  · split
    · rename_i hm
      exact et_chain (cmpG_os hu) (cmpG_os hu) (cmpG_bool _) (G.T h _) (G.T h _) (G.T h _) hm
    · exact pt_bad
  · exact pt_bad
  · exact pt_bad
  · rename_i n1 n2 n3 n4 n5 n6 n7
    refine et_tru (pe_stepT G h e) fun whole => ?_
    cases e <;> first
      | rfl
      | exact absurd rfl (n2 _ _ _)
      | exact absurd rfl (n3 _ _ _ _)
      | exact absurd rfl (n6 _ _ _ _)
      | exact absurd rfl (n7 _ _ _)
theorem good_step (G : Good s) : Good (step s) := ⟨fun h e => pe_stepE G h e, fun h e => pe_stepT G h e, fun h e => pt_stepB G h e⟩
theorem good_rd : ∀ n, Good (rd n)
  | 0 => good_bot
  | n + 1 => good_step (good_rd n)
end
end Fo
namespace Fo
open PySem PySem.Spec PyProof.Rows L2
def isComp : Expr → Bool
  | .ListComp .. => true
  | .SetComp .. => true
  | .DictComp .. => true
  | _ => false
def isTupL : Expr → Bool
  | .Tuple .. => true
  | .List .. => true
  | _ => false
theorem sw_none {e : Expr} {t : Option Expr} {l : Nat} {env : Env} (h : isComp e = false) : swapsWith e t l env = pure false := by
  cases e <;> first | rfl | cases h
theorem sw_tg {e : Expr} {t : Expr} {l : Nat} {env : Env} (h : ∀ x p, t ≠ .Name x p) : swapsWith e (some t) l env = pure false := by
  cases e <;> first
    | rfl
    | (cases t <;> first | rfl | exact absurd rfl (h _ _))
theorem ss_e {tg e : Expr} {env : Env} (h : isTupL tg = false) : swappedStores [tg] e env = pure none := by
  unfold swappedStores
  cases tg <;> first | rfl | cases h
def isTup : Expr → Bool
  | .Tuple .. => true
  | _ => false
theorem ss_v {tg e : Expr} {env : Env} (h : isTup e = false) : swappedStores [tg] e env = pure none := by
  unfold swappedStores
  cases tg <;> first
    | rfl
    | (cases e <;> first | rfl | cases h)
def swC (C : Cfg) (x : PySem.Str) (p : Pos) (scope : Scope) (p2 : Pos) : Bool := (C.sc.names.lookup x == some .local) && (p.line == p2.line) && !(scope.names.any fun (n, k) => n == x && (k == .local || k == .cell))
theorem sw_lc {C : Cfg} {env : Env} (hs : env.scope = C.sc) (hk : C.sc.kind = .function) {x : PySem.Str} {p p2 : Pos} {l : Nat} {elt : Expr} {gs : List Comprehension} {scope : Scope} : swapsWith (.ListComp elt gs scope p2) (some (.Name x p)) l env = pure (swC C x p scope p2) := by
  have hb : env.blockKind = .function := by unfold Env.blockKind; rw [hs, hk]; rfl
  unfold swapsWith swC
  show (pure (env.blockKind == .function && env.kindOf x == some .local && p.line == p2.line && !(scope.names.any fun (n, k) => n == x && (k == .local || k == .cell))) : Sem Bool) = _
  rw [hb]
  unfold Env.kindOf
  rw [hs]
  rfl
def tNames (C : Cfg) (ts : List Expr) : List PySem.Str := ts.filterMap fun
  | .Name id pos => if C.sc.names.lookup id == some .local && pos.line == (ts.head?.map (·.pos.line)).getD 0 then some id else none
  | _ => none
theorem sw_dc {C : Cfg} {env : Env} (hs : env.scope = C.sc) (hk : C.sc.kind = .function) {x : PySem.Str} {p p2 : Pos} {l : Nat} {kx vx : Expr} {gs : List Comprehension} {scope : Scope} : swapsWith (.DictComp kx vx gs scope p2) (some (.Name x p)) l env = pure (swC C x p scope p2) := by
  have hb : env.blockKind = .function := by unfold Env.blockKind; rw [hs, hk]; rfl
  unfold swapsWith swC
  show (pure (env.blockKind == .function && env.kindOf x == some .local && p.line == p2.line && !(scope.names.any fun (n, k) => n == x && (k == .local || k == .cell))) : Sem Bool) = _
  rw [hb]
  unfold Env.kindOf
  rw [hs]
  rfl
/-- how several names are stored: none: not read; some none: in order; some l: from the right -/
def swT (C : Cfg) (ts vs : List Expr) : Option (Option (List PySem.Str)) :=
  if (!(ts.length == 2 || ts.length == 3) || vs.length != ts.length) = true then some none
  else if (vs.any fun | .Starred .. => true | _ => false) = true then some none
  else if ((tNames C ts).length != ts.length || (tNames C ts).eraseDups.length != (tNames C ts).length) = true then some none
  else if vs.all (foldedForSure 8) = true then some none
  else if vs.all (constantsAlone 8) = true then none
  else some (some (tNames C ts))
theorem swT_some {C : Cfg} {env : Env} (hs : env.scope = C.sc) (hk : C.sc.kind = .function) {ts vs : List Expr} {k k' : Nat} {p p' : Pos} {r : Option (List PySem.Str)} (h : swT C ts vs = some r) : swappedStores [.Tuple ts k p] (.Tuple vs k' p') env = pure r := by
  have hb : (env.blockKind != .function) = false := by
    have : env.blockKind = .function := by unfold Env.blockKind; rw [hs, hk]; rfl
    rw [this]; rfl
  have hn : (ts.filterMap fun
    | .Name id pos => if env.kindOf id == some .local && pos.line == (ts.head?.map (·.pos.line)).getD 0 then some id else none
    | _ => none) = tNames C ts := by
    unfold Env.kindOf
    rw [hs]
    rfl
  unfold swT at h
  unfold swappedStores
  simp only [hb, Bool.or_false]
  split at h
  · rename_i c
    cases h
    rw [if_pos c]
  rename_i c1
  rw [if_neg c1]
  split at h
  · rename_i c
    cases h
    exact if_pos c
  rename_i c2
  refine (if_neg c2).trans ?_
  split at h
  · rename_i c
    cases h
    rw [← hn] at c
    exact if_pos c
  rename_i c3
  rw [← hn] at c3
  refine (if_neg c3).trans ?_
  split at h
  · rename_i c
    cases h
    exact if_pos c
  rename_i c4
  refine (if_neg c4).trans ?_
  split at h
  · cases h
  rename_i c5
  cases h
  refine (if_neg c5).trans ?_
  exact congrArg (fun l => (pure (some l) : Sem (Option (List PySem.Str)))) hn
/-! the reader of statements -/
def isIn (x : PySem.Str) (l : List PySem.Str) : Bool := l.any fun y => decide (y = x)
/-- names that are handed on as they are -/
def stN (C : Cfg) : Nat → Bool → Expr → List PySem.Str
  | 0, _, _ => []
  | n + 1, b, e => match e with
    | .Name x _ => if b = true then [x] else []
    | .Tuple es _ _ => es.flatMap (stN C n true)
    | .List es _ => es.flatMap (stN C n true)
    | .Starred e _ => stN C n false e
    | .IfExp t a c _ => stN C n false t ++ stN C n true a ++ stN C n true c
    | .BoolOp _ es _ => es.flatMap (stN C n b)
    | .BinOp a _ c _ => stN C n false a ++ stN C n false c
    | .UnaryOp _ a _ => stN C n b a
    | .Compare l _ rs _ => stN C n false l ++ rs.flatMap (stN C n false)
    | .Subscript a i _ => stN C n false a ++ stN C n false i
    | .Call (.Name f _) args _ _ => args.flatMap (stN C n (C.fns.lookup f).isSome)
    | .ListComp elt gens _ _ => stN C n true elt ++ gens.flatMap fun g => stN C n false g.iter ++ g.ifs.flatMap (stN C n false)
    | .GeneratorExp elt gens _ _ => stN C n false elt ++ gens.flatMap fun g => stN C n false g.iter ++ g.ifs.flatMap (stN C n false)
    | _ => []
def frzN (C : Cfg) (mu : List PySem.Str) : List PySem.Str → SemS → SemS
  | [], m => m
  | x :: xs, m => if isIn x mu = true then (match varI C x with
    | some i => frzS i (frzN C mu xs m)
    | none => frzN C mu xs m) else frzN C mu xs m
def freshE (s : Sms) (C : Cfg) (e : Expr) : Option Sem1 := match e with
  | .List es _ => some (dispR .list (lL s C es))
  | .ListComp elt [⟨tg, iter, ifs, 0⟩] scope _ => some (lcE s C elt tg iter ifs scope)
  | .Dict [] [] _ => some newD
  | .Dict [some k] [v] _ => some (d1R (s.E C k) (s.E C v))
  | .DictComp kx vx [⟨tg, iter, ifs, 0⟩] scope _ => some (dcE s C kx vx tg iter ifs scope)
  | _ => none
/-- what is stored under x -/
def entE (s : Sms) (C : Cfg) (mu : List PySem.Str) (x : PySem.Str) (e : Expr) (r : SemE) : SemE := match (if isIn x mu = true then freshE s C e else none) with
  | some m => owE m r
  | none => vaE (s.E C e) r
/-- entries for several names -/
def entL (s : Sms) (C : Cfg) (mu : List PySem.Str) : List Expr → List Expr → SemE
  | .Name x _ :: ts, e :: es => entE s C mu x e (entL s C mu ts es)
  | _, [] => nilE
  | _, _ => fun _ => up none
def fnB (C : Cfg) (x : PySem.Str) : Bool := C.fn x || decide (C.sc.names.lookup x = some .local)
def asgE (s : Sms) (C : Cfg) (mu : List PySem.Str) (tg e : Expr) : SemS := match tg with
  | .Name x p => (match e with
    | .ListComp elt [⟨tg', iter, ifs, 0⟩] scope p2 => (match ixOf x C.N with
      | some i => if C.sc.kind = .function ∧ locB C.sc x = true ∧ fnB C x = true then
          (if isIn x mu = true then ownS (lcE s C elt tg' iter ifs scope) i else asgS (lcE s C elt tg' iter ifs scope) (.nm i)) else neverS
      | none => neverS)
    | .DictComp kx vx [⟨tg', iter, ifs, 0⟩] scope p2 => (match ixOf x C.N with
      | some i => if C.sc.kind = .function ∧ locB C.sc x = true ∧ fnB C x = true then
          (if isIn x mu = true then ownS (dcE s C kx vx tg' iter ifs scope) i else asgS (dcE s C kx vx tg' iter ifs scope) (.nm i)) else neverS
      | none => neverS)
    | e => if isComp e = true then neverS else match ixOf x C.N with
      | some i => if locB C.sc x = true ∧ fnB C x = true then
          (match (if isIn x mu = true then freshE s C e else none) with
          | some m => ownS m i
          | none => asgS (s.E C e) (.nm i)) else neverS
      | none => neverS)
  | .Tuple ts k p => (match e with
    | .Tuple vs _ _ => if C.sc.kind = .function then (match swT C ts vs with
      | some none => (match tgNms C ts with
        | some is => if vs.all plain = true ∧ is.length ≤ 1000 then parS is (entL s C mu ts vs) else (match tgOf C (.Tuple ts k p) with
          | some t => asgS (dispR .tuple (lL s C vs)) t
          | none => neverS)
        | none => (match tgOf C (.Tuple ts k p) with
          | some t => asgS (dispR .tuple (lL s C vs)) t
          | none => neverS))
      | some (some l) => (match ts, vs with
        | [.Name x _, .Name y _], [a, b] => (match ixOf x C.N, ixOf y C.N with
          | some i, some j => if l = [x, y] ∧ i ≠ j ∧ C.sc.names.lookup x = some .local ∧ C.sc.names.lookup y = some .local ∧ plain a = true ∧ plain b = true then parS [i, j] (entE s C mu x a (entE s C mu y b nilE)) else neverS
          | _, _ => neverS)
        | [.Name x _, .Name y _, .Name z _], [a, b, c] => (match ixOf x C.N, ixOf y C.N, ixOf z C.N with
          | some i, some j, some l' => if l = [x, y, z] ∧ i ≠ j ∧ i ≠ l' ∧ j ≠ l' ∧ C.sc.names.lookup x = some .local ∧ C.sc.names.lookup y = some .local ∧ C.sc.names.lookup z = some .local ∧ plain a = true ∧ plain b = true ∧ plain c = true then
              parS [i, j, l'] (entE s C mu x a (entE s C mu y b (entE s C mu z c nilE))) else neverS
          | _, _, _ => neverS)
        | _, _ => neverS)
      | none => neverS) else neverS
    | e => (match tgOf C (.Tuple ts k p) with
      | some t => asgS (s.E C e) t
      | none => neverS))
  | .Subscript (.Name x _) (.Constant (.int k) j p2) _ => (match varI C x with
    | some i => if C.dr = some x then drSet i k (s.E C e) else setG i (s.T C (.Constant (.int k) j p2)) (s.E C e)
    | none => neverS)
  | .Subscript (.Name x _) ix _ => (match varI C x with
    | some i => if isSlice ix = false then setG i (s.T C ix) (s.E C e) else neverS
    | none => neverS)
  | _ => neverS
def stm (s : Sms) (C : Cfg) (mu : List PySem.Str) (r : List Stmt → SemS) (st : Stmt) : SemS := match st with
  | .Pass _ => nxS
  | .Break _ => bkS
  | .Continue _ => ctS
  | .Return none _ => rtN
  | .Return (some e) _ => frzN C mu (stN C 50 true e) (rtS (s.E C e))
  | .If c a b _ => frzN C mu (stN C 50 false c) (ifS (s.B C c) (r a) (r b))
  | .For tg it body [] _ => (match tgOf C tg with
    | some t => if notSet1 it = true then frzN C mu (stN C 50 true it) (forS (itS s C tg it) t (r body)) else neverS
    | none => neverS)
  | .While c body [] _ => whileS (s.B C c) (r body) 1000000
  | .Expr (.Constant (.str _) _ _) _ => nxS
  | .Expr (.Call (.Attribute (.Name x _) a ap) [e] [] cp) _ => (match varI C x with
    | some i => if a = "append" ∧ plain e = true ∧ (ap.endLine == cp.line) = true then frzN C mu (stN C 50 true e) (appS i (s.E C e)) else neverS
    | none => neverS)
  | .Expr e _ => if isComp e = false then frzN C mu (stN C 50 false e) (exS (s.E C e)) else neverS
  | .Assign [tg] e _ => frzN C mu (stN C 50 true e) (asgE s C mu tg e)
  | _ => neverS
def stmL (f : Stmt → SemS) : List Stmt → SemS
  | [] => nxS
  | st :: r => seqS (f st) (stmL f r)
def rdS (s : Sms) (C : Cfg) (mu : List PySem.Str) : Nat → List Stmt → SemS
  | 0 => fun _ => neverS
  | n + 1 => stmL (stm s C mu (rdS s C mu n))
section
variable {s : Sms} {X : Cx} {tabs : Tb} {C : Cfg} {δ : Option Addr} {O0 : Addr → Prop} {H0 : Hp} {mu : List PySem.Str}
theorem ps_frzN {st : Stmt} {m : SemS} (h : PS X st (RdS X.K tabs δ O0 H0 m)) : ∀ xs : List PySem.Str, PS X st (RdS X.K tabs δ O0 H0 (frzN C mu xs m))
  | [] => by unfold frzN; exact h
  | x :: xs => by
    unfold frzN
    split
    · split
      · exact s_frz (ps_frzN h xs)
      · exact ps_frzN h xs
    · exact ps_frzN h xs
theorem pe_freshE (G : Good s) (h : CfgOk X tabs C) {e : Expr} {m : Sem1} (q : freshE s C e = some m) : PE X e (RdF X.K tabs m) := by
  unfold freshE at q
  split at q
  · cases q; exact ef_lst (pa_lL G h _)
  · cases q
    unfold lcE
    split
    · rename_i t ht
      split
      · rename_i c
        obtain ⟨c1, c2, c3⟩ := c
        exact ef_lc h.calm (nd_of h) (pi_itT G h _ _) (by rw [h.N, h.sc]; exact blkOk_by c1) (fun s H Cc cl fp => tgOf_some (h.blk s H _ Cc cl fp) ht) (fun s H Cc cl fp => pts_ifs G (h.blk s H _ Cc cl fp) _) (fun s H Cc cl fp => G.E (h.blk s H _ Cc cl fp) _) (notSet1_f c2) (sub_of c3)
      · exact pe_badF
    · exact pe_badF
  · cases q; exact ef_dnew
  · cases q; exact ef_d1 h.u65 (G.E h _) (G.E h _)
  · cases q; exact pe_dcF G h
  · cases q
theorem pa_entE (G : Good s) (h : CfgOk X tabs C) {x : PySem.Str} {e : Expr} {es : List Expr} {r : SemE} (hp : plain e = true) (hr : PA X es (RdM X.K tabs r)) : PA X (e :: es) (RdM X.K tabs (entE s C mu x e r)) := by
  unfold entE
  split
  · rename_i m hm
    split at hm
    · exact em_ow hp (pe_freshE G h hm) hr
    · cases hm
  · exact em_va hp (G.E h e) hr
theorem pa_badE {es : List Expr} : PA X es (RdM X.K tabs fun _ => up none) := ⟨fun pos pins s σ H Q I ⟨δ, O, ρ, st, z, st', S, W, e, c⟩ => by cases e⟩
theorem pa_entL (G : Good s) (h : CfgOk X tabs C) : ∀ (ts es : List Expr), es.all plain = true → PA X es (RdM X.K tabs (entL s C mu ts es))
  | [], [], _ => by unfold entL; exact em_nil
  | t :: ts, [], _ => by
    have : entL s C mu (t :: ts) [] = nilE := by cases t <;> rfl
    rw [this]
    exact em_nil
  | [], e :: es, _ => by
    have : entL s C mu [] (e :: es) = fun _ => up none := rfl
    rw [this]
    exact pa_badE
  | t :: ts, e :: es, hp => by
    rw [List.all_cons, Bool.and_eq_true] at hp
    cases t <;> first
      | exact pa_entE G h hp.1 (pa_entL G h ts es hp.2)
      | exact pa_badE
theorem isTup_of {e : Expr} (h : ∀ vs k p, e ≠ .Tuple vs k p) : isTup e = false := by
  cases e <;> first | rfl | exact absurd rfl (h _ _ _)
theorem fn_of' (h : CfgOk X tabs C) {x : PySem.Str} (q : fnB C x = true) : X.fn x = true ∨ X.env.scope.names.lookup x = some .local := by
  unfold fnB at q
  rw [Bool.or_eq_true] at q
  rcases q with q | q
  · exact .inl (h.fn _ q)
  · exact .inr (by rw [h.sc]; exact of_decide_eq_true q)
theorem s_badO {st : Stmt} {i : Nat} : PS X st (RdS X.K tabs δ O0 H0 (ownS bad i)) := PS.imp ps_never fun D σ H ⟨O, ρ, st, out, st', B, S, W, e, f⟩ => by
  obtain ⟨_, _, e1, _⟩ := bnd_some e
  cases e1
theorem s_badA {st : Stmt} {t : Tg} : PS X st (RdS X.K tabs δ O0 H0 (asgS bad t)) := PS.imp ps_never fun D σ H ⟨O, ρ, st, out, st', B, S, W, e, f⟩ => by
  obtain ⟨_, _, e1, _⟩ := bnd_some e
  cases e1
theorem ps_lcA (G : Good s) (h : CfgOk X tabs C) {x : PySem.Str} {p p2 pos : Pos} {elt tg iter : Expr} {ifs : List Expr} {scope : Scope} {i : Nat} (hk : C.sc.kind = .function) (hi : ixOf x C.N = some i) (hl : locB C.sc x = true) (hf : fnB C x = true) :
    PS X (.Assign [.Name x p] (.ListComp elt [⟨tg, iter, ifs, 0⟩] scope p2) pos) (RdS X.K tabs δ O0 H0 (if isIn x mu = true then ownS (lcE s C elt tg iter ifs scope) i else asgS (lcE s C elt tg iter ifs scope) (.nm i))) := by
  have hN := nd_of h
  have hi' : X.N[i]? = some x := by rw [h.N]; exact ixOf_some hi
  have hx : Loc X.env.scope x := by rw [h.sc]; exact loc_of hl
  have hs := sw_lc (x := x) (p := p) (p2 := p2) (l := pos.line) (elt := elt) (gs := [⟨tg, iter, ifs, 0⟩]) (scope := scope) h.sc hk
  cases hb : swC C x p scope p2 with
  | false =>
    rw [hb] at hs
    split
    · exact s_own hN hi' hx (pe_freshE G h rfl) hs (fn_of' h hf)
    · exact PS.imp (ps_set hN hi' hx (pe_lcE G h) hs (fn_of' h hf)) fun D σ H q => asg_nm q
  | true =>
    rw [hb] at hs
    have hy : X.env.scope.names.lookup x = some .local := by
      unfold swC at hb
      rw [Bool.and_eq_true, Bool.and_eq_true] at hb
      rw [h.sc]
      exact eq_of_beq hb.1.1
    split
    · unfold lcE
      split
      · rename_i t ht
        split
        · rename_i c
          obtain ⟨c1, c2, c3⟩ := c
          exact s_ownLc h.calm hN hi' hy hs (pi_itT G h _ _) (by rw [h.N, h.sc]; exact blkOk_by c1) (fun s H Cc cl fp => tgOf_some (h.blk s H _ Cc cl fp) ht) (fun s H Cc cl fp => pts_ifs G (h.blk s H _ Cc cl fp) _) (fun s H Cc cl fp => G.E (h.blk s H _ Cc cl fp) _) (notSet1_f c2) (sub_of c3)
        · exact s_badO
      · exact s_badO
    · unfold lcE
      split
      · rename_i t ht
        split
        · rename_i c
          obtain ⟨c1, c2, c3⟩ := c
          exact s_setLc h.calm hN hi' hy hs (pi_itT G h _ _) (by rw [h.N, h.sc]; exact blkOk_by c1) (fun s H Cc cl fp => tgOf_some (h.blk s H _ Cc cl fp) ht) (fun s H Cc cl fp => pts_ifs G (h.blk s H _ Cc cl fp) _) (fun s H Cc cl fp => G.E (h.blk s H _ Cc cl fp) _) (notSet1_f c2) (sub_of c3)
        · exact s_badA
      · exact s_badA
theorem ps_dcA (G : Good s) (h : CfgOk X tabs C) {x : PySem.Str} {p p2 pos : Pos} {kx vx tg iter : Expr} {ifs : List Expr} {scope : Scope} {i : Nat} (hk : C.sc.kind = .function) (hi : ixOf x C.N = some i) (hl : locB C.sc x = true) (hf : fnB C x = true) :
    PS X (.Assign [.Name x p] (.DictComp kx vx [⟨tg, iter, ifs, 0⟩] scope p2) pos) (RdS X.K tabs δ O0 H0 (if isIn x mu = true then ownS (dcE s C kx vx tg iter ifs scope) i else asgS (dcE s C kx vx tg iter ifs scope) (.nm i))) := by
  have hN := nd_of h
  have hi' : X.N[i]? = some x := by rw [h.N]; exact ixOf_some hi
  have hx : Loc X.env.scope x := by rw [h.sc]; exact loc_of hl
  have hs := sw_dc (x := x) (p := p) (p2 := p2) (l := pos.line) (kx := kx) (vx := vx) (gs := [⟨tg, iter, ifs, 0⟩]) (scope := scope) h.sc hk
  cases hb : swC C x p scope p2 with
  | false =>
    rw [hb] at hs
    split
    · exact s_own hN hi' hx (pe_freshE G h rfl) hs (fn_of' h hf)
    · exact PS.imp (ps_set hN hi' hx (pe_dcE G h) hs (fn_of' h hf)) fun D σ H q => asg_nm q
  | true =>
    rw [hb] at hs
    have hy : X.env.scope.names.lookup x = some .local := by
      unfold swC at hb
      rw [Bool.and_eq_true, Bool.and_eq_true] at hb
      rw [h.sc]
      exact eq_of_beq hb.1.1
    split
    · unfold dcE
      split
      · rename_i t ht
        split
        · rename_i c
          obtain ⟨c1, c2, c3⟩ := c
          exact s_ownDc h.calm hN h.u65 hi' hy hs (pi_itT G h _ _) (by rw [h.N, h.sc]; exact blkOk_by c1) (fun s H Cc cl fp => tgOf_some (h.blk s H _ Cc cl fp) ht) (fun s H Cc cl fp => pts_ifs G (h.blk s H _ Cc cl fp) _) (fun s H Cc cl fp => G.E (h.blk s H _ Cc cl fp) _) (fun s H Cc cl fp => G.E (h.blk s H _ Cc cl fp) _) (notSet1_f c2) (sub_of c3)
        · exact s_badO
      · exact s_badO
    · unfold dcE
      split
      · rename_i t ht
        split
        · rename_i c
          obtain ⟨c1, c2, c3⟩ := c
          exact s_setDc h.calm hN h.u65 hi' hy hs (pi_itT G h _ _) (by rw [h.N, h.sc]; exact blkOk_by c1) (fun s H Cc cl fp => tgOf_some (h.blk s H _ Cc cl fp) ht) (fun s H Cc cl fp => pts_ifs G (h.blk s H _ Cc cl fp) _) (fun s H Cc cl fp => G.E (h.blk s H _ Cc cl fp) _) (fun s H Cc cl fp => G.E (h.blk s H _ Cc cl fp) _) (notSet1_f c2) (sub_of c3)
        · exact s_badA
      · exact s_badA
theorem sub_sw {o i e : Expr} {p : Pos} {l : Nat} {env : Env} : swapsWith e (some (.Subscript o i p)) l env = pure false := sw_tg (e := e) (t := .Subscript o i p) (l := l) (env := env) fun _ _ z => Expr.noConfusion z
theorem tg_each {tg : Expr} {t : Tg} {env : Env} (q : tgOf C tg = some t) : (assignEach [tg] env).map (·.2) = [assign tg env] := by
  unfold tgOf at q
  split at q
  · rfl
  · rfl
  · cases q
theorem tg_sole {ts : List Expr} {k : Nat} {p : Pos} {e : Expr} {l : Nat} {env : Env} : swapsWithSole [.Tuple ts k p] e l env = pure false := sw_tg (e := e) (t := .Tuple ts k p) (l := l) (env := env) fun _ _ z => Expr.noConfusion z
theorem sub_sole {o i e : Expr} {p : Pos} {l : Nat} {env : Env} : swapsWithSole [.Subscript o i p] e l env = pure false := sw_tg (e := e) (t := .Subscript o i p) (l := l) (env := env) fun _ _ z => Expr.noConfusion z
theorem asg_sub {o ix : Expr} {p : Pos} {env : Env} (h : isSlice ix = false) : ∀ v, assign (.Subscript o ix p) env v = (do
      let ov ← holding [v] (eval o env)
      let iv ← holding [v, ov] (eval ix env)
      standAt p
      holding [v, ov, iv] (setItem ov iv v)
      release [v, ov, iv] []) := by
  intro v
  cases ix <;> first | rfl | cases h
theorem ps_asgE (G : Good s) (h : CfgOk X tabs C) (tg e : Expr) (pos : Pos) : PS X (.Assign [tg] e pos) (RdS X.K tabs δ O0 H0 (asgE s C mu tg e)) := by
  have hN := nd_of h
  unfold asgE
  split
  · split
    · split
      · rename_i i hi
        split
        · rename_i c
          exact ps_lcA G h c.1 hi c.2.1 c.2.2
        · exact s_never
      · exact s_never
    · split
      · rename_i i hi
        split
        · rename_i c
          exact ps_dcA G h c.1 hi c.2.1 c.2.2
        · exact s_never
      · exact s_never
    · split
      · exact s_never
      · rename_i hc
        have hc : isComp e = false := by simpa using hc
        split
        · rename_i i hi
          have hi' := ixOf_some hi
          rw [← h.N] at hi'
          split
          · rename_i c
            have hx := loc_of c.1
            rw [← h.sc] at hx
            split
            · rename_i m hm
              split at hm
              · exact s_own hN hi' hx (pe_freshE G h hm) (sw_none hc) (fn_of' h c.2)
              · cases hm
            · exact PS.imp (ps_set hN hi' hx (G.E h e) (sw_none hc) (fn_of' h c.2)) fun D σ H q => asg_nm q
          · exact s_never
        · exact s_never
  · split
    · split
      · rename_i hk
        split
        · rename_i hs
          split
          · rename_i is his
            split
            · rename_i c
              exact s_tupN h.calm hN (tgNms_some h his) (pa_entL G h _ _ c.1) c.2 tg_sole (swT_some h.sc hk hs) rfl
            · split
              · rename_i t ht
                exact s_asg (ex_tup (pa_lL G h _)) (tgOf_some h ht) tg_sole (swT_some h.sc hk hs) (tg_each ht)
              · exact s_never
          · split
            · rename_i t ht
              exact s_asg (ex_tup (pa_lL G h _)) (tgOf_some h ht) tg_sole (swT_some h.sc hk hs) (tg_each ht)
            · exact s_never
        · rename_i l hs
          split
          · split
            · rename_i i j hi hj
              split
              · rename_i c
                obtain ⟨rfl, c2, c3, c4, c5, c6⟩ := c
                exact s_par h.calm hN (by rw [h.N]; exact ixOf_some hi) (by rw [h.N]; exact ixOf_some hj) c2 (by rw [h.sc]; exact c3) (by rw [h.sc]; exact c4) (pa_entE G h c5 (pa_entE G h c6 em_nil)) (swT_some h.sc hk hs) tg_sole
              · exact s_never
            · exact s_never
          · split
            · rename_i i j l' hi hj hl
              split
              · rename_i c
                obtain ⟨rfl, c2, c3, c4, c5, c6, c7, c8, c9, c10⟩ := c
                exact s_par3 h.calm hN (by rw [h.N]; exact ixOf_some hi) (by rw [h.N]; exact ixOf_some hj) (by rw [h.N]; exact ixOf_some hl) c2 c3 c4 (by rw [h.sc]; exact c5) (by rw [h.sc]; exact c6) (by rw [h.sc]; exact c7) (pa_entE G h c8 (pa_entE G h c9 (pa_entE G h c10 em_nil))) (swT_some h.sc hk hs) tg_sole
              · exact s_never
            · exact s_never
          · exact s_never
        · exact s_never
      · exact s_never
    · rename_i hne
      split
      · rename_i t ht
        exact s_asg (G.E h e) (tgOf_some h ht) tg_sole (ss_v (isTup_of fun vs k p z => hne vs k p z)) (tg_each ht)
      · exact s_never
  · split
    · rename_i i hi
      obtain ⟨v1, v2, v3, v4⟩ := varI_some h hi
      split
      · exact s_drSet v1 v2 v3 v4 (G.E h e) sub_sole (ss_e rfl)
      · exact s_setG h.u65 v1 v2 v3 v4 (G.E h e) (G.T h _) sub_sole (ss_e rfl) sub_sw (asg_sub rfl)
    · exact s_never
  · split
    · rename_i i hi
      obtain ⟨v1, v2, v3, v4⟩ := varI_some h hi
      split
      · rename_i hsl
        exact s_setG h.u65 v1 v2 v3 v4 (G.E h e) (G.T h _) sub_sole (ss_e rfl) sub_sw (asg_sub hsl)
      · exact s_never
    · exact s_never
  · exact s_never
theorem ps_stm (G : Good s) (h : CfgOk X tabs C) (hx : PassesOwn (model X.prog X.w) X.A X.env X.xe) {r : List Stmt → SemS} (hr : ∀ sts, PSs X sts (RdS X.K tabs δ O0 H0 (r sts))) (st : Stmt) : PS X st (RdS X.K tabs δ O0 H0 (stm s C mu r st)) := by
  unfold stm
  split
  · exact s_pass
  · exact s_break
  · exact s_cont
  · exact s_retN
  · exact ps_frzN (s_ret (G.E h _)) _
  · exact ps_frzN (s_if (G.B h _) (hr _) (hr _)) _
  · split
    · rename_i t ht
      split
      · rename_i hs
        exact ps_frzN (s_for hx h.calm (pi_itS G h _ _) (tgOf_some h ht) (hr _) (notSet1_f hs)) _
      · exact s_never
    · exact s_never
  · exact s_while 1000000 hx (G.B h _) (hr _)
  · exact s_doc
  · split
    · rename_i i hi
      obtain ⟨v1, v2, v3, v4⟩ := varI_some h hi
      split
      · rename_i c
        obtain ⟨rfl, c2, c3⟩ := c
        exact ps_frzN (s_app v1 v2 v3 v4 c2 (G.E h _) rfl c3 rfl) _
      · exact s_never
    · exact s_never
  · split
    · rename_i hc
      exact ps_frzN (s_expr (G.E h _) (sw_none hc)) _
    · exact s_never
  · exact ps_frzN (ps_asgE G h _ _ _) _
  · exact s_never
theorem pss_stmL {f : Stmt → SemS} (hf : ∀ st, PS X st (RdS X.K tabs δ O0 H0 (f st))) : ∀ sts : List Stmt, PSs X sts (RdS X.K tabs δ O0 H0 (stmL f sts))
  | [] => by unfold stmL; exact ss_nil
  | st :: r => by unfold stmL; exact ss_cons (hf st) (pss_stmL hf r)
theorem pss_never' {sts : List Stmt} : PSs X sts (RdS X.K tabs δ O0 H0 neverS) := ⟨fun pins s σ H D I ⟨O, ρ, st, out, st', B, S, W, e, f⟩ => by cases e⟩
theorem pss_rdS (G : Good s) (h : CfgOk X tabs C) (hx : PassesOwn (model X.prog X.w) X.A X.env X.xe) : ∀ (n : Nat) (sts : List Stmt), PSs X sts (RdS X.K tabs δ O0 H0 (rdS s C mu n sts))
  | 0, _ => pss_never'
  | n + 1, sts => by unfold rdS; exact pss_stmL (ps_stm G h hx (pss_rdS G h hx n)) sts
end
end Fo
/-! defs, tables of defs, the law's own def -/
namespace Fo
open PySem PySem.Spec PyProof.Rows L2
def startR (N : List PySem.Str) (d : Bool) (ds : List PyData) : Rho := (if d then [some .dr] else []) ++ ds.map (fun x => some (.va x)) ++ List.replicate (N.length - (d.toNat + ds.length)) none
def outD : Out → Option PyData
  | .rt v => some v
  | .nx _ => some .none
  | _ => none
def semD (C : Cfg) (mu : List PySem.Str) (d : Bool) (body : List Stmt) : SemF := fun ds => do
  let o ← rdS (rd 40) C mu 30 body (startR C.N d ds)
  up (outD o)
theorem FunD.okC {P : Program} {w : World} {K : PySem.W.Frag} {mg : Str → Option Value} {base : Heap} {x qual : Str} {params : Arguments} {body : List Stmt} {scope : Scope} {dvs : List V} {kws : List (Str × V)} {p : He.Defn} {fd : FuncData} {CX : CXT} {N ps : List Str} {k : Nat} {sp : Sp} (F : FunD K x qual params body scope dvs kws (He.fAd K p) fd) (S : FnScope N ps scope) (len : ∀ vs H Q E, sp vs H Q E → vs.length = ps.length)
    (hbody : ∀ (A : Around) (outer : List Env) (s : Shared) (H : Hp) (vs : List V) (Q : VK) (E : XK), Room k (A.deeper (envOfC qual scope s.heap.objs.size (He.fAd K p) (.ref (He.codeOf K p)))) → sp vs H Q E →
      ∃ t, PSs (cxOf CX P w K mg base N qual scope (He.fAd K p) (.ref (He.codeOf K p)) A outer s H E) body t ∧ t { nx := fun _ H' => Q .non H', rt := Q } (L2.start N vs) H) : FnOk P w K mg base CX (k + 1) (He.fAd K p) fd ps sp := by
  obtain ⟨oc, od, dV, kV, doc, pm, an, cdv, ct, osl, rfl, lk, hcd, _, _⟩ := F.ex
  obtain ⟨c, rfl⟩ := He.codeIn_ref hcd
  have e : He.codeOf K p = c := He.codeOf_eq lk rfl
  rw [e] at hbody
  exact fn_of lk hcd S len fun A outer s H vs Q E hr hsp => hbody A outer s H vs Q E hr hsp
/-- the module's name x stands for a def that does sem -/
def FnT (P : Program) (w : World) (K : PySem.W.Frag) (mg : Str → Option Value) (base : Heap) (tabs : Tb) (k : Nat) (x : PySem.Str) (d : Bool) (n : Nat) (sem : SemF) : Prop :=
  ∃ f fd ps, mg x = some (.ref f) ∧ PySem.W.keepIn K (.ref f) = true ∧ Binds K fd ps [] ∧ ∀ m, FnOk P w K mg base CX0 k f fd ps (spOf K ⟨tabs.l, m⟩ d n sem)
structure Mdl (K : PySem.W.Frag) (mg : Str → Option Value) (cis : List (PySem.Str × Int)) (blts : List PySem.Str) : Prop where
  cis : ∀ p ∈ cis, ∃ t, mg p.1 = some (.int p.2 t)
  blts : ∀ x ∈ blts, mg x = bltAt x
def AllOk (P : Program) (w : World) (K : PySem.W.Frag) (mg : Str → Option Value) (base : Heap) (tabs : Tb) (k : Nat) (fns : List (PySem.Str × FnI)) : Prop := ∀ p ∈ fns, FnT P w K mg base tabs k p.1 p.2.d p.2.n p.2.sem
section
variable {P : Program} {w : World} {K : PySem.W.Frag} {mg : Str → Option Value} {base : Heap} {tabs : Tb} {fns : List (PySem.Str × FnI)} {cis : List (PySem.Str × Int)} {blts : List PySem.Str}
theorem AllOk.mono {j k : Nat} (h : AllOk P w K mg base tabs j fns) (hk : j ≤ k) : AllOk P w K mg base tabs k fns := fun p hp => by
  obtain ⟨f, fd, ps, h1, h2, h3, h4⟩ := h p hp
  exact ⟨f, fd, ps, h1, h2, h3, fun m => (h4 m).mono hk⟩
theorem AllOk.nil {k : Nat} : AllOk P w K mg base tabs k [] := fun p hp => by simp at hp
theorem AllOk.cons {k : Nat} {x : PySem.Str} {F : FnI} (h : AllOk P w K mg base tabs k fns) (hf : FnT P w K mg base tabs k x F.d F.n F.sem) : AllOk P w K mg base tabs k ((x, F) :: fns) := fun p hp => by
  rcases List.mem_cons.mp hp with z | z
  · rw [z]; exact hf
  · exact h p z
theorem ite_none {en : En} (c : Prop) [Decidable c] : (if c then some (none : Option En) else none) ≠ some (some en) := fun h => by split at h <;> cases h
theorem slots_start {δ : Option Addr} {O : Addr → Prop} {H : Hp} {N : List PySem.Str} {d : Bool} {ws : List V} {ds : List PyData} {a : Addr} (hδ : d = true → δ = some a) (hl : d.toNat + ws.length ≤ N.length) (hr : RpAll K (mask O H) ws ds) :
    Slots K δ O (startR N d ds) (L2.start N ((if d = true then [V.ref a] else []) ++ ws)) H := by
  have hlen := hr.length
  have no : ∀ (i : Nat) (e : PyData), (startR N d ds)[i]? ≠ some (some (.ow e)) := fun i e h => by
    unfold startR at h
    have hm := List.mem_of_getElem? h
    rcases List.mem_append.mp hm with z | z
    · rcases List.mem_append.mp z with z | z
      · cases d with
        | true => simp at z
        | false => simp at z
      · obtain ⟨q, _, e⟩ := List.mem_map.mp z
        cases e
    · have := List.eq_of_mem_replicate z
      cases this
  refine ⟨fun i en h => ?_, fun i j d' e v hne h1 => absurd h1 (no i d'), ?_⟩
  · have part : ∀ (j : Nat) (en : En), (ds.map fun x => some (En.va x))[j]? = some (some en) → ∃ v, (ws.map some)[j]? = some (some v) ∧ Slot1 K δ O H v en := fun j en h => by
      rw [List.getElem?_map] at h
      cases e : ds[j]? with
      | none => rw [e] at h; cases h
      | some dd =>
        rw [e] at h
        cases h
        obtain ⟨v, q1, q2⟩ := hr.get e
        exact ⟨v, by rw [List.getElem?_map, q1]; rfl, q2⟩
    have lt : ∀ (i : Nat), (startR N d ds)[i]? = some (some en) → i < d.toNat + ds.length := fun i h => by
      unfold startR at h
      by_cases hi : i < ((if d then [some En.dr] else []) ++ ds.map fun x => some (En.va x)).length
      · rw [List.length_append, List.length_map] at hi
        cases d <;> simpa using hi
      · rw [List.getElem?_append_right (by omega), List.getElem?_replicate] at h
        exact absurd h (ite_none _)
    have hi := lt i h
    unfold L2.start
    unfold startR at h
    cases d with
    | true =>
      rw [List.getElem?_append_left (by simp; simp at hi; omega)] at h
      rw [List.getElem?_append_left (by simp; simp at hi; omega)]
      cases i with
      | zero =>
        have h : some (some En.dr) = some (some en) := h
        cases h
        exact ⟨V.ref a, rfl, a, hδ rfl, rfl⟩
      | succ i => exact part i en h
    | false =>
      rw [List.getElem?_append_left (by simp; simp at hi; omega)] at h
      rw [List.getElem?_append_left (by simp; simp at hi; omega)]
      exact part i en h
  · unfold startR L2.start
    cases d <;> simp <;> omega
theorem def_ok {k : Nat} {C : Cfg} {mu ps : List PySem.Str} {d : Bool} {x qual : Str} {params : Arguments} {body : List Stmt} {p : He.Defn} {fd : FuncData} (M : Mdl K mg cis blts) (hA : AllOk P w K mg base tabs k C.fns) (hci : C.cis = cis) (hbl : C.blts = blts) (hfn : ∀ x, C.fn x = true) (hg2 : C.gen2 = false)
    (F : FunD K x qual params body C.sc [] [] (He.fAd K p) fd) (S : FnScope C.N ps C.sc) (hT : C.gen = true → ∃ Pt, Pt ∈ tabs.l ∧ GxR.TabB base mg (He.codeOf K p) Pt) (hd : d = true → ps ≠ []) :
    FnOk P w K mg base CX0 (k + 2 * C.gen.toNat + 1) (He.fAd K p) fd ps (spOf K tabs d ps.length (semD C mu d body)) := by
  have hpl : ps.length ≤ C.N.length := by
    have := congrArg List.length S.pre
    rw [List.length_take] at this
    omega
  refine FunD.okC F S (fun vs H Q E h => ?_) fun A outer s H vs Q E hr hsp => ?_
  · cases d with
    | true => exact (show spD K tabs ps.length (semD C mu true body) vs H Q E from h).1
    | false => exact (show spM K tabs ps.length (semD C mu false body) vs H Q E from h).1
  have key : ∃ (δ : Option Addr) (O : Addr → Prop) (st : Dr) (ds : List PyData) (v : PyData) (st' : Dr), Slots K δ O (startR C.N d ds) (L2.start C.N vs) H ∧ WOk K tabs δ O st H ∧ semD C mu d body ds st = some (v, st') ∧ Cont K tabs δ O st' H v Q := by
    cases d with
    | true =>
      obtain ⟨hl, a, ws, O, st, ds, v, st', rfl, W, r, e, c⟩ := (show spD K tabs ps.length (semD C mu true body) vs H Q E from hsp)
      refine ⟨some a, O, st, ds, v, st', ?_, W, e, c⟩
      have := slots_start (N := C.N) (d := true) (a := a) (δ := some a) (fun _ => rfl) (by rw [List.length_cons] at hl; show 1 + _ ≤ _; omega) r
      exact this
    | false =>
      obtain ⟨hl, δ, O, st, ds, v, st', W, r, e, c⟩ := (show spM K tabs ps.length (semD C mu false body) vs H Q E from hsp)
      refine ⟨δ, O, st, ds, v, st', ?_, W, e, c⟩
      have := slots_start (N := C.N) (d := false) (a := 0) (δ := δ) (fun z => by cases z) (by show 0 + _ ≤ _; omega) r
      exact this
  obtain ⟨δ, O, st, ds, v, st', Sl, W, e, c⟩ := key
  obtain ⟨o, st1, e1, f1⟩ := bnd_some e
  obtain ⟨e2, rfl⟩ := up_some f1
  have ok : CfgOk (cxOf CX0 P w K mg base C.N qual C.sc (He.fAd K p) (.ref (He.codeOf K p)) A outer s H E).nox tabs C :=
    ⟨rfl, S.nd, rfl, rfl, fun _ _ => rfl, ⟨k, by rw [hg2]; exact hr, fun q hq => ⟨hA q hq⟩⟩, by rw [hci]; exact M.cis, by rw [hbl]; exact M.blts, fun hg => by
      obtain ⟨Pt, h1, h2⟩ := hT hg
      exact ⟨_, Pt, h1, h2, rfl⟩, fun z => by rw [hg2] at z; cases z⟩
  refine ⟨RdS K tabs δ O H (rdS (rd 40) C mu 30 body), PSs.nox (pss_rdS (good_rd 40) ok PassesOwn.never 30 body), O, startR C.N d ds, st, o, _, ⟨Lat2.refl, fun i dd a h1 h2 => ?_, W.own⟩, Sl, W, e1, ?_⟩
  · exfalso
    unfold startR at h1
    have hm := List.mem_of_getElem? h1
    rcases List.mem_append.mp hm with z | z
    · rcases List.mem_append.mp z with z | z
      · cases d with
        | true => simp at z
        | false => simp at z
      · obtain ⟨q, _, e⟩ := List.mem_map.mp z
        cases e
    · have := List.eq_of_mem_replicate z
      cases this
  · cases o with
    | nx ρ' =>
      cases e2
      exact fun O' σ' H' B' S' W' R' => c .non H' B'.lat.ext (W'.less W.dl B'.lat.up) .non
    | rt d' =>
      cases e2
      exact fun O' u H' L' W' r' => c u H' L'.ext (W'.less W.dl L'.up) (r'.mono (rds_less L'.up))
    | bk ρ' => cases e2
    | ct ρ' => cases e2
end
end Fo
/-! the law's own def, the law -/
namespace Fo
open PySem PySem.Spec PyProof.Rows L2
def cisOf (fa : List He.Fa) : List (PySem.Str × Int) := fa.filterMap fun
  | .int x i => some (x, i)
  | _ => none
def bltsOf (fa : List He.Fa) : List PySem.Str := fa.filterMap fun
  | .free x => some x
  | _ => none
section
variable {P : Program} {w : World} {K : PySem.W.Frag} {mg : Str → Option Value} {base : Heap} {tabs : Tb} {fns : List (PySem.Str × FnI)} {fa : List He.Fa} {fn : List He.DefD} {tf : List He.Defn} {ex : PySem.W.Frag → Bool} {h : Heap}
theorem fact_all (c : He.SaysX fa fn [] tf ex w h K) : ∀ f ∈ fa, f.ok K = true := fun f hf => by
  have c1 : (fa.all fun f => f.ok K) = true := (He.ba (show ((fa.all fun f => f.ok K) && fn.all fun d => d.ok K) = true from congrArg (fun z : He.AlD => z.1) c.t.d)).1
  exact List.all_eq_true.mp c1 f hf
def noGcd (fa : List He.Fa) : Bool := (bltsOf fa).all fun x => !(x == ("gcd" : PySem.Str))
theorem mdl_of (X : K.In base) (G : base.Ns mainGlobals mg) (c : He.SaysX fa fn [] tf ex w h K) (hn : noGcd fa = true) : Mdl K mg (cisOf fa) (bltsOf fa) := by
  refine ⟨fun p hp => ?_, fun x hx => ?_⟩
  · obtain ⟨f, hf, e⟩ := List.mem_filterMap.mp hp
    cases f <;> first | cases e | skip
    exact He.int_ok X G (fact_all c _ hf)
  · obtain ⟨f, hf, e⟩ := List.mem_filterMap.mp hx
    have hx2 := List.all_eq_true.mp hn x hx
    cases f <;> first | cases e | skip
    have e1 := He.free_ok X G (fact_all c _ hf)
    have e2 : (x == ("gcd" : PySem.Str)) = false := by simpa using hx2
    unfold bltAt
    rw [e2]
    exact e1
/-- with gcd of the module math -/
def exG (K : PySem.W.Frag) : Bool := He.eqO (PySem.W.nsIn K mainGlobals "gcd") (some (some (.builtin "math.gcd")))
theorem mdl_gcd (X : K.In base) (G : base.Ns mainGlobals mg) (c : He.SaysX fa fn [] tf exG w h K) (hn : noGcd fa = true) : Mdl K mg (cisOf fa) ("gcd" :: bltsOf fa) := by
  have M := mdl_of X G c hn
  refine ⟨M.cis, fun x hx => ?_⟩
  rcases List.mem_cons.mp hx with e | hx
  · subst e
    have e1 : exG K = true := c.more
    exact PySem.W.mg_of X G (He.eqO_ok e1)
  · exact M.blts x hx
theorem AllOk.add {k k2 : Nat} {cis : List (PySem.Str × Int)} {blts : List PySem.Str} {x : Str} {C : Cfg} {mu ps : List PySem.Str} {d : Bool} {params : Arguments} {body : List Stmt} {fd : FuncData} (hA : AllOk P w K mg base tabs k C.fns) (hk : k + 2 * C.gen.toNat + 1 ≤ k2) (M : Mdl K mg cis blts) (hci : C.cis = cis) (hbl : C.blts = blts) (hfn : ∀ x, C.fn x = true) (hg2 : C.gen2 = false)
    (F : FunD K x x params body C.sc [] [] (He.fAd K (x, none)) fd) (hb : Binds K fd ps []) (hm : mg x = some (.ref (He.fAd K (x, none)))) (S : FnScope C.N ps C.sc) (hT : C.gen = true → ∃ Pt, Pt ∈ tabs.l ∧ GxR.TabB base mg (He.codeOf K (x, none)) Pt) (hd : d = true → ps ≠ []) :
    AllOk P w K mg base tabs k2 ((x, ⟨d, ps.length, semD C mu d body⟩) :: C.fns) :=
  (hA.mono (by omega)).cons ⟨_, fd, ps, hm, F.kp, hb, fun m => (def_ok (tabs := ⟨tabs.l, m⟩) M hA hci hbl hfn hg2 F S hT hd).mono hk⟩
/-- what the law's def is asked for -/
def spLaw (K : PySem.W.Frag) (tabs : List Addr) (n : Nat) : Sp := fun vs H Q _ => ∃ (a : Addr) (ns : List Int), vs = [.ref a] ∧ SqL K H a (ns.map V.int) ∧ ns.length ≤ n ∧ (∀ z ∈ ns, Builtin.Int.intBits z ≤ 1048576) ∧ (∀ Pt ∈ tabs, H Pt = some (.tbl #[])) ∧ ∀ H', Q (.bl true) H'
def law0 (N : List PySem.Str) : Rho := none :: some .dr :: List.replicate (N.length - 2) none
theorem law_ok {k n : Nat} {cis : List (PySem.Str × Int)} {blts : List PySem.Str} {C : Cfg} {mu : List PySem.Str} {x y row : Str} {params : Arguments} {rest : List Stmt} {p : He.Defn} {fd : FuncData} {seed : Int} {px p1 p2 p3 p4 pl pos : Pos} {j1 j2 j3 : Nat} (M : Mdl K mg cis blts) (hA : AllOk P w K mg base tabs k C.fns) (hci : C.cis = cis) (hbl : C.blts = blts) (hfn : ∀ x, C.fn x = true) (hg2 : C.gen2 = false)
    (F : FunD K x x params (.Assign [.Name row px] (.List [.Name y p1, .Constant (.int 0) j1 p2, .Constant (.int seed) j2 p3, .Constant (.int 0) j3 p4] pl) pos :: rest) C.sc [] [] (He.fAd K p) fd) (S : FnScope C.N [y] C.sc) (hT : C.gen = true → ∃ Pt, Pt ∈ tabs.l ∧ GxR.TabB base mg (He.codeOf K p) Pt)
    (hm0 : tabs.m = []) (h0 : C.N[0]? = some y) (h1 : C.N[1]? = some row) (hy : visB C.sc y = true ∧ okNm y = true) (hrow : locB C.sc row = true)
    (hsem : ∀ ns : List Int, ns.length ≤ n → (∀ z ∈ ns, Builtin.Int.intBits z ≤ 1048576) → ∃ st', rdS (rd 40) C mu 30 rest (law0 C.N) ⟨ns, 0, seed, 0⟩ = some (.rt (.bool true), st')) :
    FnOk P w K mg base CX0 (k + 2 * C.gen.toNat + 1) (He.fAd K p) fd [y] (spLaw K tabs.l n) := by
  refine FunD.okC F S (fun vs H Q E h => ?_) fun A outer s H vs Q E hr hsp => ?_
  · obtain ⟨a, ns, rfl, _⟩ := h
    rfl
  obtain ⟨a, ns, rfl, hS, hl, hbits, htab, hQ⟩ := hsp
  obtain ⟨st', hm⟩ := hsem ns hl hbits
  have ok : CfgOk (cxOf CX0 P w K mg base C.N x C.sc (He.fAd K p) (.ref (He.codeOf K p)) A outer s H E).nox tabs C :=
    ⟨rfl, S.nd, rfl, rfl, fun _ _ => rfl, ⟨k, by rw [hg2]; exact hr, fun q hq => ⟨hA q hq⟩⟩, by rw [hci]; exact M.cis, by rw [hbl]; exact M.blts, fun hg => by
      obtain ⟨Pt, h1, h2⟩ := hT hg
      exact ⟨_, Pt, h1, h2, rfl⟩, fun z => by rw [hg2] at z; cases z⟩
  have vy : Vis C.sc y := vis_of hy.1
  have ny := hy.2
  unfold okNm at ny
  rw [Bool.and_eq_true, Bool.not_eq_true', Bool.not_eq_true'] at ny
  have hlen : 2 ≤ C.N.length := by
    have := (List.getElem?_eq_some_iff.mp h1).1
    omega
  let X := (cxOf CX0 P w K mg base C.N x C.sc (He.fAd K p) (.ref (He.codeOf K p)) A outer s H E).nox
  have hst : PS X (.Assign [.Name row px] (.List [.Name y p1, .Constant (.int 0) j1 p2, .Constant (.int seed) j2 p3, .Constant (.int 0) j3 p4] pl) pos) _ :=
    ps_set (X := X) (i := 1) S.nd h1 (loc_of hrow) (pe_lst (pa_cons (pe_var h0 vy ny.1 ny.2) (pa_cons pe_int (pa_cons pe_int (pa_cons pe_int pa_nil rfl) rfl) rfl) rfl)) (sw_none rfl) (.inl rfl)
  have hrs : PSs X rest (fun D σ H => ∃ δ O0 H0, RdS K tabs δ O0 H0 (rdS (rd 40) C mu 30 rest) D σ H) := ⟨fun pins s σ H D I ⟨δ, O0, H0, q⟩ => (pss_rdS (good_rd 40) ok PassesOwn.never 30 rest).run pins s σ H D I q⟩
  refine ⟨_, PSs.nox (pss_cons hst hrs), ?_⟩
  refine ⟨_, rfl, by show 4 ≤ sizeLine; exact Nat.le_trans (by decide) (line_le (Nat.le_refl _)), fun q hq => ?_⟩
  have rd1 : Rds H (mask (fun b => b = q) (L2.upd H q (.lst [.ref a, .int 0, .int seed, .int 0]))) := ⟨fun b o e _ => by
    have hb : b ≠ q := ne_of_none e hq
    exact mask_some.mpr ⟨hb, by rw [upd_ne hb]; exact e⟩⟩
  refine ⟨some q, fun b => b = q, L2.upd H q (.lst [.ref a, .int 0, .int seed, .int 0]), fun b => b = q, law0 C.N, ⟨ns, 0, seed, 0⟩, .rt (.bool true), st', ⟨Lat2.refl, fun i dd b h1 h2 => ?_, fun b hb => by rw [hb, upd_same]; exact fun z => nomatch z⟩, ?_, ⟨fun Pt hP => ?_, fun Pt hP => absurd hP (by rw [hm0]; simp), fun b hb => ?_, fun b hb => by rw [hb, upd_same]; exact fun z => nomatch z⟩, hm, ?_⟩
  · exfalso
    have hm := List.mem_of_getElem? h1
    unfold law0 at hm
    rcases List.mem_cons.mp hm with z | z
    · cases z
    · rcases List.mem_cons.mp z with z | z
      · cases z
      · cases List.eq_of_mem_replicate z
  · refine ⟨fun i en h => ?_, fun i j d e v hne h => ?_, ?_⟩
    · cases i with
      | zero => cases h
      | succ i =>
        cases i with
        | zero =>
          cases h
          refine ⟨.ref q, ?_, q, rfl, rfl⟩
          show ((L2.start C.N [V.ref a]).set 1 (some (V.ref q)))[1]? = _
          refine List.getElem?_set_self ?_
          unfold L2.start
          simp
          omega
        | succ i =>
          have h : (List.replicate (C.N.length - 2) (none : Option En))[i]? = some (some en) := h
          rw [List.getElem?_replicate] at h
          exact absurd h (ite_none _)
    · exfalso
      have hm := List.mem_of_getElem? h
      unfold law0 at hm
      rcases List.mem_cons.mp hm with z | z
      · cases z
      · rcases List.mem_cons.mp z with z | z
        · cases z
        · cases List.eq_of_mem_replicate z
    · show (law0 C.N).length = ((L2.start C.N [V.ref a]).set 1 (some (V.ref q))).length
      rw [List.length_set]
      unfold law0 L2.start
      simp
      omega
  · exact TabT.nil (by rw [upd_ne (ne_of_none (htab Pt hP) hq)]; exact htab Pt hP)
  · cases hb
    exact ⟨rfl, a, upd_same, rd1.seqL hS⟩
  · intro O' v H' L' W' r'
    cases r'
    exact hQ H'
/-- the law as the head wants it -/
theorem law_at {l : PySem.W.OpenLaw} {k n : Nat} {x : Str} {fAdr : Addr} {fd : FuncData} (KX : K.In h) (c : He.SaysX fa fn [] tf ex w h K) (hb : ∀ (s : Shared) (u : Value), BindsTo s fd ⟨[u], []⟩ [(x, u)])
    (hF : ∀ base : Heap, K.In base → base.Ns mainGlobals mg → (∀ p ∈ tf, GxR.TabB base mg (He.codeOf K p) (He.cT K p).2) → FnOk l.prog w K mg base CX0 k fAdr fd [x] (spLaw K (tf.map fun p => (He.cT K p).2) n)) : LamX.LawAtS l w K CX0 k n x mg fAdr h := by
  refine ⟨fd, tf.map (He.cT K), spLaw K (tf.map fun p => (He.cT K p).2) n, fun p hp => ?_, fun p hp => ?_, fun p hp => ?_, hb, fun H a ns hl hbits hH hS => ⟨a, ns, rfl, hS, hl, hbits, fun Pt hP => ?_, fun _ => rfl⟩, fun base X G hT => hF base X G fun p hp => ?_⟩
  · obtain ⟨q, hq, rfl⟩ := List.mem_map.mp hp
    exact c.empty q hq
  · obtain ⟨q, hq, rfl⟩ := List.mem_map.mp hp
    exact c.out q hq
  · obtain ⟨q, hq, rfl⟩ := List.mem_map.mp hp
    exact PySem.W.codeHd_of_K KX (c.hd q hq)
  · obtain ⟨q, hq, rfl⟩ := List.mem_map.mp hP
    exact hH _ (List.mem_map.mpr ⟨q, hq, rfl⟩)
  · have t := hT _ (List.mem_map.mpr ⟨p, hp, rfl⟩)
    exact ⟨t.code, t.bm, t.gP⟩
end
end Fo
/-! tools for the plain law -/
namespace Fo
open PySem PySem.Spec PyProof.Rows
theorem bnd_ap {α β : Type} (m : M α) (f : α → M β) (st : Dr) : (m >>= f) st = (m st).bind fun p => f p.1 p.2 := by
  show (StateT.bind m f st) = _
  unfold StateT.bind
  cases m st <;> rfl
theorem map_ap {α β : Type} (f : α → β) (m : M α) (st : Dr) : (f <$> m) st = (m st).map fun p => (f p.1, p.2) := by
  show (StateT.map f m st) = _
  unfold StateT.map
  cases m st <;> rfl
theorem pur_ap {α : Type} (a : α) (st : Dr) : (pure a : M α) st = some (a, st) := rfl
theorem up_ap {α : Type} (o : Option α) (st : Dr) : up o st = o.map fun a => (a, st) := rfl
theorem ob_some {α β : Type} (a : α) (f : α → Option β) : (some a).bind f = f a := rfl
theorem om_some {α β : Type} (a : α) (f : α → β) : (some a).map f = some (f a) := rfl
theorem ite_ap {α : Type} (c : Prop) [Decidable c] (m n : M α) (st : Dr) : (if c then m else n) st = if c then m st else n st := by split <;> rfl
theorem cmp_i (op : CmpOp) (a b : Int) : cmpV op (.int a) (.int b) = some (.bool (cmpI op a b)) := rfl
theorem cG_lt (a b : Int) : cmpG .Lt (.int a) (.int b) = some (.bool (decide (a < b))) := rfl
theorem cG_le (a b : Int) : cmpG .LtE (.int a) (.int b) = some (.bool (decide (a ≤ b))) := rfl
theorem cG_gt (a b : Int) : cmpG .Gt (.int a) (.int b) = some (.bool (decide (b < a))) := rfl
theorem cG_ge (a b : Int) : cmpG .GtE (.int a) (.int b) = some (.bool (decide (b ≤ a))) := rfl
theorem cG_eq (a b : Int) : cmpG .Eq (.int a) (.int b) = some (.bool (decide (a = b))) := by
  show some (PyData.bool (PyData.eqv (.int a) (.int b))) = _
  rfl
theorem cG_ne (a b : Int) : cmpG .NotEq (.int a) (.int b) = some (.bool (!decide (a = b))) := rfl
theorem add_i (a b : Int) : addV (.int a) (.int b) = some (.int (a + b)) := rfl
theorem sub_i (a b : Int) : subV (.int a) (.int b) = some (.int (a - b)) := rfl
theorem at0 {α : Type} (a : α) (l : List α) : L2.atI (a :: l) 0 = some a := by
  unfold L2.atI L2.ixN
  simp
theorem atN {α : Type} {l : List α} {i : Int} {a : α} (h0 : 0 ≤ i) (h : l[i.toNat]? = some a) : L2.atI l i = some a := by
  have hl := (List.getElem?_eq_some_iff.mp h).1
  unfold L2.atI L2.ixN
  rw [if_pos h0, if_pos (by omega)]
  exact h
theorem at1 {α : Type} (a b : α) (l : List α) : L2.atI (a :: b :: l) 1 = some b := atN (by decide) rfl
theorem forGo_inv {t : Tg} {b : SemS} (I : List PyData → Rho → Dr → Prop) (h : ∀ d ds ρ st, I (d :: ds) ρ st → ∃ ρ1 ρ2 st2, storeT t d ρ = some ρ1 ∧ b ρ1 st = some (.nx ρ2, st2) ∧ I ds ρ2 st2) : ∀ ds ρ st, I ds ρ st → ∃ ρ' st', forGo t b ds ρ st = some (.nx ρ', st') ∧ I [] ρ' st'
  | [], ρ, st, q => ⟨ρ, st, rfl, q⟩
  | d :: ds, ρ, st, q => by
    obtain ⟨ρ1, ρ2, st2, h1, h2, h3⟩ := h d ds ρ st q
    obtain ⟨ρ', st', k1, k2⟩ := forGo_inv I h ds ρ2 st2 h3
    refine ⟨ρ', st', ?_, k2⟩
    unfold forGo
    simp only [bnd_ap, up_ap, h1, h2, om_some, ob_some]
    exact k1
theorem gxGo_spec {k : Bool} {tg : Tg} {tt : SemB} {te : Sem1} {ρ : Rho} {st : Dr} (f : PyData → Bool) : ∀ ds, (∀ d ∈ ds, ∃ ρ1, storeT tg d ρ = some ρ1 ∧ tt ρ1 st = some (true, st) ∧ te ρ1 st = some (.bool (f d), st)) → gxGo k tg tt te ρ ds st = some (.bool (if k then ds.any f else ds.all f), st)
  | [], _ => by cases k <;> rfl
  | d :: ds, h => by
    obtain ⟨ρ1, h1, h2, h3⟩ := h d (List.mem_cons_self ..)
    have ih := gxGo_spec (k := k) f ds fun x hx => h x (List.mem_cons_of_mem _ hx)
    unfold gxGo
    simp only [bnd_ap, up_ap, h1, h2, h3, om_some, ob_some, ite_ap, if_true, gxGo.truB, pur_ap, ih]
    cases k <;> cases e : f d <;> simp [e]
theorem lcGo_spec {tg : Tg} {tt : SemB} {te : Sem1} {ρ : Rho} {st : Dr} (f : PyData → Bool) (g : PyData → PyData) : ∀ ds, (∀ d ∈ ds, ∃ ρ1, storeT tg d ρ = some ρ1 ∧ tt ρ1 st = some (f d, st) ∧ (f d = true → te ρ1 st = some (g d, st))) → lcGo tg tt te ρ ds st = some ((ds.filter f).map g, st)
  | [], _ => rfl
  | d :: ds, h => by
    obtain ⟨ρ1, h1, h2, h3⟩ := h d (List.mem_cons_self ..)
    have ih := lcGo_spec f g ds fun x hx => h x (List.mem_cons_of_mem _ hx)
    unfold lcGo
    simp only [bnd_ap, up_ap, h1, h2, om_some, ob_some, ite_ap, ih]
    cases e : f d with
    | true =>
      rw [h3 e]
      simp [e, ob_some, pur_ap, ih]
    | false => simp [e]
/-! ### steps -/
theorem ev_def {t : SemS} {ρ : Rho} {st st1 : Dr} {o : Out} {v : PyData} (h : t ρ st = some (o, st1)) (h2 : outD o = some v) : (do let o ← t ρ; up (outD o) : M PyData) st = some (v, st1) := by
  rw [bnd_ap, h, ob_some]
  show up (outD o) st1 = _
  rw [h2]
  rfl
theorem ev_seq {a b : SemS} {ρ ρ1 : Rho} {st st1 : Dr} {r : Option (Out × Dr)} (h : a ρ st = some (.nx ρ1, st1)) (h2 : b ρ1 st1 = r) : seqS a b ρ st = r := by
  show (a ρ >>= _) st = r
  rw [bnd_ap, h, ob_some]
  exact h2
theorem ev_seqR {a b : SemS} {ρ : Rho} {st st1 : Dr} {d : PyData} (h : a ρ st = some (.rt d, st1)) : seqS a b ρ st = some (.rt d, st1) := by
  show (a ρ >>= _) st = _
  rw [bnd_ap, h, ob_some]
  rfl
theorem ev_rt {m : Sem1} {ρ : Rho} {st st1 : Dr} {v : PyData} (h : m ρ st = some (v, st1)) : rtS m ρ st = some (.rt v, st1) := by
  show (m ρ >>= _) st = _
  rw [bnd_ap, h, ob_some]
  rfl
theorem ev_ex {m : Sem1} {ρ : Rho} {st st1 : Dr} {v : PyData} (h : m ρ st = some (v, st1)) : exS m ρ st = some (.nx ρ, st1) := by
  show (m ρ >>= _) st = _
  rw [bnd_ap, h, ob_some]
  rfl
theorem ev_asg {m : Sem1} {t : Tg} {ρ ρ1 : Rho} {st st1 : Dr} {v : PyData} (h : m ρ st = some (v, st1)) (h2 : storeT t v ρ = some ρ1) : asgS m t ρ st = some (.nx ρ1, st1) := by
  show (m ρ >>= _) st = _
  rw [bnd_ap, h, ob_some]
  show (up (storeT t v ρ) >>= _) st1 = _
  rw [bnd_ap, h2]
  rfl
theorem ev_ifT {c : SemB} {a b : SemS} {ρ : Rho} {st st1 : Dr} {r : Option (Out × Dr)} (h : c ρ st = some (true, st1)) (h2 : a ρ st1 = r) : ifS c a b ρ st = r := by
  show (c ρ >>= _) st = _
  rw [bnd_ap, h, ob_some]
  exact h2
theorem ev_ifF {c : SemB} {a b : SemS} {ρ : Rho} {st st1 : Dr} {r : Option (Out × Dr)} (h : c ρ st = some (false, st1)) (h2 : b ρ st1 = r) : ifS c a b ρ st = r := by
  show (c ρ >>= _) st = _
  rw [bnd_ap, h, ob_some]
  exact h2
theorem ev_for {it : SemL} {t : Tg} {b : SemS} {ρ : Rho} {st st1 : Dr} {ds : List PyData} {r : Option (Out × Dr)} (h : it ρ st = some (ds, st1)) (h2 : forGo t b ds ρ st1 = r) : forS it t b ρ st = r := by
  show (it ρ >>= _) st = _
  rw [bnd_ap, h, ob_some]
  exact h2
theorem ev_call {f : SemF} {r : SemL} {ρ : Rho} {st st1 : Dr} {ds : List PyData} {o : Option (PyData × Dr)} (h : r ρ st = some (ds, st1)) (h2 : f ds st1 = o) : callR f r ρ st = o := by
  show (r ρ >>= _) st = _
  rw [bnd_ap, h, ob_some]
  exact h2
theorem ev_callD {f : SemF} {r : SemL} {i : Nat} {ρ : Rho} {st st1 : Dr} {ds : List PyData} {o : Option (PyData × Dr)} (hi : ρ[i]? = some (some .dr)) (h : r ρ st = some (ds, st1)) (h2 : f ds st1 = o) : callD f i r ρ st = o := by
  show (up (drO ρ[i]?) >>= _) st = _
  rw [bnd_ap, hi]
  show (r ρ >>= _) st = _
  rw [bnd_ap, h, ob_some]
  exact h2
theorem ev_blt {g : List PyData → Option PyData} {r : SemL} {ρ : Rho} {st st1 : Dr} {ds : List PyData} {v : PyData} (h : r ρ st = some (ds, st1)) (h2 : g ds = some v) : bltR g r ρ st = some (v, st1) := by
  show (r ρ >>= _) st = _
  rw [bnd_ap, h, ob_some]
  show up (g ds) st1 = _
  rw [h2]
  rfl
theorem ev_bin {g : PyData → PyData → Option PyData} {a b : Sem1} {ρ : Rho} {st st1 st2 : Dr} {x y v : PyData} (h : a ρ st = some (x, st1)) (h2 : b ρ st1 = some (y, st2)) (h3 : g x y = some v) : binR g a b ρ st = some (v, st2) := by
  show (a ρ >>= _) st = _
  rw [bnd_ap, h, ob_some]
  show (b ρ >>= _) st1 = _
  rw [bnd_ap, h2, ob_some]
  show up (g x y) st2 = _
  rw [h3]
  rfl
theorem ev_nil {ρ : Rho} {st : Dr} : nilR ρ st = some ([], st) := rfl
theorem ev_cons {m : Sem1} {r : SemL} {ρ : Rho} {st st1 st2 : Dr} {v : PyData} {ds : List PyData} (h : m ρ st = some (v, st1)) (h2 : r ρ st1 = some (ds, st2)) : consR m r ρ st = some (v :: ds, st2) := by
  show (m ρ >>= _) st = _
  rw [bnd_ap, h, ob_some]
  show (r ρ >>= _) st1 = _
  rw [bnd_ap, h2, ob_some]
  rfl
theorem ev_len {n : Nat} {r : SemL} {ρ : Rho} {st st1 : Dr} {ds : List PyData} (h : r ρ st = some (ds, st1)) (h2 : ds.length = n) : lenR n r ρ st = some (ds, st1) := by
  show (r ρ >>= _) st = _
  rw [bnd_ap, h, ob_some]
  show (if ds.length = n then pure ds else up none : M (List PyData)) st1 = _
  rw [if_pos h2]
  rfl
theorem ev_va {i : Nat} {ρ : Rho} {st : Dr} {v : PyData} (h : ρ[i]? = some (some (.va v))) : vaR i ρ st = some (v, st) := by
  show up (vaO ρ[i]?) st = _
  rw [h]
  rfl
theorem ev_tv {i : Nat} {ρ : Rho} {st : Dr} {v : PyData} (h : ρ[i]? = some (some (.va v))) : tvR i ρ st = some (v, st) := by
  show up (tvO ρ[i]?) st = _
  rw [h]
  rfl
theorem ev_cst {v : PyData} {ρ : Rho} {st : Dr} : cstR v ρ st = some (v, st) := rfl
theorem ev_tst {m : Sem1} {ρ : Rho} {st st1 : Dr} {v : PyData} {b : Bool} (h : m ρ st = some (v, st1)) (h2 : truV v = some b) : tstR m ρ st = some (b, st1) := by
  show (m ρ >>= _) st = _
  rw [bnd_ap, h, ob_some]
  show up (truV v) st1 = _
  rw [h2]
  rfl
theorem ev_disp {f : List PyData → PyData} {r : SemL} {ρ : Rho} {st st1 : Dr} {ds : List PyData} (h : r ρ st = some (ds, st1)) (h2 : ds.length ≤ 1000000) : dispR f r ρ st = some (f ds, st1) := by
  show (r ρ >>= _) st = _
  rw [bnd_ap, h, ob_some]
  show up (mkO f ds) st1 = _
  unfold mkO
  rw [if_pos h2]
  rfl
theorem ev_items {m : Sem1} {ρ : Rho} {st st1 : Dr} {v : PyData} {ds : List PyData} (h : m ρ st = some (v, st1)) (h2 : itemsO v = some ds) : itemsR m ρ st = some (ds, st1) := by
  show (m ρ >>= _) st = _
  rw [bnd_ap, h, ob_some]
  show up (itemsO v) st1 = _
  rw [h2]
  rfl
theorem ev_rng {r : SemL} {ρ : Rho} {st st1 : Dr} {as ds : List PyData} (h : r ρ st = some (as, st1)) (h2 : rangeO as = some ds) : rngR r ρ st = some (ds, st1) := by
  show (r ρ >>= _) st = _
  rw [bnd_ap, h, ob_some]
  show up (rangeO as) st1 = _
  rw [h2]
  rfl
theorem ev_lc {it : SemL} {tg : Tg} {vs : List Nat} {tt : SemB} {te : Sem1} {ρ : Rho} {st st1 st2 : Dr} {ds out : List PyData} (h : it ρ st = some (ds, st1)) (hl : ds.length ≤ 1000000) (h2 : lcGo tg tt te (wipeR ρ vs) ds st1 = some (out, st2)) : lcR it tg vs tt te ρ st = some (.list out, st2) := by
  show (it ρ >>= _) st = _
  rw [bnd_ap, h, ob_some]
  show (up (if ds.length ≤ 1000000 then some ds else none) >>= _) st1 = _
  rw [bnd_ap, if_pos hl]
  show (lcGo tg tt te (wipeR ρ vs) ds >>= _) st1 = _
  rw [bnd_ap, h2, ob_some]
  rfl
theorem ev_gx {k : Bool} {it : SemL} {tg : Tg} {vs : List Nat} {tt : SemB} {te : Sem1} {ρ : Rho} {st st1 : Dr} {ds : List PyData} {r : Option (PyData × Dr)} (h : it ρ st = some (ds, st1)) (h2 : gxGo k tg tt te (wipeR ρ vs) ds st1 = r) : gxR k it tg vs tt te ρ st = r := by
  show (it ρ >>= _) st = _
  rw [bnd_ap, h, ob_some]
  exact h2
theorem ev_dr {i : Nat} {k n : Int} {ρ : Rho} {st : Dr} (h : ρ[i]? = some (some .dr)) (h2 : drK st k = some n) : drR i k ρ st = some (.int n, st) := by
  unfold drR
  rw [h, h2]
  rfl
theorem ev_drLen {i : Nat} {ρ : Rho} {st : Dr} (h : ρ[i]? = some (some .dr)) : drLen i ρ st = some (.int st.sc.length, st) := by
  unfold drLen
  rw [h]
  rfl
theorem ev_drGet {i : Nat} {m : Sem1} {k n : Int} {ρ : Rho} {st st1 : Dr} (h : ρ[i]? = some (some .dr)) (h1 : m ρ st = some (.int k, st1)) (h2 : L2.atI st.sc k = some n) : drGet i m ρ st = some (.int n, st1) := by
  unfold drGet
  rw [h, h1]
  show (L2.atI st.sc k).map _ = _
  rw [h2]
  rfl
theorem ev_drSet {i : Nat} {k : Int} {m : Sem1} {d : PyData} {ρ : Rho} {st st1 st2 : Dr} (h : ρ[i]? = some (some .dr)) (h1 : m ρ st = some (d, st1)) (h2 : drPut st1 k d = some st2) : drSet i k m ρ st = some (.nx ρ, st2) := by
  unfold drSet
  rw [h1, h]
  show (drPut st1 k d).map _ = _
  rw [h2]
  rfl
theorem mod_i {a b : Int} (h : 0 < b) : modV (.int a) (.int b) = some (.int (a % b)) := by
  unfold modV intV
  simp [h]
theorem fdiv_i {a b : Int} (h : 0 < b) (h2 : b < 2 ^ 64) : fdivV (.int a) (.int b) = some (.int (a / b)) := by
  have h3 : b.natAbs.log2 < 9000 := by
    have : b.natAbs.log2 < 64 := (Nat.log2_lt (by omega)).mpr (by omega)
    omega
  unfold fdivV intV
  simp [h, h3]
theorem log_small {a : Int} (h : a.natAbs < 2 ^ 64) : a.natAbs.log2 < 64 := by
  by_cases h0 : a.natAbs = 0
  · rw [h0]; decide
  · exact (Nat.log2_lt h0).mpr h
theorem mul_i {a b : Int} (h : a.natAbs < 2 ^ 64) (h2 : b.natAbs < 2 ^ 64) : mulW (.int a) (.int b) = some (.int (a * b)) := by
  have h3 := log_small h
  have h4 := log_small h2
  have h5 : a.natAbs.log2 + b.natAbs.log2 < 1000000 := by omega
  show mulI (.int a) (.int b) = _
  unfold mulI intV
  simp [h5]
/-! ### the draws are plain -/
structure Gd (st : Dr) : Prop where
  i : 0 ≤ st.i
  s : 0 ≤ st.s
  s2 : st.s < 2147483647
theorem ev_app {i : Nat} {m : Sem1} {d : PyData} {ρ ρ1 : Rho} {st st1 : Dr} (h : m ρ st = some (d, st1)) (h2 : appO ρ i d = some ρ1) : appS i m ρ st = some (.nx ρ1, st1) := by
  show (m ρ >>= _) st = _
  rw [bnd_ap, h, ob_some]
  show (up (appO ρ i d) >>= _) st1 = _
  rw [bnd_ap, h2]
  rfl
theorem ev_par {is : List Nat} {r : SemE} {ens : List En} {ρ : Rho} {st st1 : Dr} (h : r ρ st = some (ens, st1)) (h2 : ens.length = is.length) : parS is r ρ st = some (.nx (storeE ρ is ens), st1) := by
  show (r ρ >>= _) st = _
  rw [bnd_ap, h, ob_some]
  show (if ens.length = is.length then pure (Out.nx (storeE ρ is ens)) else up none : M Out) st1 = _
  rw [if_pos h2]
  rfl
theorem ev_nilE {ρ : Rho} {st : Dr} : nilE ρ st = some ([], st) := rfl
theorem ev_vaE {m : Sem1} {r : SemE} {ρ : Rho} {st st1 st2 : Dr} {v : PyData} {es : List En} (h : m ρ st = some (v, st1)) (h2 : r ρ st1 = some (es, st2)) : vaE m r ρ st = some (.va v :: es, st2) := by
  show (m ρ >>= _) st = _
  rw [bnd_ap, h, ob_some]
  show (r ρ >>= _) st1 = _
  rw [bnd_ap, h2]
  rfl
theorem ev_owE {m : Sem1} {r : SemE} {ρ : Rho} {st st1 st2 : Dr} {v : PyData} {es : List En} (h : m ρ st = some (v, st1)) (h2 : r ρ st1 = some (es, st2)) : owE m r ρ st = some (.ow v :: es, st2) := by
  show (m ρ >>= _) st = _
  rw [bnd_ap, h, ob_some]
  show (r ρ >>= _) st1 = _
  rw [bnd_ap, h2]
  rfl
theorem ev_tvo {i : Nat} {ρ : Rho} {st : Dr} {v : PyData} (h : ρ[i]? = some (some (.ow v))) : tvR i ρ st = some (v, st) := by
  show up (tvO ρ[i]?) st = _
  rw [h]
  rfl
/-! ### a test comes out, some way -/
def TotB (c : SemB) (ρ : Rho) (st : Dr) : Prop := ∃ b st', c ρ st = some (b, st') ∧ Gd st'
theorem totB_and {a b : SemB} {ρ : Rho} {st : Dr} (h : TotB a ρ st) (h2 : ∀ st', Gd st' → TotB b ρ st') : TotB (andB a b) ρ st := by
  obtain ⟨x, st1, e1, g1⟩ := h
  obtain ⟨y, st2, e2, g2⟩ := h2 st1 g1
  cases x with
  | true =>
    refine ⟨y, st2, ?_, g2⟩
    show (a ρ >>= _) st = _
    rw [bnd_ap, e1]
    exact e2
  | false =>
    refine ⟨false, st1, ?_, g1⟩
    show (a ρ >>= _) st = _
    rw [bnd_ap, e1]
    rfl
theorem totB_or {a b : SemB} {ρ : Rho} {st : Dr} (h : TotB a ρ st) (h2 : ∀ st', Gd st' → TotB b ρ st') : TotB (orB a b) ρ st := by
  obtain ⟨x, st1, e1, g1⟩ := h
  obtain ⟨y, st2, e2, g2⟩ := h2 st1 g1
  cases x with
  | false =>
    refine ⟨y, st2, ?_, g2⟩
    show (a ρ >>= _) st = _
    rw [bnd_ap, e1]
    exact e2
  | true =>
    refine ⟨true, st1, ?_, g1⟩
    show (a ρ >>= _) st = _
    rw [bnd_ap, e1]
    rfl
theorem totB_tst {m : Sem1} {ρ : Rho} {st st' : Dr} {b : Bool} (h : m ρ st = some (.bool b, st')) (g : Gd st') : TotB (tstR m) ρ st := ⟨b, st', ev_tst h rfl, g⟩
def TotV (m : Sem1) (ρ : Rho) (st : Dr) : Prop := ∃ b, m ρ st = some (.bool b, st)
theorem totV_and {a b : Sem1} {ρ : Rho} {st : Dr} (h : TotV a ρ st) (h2 : TotV b ρ st) : TotV (andR a b) ρ st := by
  obtain ⟨x, e1⟩ := h
  obtain ⟨y, e2⟩ := h2
  cases x with
  | true =>
    refine ⟨y, ?_⟩
    show (a ρ >>= _) st = _
    rw [bnd_ap, e1]
    exact e2
  | false =>
    refine ⟨false, ?_⟩
    show (a ρ >>= _) st = _
    rw [bnd_ap, e1]
    rfl
theorem totV_or {a b : Sem1} {ρ : Rho} {st : Dr} (h : TotV a ρ st) (h2 : TotV b ρ st) : TotV (orR a b) ρ st := by
  obtain ⟨x, e1⟩ := h
  obtain ⟨y, e2⟩ := h2
  cases x with
  | false =>
    refine ⟨y, ?_⟩
    show (a ρ >>= _) st = _
    rw [bnd_ap, e1]
    exact e2
  | true =>
    refine ⟨true, ?_⟩
    show (a ρ >>= _) st = _
    rw [bnd_ap, e1]
    rfl
theorem rngD_zero (lo : Int) : rngD lo 1 0 = [] := rfl
theorem rngD_succ (lo : Int) (m : Nat) : rngD lo 1 (m + 1) = .int lo :: rngD (lo + 1) 1 m := by
  unfold rngD
  rw [List.range_succ_eq_map, List.map_cons, List.map_map]
  congr 1
  · simp
  · refine List.map_congr_left fun k _ => ?_
    simp only [Function.comp]
    congr 1
    omega
theorem log_big {a : Int} (h : a.natAbs < 2 ^ 1000) : a.natAbs.log2 < 1000 := by
  by_cases h0 : a.natAbs = 0
  · rw [h0]; decide
  · exact (Nat.log2_lt h0).mpr h
theorem mul_j {a b : Int} (h : a.natAbs < 2 ^ 1000) (h2 : b.natAbs < 2 ^ 1000) : mulW (.int a) (.int b) = some (.int (a * b)) := by
  have h3 := log_big h
  have h4 := log_big h2
  have h5 : a.natAbs.log2 + b.natAbs.log2 < 1000000 := by omega
  show mulI (.int a) (.int b) = _
  unfold mulI intV
  simp [h5]
theorem ev_chn {g g' : PyData → PyData → Option PyData} {a b c : Sem1} {ρ : Rho} {st st1 st2 st3 : Dr} {x y z v : PyData} (h : a ρ st = some (x, st1)) (h2 : b ρ st1 = some (y, st2)) (h3 : g x y = some (.bool true)) (h4 : c ρ st2 = some (z, st3)) (h5 : g' y z = some v) : chnR g g' a b c ρ st = some (v, st3) := by
  show (a ρ >>= _) st = _
  rw [bnd_ap, h, ob_some]
  show (b ρ >>= _) st1 = _
  rw [bnd_ap, h2, ob_some]
  show (up (g x y) >>= _) st2 = _
  rw [bnd_ap, h3]
  show (c ρ >>= _) st2 = _
  rw [bnd_ap, h4, ob_some]
  show up (g' y z) st3 = _
  rw [h5]
  rfl
theorem ev_orF {a b : SemB} {ρ : Rho} {st st1 : Dr} {o : Option (Bool × Dr)} (h : a ρ st = some (false, st1)) (h2 : b ρ st1 = o) : orB a b ρ st = o := by
  show (a ρ >>= _) st = _
  rw [bnd_ap, h]
  exact h2
theorem ev_andT {a b : SemB} {ρ : Rho} {st st1 : Dr} {o : Option (Bool × Dr)} (h : a ρ st = some (true, st1)) (h2 : b ρ st1 = o) : andB a b ρ st = o := by
  show (a ρ >>= _) st = _
  rw [bnd_ap, h]
  exact h2
theorem ev_andF {a b : SemB} {ρ : Rho} {st st1 : Dr} (h : a ρ st = some (false, st1)) : andB a b ρ st = some (false, st1) := by
  show (a ρ >>= _) st = _
  rw [bnd_ap, h]
  rfl
theorem ne_no {a b : Int} (h : a = b) : cmpG .NotEq (.int a) (.int b) = some (.bool false) := by
  rw [cG_ne, h]
  simp
end Fo
/-! combinators, evaluated by rewriting: no binders -/
namespace Fo
open PySem PySem.Spec PyProof.Rows
abbrev R1 := Option (PyData × Dr)
abbrev RO := Option (Out × Dr)
abbrev RL := Option (List PyData × Dr)
abbrev RB := Option (Bool × Dr)
abbrev RE := Option (List En × Dr)
def kSeq : RO → SemS → RO
  | some (.nx ρ, st), b => b ρ st
  | o, _ => o
def kUp : Option PyData → Dr → R1
  | some v, st => some (v, st)
  | none, _ => none
def kUpB : Option Bool → Dr → RB
  | some v, st => some (v, st)
  | none, _ => none
def kUpR : Option Rho → Dr → RO
  | some ρ, st => some (.nx ρ, st)
  | none, _ => none
def kAsg : R1 → Tg → Rho → RO
  | some (v, st), t, ρ => kUpR (storeT t v ρ) st
  | none, _, _ => none
def kOwn : R1 → Nat → Rho → RO
  | some (v, st), i, ρ => some (.nx (ρ.set i (some (.ow v))), st)
  | none, _, _ => none
def kIf : RB → SemS → SemS → Rho → RO
  | some (true, st), a, _, ρ => a ρ st
  | some (false, st), _, b, ρ => b ρ st
  | none, _, _, _ => none
def kRt : R1 → RO
  | some (v, st) => some (.rt v, st)
  | none => none
def kEx : R1 → Rho → RO
  | some (_, st), ρ => some (.nx ρ, st)
  | none, _ => none
def kApp : R1 → Nat → Rho → RO
  | some (v, st), i, ρ => kUpR (appO ρ i v) st
  | none, _, _ => none
def kFor : RL → Tg → SemS → Rho → RO
  | some (ds, st), t, b, ρ => forGo t b ds ρ st
  | none, _, _, _ => none
def kPar : RE → List Nat → Rho → RO
  | some (ens, st), is, ρ => if ens.length = is.length then some (.nx (storeE ρ is ens), st) else none
  | none, _, _ => none
def kSet2 : R1 → Nat → PyData → Rho → RO
  | some (k, st), i, d, ρ => kUpR (setO ρ i k d) st
  | none, _, _, _ => none
def kSet : R1 → Nat → Sem1 → Rho → RO
  | some (d, st), i, mk, ρ => kSet2 (mk ρ st) i d ρ
  | none, _, _, _ => none
def kBin2 (g : PyData → PyData → Option PyData) (x : PyData) : R1 → R1
  | some (y, st) => kUp (g x y) st
  | none => none
def kBin (g : PyData → PyData → Option PyData) : R1 → Sem1 → Rho → R1
  | some (x, st), b, ρ => kBin2 g x (b ρ st)
  | none, _, _ => none
def kUn (g : PyData → Option PyData) : R1 → R1
  | some (x, st) => kUp (g x) st
  | none => none
def kThen : PyData → Sem1 → Rho → Dr → R1
  | .bool true, m, ρ, st => m ρ st
  | .bool false, _, _, st => some (.bool false, st)
  | _, _, _, _ => none
def kElse : PyData → Sem1 → Rho → Dr → R1
  | .bool false, m, ρ, st => m ρ st
  | .bool true, _, _, st => some (.bool true, st)
  | _, _, _, _ => none
def kAnd : R1 → Sem1 → Rho → R1
  | some (x, st), b, ρ => kThen x b ρ st
  | none, _, _ => none
def kOr : R1 → Sem1 → Rho → R1
  | some (x, st), b, ρ => kElse x b ρ st
  | none, _, _ => none
def kTst : R1 → RB
  | some (x, st) => kUpB (truV x) st
  | none => none
def kAndB : RB → SemB → Rho → RB
  | some (true, st), b, ρ => b ρ st
  | some (false, st), _, _ => some (false, st)
  | none, _, _ => none
def kOrB : RB → SemB → Rho → RB
  | some (false, st), b, ρ => b ρ st
  | some (true, st), _, _ => some (true, st)
  | none, _, _ => none
def kNotB : RB → RB
  | some (b, st) => some (!b, st)
  | none => none
def kIte : RB → Sem1 → Sem1 → Rho → R1
  | some (true, st), a, _, ρ => a ρ st
  | some (false, st), _, b, ρ => b ρ st
  | none, _, _, _ => none
def kDisp (f : List PyData → PyData) : RL → R1
  | some (ds, st) => kUp (mkO f ds) st
  | none => none
def kCons2 (x : PyData) : RL → RL
  | some (xs, st) => some (x :: xs, st)
  | none => none
def kCons : R1 → SemL → Rho → RL
  | some (x, st), r, ρ => kCons2 x (r ρ st)
  | none, _, _ => none
def kStar2 (ds : List PyData) : RL → RL
  | some (xs, st) => some (ds ++ xs, st)
  | none => none
def kStar1 : Option (List PyData) → SemL → Rho → Dr → RL
  | some ds, r, ρ, st => kStar2 ds (r ρ st)
  | none, _, _, _ => none
def kStar : R1 → SemL → Rho → RL
  | some (x, st), r, ρ => kStar1 (itemsO x) r ρ st
  | none, _, _ => none
def kLen (n : Nat) : RL → RL
  | some (ds, st) => if ds.length = n then some (ds, st) else none
  | none => none
def kCall (f : SemF) : RL → R1
  | some (ds, st) => f ds st
  | none => none
def kBlt (g : List PyData → Option PyData) : RL → R1
  | some (ds, st) => kUp (g ds) st
  | none => none
def kUpO : Option (Option Int) → Dr → Option (Option Int × Dr)
  | some v, st => some (v, st)
  | none, _ => none
def kSome : R1 → Option (Option Int × Dr)
  | some (x, st) => kUpO (intO x) st
  | none => none
def kSlc2 (x : PyData) (l : Option Int) : Option (Option Int × Dr) → R1
  | some (h, st) => kUp (slcV x l h) st
  | none => none
def kSlc1 (x : PyData) : Option (Option Int × Dr) → SemO → Rho → R1
  | some (l, st), mh, ρ => kSlc2 x l (mh ρ st)
  | none, _, _ => none
def kSlc : R1 → SemO → SemO → Rho → R1
  | some (x, st), ml, mh, ρ => kSlc1 x (ml ρ st) mh ρ
  | none, _, _, _ => none
def kUpL : Option (List PyData) → Dr → RL
  | some v, st => some (v, st)
  | none, _ => none
def kItems : R1 → RL
  | some (x, st) => kUpL (itemsO x) st
  | none => none
def kRng : RL → RL
  | some (x, st) => kUpL (rangeO x) st
  | none => none
def kLc2 : RL → R1
  | some (x, st) => some (.list x, st)
  | none => none
def kLc : RL → Tg → List Nat → SemB → Sem1 → Rho → R1
  | some (ds, st), tg, vs, tt, te, ρ => if ds.length ≤ 1000000 then kLc2 (lcGo tg tt te (wipeR ρ vs) ds st) else none
  | none, _, _, _, _, _ => none
def kGx (k : Bool) : RL → Tg → List Nat → SemB → Sem1 → Rho → R1
  | some (ds, st), tg, vs, tt, te, ρ => gxGo k tg tt te (wipeR ρ vs) ds st
  | none, _, _, _, _, _ => none
def kSg : RL → Tg → List Nat → SemB → Sem1 → Rho → R1
  | some (ds, st), tg, vs, tt, te, ρ => sgGo tg tt te (wipeR ρ vs) 0 ds st
  | none, _, _, _, _, _ => none
def kVaE2 (x : En) : RE → RE
  | some (xs, st) => some (x :: xs, st)
  | none => none
def kVaE : R1 → SemE → Rho → RE
  | some (x, st), r, ρ => kVaE2 (.va x) (r ρ st)
  | none, _, _ => none
def kOwE : R1 → SemE → Rho → RE
  | some (x, st), r, ρ => kVaE2 (.ow x) (r ρ st)
  | none, _, _ => none
def kDr : Option Unit → SemF → SemL → Rho → Dr → R1
  | some _, f, r, ρ, st => kCall f (r ρ st)
  | none, _, _, _, _ => none
def kWh2 : RO → SemB → SemS → Nat → RO
  | some (.nx ρ, st), c, b, n => whileS c b n ρ st
  | some (.ct ρ, st), c, b, n => whileS c b n ρ st
  | some (.bk ρ, st), _, _, _ => some (.nx ρ, st)
  | some (.rt d, st), _, _, _ => some (.rt d, st)
  | none, _, _, _ => none
def kWh : RB → SemB → SemS → Nat → Rho → RO
  | some (true, st), c, b, n, ρ => kWh2 (b ρ st) c b n
  | some (false, st), _, _, _, ρ => some (.nx ρ, st)
  | none, _, _, _, _ => none
def kOut : RO → R1
  | some (.rt v, st) => some (v, st)
  | some (.nx _, st) => some (.none, st)
  | _ => none
section
variable {a b : SemS} {m m2 m3 : Sem1} {c c2 : SemB} {r : SemL} {re : SemE} {ρ ρ1 : Rho} {st st1 : Dr} {t : Tg} {i : Nat} {x y v d : PyData} {f : SemF} {g : PyData → PyData → Option PyData} {g1 : PyData → Option PyData} {gl : List PyData → Option PyData}
theorem kup {α β : Type} (o : Option α) (f : α → M β) (st : Dr) : (up o >>= f) st = o.bind fun z => f z st := by
  rw [bnd_ap]
  cases o <;> rfl
theorem k_seq : seqS a b ρ st = kSeq (a ρ st) b := by
  show (a ρ >>= _) st = _
  rw [bnd_ap]
  rcases a ρ st with _ | ⟨o, st1⟩
  · rfl
  · cases o <;> rfl
theorem k_seqN : kSeq (some (.nx ρ, st)) b = b ρ st := rfl
theorem k_seqR : kSeq (some (.rt v, st)) b = some (.rt v, st) := rfl
theorem k_seqB : kSeq (some (.bk ρ, st)) b = some (.bk ρ, st) := rfl
theorem k_seqC : kSeq (some (.ct ρ, st)) b = some (.ct ρ, st) := rfl
theorem k_upS : kUp (some v) st = some (v, st) := rfl
theorem k_upBS {z : Bool} : kUpB (some z) st = some (z, st) := rfl
theorem k_upRS : kUpR (some ρ) st = some (.nx ρ, st) := rfl
theorem k_upLS {ds : List PyData} : kUpL (some ds) st = some (ds, st) := rfl
theorem k_upOS {z : Option Int} : kUpO (some z) st = some (z, st) := rfl
theorem k_nx : nxS ρ st = some (.nx ρ, st) := rfl
theorem k_bk : bkS ρ st = some (.bk ρ, st) := rfl
theorem k_ct : ctS ρ st = some (.ct ρ, st) := rfl
theorem k_asg : asgS m t ρ st = kAsg (m ρ st) t ρ := by
  show (m ρ >>= _) st = _
  rw [bnd_ap]
  rcases m ρ st with _ | ⟨o, st1⟩
  · rfl
  · show (up (storeT t o ρ) >>= _) st1 = _
    rw [kup]
    show _ = kUpR (storeT t o ρ) st1
    cases storeT t o ρ <;> rfl
theorem k_asgS : kAsg (some (v, st)) t ρ = kUpR (storeT t v ρ) st := rfl
theorem k_own : ownS m i ρ st = kOwn (m ρ st) i ρ := by
  show (m ρ >>= _) st = _
  rw [bnd_ap]
  rcases m ρ st with _ | ⟨o, st1⟩ <;> rfl
theorem k_ownS : kOwn (some (v, st)) i ρ = some (.nx (ρ.set i (some (.ow v))), st) := rfl
theorem k_if : ifS c a b ρ st = kIf (c ρ st) a b ρ := by
  show (c ρ >>= _) st = _
  rw [bnd_ap]
  rcases c ρ st with _ | ⟨o, st1⟩
  · rfl
  · cases o <;> rfl
theorem k_ifT : kIf (some (true, st)) a b ρ = a ρ st := rfl
theorem k_ifF : kIf (some (false, st)) a b ρ = b ρ st := rfl
theorem k_ifB {z : Bool} : kIf (some (z, st)) a b ρ = if z = true then a ρ st else b ρ st := by cases z <;> rfl
theorem k_rt : rtS m ρ st = kRt (m ρ st) := by
  show (m ρ >>= _) st = _
  rw [bnd_ap]
  rcases m ρ st with _ | ⟨o, st1⟩ <;> rfl
theorem k_rtS : kRt (some (v, st)) = some (.rt v, st) := rfl
theorem k_rtN : rtN ρ st = some (.rt .none, st) := rfl
theorem k_ex : exS m ρ st = kEx (m ρ st) ρ := by
  show (m ρ >>= _) st = _
  rw [bnd_ap]
  rcases m ρ st with _ | ⟨o, st1⟩ <;> rfl
theorem k_exS : kEx (some (v, st)) ρ = some (.nx ρ, st) := rfl
theorem k_app : appS i m ρ st = kApp (m ρ st) i ρ := by
  show (m ρ >>= _) st = _
  rw [bnd_ap]
  rcases m ρ st with _ | ⟨o, st1⟩
  · rfl
  · show (up (appO ρ i o) >>= _) st1 = _
    rw [kup]
    show _ = kUpR (appO ρ i o) st1
    cases appO ρ i o <;> rfl
theorem k_appS : kApp (some (v, st)) i ρ = kUpR (appO ρ i v) st := rfl
theorem k_for : forS r t b ρ st = kFor (r ρ st) t b ρ := by
  show (r ρ >>= _) st = _
  rw [bnd_ap]
  rcases r ρ st with _ | ⟨o, st1⟩ <;> rfl
theorem k_forS {ds : List PyData} : kFor (some (ds, st)) t b ρ = forGo t b ds ρ st := rfl
theorem k_frz : frzS i a ρ st = a (frz i ρ) st := rfl
theorem k_par {is : List Nat} : parS is re ρ st = kPar (re ρ st) is ρ := by
  show (re ρ >>= _) st = _
  rw [bnd_ap]
  rcases re ρ st with _ | ⟨o, st1⟩
  · rfl
  · show (if o.length = is.length then pure (Out.nx (storeE ρ is o)) else up none : M Out) st1 = kPar (some (o, st1)) is ρ
    rw [ite_ap]
    rfl
theorem k_parS {is : List Nat} {ens : List En} : kPar (some (ens, st)) is ρ = if ens.length = is.length then some (.nx (storeE ρ is ens), st) else none := rfl
theorem k_set : setS i m m2 ρ st = kSet (m2 ρ st) i m ρ := by
  show (m2 ρ >>= _) st = _
  rw [bnd_ap]
  rcases m2 ρ st with _ | ⟨o, st1⟩
  · rfl
  · show (m ρ >>= _) st1 = kSet2 (m ρ st1) i o ρ
    rw [bnd_ap]
    rcases m ρ st1 with _ | ⟨o2, st2⟩
    · rfl
    · show (up (setO ρ i o2 o) >>= _) st2 = kUpR (setO ρ i o2 o) st2
      rw [kup]
      cases setO ρ i o2 o <;> rfl
theorem k_setS : kSet (some (d, st)) i m ρ = kSet2 (m ρ st) i d ρ := rfl
theorem k_setS2 : kSet2 (some (v, st)) i d ρ = kUpR (setO ρ i v d) st := rfl
theorem k_bin : binR g m m2 ρ st = kBin g (m ρ st) m2 ρ := by
  show (m ρ >>= _) st = _
  rw [bnd_ap]
  rcases m ρ st with _ | ⟨o, st1⟩
  · rfl
  · show (m2 ρ >>= _) st1 = kBin2 g o (m2 ρ st1)
    rw [bnd_ap]
    rcases m2 ρ st1 with _ | ⟨o2, st2⟩
    · rfl
    · show up (g o o2) st2 = kUp (g o o2) st2
      cases g o o2 <;> rfl
theorem k_binS : kBin g (some (x, st)) m ρ = kBin2 g x (m ρ st) := rfl
theorem k_binS2 : kBin2 g x (some (y, st)) = kUp (g x y) st := rfl
theorem k_un : unR g1 m ρ st = kUn g1 (m ρ st) := by
  show (m ρ >>= _) st = _
  rw [bnd_ap]
  rcases m ρ st with _ | ⟨o, st1⟩
  · rfl
  · show up (g1 o) st1 = kUp (g1 o) st1
    cases g1 o <;> rfl
theorem k_unS : kUn g1 (some (x, st)) = kUp (g1 x) st := rfl
theorem k_not : notR m ρ st = kUn notV (m ρ st) := k_un (g1 := notV)
theorem k_then {z : PyData} : thenB z (m ρ) st = kThen z m ρ st := by
  cases z with
  | bool b => cases b <;> rfl
  | _ => rfl
theorem k_else {z : PyData} : elseB z (m ρ) st = kElse z m ρ st := by
  cases z with
  | bool b => cases b <;> rfl
  | _ => rfl
theorem k_and : andR m m2 ρ st = kAnd (m ρ st) m2 ρ := by
  show (m ρ >>= _) st = _
  rw [bnd_ap]
  rcases m ρ st with _ | ⟨o, st1⟩
  · rfl
  · exact k_then
theorem k_or : orR m m2 ρ st = kOr (m ρ st) m2 ρ := by
  show (m ρ >>= _) st = _
  rw [bnd_ap]
  rcases m ρ st with _ | ⟨o, st1⟩
  · rfl
  · exact k_else
theorem k_andS : kAnd (some (x, st)) m ρ = kThen x m ρ st := rfl
theorem k_orS : kOr (some (x, st)) m ρ = kElse x m ρ st := rfl
theorem k_thenT : kThen (.bool true) m ρ st = m ρ st := rfl
theorem k_thenF : kThen (.bool false) m ρ st = some (.bool false, st) := rfl
theorem k_thenB {z : Bool} : kThen (.bool z) m ρ st = if z = true then m ρ st else some (.bool false, st) := by cases z <;> rfl
theorem k_elseT : kElse (.bool true) m ρ st = some (.bool true, st) := rfl
theorem k_elseF : kElse (.bool false) m ρ st = m ρ st := rfl
theorem k_elseB {z : Bool} : kElse (.bool z) m ρ st = if z = true then some (.bool true, st) else m ρ st := by cases z <;> rfl
theorem k_chn {g g' : PyData → PyData → Option PyData} : chnR g g' m m2 m3 ρ st = (match m ρ st with
    | some (x, st1) => (match m2 ρ st1 with
      | some (y, st2) => (match g x y with
        | some (.bool true) => kBin2 g' y (m3 ρ st2)
        | some (.bool false) => some (.bool false, st2)
        | _ => none)
      | none => none)
    | none => none) := by
  show (m ρ >>= _) st = _
  rw [bnd_ap]
  rcases m ρ st with _ | ⟨x, st1⟩
  · rfl
  · show (m2 ρ >>= _) st1 = _
    rw [bnd_ap]
    rcases e : m2 ρ st1 with _ | ⟨y, st2⟩
    · simp only [e]; rfl
    · simp only [e]
      show (up (g x y) >>= _) st2 = _
      rw [kup]
      rcases g x y with _ | z
      · rfl
      · show thenB z _ st2 = _
        cases z with
        | bool q =>
          cases q with
          | false => rfl
          | true =>
            show (m3 ρ >>= _) st2 = kBin2 g' y (m3 ρ st2)
            rw [bnd_ap]
            rcases m3 ρ st2 with _ | ⟨w, st3⟩
            · rfl
            · show up (g' y w) st3 = kUp (g' y w) st3
              cases g' y w <;> rfl
        | _ => rfl
theorem k_tst : tstR m ρ st = kTst (m ρ st) := by
  show (m ρ >>= _) st = _
  rw [bnd_ap]
  rcases m ρ st with _ | ⟨o, st1⟩
  · rfl
  · show up (truV o) st1 = kUpB (truV o) st1
    cases truV o <;> rfl
theorem k_tstB {z : Bool} : kTst (some (.bool z, st)) = some (z, st) := rfl
theorem k_tstS : kTst (some (x, st)) = kUpB (truV x) st := rfl
theorem k_andB : andB c c2 ρ st = kAndB (c ρ st) c2 ρ := by
  show (c ρ >>= _) st = _
  rw [bnd_ap]
  rcases c ρ st with _ | ⟨o, st1⟩
  · rfl
  · cases o <;> rfl
theorem k_orB : orB c c2 ρ st = kOrB (c ρ st) c2 ρ := by
  show (c ρ >>= _) st = _
  rw [bnd_ap]
  rcases c ρ st with _ | ⟨o, st1⟩
  · rfl
  · cases o <;> rfl
theorem k_notB : notB c ρ st = kNotB (c ρ st) := by
  show (c ρ >>= _) st = _
  rw [bnd_ap]
  rcases c ρ st with _ | ⟨o, st1⟩ <;> rfl
theorem k_andBS {z : Bool} : kAndB (some (z, st)) c ρ = if z = true then c ρ st else some (false, st) := by cases z <;> rfl
theorem k_orBS {z : Bool} : kOrB (some (z, st)) c ρ = if z = true then some (true, st) else c ρ st := by cases z <;> rfl
theorem k_notBS {z : Bool} : kNotB (some (z, st)) = some (!z, st) := rfl
theorem k_ite : iteR c m m2 ρ st = kIte (c ρ st) m m2 ρ := by
  show (c ρ >>= _) st = _
  rw [bnd_ap]
  rcases c ρ st with _ | ⟨o, st1⟩
  · rfl
  · cases o <;> rfl
theorem k_iteB {z : Bool} : kIte (some (z, st)) m m2 ρ = if z = true then m ρ st else m2 ρ st := by cases z <;> rfl
theorem k_disp {f : List PyData → PyData} : dispR f r ρ st = kDisp f (r ρ st) := by
  show (r ρ >>= _) st = _
  rw [bnd_ap]
  rcases r ρ st with _ | ⟨o, st1⟩
  · rfl
  · show up (mkO f o) st1 = kUp (mkO f o) st1
    cases mkO f o <;> rfl
theorem k_dispS {f : List PyData → PyData} {ds : List PyData} : kDisp f (some (ds, st)) = kUp (mkO f ds) st := rfl
theorem k_nil : nilR ρ st = some ([], st) := rfl
theorem k_cons : consR m r ρ st = kCons (m ρ st) r ρ := by
  show (m ρ >>= _) st = _
  rw [bnd_ap]
  rcases m ρ st with _ | ⟨o, st1⟩
  · rfl
  · show (r ρ >>= _) st1 = kCons2 o (r ρ st1)
    rw [bnd_ap]
    rcases r ρ st1 with _ | ⟨o2, st2⟩ <;> rfl
theorem k_consS : kCons (some (x, st)) r ρ = kCons2 x (r ρ st) := rfl
theorem k_consS2 {xs : List PyData} : kCons2 x (some (xs, st)) = some (x :: xs, st) := rfl
theorem k_star : starR m r ρ st = kStar (m ρ st) r ρ := by
  show (m ρ >>= _) st = _
  rw [bnd_ap]
  rcases m ρ st with _ | ⟨o, st1⟩
  · rfl
  · show (up (itemsO o) >>= _) st1 = kStar1 (itemsO o) r ρ st1
    rw [kup]
    rcases itemsO o with _ | ds
    · rfl
    · show (r ρ >>= _) st1 = kStar2 ds (r ρ st1)
      rw [bnd_ap]
      rcases r ρ st1 with _ | ⟨o2, st2⟩ <;> rfl
theorem k_starS : kStar (some (x, st)) r ρ = kStar1 (itemsO x) r ρ st := rfl
theorem k_starS1 {ds : List PyData} : kStar1 (some ds) r ρ st = kStar2 ds (r ρ st) := rfl
theorem k_starS2 {ds xs : List PyData} : kStar2 ds (some (xs, st)) = some (ds ++ xs, st) := rfl
theorem k_len {n : Nat} : lenR n r ρ st = kLen n (r ρ st) := by
  show (r ρ >>= _) st = _
  rw [bnd_ap]
  rcases r ρ st with _ | ⟨o, st1⟩
  · rfl
  · show (if o.length = n then pure o else up none : M (List PyData)) st1 = _
    rw [ite_ap]
    rfl
theorem k_lenS {n : Nat} {ds : List PyData} : kLen n (some (ds, st)) = if ds.length = n then some (ds, st) else none := rfl
theorem k_call : callR f r ρ st = kCall f (r ρ st) := by
  show (r ρ >>= _) st = _
  rw [bnd_ap]
  rcases r ρ st with _ | ⟨o, st1⟩ <;> rfl
theorem k_callS {ds : List PyData} : kCall f (some (ds, st)) = f ds st := rfl
theorem k_callD : callD f i r ρ st = kDr (drO ρ[i]?) f r ρ st := by
  show (up (drO ρ[i]?) >>= _) st = _
  rw [kup]
  rcases drO ρ[i]? with _ | ⟨⟩
  · rfl
  · show (r ρ >>= _) st = kCall f (r ρ st)
    rw [bnd_ap]
    rcases r ρ st with _ | ⟨o, st1⟩ <;> rfl
theorem k_drS {u : Unit} : kDr (some u) f r ρ st = kCall f (r ρ st) := rfl
theorem k_drO : drO (some (some .dr)) = some () := rfl
theorem k_blt : bltR gl r ρ st = kBlt gl (r ρ st) := by
  show (r ρ >>= _) st = _
  rw [bnd_ap]
  rcases r ρ st with _ | ⟨o, st1⟩
  · rfl
  · show up (gl o) st1 = kUp (gl o) st1
    cases gl o <;> rfl
theorem k_bltS {ds : List PyData} : kBlt gl (some (ds, st)) = kUp (gl ds) st := rfl
theorem k_va : vaR i ρ st = kUp (vaO ρ[i]?) st := by
  show up (vaO ρ[i]?) st = _
  cases vaO ρ[i]? <;> rfl
theorem k_tv : tvR i ρ st = kUp (tvO ρ[i]?) st := by
  show up (tvO ρ[i]?) st = _
  cases tvO ρ[i]? <;> rfl
theorem k_vaO : vaO (some (some (.va v))) = some v := rfl
theorem k_tvO : tvO (some (some (.va v))) = some v := rfl
theorem k_tvOw : tvO (some (some (.ow v))) = some v := rfl
theorem k_cst : cstR v ρ st = some (v, st) := rfl
theorem k_noO : noO ρ st = some (none, st) := rfl
theorem k_someO : someO m ρ st = kSome (m ρ st) := by
  show (m ρ >>= _) st = _
  rw [bnd_ap]
  rcases m ρ st with _ | ⟨o, st1⟩
  · rfl
  · show up (intO o) st1 = kUpO (intO o) st1
    cases intO o <;> rfl
theorem k_someS : kSome (some (x, st)) = kUpO (intO x) st := rfl
theorem k_slc {ml mh : SemO} : slcR m ml mh ρ st = kSlc (m ρ st) ml mh ρ := by
  show (m ρ >>= _) st = _
  rw [bnd_ap]
  rcases m ρ st with _ | ⟨o, st1⟩
  · rfl
  · show (ml ρ >>= _) st1 = kSlc1 o (ml ρ st1) mh ρ
    rw [bnd_ap]
    rcases ml ρ st1 with _ | ⟨l, st2⟩
    · rfl
    · show (mh ρ >>= _) st2 = kSlc2 o l (mh ρ st2)
      rw [bnd_ap]
      rcases mh ρ st2 with _ | ⟨h, st3⟩
      · rfl
      · show up (slcV o l h) st3 = kUp (slcV o l h) st3
        cases slcV o l h <;> rfl
theorem k_slcS {ml mh : SemO} : kSlc (some (x, st)) ml mh ρ = kSlc1 x (ml ρ st) mh ρ := rfl
theorem k_slcS1 {mh : SemO} {l : Option Int} : kSlc1 x (some (l, st)) mh ρ = kSlc2 x l (mh ρ st) := rfl
theorem k_slcS2 {l h : Option Int} : kSlc2 x l (some (h, st)) = kUp (slcV x l h) st := rfl
theorem k_items : itemsR m ρ st = kItems (m ρ st) := by
  show (m ρ >>= _) st = _
  rw [bnd_ap]
  rcases m ρ st with _ | ⟨o, st1⟩
  · rfl
  · show up (itemsO o) st1 = kUpL (itemsO o) st1
    cases itemsO o <;> rfl
theorem k_itemsS : kItems (some (x, st)) = kUpL (itemsO x) st := rfl
theorem k_itL {ds : List PyData} : itemsO (.list ds) = some ds := rfl
theorem k_itT {ds : List PyData} : itemsO (.tuple ds) = some ds := rfl
theorem k_rng : rngR r ρ st = kRng (r ρ st) := by
  show (r ρ >>= _) st = _
  rw [bnd_ap]
  rcases r ρ st with _ | ⟨o, st1⟩
  · rfl
  · show up (rangeO o) st1 = kUpL (rangeO o) st1
    cases rangeO o <;> rfl
theorem k_rngS {ds : List PyData} : kRng (some (ds, st)) = kUpL (rangeO ds) st := rfl
theorem k_lc {tg : Tg} {vs : List Nat} : lcR r tg vs c m ρ st = kLc (r ρ st) tg vs c m ρ := by
  show (r ρ >>= _) st = _
  rw [bnd_ap]
  rcases r ρ st with _ | ⟨o, st1⟩
  · rfl
  · show (up (if o.length ≤ 1000000 then some o else none) >>= _) st1 = kLc (some (o, st1)) tg vs c m ρ
    rw [kup]
    by_cases hl : o.length ≤ 1000000
    · rw [if_pos hl]
      show (lcGo tg c m (wipeR ρ vs) o >>= _) st1 = (if o.length ≤ 1000000 then kLc2 (lcGo tg c m (wipeR ρ vs) o st1) else none)
      rw [if_pos hl, bnd_ap]
      rcases lcGo tg c m (wipeR ρ vs) o st1 with _ | ⟨o2, st2⟩ <;> rfl
    · rw [if_neg hl]
      show none = (if o.length ≤ 1000000 then kLc2 (lcGo tg c m (wipeR ρ vs) o st1) else none)
      rw [if_neg hl]
theorem k_lcS {tg : Tg} {vs : List Nat} {ds : List PyData} (h : ds.length ≤ 1000000) : kLc (some (ds, st)) tg vs c m ρ = kLc2 (lcGo tg c m (wipeR ρ vs) ds st) := if_pos h
theorem kk_lcK {k : Nat} {tg : Tg} {vs : List Nat} {ds : List PyData} (h : ownKs ρ k = some ds) (hl : ds.length ≤ 1000000) : lcK k tg vs c m ρ st = kLc2 (lcGo tg c m (wipeR (ρ.set k none) vs) ds st) := by
  unfold lcK
  rw [h]
  show ((up (if ds.length ≤ 1000000 then some ds else none) >>= fun its => lcGo tg c m (wipeR (ρ.set k none) vs) its >>= fun out => pure (PyData.list out)) : M PyData) st = _
  rw [if_pos hl]
  show (lcGo tg c m (wipeR (ρ.set k none) vs) ds >>= fun out => (pure (PyData.list out) : M PyData)) st = _
  rw [bnd_ap]
  rcases lcGo tg c m (wipeR (ρ.set k none) vs) ds st with _ | ⟨o2, st2⟩ <;> rfl
theorem k_lcS2 {ds : List PyData} : kLc2 (some (ds, st)) = some (.list ds, st) := rfl
theorem k_gx {k : Bool} {tg : Tg} {vs : List Nat} : gxR k r tg vs c m ρ st = kGx k (r ρ st) tg vs c m ρ := by
  show (r ρ >>= _) st = _
  rw [bnd_ap]
  rcases r ρ st with _ | ⟨o, st1⟩ <;> rfl
theorem k_gxS {k : Bool} {tg : Tg} {vs : List Nat} {ds : List PyData} : kGx k (some (ds, st)) tg vs c m ρ = gxGo k tg c m (wipeR ρ vs) ds st := rfl
theorem k_sg {tg : Tg} {vs : List Nat} : sgR r tg vs c m ρ st = kSg (r ρ st) tg vs c m ρ := by
  show (r ρ >>= _) st = _
  rw [bnd_ap]
  rcases r ρ st with _ | ⟨o, st1⟩ <;> rfl
theorem k_sgS {tg : Tg} {vs : List Nat} {ds : List PyData} : kSg (some (ds, st)) tg vs c m ρ = sgGo tg c m (wipeR ρ vs) 0 ds st := rfl
theorem k_yes : yesB ρ st = some (true, st) := rfl
theorem k_nilE : nilE ρ st = some ([], st) := rfl
theorem k_vaE : vaE m re ρ st = kVaE (m ρ st) re ρ := by
  show (m ρ >>= _) st = _
  rw [bnd_ap]
  rcases m ρ st with _ | ⟨o, st1⟩
  · rfl
  · show (re ρ >>= _) st1 = kVaE2 (.va o) (re ρ st1)
    rw [bnd_ap]
    rcases re ρ st1 with _ | ⟨o2, st2⟩ <;> rfl
theorem k_owE : owE m re ρ st = kOwE (m ρ st) re ρ := by
  show (m ρ >>= _) st = _
  rw [bnd_ap]
  rcases m ρ st with _ | ⟨o, st1⟩
  · rfl
  · show (re ρ >>= _) st1 = kVaE2 (.ow o) (re ρ st1)
    rw [bnd_ap]
    rcases re ρ st1 with _ | ⟨o2, st2⟩ <;> rfl
theorem k_vaES : kVaE (some (x, st)) re ρ = kVaE2 (.va x) (re ρ st) := rfl
theorem k_owES : kOwE (some (x, st)) re ρ = kVaE2 (.ow x) (re ρ st) := rfl
theorem k_vaES2 {e : En} {es : List En} : kVaE2 e (some (es, st)) = some (e :: es, st) := rfl
theorem k_wh {n : Nat} : whileS c a (n + 1) ρ st = kWh (c ρ st) c a n ρ := by
  show (c ρ >>= _) st = _
  rw [bnd_ap]
  rcases c ρ st with _ | ⟨o, st1⟩
  · rfl
  · cases o with
    | false => rfl
    | true =>
      show (a ρ >>= _) st1 = kWh2 (a ρ st1) c a n
      rw [bnd_ap]
      rcases a ρ st1 with _ | ⟨o2, st2⟩
      · rfl
      · cases o2 <;> rfl
theorem k_whT {n : Nat} : kWh (some (true, st)) c a n ρ = kWh2 (a ρ st) c a n := rfl
theorem k_whF {n : Nat} : kWh (some (false, st)) c a n ρ = some (.nx ρ, st) := rfl
theorem k_wh2 {n : Nat} : kWh2 (some (.nx ρ, st)) c a n = whileS c a n ρ st := rfl
theorem k_st1 : storeT (.nm i) v ρ = some (ρ.set i (some (.va v))) := rfl
theorem k_st2 {i1 i2 : Nat} : storeT (.tp [i1, i2]) (.tuple [x, y]) ρ = some ((ρ.set i1 (some (.va x))).set i2 (some (.va y))) := rfl
theorem k_st3 {i1 i2 i3 : Nat} {z : PyData} : storeT (.tp [i1, i2, i3]) (.tuple [x, y, z]) ρ = some (((ρ.set i1 (some (.va x))).set i2 (some (.va y))).set i3 (some (.va z))) := rfl
theorem k_sE0 {is : List Nat} : storeE ρ is [] = ρ := by cases is <;> rfl
theorem k_sE {is : List Nat} {e : En} {es : List En} : storeE ρ (i :: is) (e :: es) = storeE (ρ.set i (some e)) is es := rfl
theorem k_wip0 : wipeR ρ [] = ρ := rfl
theorem k_wip {is : List Nat} : wipeR ρ (i :: is) = (wipeR ρ is).set i none := rfl
def kItemsW : R1 → RL
  | some (x, st) => kUpL (itemsW x) st
  | none => none
theorem k_itemsG : itemsG m ρ st = kItemsW (m ρ st) := by
  show (m ρ >>= _) st = _
  rw [bnd_ap]
  rcases m ρ st with _ | ⟨o, st1⟩
  · rfl
  · show up (itemsW o) st1 = kUpL (itemsW o) st1
    cases itemsW o <;> rfl
theorem k_itemsGS : kItemsW (some (x, st)) = kUpL (itemsW x) st := rfl
theorem k_iwL {ds : List PyData} : itemsW (.list ds) = some ds := rfl
theorem k_iwT {ds : List PyData} : itemsW (.tuple ds) = some ds := rfl
theorem k_iwD {p : NestedKey × PyData} {kvs : List (PyData × PyData)} {ps : List (NestedKey × PyData)} (h : dnOf kvs = some (p :: ps)) : itemsW (.dict kvs) = some ((p :: ps).map fun q : NestedKey × PyData => q.1.data) := by
  show (match dnOf kvs with | some (p :: ps) => some ((p :: ps).map fun q : NestedKey × PyData => q.1.data) | _ => none) = _
  rw [h]
def kDc2 : Option (List (PyData × PyData) × Dr) → R1
  | some (kvs, st) => some (.dict kvs, st)
  | none => none
def kDc : RL → Tg → List Nat → SemB → Sem1 → Sem1 → Rho → R1
  | some (ds, st), tg, vs, tt, tk, tv, ρ => kDc2 (dcGo tg tt tk tv (wipeR ρ vs) ds [] st)
  | none, _, _, _, _, _, _ => none
theorem k_dc {tg : Tg} {vs : List Nat} : dcR r tg vs c m m2 ρ st = kDc (r ρ st) tg vs c m m2 ρ := by
  show (r ρ >>= _) st = _
  rw [bnd_ap]
  rcases r ρ st with _ | ⟨o, st1⟩
  · rfl
  · show (dcGo tg c m m2 (wipeR ρ vs) o [] >>= _) st1 = kDc2 (dcGo tg c m m2 (wipeR ρ vs) o [] st1)
    rw [bnd_ap]
    rcases dcGo tg c m m2 (wipeR ρ vs) o [] st1 with _ | ⟨o2, st2⟩ <;> rfl
theorem k_dcS {tg : Tg} {vs : List Nat} {ds : List PyData} : kDc (some (ds, st)) tg vs c m m2 ρ = kDc2 (dcGo tg c m m2 (wipeR ρ vs) ds [] st) := rfl
theorem k_dcS2 {kvs : List (PyData × PyData)} : kDc2 (some (kvs, st)) = some (.dict kvs, st) := rfl
theorem k_newD : newD ρ st = some (.dict [], st) := rfl
def kSetG2 : R1 → Nat → PyData → Rho → RO
  | some (k, st), i, d, ρ => kUpR (setGO ρ i k d) st
  | none, _, _, _ => none
def kSetG : R1 → Nat → Sem1 → Rho → RO
  | some (d, st), i, mk, ρ => kSetG2 (mk ρ st) i d ρ
  | none, _, _, _ => none
theorem k_setG : setG i m m2 ρ st = kSetG (m2 ρ st) i m ρ := by
  show (m2 ρ >>= _) st = _
  rw [bnd_ap]
  rcases m2 ρ st with _ | ⟨o, st1⟩
  · rfl
  · show (m ρ >>= _) st1 = kSetG2 (m ρ st1) i o ρ
    rw [bnd_ap]
    rcases m ρ st1 with _ | ⟨o2, st2⟩
    · rfl
    · show (up (setGO ρ i o2 o) >>= _) st2 = kUpR (setGO ρ i o2 o) st2
      rw [kup]
      cases setGO ρ i o2 o <;> rfl
theorem k_setGS : kSetG (some (d, st)) i m ρ = kSetG2 (m ρ st) i d ρ := rfl
theorem k_setGS2 : kSetG2 (some (v, st)) i d ρ = kUpR (setGO ρ i v d) st := rfl
def kGet1b (d : PyData) : R1 → R1
  | some (e, st) => kUp (getX d e .none) st
  | none => none
def kGet1 : R1 → Sem1 → Rho → R1
  | some (d, st), me, ρ => kGet1b d (me ρ st)
  | none, _, _ => none
def kGet2c (d e : PyData) : R1 → R1
  | some (z, st) => kUp (getX d e z) st
  | none => none
def kGet2b (d : PyData) : R1 → Sem1 → Rho → R1
  | some (e, st), mf, ρ => kGet2c d e (mf ρ st)
  | none, _, _ => none
def kGet2 : R1 → Sem1 → Sem1 → Rho → R1
  | some (d, st), me, mf, ρ => kGet2b d (me ρ st) mf ρ
  | none, _, _, _ => none
theorem k_get1 : getR1 m m2 ρ st = kGet1 (m ρ st) m2 ρ := by
  show (m ρ >>= _) st = _
  rw [bnd_ap]
  rcases m ρ st with _ | ⟨o, st1⟩
  · rfl
  · show (m2 ρ >>= _) st1 = kGet1b o (m2 ρ st1)
    rw [bnd_ap]
    rcases m2 ρ st1 with _ | ⟨o2, st2⟩
    · rfl
    · show up (getX o o2 .none) st2 = kUp (getX o o2 .none) st2
      cases getX o o2 .none <;> rfl
theorem k_get2 : getR2 m m2 m3 ρ st = kGet2 (m ρ st) m2 m3 ρ := by
  show (m ρ >>= _) st = _
  rw [bnd_ap]
  rcases m ρ st with _ | ⟨o, st1⟩
  · rfl
  · show (m2 ρ >>= _) st1 = kGet2b o (m2 ρ st1) m3 ρ
    rw [bnd_ap]
    rcases m2 ρ st1 with _ | ⟨o2, st2⟩
    · rfl
    · show (m3 ρ >>= _) st2 = kGet2c o o2 (m3 ρ st2)
      rw [bnd_ap]
      rcases m3 ρ st2 with _ | ⟨o3, st3⟩
      · rfl
      · show up (getX o o2 o3) st3 = kUp (getX o o2 o3) st3
        cases getX o o2 o3 <;> rfl
theorem k_get1S : kGet1 (some (d, st)) m ρ = kGet1b d (m ρ st) := rfl
theorem k_get1S2 : kGet1b d (some (v, st)) = kUp (getX d v .none) st := rfl
theorem k_get2S : kGet2 (some (d, st)) m m2 ρ = kGet2b d (m ρ st) m2 ρ := rfl
theorem k_get2S2 : kGet2b d (some (v, st)) m ρ = kGet2c d v (m ρ st) := rfl
theorem k_get2S3 : kGet2c d v (some (x, st)) = kUp (getX d v x) st := rfl
def kEnum : R1 → RL
  | some (x, st) => kUpL ((itemsO x).map (enumD 0)) st
  | none => none
theorem k_enum : enumR m ρ st = kEnum (m ρ st) := by
  show (m ρ >>= _) st = _
  rw [bnd_ap]
  rcases m ρ st with _ | ⟨o, st1⟩
  · rfl
  · show (up (itemsO o) >>= _) st1 = kUpL ((itemsO o).map (enumD 0)) st1
    rw [bnd_ap]
    cases itemsO o <;> rfl
theorem k_enumS : kEnum (some (x, st)) = kUpL ((itemsO x).map (enumD 0)) st := rfl
def kZip2 (x : PyData) : R1 → RL
  | some (y, st) => kUpL ((itemsO x).bind fun ds => (itemsO y).map (zipD ds)) st
  | none => none
def kZip : R1 → Sem1 → Rho → RL
  | some (x, st), b, ρ => kZip2 x (b ρ st)
  | none, _, _ => none
theorem k_zip : zipR m m2 ρ st = kZip (m ρ st) m2 ρ := by
  show (m ρ >>= _) st = _
  rw [bnd_ap]
  rcases m ρ st with _ | ⟨o, st1⟩
  · rfl
  · show (m2 ρ >>= _) st1 = kZip2 o (m2 ρ st1)
    rw [bnd_ap]
    rcases m2 ρ st1 with _ | ⟨o2, st2⟩
    · rfl
    · show (up (itemsO o) >>= _) st2 = kUpL ((itemsO o).bind fun ds => (itemsO o2).map (zipD ds)) st2
      rw [bnd_ap]
      cases itemsO o with
      | none => rfl
      | some ds =>
        show (up (itemsO o2) >>= _) st2 = kUpL ((itemsO o2).map (zipD ds)) st2
        rw [bnd_ap]
        cases itemsO o2 <;> rfl
theorem k_zipS : kZip (some (x, st)) m ρ = kZip2 x (m ρ st) := rfl
theorem k_zipS2 : kZip2 x (some (y, st)) = kUpL ((itemsO x).bind fun ds => (itemsO y).map (zipD ds)) st := rfl
def kD1b (k : PyData) : R1 → R1
  | some (v, st) => kUp ((dput [] k v).map .dict) st
  | none => none
def kD1 : R1 → Sem1 → Rho → R1
  | some (k, st), mv, ρ => kD1b k (mv ρ st)
  | none, _, _ => none
theorem k_d1 : d1R m m2 ρ st = kD1 (m ρ st) m2 ρ := by
  show (m ρ >>= _) st = _
  rw [bnd_ap]
  rcases m ρ st with _ | ⟨o, st1⟩
  · rfl
  · show (m2 ρ >>= _) st1 = kD1b o (m2 ρ st1)
    rw [bnd_ap]
    rcases m2 ρ st1 with _ | ⟨o2, st2⟩
    · rfl
    · show (up (dput [] o o2) >>= _) st2 = kUp ((dput [] o o2).map .dict) st2
      rw [bnd_ap]
      cases dput [] o o2 <;> rfl
theorem k_d1S : kD1 (some (x, st)) m ρ = kD1b x (m ρ st) := rfl
theorem k_d1S2 : kD1b x (some (y, st)) = kUp ((dput [] x y).map .dict) st := rfl
def kFrz : Option (Option En) → Nat → Rho → Rho
  | some (some (.ow d)), i, ρ => ρ.set i (some (.va d))
  | _, _, ρ => ρ
theorem k_frz1 : frz i ρ = kFrz ρ[i]? i ρ := by
  unfold frz kFrz
  rcases ρ[i]? with _ | _ | _ | _ | _ <;> rfl
theorem k_frz2 : kFrz (some (some (.ow d))) i ρ = ρ.set i (some (.va d)) := rfl
theorem k_frz3 : kFrz (some (some (.va d))) i ρ = ρ := rfl
/-- a def's run -/
def runD (N : List PySem.Str) (d : Bool) (t : SemS) : SemF := fun ds => (do let o ← t (startR N d ds); up (outD o))
theorem k_run {N : List PySem.Str} {d : Bool} {ds : List PyData} : runD N d a ds st = kOut (a (startR N d ds) st) := by
  show (a _ >>= _) st = _
  rw [bnd_ap]
  rcases a (startR N d ds) st with _ | ⟨o, st1⟩
  · rfl
  · cases o <;> rfl
theorem k_outR : kOut (some (.rt v, st)) = some (v, st) := rfl
theorem k_outN : kOut (some (.nx ρ, st)) = some (.none, st) := rfl
theorem semD_run {C : Cfg} {mu : List PySem.Str} {dd : Bool} {body : List Stmt} {t : SemS} (h : rdS (rd 40) C mu 30 body = t) : semD C mu dd body = runD C.N dd t := by unfold semD runD; rw [h]
end
end Fo
namespace W
open PySem PySem.Spec PyProof.Rows Fo
def c__law_alike_1 (f__law_alike : SemF) : SemB := (notB (tstR (callR f__law_alike (lenR 2 (consR (binR getW (tvR 0) (tvR 2)) (consR (binR getW (tvR 1) (tvR 2)) nilR))))))
def x__law_alike_2 : Sem1 := (vaR 2)
def t__law_alike (f__law_alike : SemF) : SemS := (seqS (ifS (tstR (unR (isiV2 "tuple" "list") (tvR 1))) (seqS (ifS (orB (notB (tstR (unR (isiV2 "tuple" "list") (tvR 0)))) (tstR (binR (cmpG .NotEq) (unR (isiV "list") (tvR 0)) (unR (isiV "list") (tvR 1))))) (seqS (rtS (cstR (.bool false))) nxS) nxS) (seqS (ifS (tstR (binR (cmpG .NotEq) (bltR lenW (consR (tvR 0) nilR)) (bltR lenW (consR (tvR 1) nilR)))) (seqS (rtS (cstR (.bool false))) nxS) nxS) (seqS (rtS (binR (cmpG .Eq) (lcR (rngR (lenR 1 (consR (bltR lenW (consR (tvR 1) nilR)) nilR))) (.nm 2) [2] (c__law_alike_1 f__law_alike) x__law_alike_2) (dispR .list nilR))) nxS))) nxS) (seqS (ifS (orB (tstR (binR (cmpG .Is) (tvR 1) (cstR .none))) (tstR (unR (isiV "str") (tvR 1)))) (seqS (rtS (andR (binR (cmpG .Eq) (tvR 0) (tvR 1)) (binR (cmpG .Eq) (unR (isiV "str") (tvR 0)) (unR (isiV "str") (tvR 1))))) nxS) nxS) (seqS (rtS (andR (unR (isiV "int") (tvR 0)) (andR (binR (cmpG .Eq) (unR (isiV "bool") (tvR 0)) (unR (isiV "bool") (tvR 1))) (binR (cmpG .Eq) (tvR 0) (tvR 1))))) nxS)))
def r__law_alike (f__law_alike : SemF) : SemF := runD ["_law_found", "_law_due", "_law_k"] false (t__law_alike f__law_alike)
theorem R__law_alike {f__law_alike : SemF} {a0 a1 : PyData} {st : Dr} : r__law_alike f__law_alike [a0, a1] st = kOut (t__law_alike f__law_alike [some (.va a0), some (.va a1), none] st) := k_run
def c__law_come_1 : SemB := (andB (tstR (binR (cmpG .NotEq) (tvR 4) (tvR 2))) (tstR (binR (cmpG .NotIn) (tvR 4) (tvR 3))))
def x__law_come_2 : Sem1 := (vaR 4)
def t__law_come (f__law_foes : SemF) : SemS := (seqS (asgS (callR f__law_foes (lenR 2 (consR (vaR 0) (consR (vaR 2) nilR)))) (.nm 3)) (seqS (rtS (bltR tupleV (consR (bltR sortedW (consR (binR addV (lcR (itemsG (tvR 1)) (.nm 4) [4] c__law_come_1 x__law_come_2) (dispR .list (consR (vaR 2) nilR))) nilR)) nilR))) nxS))
def r__law_come (f__law_foes : SemF) : SemF := runD ["_law_web_here", "_law_gathering", "_law_person", "_law_bad", "_law_one"] false (t__law_come f__law_foes)
theorem R__law_come {f__law_foes : SemF} {a0 a1 a2 : PyData} {st : Dr} : r__law_come f__law_foes [a0, a1, a2] st = kOut (t__law_come f__law_foes [some (.va a0), some (.va a1), some (.va a2), none, none] st) := k_run
def b__law_foes_1 : SemS := (seqS (asgS (binR addV (binR addV (tvR 2) (binR mulW (dispR .list (consR (vaR 4) nilR)) (bltR intV1 (consR (binR (cmpG .Eq) (tvR 3) (tvR 1)) nilR)))) (binR mulW (dispR .list (consR (vaR 3) nilR)) (bltR intV1 (consR (binR (cmpG .Eq) (tvR 4) (tvR 1)) nilR)))) (.nm 2)) nxS)
def t__law_foes : SemS := (seqS (asgS (dispR .list nilR) (.nm 2)) (seqS (forS (itemsG (binR getW (tvR 0) (cstR (.int 1)))) (.tp [3, 4]) b__law_foes_1) (seqS (rtS (bltR sortedW (consR (tvR 2) nilR))) nxS)))
def r__law_foes : SemF := runD ["_law_web_here", "_law_person", "_law_found", "_law_one", "_law_other"] false t__law_foes
theorem R__law_foes {a0 a1 : PyData} {st : Dr} : r__law_foes  [a0, a1] st = kOut (t__law_foes  [some (.va a0), some (.va a1), none, none, none] st) := k_run
def c__law_gatherings_1 (f__law_is_gathering : SemF) : SemB := (tstR (callR f__law_is_gathering (lenR 2 (consR (vaR 0) (consR (vaR 1) nilR)))))
def x__law_gatherings_2 : Sem1 := (vaR 1)
def t__law_gatherings (f__law_lots f__law_is_gathering : SemF) : SemS := (seqS (rtS (lcR (itemsG (callR f__law_lots (lenR 1 (consR (vaR 0) nilR)))) (.nm 1) [1] (c__law_gatherings_1 f__law_is_gathering) x__law_gatherings_2)) nxS)
def r__law_gatherings (f__law_lots f__law_is_gathering : SemF) : SemF := runD ["_law_web_here", "_law_lot"] false (t__law_gatherings f__law_lots f__law_is_gathering)
theorem R__law_gatherings {f__law_lots f__law_is_gathering : SemF} {a0 : PyData} {st : Dr} : r__law_gatherings f__law_lots f__law_is_gathering [a0] st = kOut (t__law_gatherings f__law_lots f__law_is_gathering [some (.va a0), none] st) := k_run
def c__law_is_gathering_1 : SemB := (andB (tstR (binR (cmpG .In) (binR getW (tvR 2) (cstR (.int 0))) (tvR 1))) (tstR (binR (cmpG .In) (binR getW (tvR 2) (cstR (.int 1))) (tvR 1))))
def x__law_is_gathering_2 : Sem1 := (vaR 2)
def t__law_is_gathering : SemS := (seqS (rtS (binR (cmpG .Eq) (lcR (itemsG (binR getW (tvR 0) (cstR (.int 1)))) (.nm 2) [2] c__law_is_gathering_1 x__law_is_gathering_2) (dispR .list nilR))) nxS)
def r__law_is_gathering : SemF := runD ["_law_web_here", "_law_lot", "_law_pair"] false t__law_is_gathering
theorem R__law_is_gathering {a0 a1 : PyData} {st : Dr} : r__law_is_gathering  [a0, a1] st = kOut (t__law_is_gathering  [some (.va a0), some (.va a1), none] st) := k_run
def x__law_lots_2 : Sem1 := (binR addV (tvR 3) (dispR .tuple (consR (vaR 2) nilR)))
def b__law_lots_1 : SemS := (seqS (asgS (binR addV (tvR 1) (lcR (itemsG (tvR 1)) (.nm 3) [3] yesB x__law_lots_2)) (.nm 1)) nxS)
def t__law_lots : SemS := (seqS (asgS (dispR .list (consR (dispR .tuple nilR) nilR)) (.nm 1)) (seqS (forS (rngR (lenR 1 (consR (binR getW (tvR 0) (cstR (.int 0))) nilR))) (.nm 2) b__law_lots_1) (seqS (rtS (bltR sortedW (consR (tvR 1) nilR))) nxS)))
def r__law_lots : SemF := runD ["_law_web_here", "_law_found", "_law_person", "_law_one"] false t__law_lots
theorem R__law_lots {a0 : PyData} {st : Dr} : r__law_lots  [a0] st = kOut (t__law_lots  [some (.va a0), none, none, none] st) := k_run
def t__law_pick (f__law_taken : SemF) : SemS := (seqS (rtS (binR getW (tvR 1) (callD f__law_taken 0 (lenR (2 - 1) (consR (bltR lenW (consR (tvR 1) nilR)) nilR))))) nxS)
def r__law_pick (f__law_taken : SemF) : SemF := runD ["_law_row_here", "_law_things"] true (t__law_pick f__law_taken)
theorem R__law_pick {f__law_taken : SemF} {a0 : PyData} {st : Dr} : r__law_pick f__law_taken [a0] st = kOut (t__law_pick f__law_taken [some .dr, some (.va a0)] st) := k_run
def x__law_row_1 (f__law_taken : SemF) : Sem1 := (callD f__law_taken 0 (lenR (2 - 1) (consR (binR getW (tvR 1) (cstR (.int 0))) nilR)))
def t__law_row (f__law_taken : SemF) : SemS := (seqS (rtS (bltR tupleV (consR (lcR (rngR (lenR 1 (consR (callD f__law_taken 0 (lenR (2 - 1) (consR (binR addV (tvR 2) (cstR (.int 1))) nilR))) nilR))) (.nm 3) [3] yesB (x__law_row_1 f__law_taken)) nilR))) nxS)
def r__law_row (f__law_taken : SemF) : SemF := runD ["_law_row_here", "_law_web_here", "_law_most", "_law_k"] true (t__law_row f__law_taken)
theorem R__law_row {f__law_taken : SemF} {a0 a1 : PyData} {st : Dr} : r__law_row f__law_taken [a0, a1] st = kOut (t__law_row f__law_taken [some .dr, some (.va a0), some (.va a1), none] st) := k_run
def x__law_row_9e2d_1 (f__law_taken_0f99 : SemF) : Sem1 := (callD f__law_taken_0f99 0 (lenR (2 - 1) (consR (binR getW (tvR 1) (cstR (.int 0))) nilR)))
def t__law_row_9e2d (f__law_taken_0f99 : SemF) : SemS := (seqS (rtS (bltR tupleV (consR (lcR (rngR (lenR 1 (consR (callD f__law_taken_0f99 0 (lenR (2 - 1) (consR (binR addV (tvR 2) (cstR (.int 1))) nilR))) nilR))) (.nm 3) [3] yesB (x__law_row_9e2d_1 f__law_taken_0f99)) nilR))) nxS)
def r__law_row_9e2d (f__law_taken_0f99 : SemF) : SemF := runD ["_law_row_here", "_law_web_here", "_law_most", "_law_k"] true (t__law_row_9e2d f__law_taken_0f99)
theorem R__law_row_9e2d {f__law_taken_0f99 : SemF} {a0 a1 : PyData} {st : Dr} : r__law_row_9e2d f__law_taken_0f99 [a0, a1] st = kOut (t__law_row_9e2d f__law_taken_0f99 [some .dr, some (.va a0), some (.va a1), none] st) := k_run
def t__law_taken : SemS := (seqS (ifS (tstR (binR (cmpG .Gt) (drR 0 3) (cstR (.int 0)))) (seqS (asgS (binR modV (bltR intV1 (consR (drR 0 3) nilR)) (tvR 1)) (.nm 3)) (seqS (drSet 0 3 (binR fdivV (drR 0 3) (tvR 1))) (seqS (rtS (vaR 3)) nxS))) nxS) (seqS (drSet 0 1 (binR addV (drR 0 1) (cstR (.int 1)))) (seqS (ifS (tstR (binR (cmpG .Gt) (drR 0 1) (drLen 0))) (seqS (drSet 0 2 (binR modV (bltR intV1 (consR (binR addV (binR mulW (drR 0 2) (cstR (.int 48271))) (cstR (.int 11))) nilR)) (cstR (.int 2147483647)))) (seqS (rtS (binR modV (bltR intV1 (consR (binR fdivV (drR 0 2) (cstR (.int 7))) nilR)) (tvR 1))) nxS)) nxS) (seqS (asgS (drGet 0 (binR subV (drR 0 1) (cstR (.int 1)))) (.nm 2)) (seqS (drSet 0 2 (binR modV (bltR intV1 (consR (binR addV (binR addV (binR mulW (drR 0 2) (cstR (.int 48271))) (tvR 2)) (cstR (.int 11))) nilR)) (cstR (.int 2147483647)))) (seqS (ifS (tstR (binR (cmpG .GtE) (tvR 2) (binR powV (cstR (.int 10)) (cstR (.int 18))))) (seqS (drSet 0 3 (binR fdivV (tvR 2) (tvR 1))) nxS) nxS) (seqS (rtS (binR modV (bltR intV1 (consR (tvR 2) nilR)) (tvR 1))) nxS)))))))
def r__law_taken : SemF := runD ["_law_row_here", "_law_many", "_law_cell", "_law_found"] true t__law_taken
theorem R__law_taken {a0 : PyData} {st : Dr} : r__law_taken  [a0] st = kOut (t__law_taken  [some .dr, some (.va a0), none, none] st) := k_run
def t__law_taken_0f99 : SemS := (seqS (ifS (tstR (binR (cmpG .Gt) (drR 0 3) (cstR (.int 0)))) (seqS (asgS (binR modV (bltR intV1 (consR (drR 0 3) nilR)) (tvR 1)) (.nm 3)) (seqS (drSet 0 3 (binR fdivV (drR 0 3) (tvR 1))) (seqS (rtS (vaR 3)) nxS))) nxS) (seqS (drSet 0 1 (binR addV (drR 0 1) (cstR (.int 1)))) (seqS (ifS (tstR (binR (cmpG .Gt) (drR 0 1) (drLen 0))) (seqS (drSet 0 2 (binR modV (bltR intV1 (consR (binR addV (binR mulW (drR 0 2) (cstR (.int 48271))) (cstR (.int 11))) nilR)) (cstR (.int 2147483647)))) (seqS (rtS (binR modV (bltR intV1 (consR (binR fdivV (drR 0 2) (cstR (.int 7))) nilR)) (tvR 1))) nxS)) nxS) (seqS (asgS (drGet 0 (binR subV (drR 0 1) (cstR (.int 1)))) (.nm 2)) (seqS (drSet 0 2 (binR modV (bltR intV1 (consR (binR addV (binR addV (binR mulW (drR 0 2) (cstR (.int 48271))) (tvR 2)) (cstR (.int 11))) nilR)) (cstR (.int 2147483647)))) (seqS (ifS (tstR (binR (cmpG .GtE) (tvR 2) (binR powV (cstR (.int 10)) (cstR (.int 18))))) (seqS (drSet 0 3 (binR fdivV (tvR 2) (tvR 1))) nxS) nxS) (seqS (rtS (binR modV (bltR intV1 (consR (tvR 2) nilR)) (tvR 1))) nxS)))))))
def r__law_taken_0f99 : SemF := runD ["_law_row_here", "_law_many_here", "_law_cell", "_law_found"] true t__law_taken_0f99
theorem R__law_taken_0f99 {a0 : PyData} {st : Dr} : r__law_taken_0f99  [a0] st = kOut (t__law_taken_0f99  [some .dr, some (.va a0), none, none] st) := k_run
def t__law_taken_c6b3 : SemS := (seqS (ifS (tstR (binR (cmpG .Gt) (drR 0 3) (cstR (.int 0)))) (seqS (asgS (binR modV (bltR intV1 (consR (drR 0 3) nilR)) (tvR 1)) (.nm 3)) (seqS (drSet 0 3 (binR fdivV (drR 0 3) (tvR 1))) (seqS (rtS (vaR 3)) nxS))) nxS) (seqS (drSet 0 1 (binR addV (drR 0 1) (cstR (.int 1)))) (seqS (ifS (tstR (binR (cmpG .Gt) (drR 0 1) (drLen 0))) (seqS (drSet 0 2 (binR modV (bltR intV1 (consR (binR addV (binR mulW (drR 0 2) (cstR (.int 48271))) (cstR (.int 11))) nilR)) (cstR (.int 2147483647)))) (seqS (rtS (binR modV (bltR intV1 (consR (binR fdivV (drR 0 2) (cstR (.int 7))) nilR)) (tvR 1))) nxS)) nxS) (seqS (asgS (drGet 0 (binR subV (drR 0 1) (cstR (.int 1)))) (.nm 2)) (seqS (drSet 0 2 (binR modV (bltR intV1 (consR (binR addV (binR addV (binR mulW (drR 0 2) (cstR (.int 48271))) (tvR 2)) (cstR (.int 11))) nilR)) (cstR (.int 2147483647)))) (seqS (ifS (tstR (binR (cmpG .GtE) (tvR 2) (binR powV (cstR (.int 10)) (cstR (.int 18))))) (seqS (drSet 0 3 (binR fdivV (tvR 2) (tvR 1))) nxS) nxS) (seqS (rtS (binR modV (bltR intV1 (consR (tvR 2) nilR)) (tvR 1))) nxS)))))))
def r__law_taken_c6b3 : SemF := runD ["_law_row", "_law_many", "_law_cell", "_law_found"] true t__law_taken_c6b3
theorem R__law_taken_c6b3 {a0 : PyData} {st : Dr} : r__law_taken_c6b3  [a0] st = kOut (t__law_taken_c6b3  [some .dr, some (.va a0), none, none] st) := k_run
def b__law_web_2 (f__law_taken : SemF) : SemS := (seqS (asgS (orR (binR (cmpG .Eq) (tvR 6) (binR addV (tvR 3) (cstR (.int 1)))) (andR (binR (cmpG .Eq) (tvR 3) (cstR (.int 0))) (andR (binR (cmpG .Eq) (tvR 6) (binR subV (tvR 4) (cstR (.int 1)))) (binR (cmpG .Eq) (tvR 2) (cstR (.int 1)))))) (.nm 7)) (seqS (ifS (orB (andB (tstR (binR (cmpG .Eq) (callD f__law_taken 0 (lenR (2 - 1) (consR (cstR (.int 3)) nilR))) (cstR (.int 0)))) (tstR (binR (cmpG .Gt) (tvR 2) (cstR (.int 1))))) (orB (andB (tstR (tvR 7)) (tstR (binR (cmpG .Lt) (tvR 2) (cstR (.int 2))))) (andB (tstR (binR (cmpG .Eq) (tvR 2) (cstR (.int 3)))) (tstR (binR (cmpG .Eq) (callD f__law_taken 0 (lenR (2 - 1) (consR (cstR (.int 2)) nilR))) (cstR (.int 0))))))) (seqS (appS 5 (dispR .tuple (consR (vaR 3) (consR (vaR 6) nilR)))) nxS) nxS) nxS))
def b__law_web_1 (f__law_taken : SemF) : SemS := (seqS (forS (rngR (lenR 2 (consR (binR addV (tvR 3) (cstR (.int 1))) (consR (tvR 4) nilR)))) (.nm 6) (b__law_web_2 f__law_taken)) nxS)
def t__law_web (f__law_taken : SemF) : SemS := (seqS (parS [4, 5] (vaE (binR addV (cstR (.int 1)) (callD f__law_taken 0 (lenR (2 - 1) (consR (vaR 1) nilR)))) (owE (dispR .list nilR) nilE))) (seqS (asgS (callD f__law_taken 0 (lenR (2 - 1) (consR (cstR (.int 4)) nilR))) (.nm 2)) (seqS (forS (rngR (lenR 1 (consR (tvR 4) nilR))) (.nm 3) (b__law_web_1 f__law_taken)) (seqS (rtS (dispR .tuple (consR (vaR 4) (consR (bltR tupleV (consR (tvR 5) nilR)) nilR)))) nxS))))
def r__law_web (f__law_taken : SemF) : SemF := runD ["_law_row_here", "_law_most", "_law_way", "_law_one", "_law_size", "_law_pairs", "_law_other", "_law_near"] true (t__law_web f__law_taken)
theorem R__law_web {f__law_taken : SemF} {a0 : PyData} {st : Dr} : r__law_web f__law_taken [a0] st = kOut (t__law_web f__law_taken [some .dr, some (.va a0), none, none, none, none, none, none] st) := k_run
def b__law_web_d3ee_2 (f__law_taken_0f99 : SemF) : SemS := (seqS (asgS (orR (binR (cmpG .Eq) (tvR 6) (binR addV (tvR 3) (cstR (.int 1)))) (andR (binR (cmpG .Eq) (tvR 3) (cstR (.int 0))) (andR (binR (cmpG .Eq) (tvR 6) (binR subV (tvR 4) (cstR (.int 1)))) (binR (cmpG .Eq) (tvR 2) (cstR (.int 1)))))) (.nm 7)) (seqS (ifS (orB (andB (tstR (binR (cmpG .Eq) (callD f__law_taken_0f99 0 (lenR (2 - 1) (consR (cstR (.int 3)) nilR))) (cstR (.int 0)))) (tstR (binR (cmpG .Gt) (tvR 2) (cstR (.int 1))))) (orB (andB (tstR (tvR 7)) (tstR (binR (cmpG .Lt) (tvR 2) (cstR (.int 2))))) (andB (tstR (binR (cmpG .Eq) (tvR 2) (cstR (.int 3)))) (tstR (binR (cmpG .Eq) (callD f__law_taken_0f99 0 (lenR (2 - 1) (consR (cstR (.int 2)) nilR))) (cstR (.int 0))))))) (seqS (appS 5 (dispR .tuple (consR (vaR 3) (consR (vaR 6) nilR)))) nxS) nxS) nxS))
def b__law_web_d3ee_1 (f__law_taken_0f99 : SemF) : SemS := (seqS (forS (rngR (lenR 2 (consR (binR addV (tvR 3) (cstR (.int 1))) (consR (tvR 4) nilR)))) (.nm 6) (b__law_web_d3ee_2 f__law_taken_0f99)) nxS)
def t__law_web_d3ee (f__law_taken_0f99 : SemF) : SemS := (seqS (parS [4, 5] (vaE (binR addV (cstR (.int 1)) (callD f__law_taken_0f99 0 (lenR (2 - 1) (consR (vaR 1) nilR)))) (owE (dispR .list nilR) nilE))) (seqS (asgS (callD f__law_taken_0f99 0 (lenR (2 - 1) (consR (cstR (.int 4)) nilR))) (.nm 2)) (seqS (forS (rngR (lenR 1 (consR (tvR 4) nilR))) (.nm 3) (b__law_web_d3ee_1 f__law_taken_0f99)) (seqS (rtS (dispR .tuple (consR (vaR 4) (consR (bltR tupleV (consR (tvR 5) nilR)) nilR)))) nxS))))
def r__law_web_d3ee (f__law_taken_0f99 : SemF) : SemF := runD ["_law_row_here", "_law_most", "_law_way", "_law_one", "_law_size", "_law_pairs", "_law_other", "_law_near"] true (t__law_web_d3ee f__law_taken_0f99)
theorem R__law_web_d3ee {f__law_taken_0f99 : SemF} {a0 : PyData} {st : Dr} : r__law_web_d3ee f__law_taken_0f99 [a0] st = kOut (t__law_web_d3ee f__law_taken_0f99 [some .dr, some (.va a0), none, none, none, none, none, none] st) := k_run
def t_after (f_need_web f_need_deed f_joined : SemF) : SemS := (seqS (exS (callR f_need_web (lenR 1 (consR (vaR 0) nilR)))) (seqS (exS (callR f_need_deed (lenR 2 (consR (vaR 0) (consR (vaR 1) nilR))))) (seqS (exS (callR f_need_deed (lenR 2 (consR (vaR 0) (consR (vaR 2) nilR))))) (seqS (rtS (callR f_joined (lenR 2 (consR (vaR 1) (consR (vaR 2) nilR))))) nxS))))
def r_after (f_need_web f_need_deed f_joined : SemF) : SemF := runD ["web", "one", "other"] false (t_after f_need_web f_need_deed f_joined)
theorem R_after {f_need_web f_need_deed f_joined : SemF} {a0 a1 a2 : PyData} {st : Dr} : r_after f_need_web f_need_deed f_joined [a0, a1, a2] st = kOut (t_after f_need_web f_need_deed f_joined [some (.va a0), some (.va a1), some (.va a2)] st) := k_run
def c_all_gatherings_1 (f_is_gathering : SemF) : SemB := (tstR (callR f_is_gathering (lenR 2 (consR (vaR 0) (consR (vaR 1) nilR)))))
def x_all_gatherings_2 : Sem1 := (vaR 1)
def t_all_gatherings (f_all_lots f_is_gathering : SemF) : SemS := (seqS (rtS (lcR (itemsG (callR f_all_lots (lenR 1 (consR (vaR 0) nilR)))) (.nm 1) [1] (c_all_gatherings_1 f_is_gathering) x_all_gatherings_2)) nxS)
def r_all_gatherings (f_all_lots f_is_gathering : SemF) : SemF := runD ["web", "one"] false (t_all_gatherings f_all_lots f_is_gathering)
theorem R_all_gatherings {f_all_lots f_is_gathering : SemF} {a0 : PyData} {st : Dr} : r_all_gatherings f_all_lots f_is_gathering [a0] st = kOut (t_all_gatherings f_all_lots f_is_gathering [some (.va a0), none] st) := k_run
def x_all_lots_2 : Sem1 := (dispR .tuple (starR (tvR 3) (consR (vaR 2) nilR)))
def b_all_lots_1 : SemS := (seqS (asgS (binR addV (tvR 1) (lcR (itemsG (tvR 1)) (.nm 3) [3] yesB x_all_lots_2)) (.nm 1)) nxS)
def t_all_lots : SemS := (seqS (asgS (dispR .list (consR (dispR .tuple nilR) nilR)) (.nm 1)) (seqS (forS (rngR (lenR 1 (consR (binR getW (tvR 0) (cstR (.int 0))) nilR))) (.nm 2) b_all_lots_1) (seqS (rtS (bltR sortedW (consR (tvR 1) nilR))) nxS)))
def r_all_lots : SemF := runD ["web", "found", "person", "one"] false t_all_lots
theorem R_all_lots {a0 : PyData} {st : Dr} : r_all_lots  [a0] st = kOut (t_all_lots  [some (.va a0), none, none, none] st) := k_run
def t_are_foes : SemS := (seqS (rtS (binR (cmpG .In) (dispR .tuple (consR (bltR minW (consR (tvR 1) (consR (tvR 2) nilR))) (consR (bltR maxW (consR (tvR 1) (consR (tvR 2) nilR))) nilR))) (binR getW (tvR 0) (cstR (.int 1))))) nxS)
def r_are_foes : SemF := runD ["web", "one", "other"] false t_are_foes
theorem R_are_foes {a0 a1 a2 : PyData} {st : Dr} : r_are_foes  [a0, a1, a2] st = kOut (t_are_foes  [some (.va a0), some (.va a1), some (.va a2)] st) := k_run
def x_calm_part_2 : Sem1 := (binR (cmpG .In) (tvR 8) (tvR 2))
def c_calm_part_1 (f_foes : SemF) : SemB := (andB (tstR (binR (cmpG .In) (tvR 7) (tvR 2))) (tstR (gxR false (itemsG (callR f_foes (lenR 2 (consR (vaR 0) (consR (vaR 7) nilR))))) (.nm 8) [8] yesB x_calm_part_2)))
def x_calm_part_3 : Sem1 := (vaR 7)
def c_calm_part_4 : SemB := (tstR (binR (cmpG .In) (tvR 7) (tvR 3)))
def x_calm_part_5 : Sem1 := (vaR 7)
def b_calm_part_8 : SemS := (seqS (ifS (andB (tstR (binR (cmpG .In) (tvR 8) (tvR 3))) (tstR (binR (cmpG .NotIn) (tvR 8) (tvR 4)))) (seqS (asgS (dispR .list (starR (tvR 4) (consR (vaR 8) nilR))) (.nm 4)) (seqS (appS 6 (vaR 8)) nxS)) nxS) nxS)
def b_calm_part_7 (f_foes : SemF) : SemS := (seqS (forS (itemsG (callR f_foes (lenR 2 (consR (vaR 0) (consR (vaR 7) nilR))))) (.nm 8) b_calm_part_8) nxS)
def b_calm_part_6 (f_foes : SemF) : SemS := (seqS (ownS (dispR .list nilR) 6) (seqS (forS (itemsG (vaR 5)) (.nm 7) (b_calm_part_7 f_foes)) (seqS (frzS 6 (asgS (vaR 6) (.nm 5))) nxS)))
def t_calm_part (f_foes : SemF) : SemS := (seqS (asgS (lcR (rngR (lenR 1 (consR (binR getW (tvR 0) (cstR (.int 0))) nilR))) (.nm 7) [7] (c_calm_part_1 f_foes) x_calm_part_3) (.nm 3)) (seqS (asgS (lcR (itemsG (tvR 1)) (.nm 7) [7] c_calm_part_4 x_calm_part_5) (.nm 4)) (seqS (asgS (bltR listW (consR (tvR 4) nilR)) (.nm 5)) (seqS (whileS (tstR (tvR 5)) (b_calm_part_6 f_foes) 1000000) (seqS (rtS (bltR sortedW (consR (tvR 4) nilR))) nxS)))))
def r_calm_part (f_foes : SemF) : SemF := runD ["web", "stays", "gone", "calm", "found", "rows", "more", "person", "other"] false (t_calm_part f_foes)
theorem R_calm_part {f_foes : SemF} {a0 a1 a2 : PyData} {st : Dr} : r_calm_part f_foes [a0, a1, a2] st = kOut (t_calm_part f_foes [some (.va a0), some (.va a1), some (.va a2), none, none, none, none, none, none] st) := k_run
def c_came_1 (f_are_foes : SemF) : SemB := (andB (tstR (binR (cmpG .NotEq) (tvR 4) (tvR 2))) (notB (tstR (callR f_are_foes (lenR 3 (consR (vaR 0) (consR (vaR 4) (consR (vaR 2) nilR))))))))
def x_came_2 : Sem1 := (vaR 4)
def t_came (f_are_foes : SemF) : SemS := (seqS (asgS (lcR (itemsG (tvR 1)) (.nm 4) [4] (c_came_1 f_are_foes) x_came_2) (.nm 3)) (seqS (rtS (bltR tupleV (consR (bltR sortedW (consR (dispR .list (starR (tvR 3) (consR (vaR 2) nilR))) nilR)) nilR))) nxS))
def r_came (f_are_foes : SemF) : SemF := runD ["web", "gathering", "person", "rest", "one"] false (t_came f_are_foes)
theorem R_came {f_are_foes : SemF} {a0 a1 a2 : PyData} {st : Dr} : r_came f_are_foes [a0, a1, a2] st = kOut (t_came f_are_foes [some (.va a0), some (.va a1), some (.va a2), none, none] st) := k_run
def t_come (f_need_gathering f_is_in f_came : SemF) : SemS := (seqS (exS (callR f_need_gathering (lenR 2 (consR (vaR 0) (consR (vaR 1) nilR))))) (seqS (ifS (notB (tstR (callR f_is_in (lenR 3 (consR (vaR 2) (consR (cstR (.int 0)) (consR (binR subV (binR getW (tvR 0) (cstR (.int 0))) (cstR (.int 1))) nilR))))))) (seqS neverS nxS) nxS) (seqS (rtS (callR f_came (lenR 3 (consR (vaR 0) (consR (vaR 1) (consR (vaR 2) nilR)))))) nxS)))
def r_come (f_need_gathering f_is_in f_came : SemF) : SemF := runD ["web", "gathering", "person"] false (t_come f_need_gathering f_is_in f_came)
theorem R_come {f_need_gathering f_is_in f_came : SemF} {a0 a1 a2 : PyData} {st : Dr} : r_come f_need_gathering f_is_in f_came [a0, a1, a2] st = kOut (t_come f_need_gathering f_is_in f_came [some (.va a0), some (.va a1), some (.va a2)] st) := k_run
def x_comes_1 : Sem1 := (binR (cmpG .In) (tvR 5) (tvR 2))
def t_comes (f_is_gathering f_is_lot f_calm_part f_with_foes : SemF) : SemS := (seqS (ifS (orB (notB (tstR (unR (isiV "tuple") (tvR 1)))) (tstR (binR (cmpG .NotEq) (bltR lenW (consR (tvR 1) nilR)) (cstR (.int 2))))) (seqS (rtS (cstR (.bool false))) nxS) nxS) (seqS (asgS (vaR 1) (.tp [3, 4])) (seqS (ifS (orB (notB (tstR (callR f_is_gathering (lenR 2 (consR (vaR 0) (consR (vaR 3) nilR)))))) (notB (tstR (callR f_is_lot (lenR 2 (consR (vaR 0) (consR (vaR 4) nilR))))))) (seqS (rtS (cstR (.bool false))) nxS) nxS) (seqS (asgS (callR f_calm_part (lenR 3 (consR (vaR 0) (consR (vaR 3) (consR (vaR 4) nilR))))) (.nm 2)) (seqS (rtS (andR (gxR false (itemsG (tvR 3)) (.nm 5) [5] yesB x_comes_1) (binR (cmpG .Eq) (callR f_with_foes (lenR 2 (consR (vaR 0) (consR (vaR 2) nilR)))) (tvR 4)))) nxS)))))
def r_comes (f_is_gathering f_is_lot f_calm_part f_with_foes : SemF) : SemF := runD ["web", "value", "part", "stays", "gone", "person"] false (t_comes f_is_gathering f_is_lot f_calm_part f_with_foes)
theorem R_comes {f_is_gathering f_is_lot f_calm_part f_with_foes : SemF} {a0 a1 : PyData} {st : Dr} : r_comes f_is_gathering f_is_lot f_calm_part f_with_foes [a0, a1] st = kOut (t_comes f_is_gathering f_is_lot f_calm_part f_with_foes [some (.va a0), some (.va a1), none, none, none, none] st) := k_run
def x_counts_1 : Sem1 := (bltR lenW (consR (tvR 2) nilR))
def x_counts_2 : Sem1 := (binR countV (tvR 1) (tvR 3))
def t_counts (f_all_gatherings : SemF) : SemS := (seqS (asgS (lcR (itemsG (callR f_all_gatherings (lenR 1 (consR (vaR 0) nilR)))) (.nm 2) [2] yesB x_counts_1) (.nm 1)) (seqS (rtS (lcR (rngR (lenR 1 (consR (binR addV (bltR maxW (consR (tvR 1) nilR)) (cstR (.int 1))) nilR))) (.nm 3) [3] yesB x_counts_2)) nxS))
def r_counts (f_all_gatherings : SemF) : SemF := runD ["web", "sizes", "one", "size"] false (t_counts f_all_gatherings)
theorem R_counts {f_all_gatherings : SemF} {a0 : PyData} {st : Dr} : r_counts f_all_gatherings [a0] st = kOut (t_counts f_all_gatherings [some (.va a0), none, none, none] st) := k_run
def t_deed (f_need_web f_need_row f_deed_of : SemF) : SemS := (seqS (exS (callR f_need_web (lenR 1 (consR (vaR 0) nilR)))) (seqS (exS (callR f_need_row (lenR 2 (consR (vaR 0) (consR (vaR 1) nilR))))) (seqS (rtS (callR f_deed_of (lenR 2 (consR (vaR 0) (consR (vaR 1) nilR))))) nxS)))
def r_deed (f_need_web f_need_row f_deed_of : SemF) : SemF := runD ["web", "row"] false (t_deed f_need_web f_need_row f_deed_of)
theorem R_deed {f_need_web f_need_row f_deed_of : SemF} {a0 a1 : PyData} {st : Dr} : r_deed f_need_web f_need_row f_deed_of [a0, a1] st = kOut (t_deed f_need_web f_need_row f_deed_of [some (.va a0), some (.va a1)] st) := k_run
def t_deed_done (f_need_gathering f_need_deed f_made : SemF) : SemS := (seqS (exS (callR f_need_gathering (lenR 2 (consR (vaR 0) (consR (vaR 1) nilR))))) (seqS (exS (callR f_need_deed (lenR 2 (consR (vaR 0) (consR (vaR 2) nilR))))) (seqS (rtS (callR f_made (lenR 2 (consR (vaR 2) (consR (vaR 1) nilR))))) nxS)))
def r_deed_done (f_need_gathering f_need_deed f_made : SemF) : SemF := runD ["web", "gathering", "deed"] false (t_deed_done f_need_gathering f_need_deed f_made)
theorem R_deed_done {f_need_gathering f_need_deed f_made : SemF} {a0 a1 a2 : PyData} {st : Dr} : r_deed_done f_need_gathering f_need_deed f_made [a0, a1, a2] st = kOut (t_deed_done f_need_gathering f_need_deed f_made [some (.va a0), some (.va a1), some (.va a2)] st) := k_run
def t_deed_of (f_stays_of f_with_foes : SemF) : SemS := (seqS (rtS (dispR .tuple (consR (callR f_stays_of (lenR 2 (consR (vaR 0) (consR (vaR 1) nilR)))) (consR (callR f_with_foes (lenR 2 (consR (vaR 0) (consR (vaR 1) nilR)))) nilR)))) nxS)
def r_deed_of (f_stays_of f_with_foes : SemF) : SemF := runD ["web", "row"] false (t_deed_of f_stays_of f_with_foes)
theorem R_deed_of {f_stays_of f_with_foes : SemF} {a0 a1 : PyData} {st : Dr} : r_deed_of f_stays_of f_with_foes [a0, a1] st = kOut (t_deed_of f_stays_of f_with_foes [some (.va a0), some (.va a1)] st) := k_run
def t_done (f_need_gathering f_need_row f_trace : SemF) : SemS := (seqS (exS (callR f_need_gathering (lenR 2 (consR (vaR 0) (consR (vaR 1) nilR))))) (seqS (exS (callR f_need_row (lenR 2 (consR (vaR 0) (consR (vaR 2) nilR))))) (seqS (rtS (binR getW (callR f_trace (lenR 3 (consR (vaR 0) (consR (vaR 1) (consR (vaR 2) nilR))))) (unR negV (cstR (.int 1))))) nxS)))
def r_done (f_need_gathering f_need_row f_trace : SemF) : SemF := runD ["web", "gathering", "row"] false (t_done f_need_gathering f_need_row f_trace)
theorem R_done {f_need_gathering f_need_row f_trace : SemF} {a0 a1 a2 : PyData} {st : Dr} : r_done f_need_gathering f_need_row f_trace [a0, a1, a2] st = kOut (t_done f_need_gathering f_need_row f_trace [some (.va a0), some (.va a1), some (.va a2)] st) := k_run
def c_fills_1 : SemB := (tstR (binR (cmpG .NotIn) (tvR 3) (tvR 1)))
def x_fills_2 : Sem1 := (vaR 3)
def x_fills_4 : Sem1 := (binR (cmpG .In) (tvR 4) (tvR 1))
def x_fills_3 (f_foes : SemF) : Sem1 := (gxR true (itemsG (callR f_foes (lenR 2 (consR (vaR 0) (consR (vaR 3) nilR))))) (.nm 4) [4] yesB x_fills_4)
def t_fills (f_foes : SemF) : SemS := (seqS (asgS (lcR (rngR (lenR 1 (consR (binR getW (tvR 0) (cstR (.int 0))) nilR))) (.nm 3) [3] c_fills_1 x_fills_2) (.nm 2)) (seqS (rtS (gxR false (itemsG (tvR 2)) (.nm 3) [3] yesB (x_fills_3 f_foes))) nxS))
def r_fills (f_foes : SemF) : SemF := runD ["web", "gathering", "rest", "person", "other"] false (t_fills f_foes)
theorem R_fills {f_foes : SemF} {a0 a1 : PyData} {st : Dr} : r_fills f_foes [a0, a1] st = kOut (t_fills f_foes [some (.va a0), some (.va a1), none, none, none] st) := k_run
def c_foes_1 (f_are_foes : SemF) : SemB := (tstR (callR f_are_foes (lenR 3 (consR (vaR 0) (consR (vaR 1) (consR (vaR 2) nilR))))))
def x_foes_2 : Sem1 := (vaR 2)
def t_foes (f_are_foes : SemF) : SemS := (seqS (rtS (lcR (rngR (lenR 1 (consR (binR getW (tvR 0) (cstR (.int 0))) nilR))) (.nm 2) [2] (c_foes_1 f_are_foes) x_foes_2)) nxS)
def r_foes (f_are_foes : SemF) : SemF := runD ["web", "person", "other"] false (t_foes f_are_foes)
theorem R_foes {f_are_foes : SemF} {a0 a1 : PyData} {st : Dr} : r_foes f_are_foes [a0, a1] st = kOut (t_foes f_are_foes [some (.va a0), some (.va a1), none] st) := k_run
def t_foes_of (f_need_person f_foes : SemF) : SemS := (seqS (exS (callR f_need_person (lenR 2 (consR (vaR 0) (consR (vaR 1) nilR))))) (seqS (rtS (bltR tupleV (consR (callR f_foes (lenR 2 (consR (vaR 0) (consR (vaR 1) nilR)))) nilR))) nxS))
def r_foes_of (f_need_person f_foes : SemF) : SemF := runD ["web", "person"] false (t_foes_of f_need_person f_foes)
theorem R_foes_of {f_need_person f_foes : SemF} {a0 a1 : PyData} {st : Dr} : r_foes_of f_need_person f_foes [a0, a1] st = kOut (t_foes_of f_need_person f_foes [some (.va a0), some (.va a1)] st) := k_run
def t_forgets (f_need_doing : SemF) : SemS := (seqS (exS (callR f_need_doing (lenR 2 (consR (vaR 0) (consR (vaR 1) nilR))))) (seqS (rtS (binR (cmpG .Eq) (bltR lenW (consR (binR getW (tvR 1) (cstR (.int 1))) nilR)) (binR getW (tvR 0) (cstR (.int 0))))) nxS))
def r_forgets (f_need_doing : SemF) : SemF := runD ["web", "deed"] false (t_forgets f_need_doing)
theorem R_forgets {f_need_doing : SemF} {a0 a1 : PyData} {st : Dr} : r_forgets f_need_doing [a0, a1] st = kOut (t_forgets f_need_doing [some (.va a0), some (.va a1)] st) := k_run
def c_full_gatherings_1 (f_fills : SemF) : SemB := (tstR (callR f_fills (lenR 2 (consR (vaR 0) (consR (vaR 1) nilR)))))
def x_full_gatherings_2 : Sem1 := (vaR 1)
def t_full_gatherings (f_need_web f_all_gatherings f_fills : SemF) : SemS := (seqS (exS (callR f_need_web (lenR 1 (consR (vaR 0) nilR)))) (seqS (rtS (bltR tupleV (consR (lcR (itemsG (callR f_all_gatherings (lenR 1 (consR (vaR 0) nilR)))) (.nm 1) [1] (c_full_gatherings_1 f_fills) x_full_gatherings_2) nilR))) nxS))
def r_full_gatherings (f_need_web f_all_gatherings f_fills : SemF) : SemF := runD ["web", "one"] false (t_full_gatherings f_need_web f_all_gatherings f_fills)
theorem R_full_gatherings {f_need_web f_all_gatherings f_fills : SemF} {a0 : PyData} {st : Dr} : r_full_gatherings f_need_web f_all_gatherings f_fills [a0] st = kOut (t_full_gatherings f_need_web f_all_gatherings f_fills [some (.va a0), none] st) := k_run
def x_full_web_2 : Sem1 := (dispR .tuple (consR (vaR 2) (consR (vaR 3) nilR)))
def b_full_web_1 : SemS := (seqS (asgS (binR addV (tvR 1) (lcR (rngR (lenR 2 (consR (binR addV (tvR 2) (cstR (.int 1))) (consR (tvR 0) nilR)))) (.nm 3) [3] yesB x_full_web_2)) (.nm 1)) nxS)
def t_full_web (f_need_size : SemF) : SemS := (seqS (exS (callR f_need_size (lenR 1 (consR (vaR 0) nilR)))) (seqS (asgS (dispR .list nilR) (.nm 1)) (seqS (forS (rngR (lenR 1 (consR (tvR 0) nilR))) (.nm 2) b_full_web_1) (seqS (rtS (dispR .tuple (consR (vaR 0) (consR (bltR tupleV (consR (tvR 1) nilR)) nilR)))) nxS))))
def r_full_web (f_need_size : SemF) : SemF := runD ["size", "pairs", "one", "other"] false (t_full_web f_need_size)
theorem R_full_web {f_need_size : SemF} {a0 : PyData} {st : Dr} : r_full_web f_need_size [a0] st = kOut (t_full_web f_need_size [some (.va a0), none, none, none] st) := k_run
def t_gathering_count (f_need_web f_all_gatherings : SemF) : SemS := (seqS (exS (callR f_need_web (lenR 1 (consR (vaR 0) nilR)))) (seqS (rtS (bltR lenW (consR (callR f_all_gatherings (lenR 1 (consR (vaR 0) nilR))) nilR))) nxS))
def r_gathering_count (f_need_web f_all_gatherings : SemF) : SemF := runD ["web"] false (t_gathering_count f_need_web f_all_gatherings)
theorem R_gathering_count {f_need_web f_all_gatherings : SemF} {a0 : PyData} {st : Dr} : r_gathering_count f_need_web f_all_gatherings [a0] st = kOut (t_gathering_count f_need_web f_all_gatherings [some (.va a0)] st) := k_run
def t_gatherings (f_need_web f_all_gatherings : SemF) : SemS := (seqS (exS (callR f_need_web (lenR 1 (consR (vaR 0) nilR)))) (seqS (rtS (bltR tupleV (consR (callR f_all_gatherings (lenR 1 (consR (vaR 0) nilR))) nilR))) nxS))
def r_gatherings (f_need_web f_all_gatherings : SemF) : SemF := runD ["web"] false (t_gatherings f_need_web f_all_gatherings)
theorem R_gatherings {f_need_web f_all_gatherings : SemF} {a0 : PyData} {st : Dr} : r_gatherings f_need_web f_all_gatherings [a0] st = kOut (t_gatherings f_need_web f_all_gatherings [some (.va a0)] st) := k_run
def t_is_full (f_need_gathering f_fills : SemF) : SemS := (seqS (exS (callR f_need_gathering (lenR 2 (consR (vaR 0) (consR (vaR 1) nilR))))) (seqS (rtS (callR f_fills (lenR 2 (consR (vaR 0) (consR (vaR 1) nilR))))) nxS))
def r_is_full (f_need_gathering f_fills : SemF) : SemF := runD ["web", "gathering"] false (t_is_full f_need_gathering f_fills)
theorem R_is_full {f_need_gathering f_fills : SemF} {a0 a1 : PyData} {st : Dr} : r_is_full f_need_gathering f_fills [a0, a1] st = kOut (t_is_full f_need_gathering f_fills [some (.va a0), some (.va a1)] st) := k_run
def x_is_gathering_1 : Sem1 := (andR (binR (cmpG .In) (tvR 2) (tvR 1)) (binR (cmpG .In) (tvR 3) (tvR 1)))
def t_is_gathering (f_is_lot : SemF) : SemS := (seqS (rtS (andR (callR f_is_lot (lenR 2 (consR (vaR 0) (consR (vaR 1) nilR)))) (notR (gxR true (itemsG (binR getW (tvR 0) (cstR (.int 1)))) (.tp [2, 3]) [2, 3] yesB x_is_gathering_1)))) nxS)
def r_is_gathering (f_is_lot : SemF) : SemF := runD ["web", "value", "one", "other"] false (t_is_gathering f_is_lot)
theorem R_is_gathering {f_is_lot : SemF} {a0 a1 : PyData} {st : Dr} : r_is_gathering f_is_lot [a0, a1] st = kOut (t_is_gathering f_is_lot [some (.va a0), some (.va a1), none, none] st) := k_run
def t_is_in : SemS := (seqS (rtS (andR (unR (isiV "int") (tvR 0)) (andR (notR (unR (isiV "bool") (tvR 0))) (chnR (cmpG .LtE) (cmpG .LtE) (tvR 1) (tvR 0) (tvR 2))))) nxS)
def r_is_in : SemF := runD ["value", "least", "most"] false t_is_in
theorem R_is_in {a0 a1 a2 : PyData} {st : Dr} : r_is_in  [a0, a1, a2] st = kOut (t_is_in  [some (.va a0), some (.va a1), some (.va a2)] st) := k_run
def x_is_lot_1 (f_is_in : SemF) : Sem1 := (callR f_is_in (lenR 3 (consR (vaR 3) (consR (cstR (.int 0)) (consR (binR subV (binR getW (tvR 0) (cstR (.int 0))) (cstR (.int 1))) nilR)))))
def x_is_lot_2 : Sem1 := (binR (cmpG .Lt) (binR getW (tvR 1) (tvR 2)) (binR getW (tvR 1) (binR addV (tvR 2) (cstR (.int 1)))))
def t_is_lot (f_is_in : SemF) : SemS := (seqS (ifS (orB (notB (tstR (unR (isiV "tuple") (tvR 1)))) (notB (tstR (gxR false (itemsG (tvR 1)) (.nm 3) [3] yesB (x_is_lot_1 f_is_in))))) (seqS (rtS (cstR (.bool false))) nxS) nxS) (seqS (rtS (gxR false (rngR (lenR 1 (consR (binR subV (bltR lenW (consR (tvR 1) nilR)) (cstR (.int 1))) nilR))) (.nm 2) [2] yesB x_is_lot_2)) nxS))
def r_is_lot (f_is_in : SemF) : SemF := runD ["web", "value", "k", "one"] false (t_is_lot f_is_in)
theorem R_is_lot {f_is_in : SemF} {a0 a1 : PyData} {st : Dr} : r_is_lot f_is_in [a0, a1] st = kOut (t_is_lot f_is_in [some (.va a0), some (.va a1), none, none] st) := k_run
def x_is_row_1 (f_is_in : SemF) : Sem1 := (callR f_is_in (lenR 3 (consR (vaR 2) (consR (cstR (.int 0)) (consR (binR subV (binR getW (tvR 0) (cstR (.int 0))) (cstR (.int 1))) nilR)))))
def t_is_row (f_is_in : SemF) : SemS := (seqS (rtS (andR (unR (isiV "tuple") (tvR 1)) (andR (binR (cmpG .LtE) (bltR lenW (consR (tvR 1) nilR)) (cstR (.int 30))) (gxR false (itemsG (tvR 1)) (.nm 2) [2] yesB (x_is_row_1 f_is_in))))) nxS)
def r_is_row (f_is_in : SemF) : SemF := runD ["web", "value", "one"] false (t_is_row f_is_in)
theorem R_is_row {f_is_in : SemF} {a0 a1 : PyData} {st : Dr} : r_is_row f_is_in [a0, a1] st = kOut (t_is_row f_is_in [some (.va a0), some (.va a1), none] st) := k_run
def x_joined_1 : Sem1 := (vaR 2)
def x_joined_2 : Sem1 := (cstR (.bool true))
def t_joined (f_made : SemF) : SemS := (seqS (rtS (dispR .tuple (consR (callR f_made (lenR 2 (consR (vaR 1) (consR (binR getW (tvR 0) (cstR (.int 0))) nilR)))) (consR (bltR tupleV (consR (bltR sortedW (consR (dcR (itemsG (dispR .tuple (starR (binR getW (tvR 0) (cstR (.int 1))) (starR (binR getW (tvR 1) (cstR (.int 1))) nilR)))) (.nm 2) [2] yesB x_joined_1 x_joined_2) nilR)) nilR)) nilR)))) nxS)
def r_joined (f_made : SemF) : SemF := runD ["one", "other", "person"] false (t_joined f_made)
theorem R_joined {f_made : SemF} {a0 a1 : PyData} {st : Dr} : r_joined f_made [a0, a1] st = kOut (t_joined f_made [some (.va a0), some (.va a1), none] st) := k_run
def x_largest_1 : Sem1 := (bltR lenW (consR (tvR 3) nilR))
def c_largest_2 : SemB := (tstR (binR (cmpG .Eq) (bltR lenW (consR (tvR 3) nilR)) (tvR 2)))
def x_largest_3 : Sem1 := (vaR 3)
def t_largest (f_need_web f_all_gatherings : SemF) : SemS := (seqS (exS (callR f_need_web (lenR 1 (consR (vaR 0) nilR)))) (seqS (asgS (callR f_all_gatherings (lenR 1 (consR (vaR 0) nilR))) (.nm 1)) (seqS (asgS (bltR maxW (consR (lcR (itemsG (tvR 1)) (.nm 3) [3] yesB x_largest_1) nilR)) (.nm 2)) (seqS (rtS (bltR tupleV (consR (lcR (itemsG (tvR 1)) (.nm 3) [3] c_largest_2 x_largest_3) nilR))) nxS))))
def r_largest (f_need_web f_all_gatherings : SemF) : SemF := runD ["web", "some", "most", "one"] false (t_largest f_need_web f_all_gatherings)
theorem R_largest {f_need_web f_all_gatherings : SemF} {a0 : PyData} {st : Dr} : r_largest f_need_web f_all_gatherings [a0] st = kOut (t_largest f_need_web f_all_gatherings [some (.va a0), none, none, none] st) := k_run
def c_made_1 : SemB := (tstR (binR (cmpG .NotIn) (tvR 4) (tvR 3)))
def x_made_2 : Sem1 := (vaR 4)
def t_made : SemS := (seqS (asgS (vaR 0) (.tp [2, 3])) (seqS (rtS (bltR tupleV (consR (bltR sortedW (consR (dispR .list (starR (tvR 2) (starR (lcR (itemsG (tvR 1)) (.nm 4) [4] c_made_1 x_made_2) nilR))) nilR)) nilR))) nxS))
def r_made : SemF := runD ["some", "gathering", "stays", "gone", "person"] false t_made
theorem R_made {a0 a1 : PyData} {st : Dr} : r_made  [a0, a1] st = kOut (t_made  [some (.va a0), some (.va a1), none, none, none] st) := k_run
def t_need_deed (f_comes : SemF) : SemS := (seqS (ifS (notB (tstR (callR f_comes (lenR 2 (consR (vaR 0) (consR (vaR 1) nilR)))))) (seqS neverS nxS) nxS) nxS)
def r_need_deed (f_comes : SemF) : SemF := runD ["web", "some"] false (t_need_deed f_comes)
theorem R_need_deed {f_comes : SemF} {a0 a1 : PyData} {st : Dr} : r_need_deed f_comes [a0, a1] st = kOut (t_need_deed f_comes [some (.va a0), some (.va a1)] st) := k_run
def t_need_doing (f_need_web f_need_deed : SemF) : SemS := (seqS (exS (callR f_need_web (lenR 1 (consR (vaR 0) nilR)))) (seqS (exS (callR f_need_deed (lenR 2 (consR (vaR 0) (consR (vaR 1) nilR))))) nxS))
def r_need_doing (f_need_web f_need_deed : SemF) : SemF := runD ["web", "deed"] false (t_need_doing f_need_web f_need_deed)
theorem R_need_doing {f_need_web f_need_deed : SemF} {a0 a1 : PyData} {st : Dr} : r_need_doing f_need_web f_need_deed [a0, a1] st = kOut (t_need_doing f_need_web f_need_deed [some (.va a0), some (.va a1)] st) := k_run
def t_need_gathering (f_need_web f_is_gathering : SemF) : SemS := (seqS (exS (callR f_need_web (lenR 1 (consR (vaR 0) nilR)))) (seqS (ifS (notB (tstR (callR f_is_gathering (lenR 2 (consR (vaR 0) (consR (vaR 1) nilR)))))) (seqS neverS nxS) nxS) nxS))
def r_need_gathering (f_need_web f_is_gathering : SemF) : SemF := runD ["web", "gathering"] false (t_need_gathering f_need_web f_is_gathering)
theorem R_need_gathering {f_need_web f_is_gathering : SemF} {a0 a1 : PyData} {st : Dr} : r_need_gathering f_need_web f_is_gathering [a0, a1] st = kOut (t_need_gathering f_need_web f_is_gathering [some (.va a0), some (.va a1)] st) := k_run
def t_need_person (f_need_web f_is_in : SemF) : SemS := (seqS (exS (callR f_need_web (lenR 1 (consR (vaR 0) nilR)))) (seqS (ifS (notB (tstR (callR f_is_in (lenR 3 (consR (vaR 1) (consR (cstR (.int 0)) (consR (binR subV (binR getW (tvR 0) (cstR (.int 0))) (cstR (.int 1))) nilR))))))) (seqS neverS nxS) nxS) nxS))
def r_need_person (f_need_web f_is_in : SemF) : SemF := runD ["web", "person"] false (t_need_person f_need_web f_is_in)
theorem R_need_person {f_need_web f_is_in : SemF} {a0 a1 : PyData} {st : Dr} : r_need_person f_need_web f_is_in [a0, a1] st = kOut (t_need_person f_need_web f_is_in [some (.va a0), some (.va a1)] st) := k_run
def t_need_row (f_is_row : SemF) : SemS := (seqS (ifS (notB (tstR (callR f_is_row (lenR 2 (consR (vaR 0) (consR (vaR 1) nilR)))))) (seqS neverS nxS) nxS) nxS)
def r_need_row (f_is_row : SemF) : SemF := runD ["web", "row"] false (t_need_row f_is_row)
theorem R_need_row {f_is_row : SemF} {a0 a1 : PyData} {st : Dr} : r_need_row f_is_row [a0, a1] st = kOut (t_need_row f_is_row [some (.va a0), some (.va a1)] st) := k_run
def t_need_rows (f_need_web f_need_row : SemF) : SemS := (seqS (exS (callR f_need_web (lenR 1 (consR (vaR 0) nilR)))) (seqS (exS (callR f_need_row (lenR 2 (consR (vaR 0) (consR (vaR 1) nilR))))) (seqS (exS (callR f_need_row (lenR 2 (consR (vaR 0) (consR (vaR 2) nilR))))) nxS)))
def r_need_rows (f_need_web f_need_row : SemF) : SemF := runD ["web", "one", "other"] false (t_need_rows f_need_web f_need_row)
theorem R_need_rows {f_need_web f_need_row : SemF} {a0 a1 a2 : PyData} {st : Dr} : r_need_rows f_need_web f_need_row [a0, a1, a2] st = kOut (t_need_rows f_need_web f_need_row [some (.va a0), some (.va a1), some (.va a2)] st) := k_run
def t_need_size (f_is_in : SemF) : SemS := (seqS (ifS (notB (tstR (callR f_is_in (lenR 3 (consR (vaR 0) (consR (cstR (.int 1)) (consR (cstR (.int 7)) nilR))))))) (seqS neverS nxS) nxS) nxS)
def r_need_size (f_is_in : SemF) : SemF := runD ["size"] false (t_need_size f_is_in)
theorem R_need_size {f_is_in : SemF} {a0 : PyData} {st : Dr} : r_need_size f_is_in [a0] st = kOut (t_need_size f_is_in [some (.va a0)] st) := k_run
def b_need_web_1 (f_is_in : SemF) : SemS := (seqS (ifS (orB (notB (tstR (unR (isiV "tuple") (tvR 1)))) (orB (tstR (binR (cmpG .NotEq) (bltR lenW (consR (tvR 1) nilR)) (cstR (.int 2)))) (notB (tstR (callR f_is_in (lenR 3 (consR (binR getW (tvR 1) (cstR (.int 0))) (consR (cstR (.int 0)) (consR (binR subV (binR getW (tvR 0) (cstR (.int 0))) (cstR (.int 1))) nilR))))))))) (seqS neverS nxS) nxS) (seqS (ifS (notB (tstR (callR f_is_in (lenR 3 (consR (binR getW (tvR 1) (cstR (.int 1))) (consR (binR addV (binR getW (tvR 1) (cstR (.int 0))) (cstR (.int 1))) (consR (binR subV (binR getW (tvR 0) (cstR (.int 0))) (cstR (.int 1))) nilR))))))) (seqS neverS nxS) nxS) nxS))
def x_need_web_2 : Sem1 := (binR (cmpG .GtE) (binR getW (binR getW (tvR 0) (cstR (.int 1))) (tvR 2)) (binR getW (binR getW (tvR 0) (cstR (.int 1))) (binR addV (tvR 2) (cstR (.int 1)))))
def t_need_web (f_is_in : SemF) : SemS := (seqS (ifS (orB (notB (tstR (unR (isiV "tuple") (tvR 0)))) (orB (tstR (binR (cmpG .NotEq) (bltR lenW (consR (tvR 0) nilR)) (cstR (.int 2)))) (notB (tstR (callR f_is_in (lenR 3 (consR (binR getW (tvR 0) (cstR (.int 0))) (consR (cstR (.int 1)) (consR (cstR (.int 7)) nilR))))))))) (seqS neverS nxS) nxS) (seqS (ifS (notB (tstR (unR (isiV "tuple") (binR getW (tvR 0) (cstR (.int 1)))))) (seqS neverS nxS) nxS) (seqS (forS (itemsG (binR getW (tvR 0) (cstR (.int 1)))) (.nm 1) (b_need_web_1 f_is_in)) (seqS (ifS (tstR (gxR true (rngR (lenR 1 (consR (binR subV (bltR lenW (consR (binR getW (tvR 0) (cstR (.int 1))) nilR)) (cstR (.int 1))) nilR))) (.nm 2) [2] yesB x_need_web_2)) (seqS neverS nxS) nxS) nxS))))
def r_need_web (f_is_in : SemF) : SemF := runD ["web", "pair", "k"] false (t_need_web f_is_in)
theorem R_need_web {f_is_in : SemF} {a0 : PyData} {st : Dr} : r_need_web f_is_in [a0] st = kOut (t_need_web f_is_in [some (.va a0), none, none] st) := k_run
def x_ring_web_1 : Sem1 := (dispR .tuple (consR (vaR 2) (consR (binR addV (tvR 2) (cstR (.int 1))) nilR)))
def t_ring_web (f_need_size : SemF) : SemS := (seqS (exS (callR f_need_size (lenR 1 (consR (vaR 0) nilR)))) (seqS (asgS (lcR (rngR (lenR 1 (consR (binR subV (tvR 0) (cstR (.int 1))) nilR))) (.nm 2) [2] yesB x_ring_web_1) (.nm 1)) (seqS (rtS (dispR .tuple (consR (vaR 0) (consR (bltR tupleV (consR (bltR sortedW (consR (iteR (tstR (binR (cmpG .Gt) (tvR 0) (cstR (.int 2)))) (dispR .list (starR (tvR 1) (consR (dispR .tuple (consR (cstR (.int 0)) (consR (binR subV (tvR 0) (cstR (.int 1))) nilR))) nilR))) (vaR 1)) nilR)) nilR)) nilR)))) nxS)))
def r_ring_web (f_need_size : SemF) : SemF := runD ["size", "pairs", "one"] false (t_ring_web f_need_size)
theorem R_ring_web {f_need_size : SemF} {a0 : PyData} {st : Dr} : r_ring_web f_need_size [a0] st = kOut (t_ring_web f_need_size [some (.va a0), none, none] st) := k_run
def x_row_web_1 : Sem1 := (dispR .tuple (consR (vaR 1) (consR (binR addV (tvR 1) (cstR (.int 1))) nilR)))
def t_row_web (f_need_size : SemF) : SemS := (seqS (exS (callR f_need_size (lenR 1 (consR (vaR 0) nilR)))) (seqS (rtS (dispR .tuple (consR (vaR 0) (consR (bltR tupleV (consR (lcR (rngR (lenR 1 (consR (binR subV (tvR 0) (cstR (.int 1))) nilR))) (.nm 1) [1] yesB x_row_web_1) nilR)) nilR)))) nxS))
def r_row_web (f_need_size : SemF) : SemF := runD ["size", "one"] false (t_row_web f_need_size)
theorem R_row_web {f_need_size : SemF} {a0 : PyData} {st : Dr} : r_row_web f_need_size [a0] st = kOut (t_row_web f_need_size [some (.va a0), none] st) := k_run
def t_same_deed (f_need_rows f_deed_of : SemF) : SemS := (seqS (exS (callR f_need_rows (lenR 3 (consR (vaR 0) (consR (vaR 1) (consR (vaR 2) nilR)))))) (seqS (rtS (binR (cmpG .Eq) (callR f_deed_of (lenR 2 (consR (vaR 0) (consR (vaR 1) nilR)))) (callR f_deed_of (lenR 2 (consR (vaR 0) (consR (vaR 2) nilR)))))) nxS))
def r_same_deed (f_need_rows f_deed_of : SemF) : SemF := runD ["web", "one", "other"] false (t_same_deed f_need_rows f_deed_of)
theorem R_same_deed {f_need_rows f_deed_of : SemF} {a0 a1 a2 : PyData} {st : Dr} : r_same_deed f_need_rows f_deed_of [a0, a1, a2] st = kOut (t_same_deed f_need_rows f_deed_of [some (.va a0), some (.va a1), some (.va a2)] st) := k_run
def t_size_counts (f_need_web f_counts : SemF) : SemS := (seqS (exS (callR f_need_web (lenR 1 (consR (vaR 0) nilR)))) (seqS (rtS (bltR tupleV (consR (callR f_counts (lenR 1 (consR (vaR 0) nilR))) nilR))) nxS))
def r_size_counts (f_need_web f_counts : SemF) : SemF := runD ["web"] false (t_size_counts f_need_web f_counts)
theorem R_size_counts {f_need_web f_counts : SemF} {a0 : PyData} {st : Dr} : r_size_counts f_need_web f_counts [a0] st = kOut (t_size_counts f_need_web f_counts [some (.va a0)] st) := k_run
def x_stays_of_2 : Sem1 := (binR (cmpG .In) (tvR 5) (tvR 4))
def b_stays_of_1 (f_foes : SemF) : SemS := (seqS (ifS (andB (tstR (binR (cmpG .NotIn) (tvR 2) (tvR 4))) (notB (tstR (gxR true (itemsG (callR f_foes (lenR 2 (consR (vaR 0) (consR (vaR 2) nilR))))) (.nm 5) [5] yesB x_stays_of_2)))) (seqS (appS 3 (vaR 2)) nxS) nxS) (seqS (setG 4 (tvR 2) (cstR (.bool true))) nxS))
def t_stays_of (f_foes : SemF) : SemS := (seqS (parS [3, 4] (owE (dispR .list nilR) (owE newD nilE))) (seqS (forS (itemsG (unR revV (tvR 1))) (.nm 2) (b_stays_of_1 f_foes)) (seqS (rtS (bltR tupleV (consR (bltR sortedW (consR (tvR 3) nilR)) nilR))) nxS)))
def r_stays_of (f_foes : SemF) : SemF := runD ["web", "row", "person", "found", "later", "other"] false (t_stays_of f_foes)
theorem R_stays_of {f_foes : SemF} {a0 a1 : PyData} {st : Dr} : r_stays_of f_foes [a0, a1] st = kOut (t_stays_of f_foes [some (.va a0), some (.va a1), none, none, none, none] st) := k_run
def b_trace_1 (f_came : SemF) : SemS := (seqS (appS 3 (callR f_came (lenR 3 (consR (vaR 0) (consR (binR getW (tvR 3) (unR negV (cstR (.int 1)))) (consR (vaR 4) nilR)))))) nxS)
def t_trace (f_came : SemF) : SemS := (seqS (ownS (dispR .list (consR (vaR 1) nilR)) 3) (seqS (forS (itemsG (vaR 2)) (.nm 4) (b_trace_1 f_came)) (seqS (frzS 3 (rtS (vaR 3))) nxS)))
def r_trace (f_came : SemF) : SemF := runD ["web", "gathering", "row", "found", "person"] false (t_trace f_came)
theorem R_trace {f_came : SemF} {a0 a1 a2 : PyData} {st : Dr} : r_trace f_came [a0, a1, a2] st = kOut (t_trace f_came [some (.va a0), some (.va a1), some (.va a2), none, none] st) := k_run
def t_traced (f_need_gathering f_need_row f_trace : SemF) : SemS := (seqS (exS (callR f_need_gathering (lenR 2 (consR (vaR 0) (consR (vaR 1) nilR))))) (seqS (exS (callR f_need_row (lenR 2 (consR (vaR 0) (consR (vaR 2) nilR))))) (seqS (rtS (bltR tupleV (consR (callR f_trace (lenR 3 (consR (vaR 0) (consR (vaR 1) (consR (vaR 2) nilR))))) nilR))) nxS)))
def r_traced (f_need_gathering f_need_row f_trace : SemF) : SemF := runD ["web", "gathering", "row"] false (t_traced f_need_gathering f_need_row f_trace)
theorem R_traced {f_need_gathering f_need_row f_trace : SemF} {a0 a1 a2 : PyData} {st : Dr} : r_traced f_need_gathering f_need_row f_trace [a0, a1, a2] st = kOut (t_traced f_need_gathering f_need_row f_trace [some (.va a0), some (.va a1), some (.va a2)] st) := k_run
def x_with_foes_1 : Sem1 := (vaR 3)
def x_with_foes_2 : Sem1 := (cstR (.bool true))
def b_with_foes_4 : SemS := (seqS (setG 2 (tvR 4) (cstR (.bool true))) nxS)
def b_with_foes_3 (f_foes : SemF) : SemS := (seqS (forS (itemsG (callR f_foes (lenR 2 (consR (vaR 0) (consR (vaR 3) nilR))))) (.nm 4) b_with_foes_4) nxS)
def t_with_foes (f_foes : SemF) : SemS := (seqS (ownS (dcR (itemsG (tvR 1)) (.nm 3) [3] yesB x_with_foes_1 x_with_foes_2) 2) (seqS (forS (itemsG (vaR 1)) (.nm 3) (b_with_foes_3 f_foes)) (seqS (rtS (bltR tupleV (consR (bltR sortedW (consR (tvR 2) nilR)) nilR))) nxS)))
def r_with_foes (f_foes : SemF) : SemF := runD ["web", "people", "found", "person", "other"] false (t_with_foes f_foes)
theorem R_with_foes {f_foes : SemF} {a0 a1 : PyData} {st : Dr} : r_with_foes f_foes [a0, a1] st = kOut (t_with_foes f_foes [some (.va a0), some (.va a1), none, none, none] st) := k_run
end W
/-! lots of people, comings, deeds: plain -/
namespace Th
def ran (n : Nat) : List Int := (List.range n).map fun k : Nat => (k : Int)
abbrev PP := Int → Bool
abbrev FF := Int → Int → Bool
def lot (n : Nat) (P : PP) : List Int := (ran n).filter P
theorem mem_ran {n : Nat} {x : Int} : x ∈ ran n ↔ 0 ≤ x ∧ x < n := by
  unfold ran
  rw [List.mem_map]
  constructor
  · rintro ⟨k, h, rfl⟩
    have := List.mem_range.mp h
    omega
  · rintro ⟨h1, h2⟩
    exact ⟨x.toNat, List.mem_range.mpr (by omega), by omega⟩
theorem ran_pw (n : Nat) : (ran n).Pairwise (· < ·) := by
  unfold ran
  rw [List.pairwise_map]
  exact List.pairwise_lt_range.imp fun h => by omega
theorem ran_length (n : Nat) : (ran n).length = n := by simp [ran]
theorem mem_lot {n : Nat} {P : PP} {x : Int} : x ∈ lot n P ↔ (0 ≤ x ∧ x < n) ∧ P x = true := by
  unfold lot
  rw [List.mem_filter, mem_ran]
theorem lot_pw (n : Nat) (P : PP) : (lot n P).Pairwise (· < ·) := (ran_pw n).filter P
theorem lot_length (n : Nat) (P : PP) : (lot n P).length ≤ n := by
  have := List.length_filter_le P (ran n)
  rw [ran_length] at this
  exact this
theorem pw_ext : ∀ {l m : List Int}, l.Pairwise (· < ·) → m.Pairwise (· < ·) → (∀ x, x ∈ l ↔ x ∈ m) → l = m
  | [], [], _, _, _ => rfl
  | [], b :: m, _, _, h => by simpa using (h b).mpr (List.mem_cons_self ..)
  | a :: l, [], _, _, h => by simpa using (h a).mp (List.mem_cons_self ..)
  | a :: l, b :: m, hl, hm, h => by
    rw [List.pairwise_cons] at hl hm
    have hab : a = b := by
      have h1 := (h a).mp (List.mem_cons_self ..)
      have h2 := (h b).mpr (List.mem_cons_self ..)
      rcases List.mem_cons.mp h1 with e | e
      · exact e
      · rcases List.mem_cons.mp h2 with e2 | e2
        · exact e2.symm
        · have := hl.1 b e2
          have := hm.1 a e
          omega
    subst hab
    refine congrArg _ (pw_ext hl.2 hm.2 fun x => ?_)
    have hx := h x
    rw [List.mem_cons, List.mem_cons] at hx
    constructor
    · intro q
      have := hl.1 x q
      rcases hx.mp (.inr q) with e | e
      · omega
      · exact e
    · intro q
      have := hm.1 x q
      rcases hx.mpr (.inr q) with e | e
      · omega
      · exact e
theorem eq_lot {n : Nat} {l : List Int} {P : PP} (hp : l.Pairwise (· < ·)) (h : ∀ x, x ∈ l ↔ (0 ≤ x ∧ x < n) ∧ P x = true) : l = lot n P :=
  pw_ext hp (lot_pw n P) fun x => by rw [h, mem_lot]
/-- a lot, told by the list's own members -/
def inl (l : List Int) : PP := fun x => decide (x ∈ l)
theorem lot_of {n : Nat} {l : List Int} (hp : l.Pairwise (· < ·)) (h : ∀ x ∈ l, 0 ≤ x ∧ x < n) : l = lot n (inl l) :=
  eq_lot hp fun x => by
    unfold inl
    rw [decide_eq_true_eq]
    exact ⟨fun q => ⟨h x q, q⟩, fun q => q.2⟩
theorem nodup_of_pw {l : List Int} (h : l.Pairwise (· < ·)) : l.Nodup := h.imp fun h => by omega
/-! ### foes, comings -/
/-- foes: told both ways -/
structure Foe (F : FF) : Prop where
  sym : ∀ x y, F x y = F y x
  irr : ∀ x, F x x = false
/-- no two are foes -/
def Gth (n : Nat) (F : FF) (P : PP) : Prop := ∀ x y : Int, 0 ≤ x → x < n → 0 ≤ y → y < n → P x = true → P y = true → F x y = false
def came (F : FF) (P : PP) (p : Int) : PP := fun x => decide (x = p) || (P x && !F x p)
def none0 : PP := fun _ => false
theorem gth_none (n : Nat) (F : FF) : Gth n F none0 := fun _ _ _ _ _ _ h => by cases h
theorem gth_came {n : Nat} {F : FF} (hF : Foe F) {P : PP} (h : Gth n F P) (p : Int) : Gth n F (came F P p) := by
  intro x y x0 x1 y0 y1 hx hy
  unfold came at hx hy
  rw [Bool.or_eq_true, decide_eq_true_eq, Bool.and_eq_true, Bool.not_eq_true'] at hx hy
  rcases hx with rfl | ⟨hx, fx⟩
  · rcases hy with rfl | ⟨hy, fy⟩
    · exact hF.irr _
    · rw [hF.sym]; exact fy
  · rcases hy with rfl | ⟨hy, fy⟩
    · exact fx
    · exact h x y x0 x1 y0 y1 hx hy
def doneP (F : FF) : PP → List Int → PP
  | P, [] => P
  | P, p :: r => doneP F (came F P p) r
theorem gth_done {n : Nat} {F : FF} (hF : Foe F) : ∀ (r : List Int) {P : PP}, Gth n F P → Gth n F (doneP F P r)
  | [], _, h => h
  | p :: r, _, h => gth_done hF r (gth_came hF h p)
end Th
/-! deeds of rows are told as deeds -/
namespace Th
/-- within n -/
def Wi (n : Nat) (r : List Int) : Prop := ∀ x ∈ r, 0 ≤ x ∧ x < (n : Int)
end Th
/-! plain values: told, compared, sorted -/
namespace W
open PySem PySem.Spec PyProof.Rows Fo Th
/-! ### laid out, not deep -/
structure Lay (n : Nat) (d : PyData) : Prop where
  lay : d.canLay0 = true
  dep : d.depth ≤ n
theorem Lay.int (n : Nat) (i : Int) : Lay n (.int i) := ⟨rfl, by unfold PyData.depth; omega⟩
theorem Lay.none (n : Nat) : Lay n .none := ⟨rfl, by unfold PyData.depth; omega⟩
theorem Lay.bool (n : Nat) (b : Bool) : Lay n (.bool b) := ⟨rfl, by unfold PyData.depth; omega⟩
theorem lay_all {n : Nat} : ∀ {ds : List PyData}, (∀ d ∈ ds, Lay n d) → PyData.canLayAll0 ds = true ∧ PyData.depthAll ds ≤ n
  | [], _ => ⟨rfl, by unfold PyData.depthAll; omega⟩
  | d :: ds, h => by
    obtain ⟨h1, h2⟩ := lay_all fun e he => h e (List.mem_cons_of_mem _ he)
    have h3 := h d (List.mem_cons_self ..)
    refine ⟨?_, ?_⟩
    · unfold PyData.canLayAll0; rw [h3.lay, h1]; rfl
    · unfold PyData.depthAll; exact Nat.max_le.mpr ⟨h3.dep, h2⟩
theorem Lay.tup {n : Nat} {ds : List PyData} (h : ∀ d ∈ ds, Lay n d) : Lay (n + 1) (.tuple ds) := by
  obtain ⟨h1, h2⟩ := lay_all h
  exact ⟨by unfold PyData.canLay0; exact h1, by unfold PyData.depth; omega⟩
theorem Lay.lst {n : Nat} {ds : List PyData} (h : ∀ d ∈ ds, Lay n d) : Lay (n + 1) (.list ds) := by
  obtain ⟨h1, h2⟩ := lay_all h
  exact ⟨by unfold PyData.canLay0; exact h1, by unfold PyData.depth; omega⟩
theorem Lay.shaped {n : Nat} {d : PyData} (h : Lay n d) (hn : n ≤ 64 := by decide) : SeqAt.shaped d = true := by
  unfold SeqAt.shaped
  rw [h.lay, Bool.true_and, decide_eq_true_eq]
  exact Nat.le_trans h.dep hn
/-! ### encodings -/
structure Enc {α : Type} [DecidableEq α] (E : α → PyData) (n : Nat) : Prop where
  eq : ∀ a b, PyData.eqv (E a) (E b) = decide (a = b)
  lay : ∀ a, Lay n (E a)
theorem Enc.int : Enc PyData.int 0 := ⟨fun a b => by unfold PyData.eqv; rfl, fun a => Lay.int 0 a⟩
theorem eqvAll_map {α : Type} [DecidableEq α] {E : α → PyData} (h : ∀ a b, PyData.eqv (E a) (E b) = decide (a = b)) : ∀ as bs : List α, PyData.eqvAll (as.map E) (bs.map E) = decide (as = bs)
  | [], [] => by unfold PyData.eqvAll; rfl
  | [], b :: bs => by unfold PyData.eqvAll; rfl
  | a :: as, [] => by unfold PyData.eqvAll; rfl
  | a :: as, b :: bs => by
    rw [List.map_cons, List.map_cons]
    unfold PyData.eqvAll
    rw [h, eqvAll_map h as bs]
    rw [Bool.eq_iff_iff]
    simp
def tD {α : Type} (E : α → PyData) (l : List α) : PyData := .tuple (l.map E)
def liD {α : Type} (E : α → PyData) (l : List α) : PyData := .list (l.map E)
theorem Enc.tup {α : Type} [DecidableEq α] {E : α → PyData} {n : Nat} (h : Enc E n) : Enc (tD E) (n + 1) :=
  ⟨fun a b => by unfold tD PyData.eqv; exact eqvAll_map h.eq a b, fun a => Lay.tup fun d hd => by obtain ⟨x, _, rfl⟩ := List.mem_map.mp hd; exact h.lay x⟩
theorem Enc.lst {α : Type} [DecidableEq α] {E : α → PyData} {n : Nat} (h : Enc E n) : Enc (liD E) (n + 1) :=
  ⟨fun a b => by unfold liD PyData.eqv; exact eqvAll_map h.eq a b, fun a => Lay.lst fun d hd => by obtain ⟨x, _, rfl⟩ := List.mem_map.mp hd; exact h.lay x⟩
def prD {α β : Type} (E : α → PyData) (F : β → PyData) (p : α × β) : PyData := .tuple [E p.1, F p.2]
theorem Enc.pair {α β : Type} [DecidableEq α] [DecidableEq β] {E : α → PyData} {F : β → PyData} {n : Nat} (h : Enc E n) (g : Enc F n) : Enc (prD E F) (n + 1) :=
  ⟨fun a b => by
    unfold prD PyData.eqv PyData.eqvAll PyData.eqvAll PyData.eqvAll
    rw [h.eq, g.eq, Bool.eq_iff_iff]
    cases a; cases b
    simp, fun a => Lay.tup fun d hd => by
      rcases List.mem_cons.mp hd with e | hd
      · rw [e]; exact h.lay _
      · rw [List.mem_singleton.mp hd]; exact g.lay _⟩
abbrev lD : List Int → PyData := tD .int
abbrev pD : Int × Int → PyData := prD .int .int
theorem enc_l : Enc lD 1 := Enc.int.tup
theorem enc_p : Enc pD 1 := Enc.int.pair Enc.int
theorem enc_ls : Enc (tD lD) 2 := enc_l.tup
section
variable {α : Type} [DecidableEq α] {E : α → PyData} {n : Nat}
theorem eq_E (h : Enc E n) (a b : α) (hn : n ≤ 64 := by decide) : cmpG .Eq (E a) (E b) = some (.bool (decide (a = b))) := by
  show (if _ then _ else _) = _
  rw [if_pos ⟨(h.lay a).shaped hn, (h.lay b).shaped hn⟩, h.eq]
theorem ne_E (h : Enc E n) (a b : α) (hn : n ≤ 64 := by decide) : cmpG .NotEq (E a) (E b) = some (.bool (!decide (a = b))) := by
  show (if _ then _ else _) = _
  rw [if_pos ⟨(h.lay a).shaped hn, (h.lay b).shaped hn⟩, h.eq]
def memb (a : α) (l : List α) : Bool := decide (a ∈ l)
theorem memb_iff {a : α} {l : List α} : memb a l = true ↔ a ∈ l := decide_eq_true_iff
theorem memb_no {a : α} {l : List α} : memb a l = false ↔ a ∉ l := decide_eq_false_iff_not
theorem memD_map (h : Enc E n) (a : α) (l : List α) : memD (E a) (l.map E) = memb a l := by
  unfold memD memb
  rw [List.any_map, Bool.eq_iff_iff, List.any_eq_true, decide_eq_true_eq]
  constructor
  · rintro ⟨b, hb, q⟩
    have : decide (b = a) = true := by rw [← h.eq b a]; exact q
    rw [decide_eq_true_eq] at this
    exact this ▸ hb
  · intro ha
    exact ⟨a, ha, by show PyData.eqv (E a) (E a) = true; rw [h.eq]; simp⟩
theorem in_T (h : Enc E n) (a : α) (l : List α) (hn : n + 1 ≤ 64 := by decide) : cmpG .In (E a) (.tuple (l.map E)) = some (.bool (memb a l)) := by
  show (if _ then some (PyData.bool (if false = true then _ else _)) else _) = _
  rw [if_pos ⟨(h.lay a).shaped (by omega), (h.tup.lay l).shaped hn⟩, memD_map h]
  rfl
theorem in_L (h : Enc E n) (a : α) (l : List α) (hn : n + 1 ≤ 64 := by decide) : cmpG .In (E a) (.list (l.map E)) = some (.bool (memb a l)) := by
  show (if _ then some (PyData.bool (if false = true then _ else _)) else _) = _
  rw [if_pos ⟨(h.lay a).shaped (by omega), (h.lst.lay l).shaped hn⟩, memD_map h]
  rfl
theorem nin_T (h : Enc E n) (a : α) (l : List α) (hn : n + 1 ≤ 64 := by decide) : cmpG .NotIn (E a) (.tuple (l.map E)) = some (.bool (!memb a l)) := by
  show (if _ then some (PyData.bool (if true = true then _ else _)) else _) = _
  rw [if_pos ⟨(h.lay a).shaped (by omega), (h.tup.lay l).shaped hn⟩, memD_map h]
  rfl
end
theorem Enc.toL {α : Type} [DecidableEq α] {E : α → PyData} {n : Nat} (h : Enc E n) (a b : List α) (hn : n + 1 ≤ 64 := by decide) : cmpG .Eq (.list (a.map E)) (.list (b.map E)) = some (.bool (decide (a = b))) := eq_E h.lst a b hn
/-! ### items -/
theorem at_map {α : Type} {E : α → PyData} {l : List α} {i : Nat} (h : i < l.length) : L2.atI (l.map E) (i : Int) = some (E l[i]) := atN (by omega) (by rw [Int.toNat_natCast, List.getElem?_map, List.getElem?_eq_getElem h]; rfl)
theorem getT (ds : List PyData) (i : Int) : getW (.tuple ds) (.int i) = L2.atI ds i := rfl
theorem at_last {α : Type} {E : α → PyData} {l : List α} {a : α} (h : l.getLast? = some a) : L2.atI (l.map E) (-1) = some (E a) := by
  have hl : 0 < l.length := by
    cases l with
    | nil => cases h
    | cons a l => simp
  unfold L2.atI L2.ixN
  rw [List.length_map, if_neg (by omega), if_pos (by omega)]
  show (l.map E)[((l.length : Int) + -1).toNat]? = _
  have e : ((l.length : Int) + -1).toNat = l.length - 1 := by omega
  rw [e, List.getElem?_map, ← List.getLast?_eq_getElem?, h]
  rfl
theorem get2a (x y : PyData) : getW (.tuple [x, y]) (.int 0) = some x := at0 x [y]
theorem get2b (x y : PyData) : getW (.tuple [x, y]) (.int 1) = some y := at1 x y []
/-! ### ranges -/
theorem rng_ran (n : Nat) (h : n ≤ 1000000) : rangeO [.int (n : Int)] = some ((ran n).map .int) := by
  have : small62 (n : Int) = true := decide_eq_true ⟨by omega, by omega⟩
  show (if small62 (n : Int) = true then some (rngD 0 1 ((n : Int)).toNat) else none) = _
  rw [if_pos this, Int.toNat_natCast]
  unfold rngD ran
  rw [List.map_map]
  refine congrArg some (List.map_congr_left fun k _ => ?_)
  show PyData.int (0 + 1 * (k : Int)) = PyData.int (k : Int)
  rw [Int.one_mul, Int.zero_add]
/-! ### sorted -/
def isort : List Int → List Int := isrt fun a b => decide (a < b)
theorem cmpOk_int (a b : Int) : cmpOk (.int a) (.int b) = true := by unfold cmpOk; rfl
theorem srt_int (l : List Int) : srtD (l.map .int) = (isort l).map .int := isrt_map (f := PyData.int) (fun x y => by unfold cmpB cmpI; rfl)
theorem sOk_int {l : List Int} (h : l.length ≤ 1000000) : sOk (l.map .int) = true := by
  unfold sOk
  rw [Bool.and_eq_true, Bool.and_eq_true, List.all_eq_true, List.all_eq_true, decide_eq_true_eq, List.length_map]
  refine ⟨fun d hd => ?_, fun d hd => ?_, h⟩
  · rw [List.all_eq_true]
    intro e he
    obtain ⟨a, _, rfl⟩ := List.mem_map.mp hd
    obtain ⟨b, _, rfl⟩ := List.mem_map.mp he
    exact cmpOk_int a b
  · obtain ⟨a, _, rfl⟩ := List.mem_map.mp hd
    exact (Lay.int 0 a).shaped
theorem sorted_L {l : List Int} (h : l.length ≤ 1000000) : sortedW [.list (l.map .int)] = some (.list ((isort l).map .int)) := by
  show (if sOk (l.map PyData.int) = true then some (PyData.list (srtD (l.map .int))) else none) = _
  rw [if_pos (sOk_int h), srt_int]
theorem isort_mem {l : List Int} {x : Int} : x ∈ isort l ↔ x ∈ l := isrt_mem
theorem le_total : PySem.W.TotalLe (fun a b : Int => decide (a ≤ b)) := ⟨fun a b c h1 h2 => decide_eq_true (Int.le_trans (of_decide_eq_true h1) (of_decide_eq_true h2)), fun a b => by
  rcases Int.le_total a b with h | h
  · exact .inl (decide_eq_true h)
  · exact .inr (decide_eq_true h)⟩
theorem isort_pw (l : List Int) : (isort l).Pairwise (· ≤ ·) := by
  have e : isort l = isrt (fun a b => !(fun a b : Int => decide (a ≤ b)) b a) l := isrt_congr fun x _ y _ => by
    rw [Bool.eq_iff_iff]
    simp
  rw [e]
  exact (isrt_pw le_total).imp fun h => of_decide_eq_true h
theorem ins_perm (x : Int) : ∀ l : List Int, (ins (fun a b => decide (a < b)) x l).Perm (x :: l)
  | [] => by unfold ins; exact .refl _
  | y :: l => by
    unfold ins
    split
    · exact ((ins_perm x l).cons y).trans (.swap x y l)
    · exact .refl _
theorem isort_perm : ∀ l : List Int, (isort l).Perm l
  | [] => by unfold isort isrt; exact .refl _
  | x :: l => by
    unfold isort isrt
    exact (ins_perm x _).trans ((isort_perm l).cons x)
theorem isort_lt {l : List Int} (h : l.Nodup) : (isort l).Pairwise (· < ·) := by
  have h2 : (isort l).Nodup := (isort_perm l).nodup_iff.mpr h
  exact (isort_pw l).imp₂ (fun a b h1 h3 => by omega) h2
/-- sorted people, each once, are a lot -/
theorem isort_lot {n : Nat} {l : List Int} (h : l.Nodup) (hn : Wi n l) {P : PP} (hP : ∀ x : Int, 0 ≤ x → x < n → (x ∈ l ↔ P x = true)) : isort l = lot n P := eq_lot (isort_lt h) fun x => by
  rw [isort_mem]
  constructor
  · intro hx
    obtain ⟨h1, h2⟩ := hn x hx
    exact ⟨⟨h1, h2⟩, (hP x h1 h2).mp hx⟩
  · rintro ⟨⟨h1, h2⟩, h3⟩
    exact (hP x h1 h2).mpr h3
end W
/-! webs -/
namespace W
open PySem PySem.Spec PyProof.Rows Fo Th
def plt (p q : Int × Int) : Prop := p.1 < q.1 ∨ p.1 = q.1 ∧ p.2 < q.2
structure Web (n : Nat) (ps : List (Int × Int)) : Prop where
  lo : 1 ≤ n
  hi : n ≤ 7
  at_ : ∀ p ∈ ps, 0 ≤ p.1 ∧ p.1 + 1 ≤ p.2 ∧ p.2 ≤ (n : Int) - 1
  lt : ps.Pairwise plt
  len : ps.length ≤ 49
def wD (n : Nat) (ps : List (Int × Int)) : PyData := .tuple [.int (n : Int), .tuple (ps.map pD)]
def foe (ps : List (Int × Int)) : FF := fun a b => memb (min a b, max a b) ps
theorem Web.isFoe {n : Nat} {ps : List (Int × Int)} (V : Web n ps) : Foe (foe ps) := ⟨fun x y => by unfold W.foe; rw [Int.min_comm, Int.max_comm], fun x => by
  unfold W.foe
  rw [memb_no]
  intro h
  have := V.at_ _ h
  simp only [Int.min_self, Int.max_self] at this
  omega⟩
theorem w0 (n : Nat) (ps : List (Int × Int)) : getW (wD n ps) (.int 0) = some (.int n) := get2a _ _
theorem w1 (n : Nat) (ps : List (Int × Int)) : getW (wD n ps) (.int 1) = some (.tuple (ps.map pD)) := get2b _ _
theorem ii_int (a : Int) : isiV "int" (.int a) = some (.bool true) := rfl
theorem ib_int (a : Int) : isiV "bool" (.int a) = some (.bool false) := rfl
theorem it_tup (ds : List PyData) : isiV "tuple" (.tuple ds) = some (.bool true) := rfl
theorem not_b (b : Bool) : notV (.bool b) = some (.bool !b) := rfl
theorem len_T (ds : List PyData) : lenW [.tuple ds] = some (.int (ds.length : Nat)) := rfl
theorem len_L (ds : List PyData) : lenW [.list ds] = some (.int (ds.length : Nat)) := rfl
theorem tup_L (ds : List PyData) : tupleV [.list ds] = some (.tuple ds) := rfl
theorem mk_0 (f : List PyData → PyData) : mkO f [] = some (f []) := if_pos (Nat.zero_le _)
theorem mk_1 (f : List PyData → PyData) (a : PyData) : mkO f [a] = some (f [a]) := if_pos (show 1 ≤ 1000000 by decide)
theorem mk_2 (f : List PyData → PyData) (a b : PyData) : mkO f [a, b] = some (f [a, b]) := if_pos (show 2 ≤ 1000000 by decide)
theorem neg_i (a : Int) : negV (.int a) = some (.int (-a)) := rfl
theorem min_i (a b : Int) : minW [.int a, .int b] = some (.int (min a b)) := by
  show some (PyData.int (if b < a then b else a)) = _
  congr 2
  omega
theorem max_i (a b : Int) : maxW [.int a, .int b] = some (.int (max a b)) := by
  show some (PyData.int (if b > a then b else a)) = _
  congr 2
  omega
/-! ### is_in -/
def P_is_in (f : SemF) : Prop := ∀ (a lo hi : Int) st, f [.int a, .int lo, .int hi] st = some (.bool (decide (lo ≤ a) && decide (a ≤ hi)), st)
theorem ok_is_in : P_is_in r_is_in := fun a lo hi st => by
  simp only [R_is_in, t_is_in, k_seq, k_seqN, k_seqR, k_seqB, k_seqC, k_upS, k_upBS, k_upRS, k_upLS, k_upOS, k_nx, k_bk, k_ct, k_asg, k_asgS, k_own, k_ownS, k_if, k_ifT, k_ifF, k_ifB, k_rt, k_rtS, k_rtN, k_ex, k_exS, k_app, k_appS, k_for, k_forS, k_frz, k_par, k_parS, k_set, k_setS, k_setS2, k_bin, k_binS, k_binS2, k_un, k_unS, k_not, k_and, k_or, k_andS, k_orS, k_thenT, k_thenF, k_thenB, k_elseT, k_elseF, k_elseB, k_tst, k_andB, k_orB, k_notB, k_andBS, k_orBS, k_notBS, k_ite, k_iteB, k_disp, k_dispS, k_nil, k_cons, k_consS, k_consS2, k_star, k_starS, k_starS1, k_starS2, k_len, k_lenS, k_call, k_callS, k_callD, k_drS, k_drO, k_blt, k_bltS, k_va, k_tv, k_vaO, k_tvO, k_tvOw, k_cst, k_noO, k_someO, k_someS, k_slc, k_slcS, k_slcS1, k_slcS2, k_items, k_itemsS, k_itL, k_itT, k_rng, k_rngS, k_lc, k_lcS2, k_gx, k_gxS, k_sg, k_sgS, k_yes, k_nilE, k_vaE, k_owE, k_vaES, k_owES, k_vaES2, k_whT, k_whF, k_wh2, k_st1, k_st2, k_st3, k_sE0, k_sE, k_wip0, k_wip, k_itemsG, k_itemsGS, k_iwL, k_iwT, k_dc, k_dcS, k_dcS2, k_newD, k_get1, k_get2, k_get1S, k_get1S2, k_get2S, k_get2S2, k_get2S3, k_enum, k_enumS, k_zip, k_zipS, k_zipS2, k_d1, k_d1S, k_d1S2, k_frz1, k_frz2, k_frz3, k_run, k_outR, k_outN, k_setG, k_setGS, k_setGS2, k_tstB, List.getElem?_cons_zero, List.getElem?_cons_succ, List.set_cons_zero, List.set_cons_succ, List.length_cons, List.length_nil, Nat.zero_add, Nat.reduceAdd, Nat.reduceSub, if_true, reduceIte, Bool.false_eq_true, Bool.true_eq_false, ii_int, ib_int, not_b, k_chn, cG_le, Bool.not_false]
  cases decide (lo ≤ a) <;> simp only [k_seq, k_seqN, k_seqR, k_seqB, k_seqC, k_upS, k_upBS, k_upRS, k_upLS, k_upOS, k_nx, k_bk, k_ct, k_asg, k_asgS, k_own, k_ownS, k_if, k_ifT, k_ifF, k_ifB, k_rt, k_rtS, k_rtN, k_ex, k_exS, k_app, k_appS, k_for, k_forS, k_frz, k_par, k_parS, k_set, k_setS, k_setS2, k_bin, k_binS, k_binS2, k_un, k_unS, k_not, k_and, k_or, k_andS, k_orS, k_thenT, k_thenF, k_thenB, k_elseT, k_elseF, k_elseB, k_tst, k_andB, k_orB, k_notB, k_andBS, k_orBS, k_notBS, k_ite, k_iteB, k_disp, k_dispS, k_nil, k_cons, k_consS, k_consS2, k_star, k_starS, k_starS1, k_starS2, k_len, k_lenS, k_call, k_callS, k_callD, k_drS, k_drO, k_blt, k_bltS, k_va, k_tv, k_vaO, k_tvO, k_tvOw, k_cst, k_noO, k_someO, k_someS, k_slc, k_slcS, k_slcS1, k_slcS2, k_items, k_itemsS, k_itL, k_itT, k_rng, k_rngS, k_lc, k_lcS2, k_gx, k_gxS, k_sg, k_sgS, k_yes, k_nilE, k_vaE, k_owE, k_vaES, k_owES, k_vaES2, k_whT, k_whF, k_wh2, k_st1, k_st2, k_st3, k_sE0, k_sE, k_wip0, k_wip, k_itemsG, k_itemsGS, k_iwL, k_iwT, k_dc, k_dcS, k_dcS2, k_newD, k_get1, k_get2, k_get1S, k_get1S2, k_get2S, k_get2S2, k_get2S3, k_enum, k_enumS, k_zip, k_zipS, k_zipS2, k_d1, k_d1S, k_d1S2, k_frz1, k_frz2, k_frz3, k_run, k_outR, k_outN, k_setG, k_setGS, k_setGS2, k_tstB, List.getElem?_cons_zero, List.getElem?_cons_succ, List.set_cons_zero, List.set_cons_succ, List.length_cons, List.length_nil, Nat.zero_add, Nat.reduceAdd, Nat.reduceSub, if_true, reduceIte, Bool.false_eq_true, Bool.true_eq_false, cG_le, Bool.true_and, Bool.false_and]
/-! ### foes -/
def P_are_foes (f : SemF) : Prop := ∀ (n : Nat) ps (a b : Int) st, f [wD n ps, .int a, .int b] st = some (.bool (foe ps a b), st)
theorem ok_are_foes : P_are_foes r_are_foes := fun n ps a b st => by
  have h : cmpG .In (.tuple [.int (min a b), .int (max a b)]) (.tuple (ps.map pD)) = some (.bool (foe ps a b)) := in_T enc_p (min a b, max a b) ps
  simp only [R_are_foes, t_are_foes, k_seq, k_seqN, k_seqR, k_seqB, k_seqC, k_upS, k_upBS, k_upRS, k_upLS, k_upOS, k_nx, k_bk, k_ct, k_asg, k_asgS, k_own, k_ownS, k_if, k_ifT, k_ifF, k_ifB, k_rt, k_rtS, k_rtN, k_ex, k_exS, k_app, k_appS, k_for, k_forS, k_frz, k_par, k_parS, k_set, k_setS, k_setS2, k_bin, k_binS, k_binS2, k_un, k_unS, k_not, k_and, k_or, k_andS, k_orS, k_thenT, k_thenF, k_thenB, k_elseT, k_elseF, k_elseB, k_tst, k_andB, k_orB, k_notB, k_andBS, k_orBS, k_notBS, k_ite, k_iteB, k_disp, k_dispS, k_nil, k_cons, k_consS, k_consS2, k_star, k_starS, k_starS1, k_starS2, k_len, k_lenS, k_call, k_callS, k_callD, k_drS, k_drO, k_blt, k_bltS, k_va, k_tv, k_vaO, k_tvO, k_tvOw, k_cst, k_noO, k_someO, k_someS, k_slc, k_slcS, k_slcS1, k_slcS2, k_items, k_itemsS, k_itL, k_itT, k_rng, k_rngS, k_lc, k_lcS2, k_gx, k_gxS, k_sg, k_sgS, k_yes, k_nilE, k_vaE, k_owE, k_vaES, k_owES, k_vaES2, k_whT, k_whF, k_wh2, k_st1, k_st2, k_st3, k_sE0, k_sE, k_wip0, k_wip, k_itemsG, k_itemsGS, k_iwL, k_iwT, k_dc, k_dcS, k_dcS2, k_newD, k_get1, k_get2, k_get1S, k_get1S2, k_get2S, k_get2S2, k_get2S3, k_enum, k_enumS, k_zip, k_zipS, k_zipS2, k_d1, k_d1S, k_d1S2, k_frz1, k_frz2, k_frz3, k_run, k_outR, k_outN, k_setG, k_setGS, k_setGS2, k_tstB, List.getElem?_cons_zero, List.getElem?_cons_succ, List.set_cons_zero, List.set_cons_succ, List.length_cons, List.length_nil, Nat.zero_add, Nat.reduceAdd, Nat.reduceSub, if_true, reduceIte, Bool.false_eq_true, Bool.true_eq_false, min_i, max_i, w1, mk_2, h]
def P_foes (f : SemF) : Prop := ∀ (n : Nat) ps (a : Int) st, n ≤ 7 → f [wD n ps, .int a] st = some (.list ((lot n (foe ps a)).map .int), st)
theorem lc_filter {α : Type} {E : α → PyData} {tg : Tg} {tt : SemB} {te : Sem1} {ρ : Rho} {st : Dr} (f : α → Bool) (G : α → PyData) : ∀ as : List α, (∀ a ∈ as, ∃ ρ1, storeT tg (E a) ρ = some ρ1 ∧ tt ρ1 st = some (f a, st) ∧ (f a = true → te ρ1 st = some (G a, st))) → lcGo tg tt te ρ (as.map E) st = some ((as.filter f).map G, st)
  | [], _ => rfl
  | a :: as, h => by
    obtain ⟨ρ1, h1, h2, h3⟩ := h a (List.mem_cons_self ..)
    have ih := lc_filter f G as fun x hx => h x (List.mem_cons_of_mem _ hx)
    rw [List.map_cons]
    unfold lcGo
    simp only [bnd_ap, up_ap, h1, h2, om_some, ob_some, ite_ap, ih]
    cases e : f a with
    | true =>
      rw [h3 e]
      simp [e, ob_some, pur_ap, ih]
    | false => simp [e]
theorem ok_foes {a : SemF} (ha : P_are_foes a) : P_foes (r_foes a) := fun n ps x st hn => by
  have h := lc_filter (E := PyData.int) (tg := .nm 2) (tt := c_foes_1 a) (te := x_foes_2) (ρ := [some (.va (wD n ps)), some (.va (.int x)), none]) (st := st) (foe ps x) PyData.int (ran n) fun y _ => ⟨_, rfl, by
    simp only [c_foes_1, k_seq, k_seqN, k_seqR, k_seqB, k_seqC, k_upS, k_upBS, k_upRS, k_upLS, k_upOS, k_nx, k_bk, k_ct, k_asg, k_asgS, k_own, k_ownS, k_if, k_ifT, k_ifF, k_ifB, k_rt, k_rtS, k_rtN, k_ex, k_exS, k_app, k_appS, k_for, k_forS, k_frz, k_par, k_parS, k_set, k_setS, k_setS2, k_bin, k_binS, k_binS2, k_un, k_unS, k_not, k_and, k_or, k_andS, k_orS, k_thenT, k_thenF, k_thenB, k_elseT, k_elseF, k_elseB, k_tst, k_andB, k_orB, k_notB, k_andBS, k_orBS, k_notBS, k_ite, k_iteB, k_disp, k_dispS, k_nil, k_cons, k_consS, k_consS2, k_star, k_starS, k_starS1, k_starS2, k_len, k_lenS, k_call, k_callS, k_callD, k_drS, k_drO, k_blt, k_bltS, k_va, k_tv, k_vaO, k_tvO, k_tvOw, k_cst, k_noO, k_someO, k_someS, k_slc, k_slcS, k_slcS1, k_slcS2, k_items, k_itemsS, k_itL, k_itT, k_rng, k_rngS, k_lc, k_lcS2, k_gx, k_gxS, k_sg, k_sgS, k_yes, k_nilE, k_vaE, k_owE, k_vaES, k_owES, k_vaES2, k_whT, k_whF, k_wh2, k_st1, k_st2, k_st3, k_sE0, k_sE, k_wip0, k_wip, k_itemsG, k_itemsGS, k_iwL, k_iwT, k_dc, k_dcS, k_dcS2, k_newD, k_get1, k_get2, k_get1S, k_get1S2, k_get2S, k_get2S2, k_get2S3, k_enum, k_enumS, k_zip, k_zipS, k_zipS2, k_d1, k_d1S, k_d1S2, k_frz1, k_frz2, k_frz3, k_run, k_outR, k_outN, k_setG, k_setGS, k_setGS2, k_tstB, List.getElem?_cons_zero, List.getElem?_cons_succ, List.set_cons_zero, List.set_cons_succ, List.length_cons, List.length_nil, Nat.zero_add, Nat.reduceAdd, Nat.reduceSub, if_true, reduceIte, Bool.false_eq_true, Bool.true_eq_false, ha n ps x y], fun _ => rfl⟩
  have hl : ((ran n).map PyData.int).length ≤ 1000000 := by rw [List.length_map, ran_length]; omega
  simp only [R_foes, t_foes, k_seq, k_seqN, k_seqR, k_seqB, k_seqC, k_upS, k_upBS, k_upRS, k_upLS, k_upOS, k_nx, k_bk, k_ct, k_asg, k_asgS, k_own, k_ownS, k_if, k_ifT, k_ifF, k_ifB, k_rt, k_rtS, k_rtN, k_ex, k_exS, k_app, k_appS, k_for, k_forS, k_frz, k_par, k_parS, k_set, k_setS, k_setS2, k_bin, k_binS, k_binS2, k_un, k_unS, k_not, k_and, k_or, k_andS, k_orS, k_thenT, k_thenF, k_thenB, k_elseT, k_elseF, k_elseB, k_tst, k_andB, k_orB, k_notB, k_andBS, k_orBS, k_notBS, k_ite, k_iteB, k_disp, k_dispS, k_nil, k_cons, k_consS, k_consS2, k_star, k_starS, k_starS1, k_starS2, k_len, k_lenS, k_call, k_callS, k_callD, k_drS, k_drO, k_blt, k_bltS, k_va, k_tv, k_vaO, k_tvO, k_tvOw, k_cst, k_noO, k_someO, k_someS, k_slc, k_slcS, k_slcS1, k_slcS2, k_items, k_itemsS, k_itL, k_itT, k_rng, k_rngS, k_lc, k_lcS2, k_gx, k_gxS, k_sg, k_sgS, k_yes, k_nilE, k_vaE, k_owE, k_vaES, k_owES, k_vaES2, k_whT, k_whF, k_wh2, k_st1, k_st2, k_st3, k_sE0, k_sE, k_wip0, k_wip, k_itemsG, k_itemsGS, k_iwL, k_iwT, k_dc, k_dcS, k_dcS2, k_newD, k_get1, k_get2, k_get1S, k_get1S2, k_get2S, k_get2S2, k_get2S3, k_enum, k_enumS, k_zip, k_zipS, k_zipS2, k_d1, k_d1S, k_d1S2, k_frz1, k_frz2, k_frz3, k_run, k_outR, k_outN, k_setG, k_setGS, k_setGS2, k_tstB, List.getElem?_cons_zero, List.getElem?_cons_succ, List.set_cons_zero, List.set_cons_succ, List.length_cons, List.length_nil, Nat.zero_add, Nat.reduceAdd, Nat.reduceSub, if_true, reduceIte, Bool.false_eq_true, Bool.true_eq_false, w0, rng_ran n (by omega), k_lcS hl, h]
  rfl
/-! ### lots, gatherings -/
theorem gx_all {α : Type} {E : α → PyData} {tg : Tg} {tt : SemB} {te : Sem1} {ρ : Rho} {st : Dr} (k : Bool) (f : α → Bool) (as : List α) (h : ∀ a ∈ as, ∃ ρ1, storeT tg (E a) ρ = some ρ1 ∧ tt ρ1 st = some (true, st) ∧ te ρ1 st = some (.bool (f a), st)) : gxGo k tg tt te ρ (as.map E) st = some (.bool (if k then as.any f else as.all f), st) := by
  induction as with
  | nil => cases k <;> rfl
  | cons a as ih =>
    obtain ⟨ρ1, h1, h2, h3⟩ := h a (List.mem_cons_self ..)
    have ih := ih fun x hx => h x (List.mem_cons_of_mem _ hx)
    rw [List.map_cons]
    unfold gxGo
    simp only [bnd_ap, up_ap, h1, h2, h3, om_some, ob_some, ite_ap, if_true, gxGo.truB, pur_ap, ih]
    cases k <;> cases e : f a <;> simp [e]
end W
namespace W
open PySem PySem.Spec PyProof.Rows Fo Th
theorem for_fold {α σ : Type} {E : α → PyData} {t : Tg} {b : SemS} {st : Dr} (R : σ → Rho) (step : σ → α → σ) (I : σ → Prop) : ∀ (as : List α) (s : σ), I s → (∀ a ∈ as, ∀ s, I s → I (step s a) ∧ ∃ ρ1, storeT t (E a) (R s) = some ρ1 ∧ b ρ1 st = some (.nx (R (step s a)), st)) → forGo t b (as.map E) (R s) st = some (.nx (R (as.foldl step s)), st)
  | [], _, _, _ => rfl
  | a :: as, s, hI, h => by
    obtain ⟨h0, ρ1, h1, h2⟩ := h a (List.mem_cons_self ..) s hI
    have ih := for_fold (E := E) (t := t) (b := b) (st := st) R step I as (step s a) h0 fun x hx => h x (List.mem_cons_of_mem _ hx)
    rw [List.map_cons]
    unfold forGo
    simp only [bnd_ap, up_ap, h1, h2, om_some, ob_some]
    exact ih
theorem for_fold0 {α σ : Type} {E : α → PyData} {t : Tg} {b : SemS} {st : Dr} (R : σ → Rho) (step : σ → α → σ) (as : List α) (s : σ) (h : ∀ a ∈ as, ∀ s, ∃ ρ1, storeT t (E a) (R s) = some ρ1 ∧ b ρ1 st = some (.nx (R (step s a)), st)) : forGo t b (as.map E) (R s) st = some (.nx (R (as.foldl step s)), st) :=
  for_fold R step (fun _ => True) as s trivial fun a ha s _ => ⟨trivial, h a ha s⟩
/-! ### need_web -/
def P_need_web (f : SemF) : Prop := ∀ (n : Nat) ps st, Web n ps → f [wD n ps] st = some (.none, st)
theorem ge_p (p q : Int × Int) (h : plt p q) : cmpG .GtE (pD p) (pD q) = some (.bool false) := by
  show some (PyData.bool (if decide (p.1 = q.1) = true then (if decide (p.2 = q.2) = true then true else decide (q.2 ≤ p.2)) else decide (q.1 ≤ p.1))) = _
  rcases h with h | ⟨h1, h2⟩
  · have h1 : ¬ p.1 = q.1 := by omega
    have h2 : ¬ q.1 ≤ p.1 := by omega
    simp [h1, h2]
  · have h3 : ¬ p.2 = q.2 := by omega
    have h4 : ¬ q.2 ≤ p.2 := by omega
    simp [h1, h3, h4]
theorem p0 (p : Int × Int) : getW (pD p) (.int 0) = some (.int p.1) := get2a _ _
theorem p1 (p : Int × Int) : getW (pD p) (.int 1) = some (.int p.2) := get2b _ _
theorem it_p (p : Int × Int) : isiV "tuple" (pD p) = some (.bool true) := rfl
theorem it_w (n : Nat) (ps : List (Int × Int)) : isiV "tuple" (wD n ps) = some (.bool true) := rfl
theorem len_p (p : Int × Int) : lenW [pD p] = some (.int 2) := rfl
theorem len_w (n : Nat) (ps : List (Int × Int)) : lenW [wD n ps] = some (.int 2) := rfl
theorem and_tt {a b : Bool} (h1 : a = true) (h2 : b = true) : (a && b) = true := by rw [h1, h2]; rfl
theorem in_rng {a lo hi : Int} (h1 : lo ≤ a) (h2 : a ≤ hi) : (decide (lo ≤ a) && decide (a ≤ hi)) = true := and_tt (decide_eq_true h1) (decide_eq_true h2)
theorem cNe_22 : cmpG .NotEq (.int 2) (.int 2) = some (.bool false) := rfl
theorem ok_need_web {a : SemF} (ha : P_is_in a) : P_need_web (r_need_web a) := fun n ps st V => by
  have V1 := V.lo
  have V2 := V.hi
  have V3 := V.len
  have hloop := for_fold0 (E := pD) (t := .nm 1) (b := b_need_web_1 a) (st := st) (fun o : Option En => [some (.va (wD n ps)), o, none]) (fun _ p => some (.va (pD p))) ps none fun p hp s => by
    obtain ⟨q1, q2, q3⟩ := V.at_ p hp
    have h1 := ha p.1 0 ((n : Int) - 1) st
    have h2 := ha p.2 (p.1 + 1) ((n : Int) - 1) st
    rw [in_rng q1 (by omega)] at h1
    rw [in_rng q2 q3] at h2
    refine ⟨_, rfl, ?_⟩
    simp only [b_need_web_1, k_seq, k_seqN, k_seqR, k_seqB, k_seqC, k_upS, k_upBS, k_upRS, k_upLS, k_upOS, k_nx, k_bk, k_ct, k_asg, k_asgS, k_own, k_ownS, k_if, k_ifT, k_ifF, k_ifB, k_rt, k_rtS, k_rtN, k_ex, k_exS, k_app, k_appS, k_for, k_forS, k_frz, k_par, k_parS, k_set, k_setS, k_setS2, k_bin, k_binS, k_binS2, k_un, k_unS, k_not, k_and, k_or, k_andS, k_orS, k_thenT, k_thenF, k_thenB, k_elseT, k_elseF, k_elseB, k_tst, k_andB, k_orB, k_notB, k_andBS, k_orBS, k_notBS, k_ite, k_iteB, k_disp, k_dispS, k_nil, k_cons, k_consS, k_consS2, k_star, k_starS, k_starS1, k_starS2, k_len, k_lenS, k_call, k_callS, k_callD, k_drS, k_drO, k_blt, k_bltS, k_va, k_tv, k_vaO, k_tvO, k_tvOw, k_cst, k_noO, k_someO, k_someS, k_slc, k_slcS, k_slcS1, k_slcS2, k_items, k_itemsS, k_itL, k_itT, k_rng, k_rngS, k_lc, k_lcS2, k_gx, k_gxS, k_sg, k_sgS, k_yes, k_nilE, k_vaE, k_owE, k_vaES, k_owES, k_vaES2, k_whT, k_whF, k_wh2, k_st1, k_st2, k_st3, k_sE0, k_sE, k_wip0, k_wip, k_itemsG, k_itemsGS, k_iwL, k_iwT, k_dc, k_dcS, k_dcS2, k_newD, k_get1, k_get2, k_get1S, k_get1S2, k_get2S, k_get2S2, k_get2S3, k_enum, k_enumS, k_zip, k_zipS, k_zipS2, k_d1, k_d1S, k_d1S2, k_frz1, k_frz2, k_frz3, k_run, k_outR, k_outN, k_setG, k_setGS, k_setGS2, k_tstB, List.getElem?_cons_zero, List.getElem?_cons_succ, List.set_cons_zero, List.set_cons_succ, List.length_cons, List.length_nil, Nat.zero_add, Nat.reduceAdd, Nat.reduceSub, if_true, reduceIte, Bool.false_eq_true, Bool.true_eq_false, it_p, not_b, len_p, cNe_22, p0, p1, w0, sub_i, add_i, h1, h2, Bool.not_true]
  have h0 := ha (n : Int) 1 7 st
  rw [in_rng (by omega) (by omega)] at h0
  have hg : ∀ o : Option En, gxGo true (.nm 2) yesB x_need_web_2 [some (.va (wD n ps)), o, none] (rngD 0 1 (ps.length - 1)) st = some (.bool false, st) := fun o => by
    have := gx_all (E := fun k : Nat => PyData.int (0 + 1 * (k : Int))) (tg := .nm 2) (tt := yesB) (te := x_need_web_2) (ρ := [some (.va (wD n ps)), o, none]) (st := st) true (fun _ => false) (List.range (ps.length - 1)) fun k hk => by
      have hk := List.mem_range.mp hk
      refine ⟨_, rfl, rfl, ?_⟩
      have e1 : L2.atI (ps.map pD) ((k : Nat) : Int) = some (pD ps[k]) := at_map (by omega)
      have e2 : L2.atI (ps.map pD) (((k + 1 : Nat)) : Int) = some (pD ps[k + 1]) := at_map (by omega)
      have hp : plt ps[k] ps[k + 1] := List.pairwise_iff_getElem.mp V.lt k (k + 1) (by omega) (by omega) (by omega)
      have e3 : (0 : Int) + 1 * (k : Int) = ((k : Nat) : Int) := by omega
      have e4 : ((k : Nat) : Int) + 1 = (((k + 1 : Nat)) : Int) := by omega
      simp only [x_need_web_2, k_seq, k_seqN, k_seqR, k_seqB, k_seqC, k_upS, k_upBS, k_upRS, k_upLS, k_upOS, k_nx, k_bk, k_ct, k_asg, k_asgS, k_own, k_ownS, k_if, k_ifT, k_ifF, k_ifB, k_rt, k_rtS, k_rtN, k_ex, k_exS, k_app, k_appS, k_for, k_forS, k_frz, k_par, k_parS, k_set, k_setS, k_setS2, k_bin, k_binS, k_binS2, k_un, k_unS, k_not, k_and, k_or, k_andS, k_orS, k_thenT, k_thenF, k_thenB, k_elseT, k_elseF, k_elseB, k_tst, k_andB, k_orB, k_notB, k_andBS, k_orBS, k_notBS, k_ite, k_iteB, k_disp, k_dispS, k_nil, k_cons, k_consS, k_consS2, k_star, k_starS, k_starS1, k_starS2, k_len, k_lenS, k_call, k_callS, k_callD, k_drS, k_drO, k_blt, k_bltS, k_va, k_tv, k_vaO, k_tvO, k_tvOw, k_cst, k_noO, k_someO, k_someS, k_slc, k_slcS, k_slcS1, k_slcS2, k_items, k_itemsS, k_itL, k_itT, k_rng, k_rngS, k_lc, k_lcS2, k_gx, k_gxS, k_sg, k_sgS, k_yes, k_nilE, k_vaE, k_owE, k_vaES, k_owES, k_vaES2, k_whT, k_whF, k_wh2, k_st1, k_st2, k_st3, k_sE0, k_sE, k_wip0, k_wip, k_itemsG, k_itemsGS, k_iwL, k_iwT, k_dc, k_dcS, k_dcS2, k_newD, k_get1, k_get2, k_get1S, k_get1S2, k_get2S, k_get2S2, k_get2S3, k_enum, k_enumS, k_zip, k_zipS, k_zipS2, k_d1, k_d1S, k_d1S2, k_frz1, k_frz2, k_frz3, k_run, k_outR, k_outN, k_setG, k_setGS, k_setGS2, k_tstB, List.getElem?_cons_zero, List.getElem?_cons_succ, List.set_cons_zero, List.set_cons_succ, List.length_cons, List.length_nil, Nat.zero_add, Nat.reduceAdd, Nat.reduceSub, if_true, reduceIte, Bool.false_eq_true, Bool.true_eq_false, w1, e3, getT, e1, e2, add_i, e4, ge_p _ _ hp]
    unfold rngD
    rw [this]
    simp
  have hr : rangeO [.int (((ps.map pD).length : Nat) - 1 : Int)] = some (rngD 0 1 (ps.length - 1)) := by
    have : small62 (((ps.map pD).length : Nat) - 1 : Int) = true := decide_eq_true ⟨by rw [List.length_map]; omega, by rw [List.length_map]; omega⟩
    show (if small62 (((ps.map pD).length : Nat) - 1 : Int) = true then some (rngD 0 1 (((ps.map pD).length : Nat) - 1 : Int).toNat) else none) = _
    rw [if_pos this, List.length_map]
    congr 2
    omega
  simp only [R_need_web, t_need_web, k_seq, k_seqN, k_seqR, k_seqB, k_seqC, k_upS, k_upBS, k_upRS, k_upLS, k_upOS, k_nx, k_bk, k_ct, k_asg, k_asgS, k_own, k_ownS, k_if, k_ifT, k_ifF, k_ifB, k_rt, k_rtS, k_rtN, k_ex, k_exS, k_app, k_appS, k_for, k_forS, k_frz, k_par, k_parS, k_set, k_setS, k_setS2, k_bin, k_binS, k_binS2, k_un, k_unS, k_not, k_and, k_or, k_andS, k_orS, k_thenT, k_thenF, k_thenB, k_elseT, k_elseF, k_elseB, k_tst, k_andB, k_orB, k_notB, k_andBS, k_orBS, k_notBS, k_ite, k_iteB, k_disp, k_dispS, k_nil, k_cons, k_consS, k_consS2, k_star, k_starS, k_starS1, k_starS2, k_len, k_lenS, k_call, k_callS, k_callD, k_drS, k_drO, k_blt, k_bltS, k_va, k_tv, k_vaO, k_tvO, k_tvOw, k_cst, k_noO, k_someO, k_someS, k_slc, k_slcS, k_slcS1, k_slcS2, k_items, k_itemsS, k_itL, k_itT, k_rng, k_rngS, k_lc, k_lcS2, k_gx, k_gxS, k_sg, k_sgS, k_yes, k_nilE, k_vaE, k_owE, k_vaES, k_owES, k_vaES2, k_whT, k_whF, k_wh2, k_st1, k_st2, k_st3, k_sE0, k_sE, k_wip0, k_wip, k_itemsG, k_itemsGS, k_iwL, k_iwT, k_dc, k_dcS, k_dcS2, k_newD, k_get1, k_get2, k_get1S, k_get1S2, k_get2S, k_get2S2, k_get2S3, k_enum, k_enumS, k_zip, k_zipS, k_zipS2, k_d1, k_d1S, k_d1S2, k_frz1, k_frz2, k_frz3, k_run, k_outR, k_outN, k_setG, k_setGS, k_setGS2, k_tstB, List.getElem?_cons_zero, List.getElem?_cons_succ, List.set_cons_zero, List.set_cons_succ, List.length_cons, List.length_nil, Nat.zero_add, Nat.reduceAdd, Nat.reduceSub, if_true, reduceIte, Bool.false_eq_true, Bool.true_eq_false, it_w, not_b, len_w, cNe_22, w0, w1, h0, it_tup, Bool.not_true, hloop, len_T, sub_i, hr, hg]
/-! ### lots -/
def chn (l : List Int) : Bool := (List.range (l.length - 1)).all fun k => decide (l.getD k 0 < l.getD (k + 1) 0)
def inR (n : Nat) (l : List Int) : Bool := l.all fun a => decide (0 ≤ a) && decide (a ≤ (n : Int) - 1)
def isLot (n : Nat) (l : List Int) : Bool := inR n l && chn l
theorem inR_iff {n : Nat} {l : List Int} : inR n l = true ↔ Wi n l := by
  unfold inR Wi
  rw [List.all_eq_true]
  constructor
  · intro h x hx
    have := h x hx
    rw [Bool.and_eq_true, decide_eq_true_eq, decide_eq_true_eq] at this
    omega
  · intro h x hx
    have := h x hx
    rw [Bool.and_eq_true, decide_eq_true_eq, decide_eq_true_eq]
    omega
theorem chn_pw : ∀ {l : List Int}, chn l = true ↔ l.Pairwise (· < ·)
  | [] => ⟨fun _ => .nil, fun _ => rfl⟩
  | [a] => ⟨fun _ => List.pairwise_singleton _ _, fun _ => rfl⟩
  | a :: b :: l => by
    have ih := chn_pw (l := b :: l)
    have e : chn (a :: b :: l) = (decide (a < b) && chn (b :: l)) := by
      unfold chn
      have : (a :: b :: l).length - 1 = (b :: l).length - 1 + 1 := by simp
      rw [this, List.range_succ_eq_map, List.all_cons, List.all_map]
      rfl
    rw [e, Bool.and_eq_true, decide_eq_true_eq, ih]
    constructor
    · rintro ⟨h1, h2⟩
      refine List.pairwise_cons.mpr ⟨fun x hx => ?_, h2⟩
      rcases List.mem_cons.mp hx with z | z
      · rw [z]; exact h1
      · exact Int.lt_trans h1 ((List.pairwise_cons.mp h2).1 x z)
    · intro h
      have h := List.pairwise_cons.mp h
      exact ⟨h.1 b (List.mem_cons_self ..), h.2⟩
theorem isLot_iff {n : Nat} {l : List Int} : isLot n l = true ↔ Wi n l ∧ l.Pairwise (· < ·) := by
  unfold isLot
  rw [Bool.and_eq_true, inR_iff, chn_pw]
theorem isLot_lot (n : Nat) (P : PP) : isLot n (lot n P) = true := isLot_iff.mpr ⟨fun x hx => (mem_lot.mp hx).1, lot_pw n P⟩
def P_is_lot (f : SemF) : Prop := ∀ (n : Nat) ps (l : List Int) st, l.length ≤ 1000000 → f [wD n ps, lD l] st = some (.bool (isLot n l), st)
theorem rng_map {f : SemF} (m : Nat) (h : m ≤ 1000001) : rangeO [.int ((m : Int) - 1)] = some ((List.range (m - 1)).map fun k : Nat => .int (k : Int)) := by
  have : small62 ((m : Int) - 1) = true := decide_eq_true ⟨by omega, by omega⟩
  show (if small62 ((m : Int) - 1) = true then some (rngD 0 1 ((m : Int) - 1).toNat) else none) = _
  rw [if_pos this]
  have e : ((m : Int) - 1).toNat = m - 1 := by omega
  rw [e]
  unfold rngD
  refine congrArg some (List.map_congr_left fun k _ => ?_)
  show PyData.int (0 + 1 * (k : Int)) = PyData.int (k : Int)
  rw [Int.one_mul, Int.zero_add]
theorem ok_is_lot {a : SemF} (ha : P_is_in a) : P_is_lot (r_is_lot a) := fun n ps l st hl => by
  have h1 := gx_all (E := PyData.int) (tg := .nm 3) (tt := yesB) (te := x_is_lot_1 a) (ρ := [some (.va (wD n ps)), some (.va (lD l)), none, none]) (st := st) false (fun x => decide (0 ≤ x) && decide (x ≤ (n : Int) - 1)) l fun x hx => ⟨_, rfl, rfl, by
    simp only [x_is_lot_1, k_seq, k_seqN, k_seqR, k_seqB, k_seqC, k_upS, k_upBS, k_upRS, k_upLS, k_upOS, k_nx, k_bk, k_ct, k_asg, k_asgS, k_own, k_ownS, k_if, k_ifT, k_ifF, k_ifB, k_rt, k_rtS, k_rtN, k_ex, k_exS, k_app, k_appS, k_for, k_forS, k_frz, k_par, k_parS, k_set, k_setS, k_setS2, k_bin, k_binS, k_binS2, k_un, k_unS, k_not, k_and, k_or, k_andS, k_orS, k_thenT, k_thenF, k_thenB, k_elseT, k_elseF, k_elseB, k_tst, k_andB, k_orB, k_notB, k_andBS, k_orBS, k_notBS, k_ite, k_iteB, k_disp, k_dispS, k_nil, k_cons, k_consS, k_consS2, k_star, k_starS, k_starS1, k_starS2, k_len, k_lenS, k_call, k_callS, k_callD, k_drS, k_drO, k_blt, k_bltS, k_va, k_tv, k_vaO, k_tvO, k_tvOw, k_cst, k_noO, k_someO, k_someS, k_slc, k_slcS, k_slcS1, k_slcS2, k_items, k_itemsS, k_itL, k_itT, k_rng, k_rngS, k_lc, k_lcS2, k_gx, k_gxS, k_sg, k_sgS, k_yes, k_nilE, k_vaE, k_owE, k_vaES, k_owES, k_vaES2, k_whT, k_whF, k_wh2, k_st1, k_st2, k_st3, k_sE0, k_sE, k_wip0, k_wip, k_itemsG, k_itemsGS, k_iwL, k_iwT, k_dc, k_dcS, k_dcS2, k_newD, k_get1, k_get2, k_get1S, k_get1S2, k_get2S, k_get2S2, k_get2S3, k_enum, k_enumS, k_zip, k_zipS, k_zipS2, k_d1, k_d1S, k_d1S2, k_frz1, k_frz2, k_frz3, k_run, k_outR, k_outN, k_setG, k_setGS, k_setGS2, k_tstB, List.getElem?_cons_zero, List.getElem?_cons_succ, List.set_cons_zero, List.set_cons_succ, List.length_cons, List.length_nil, Nat.zero_add, Nat.reduceAdd, Nat.reduceSub, if_true, reduceIte, Bool.false_eq_true, Bool.true_eq_false, w0, sub_i, ha x 0 ((n : Int) - 1) st]⟩
  have h2 := gx_all (E := fun k : Nat => PyData.int (k : Int)) (tg := .nm 2) (tt := yesB) (te := x_is_lot_2) (ρ := [some (.va (wD n ps)), some (.va (lD l)), none, none]) (st := st) false (fun k => decide (l.getD k 0 < l.getD (k + 1) 0)) (List.range (l.length - 1)) fun k hk => by
    have hk := List.mem_range.mp hk
    refine ⟨_, rfl, rfl, ?_⟩
    have e1 : L2.atI (l.map PyData.int) ((k : Nat) : Int) = some (.int l[k]) := at_map (by omega)
    have e2 : L2.atI (l.map PyData.int) (((k + 1 : Nat)) : Int) = some (.int l[k + 1]) := at_map (by omega)
    have e4 : ((k : Nat) : Int) + 1 = (((k + 1 : Nat)) : Int) := by omega
    have e5 : l.getD k 0 = l[k] := by rw [List.getD_eq_getElem?_getD, List.getElem?_eq_getElem (by omega)]; rfl
    have e6 : l.getD (k + 1) 0 = l[k + 1] := by rw [List.getD_eq_getElem?_getD, List.getElem?_eq_getElem (by omega)]; rfl
    rw [e5, e6]
    simp only [x_is_lot_2, lD, tD, k_seq, k_seqN, k_seqR, k_seqB, k_seqC, k_upS, k_upBS, k_upRS, k_upLS, k_upOS, k_nx, k_bk, k_ct, k_asg, k_asgS, k_own, k_ownS, k_if, k_ifT, k_ifF, k_ifB, k_rt, k_rtS, k_rtN, k_ex, k_exS, k_app, k_appS, k_for, k_forS, k_frz, k_par, k_parS, k_set, k_setS, k_setS2, k_bin, k_binS, k_binS2, k_un, k_unS, k_not, k_and, k_or, k_andS, k_orS, k_thenT, k_thenF, k_thenB, k_elseT, k_elseF, k_elseB, k_tst, k_andB, k_orB, k_notB, k_andBS, k_orBS, k_notBS, k_ite, k_iteB, k_disp, k_dispS, k_nil, k_cons, k_consS, k_consS2, k_star, k_starS, k_starS1, k_starS2, k_len, k_lenS, k_call, k_callS, k_callD, k_drS, k_drO, k_blt, k_bltS, k_va, k_tv, k_vaO, k_tvO, k_tvOw, k_cst, k_noO, k_someO, k_someS, k_slc, k_slcS, k_slcS1, k_slcS2, k_items, k_itemsS, k_itL, k_itT, k_rng, k_rngS, k_lc, k_lcS2, k_gx, k_gxS, k_sg, k_sgS, k_yes, k_nilE, k_vaE, k_owE, k_vaES, k_owES, k_vaES2, k_whT, k_whF, k_wh2, k_st1, k_st2, k_st3, k_sE0, k_sE, k_wip0, k_wip, k_itemsG, k_itemsGS, k_iwL, k_iwT, k_dc, k_dcS, k_dcS2, k_newD, k_get1, k_get2, k_get1S, k_get1S2, k_get2S, k_get2S2, k_get2S3, k_enum, k_enumS, k_zip, k_zipS, k_zipS2, k_d1, k_d1S, k_d1S2, k_frz1, k_frz2, k_frz3, k_run, k_outR, k_outN, k_setG, k_setGS, k_setGS2, k_tstB, List.getElem?_cons_zero, List.getElem?_cons_succ, List.set_cons_zero, List.set_cons_succ, List.length_cons, List.length_nil, Nat.zero_add, Nat.reduceAdd, Nat.reduceSub, if_true, reduceIte, Bool.false_eq_true, Bool.true_eq_false, getT, e1, e2, add_i, e4, cG_lt]
  have hr := rng_map (f := a) l.length (by omega)
  unfold lD tD at h1 h2 ⊢
  simp only [R_is_lot, t_is_lot, k_seq, k_seqN, k_seqR, k_seqB, k_seqC, k_upS, k_upBS, k_upRS, k_upLS, k_upOS, k_nx, k_bk, k_ct, k_asg, k_asgS, k_own, k_ownS, k_if, k_ifT, k_ifF, k_ifB, k_rt, k_rtS, k_rtN, k_ex, k_exS, k_app, k_appS, k_for, k_forS, k_frz, k_par, k_parS, k_set, k_setS, k_setS2, k_bin, k_binS, k_binS2, k_un, k_unS, k_not, k_and, k_or, k_andS, k_orS, k_thenT, k_thenF, k_thenB, k_elseT, k_elseF, k_elseB, k_tst, k_andB, k_orB, k_notB, k_andBS, k_orBS, k_notBS, k_ite, k_iteB, k_disp, k_dispS, k_nil, k_cons, k_consS, k_consS2, k_star, k_starS, k_starS1, k_starS2, k_len, k_lenS, k_call, k_callS, k_callD, k_drS, k_drO, k_blt, k_bltS, k_va, k_tv, k_vaO, k_tvO, k_tvOw, k_cst, k_noO, k_someO, k_someS, k_slc, k_slcS, k_slcS1, k_slcS2, k_items, k_itemsS, k_itL, k_itT, k_rng, k_rngS, k_lc, k_lcS2, k_gx, k_gxS, k_sg, k_sgS, k_yes, k_nilE, k_vaE, k_owE, k_vaES, k_owES, k_vaES2, k_whT, k_whF, k_wh2, k_st1, k_st2, k_st3, k_sE0, k_sE, k_wip0, k_wip, k_itemsG, k_itemsGS, k_iwL, k_iwT, k_dc, k_dcS, k_dcS2, k_newD, k_get1, k_get2, k_get1S, k_get1S2, k_get2S, k_get2S2, k_get2S3, k_enum, k_enumS, k_zip, k_zipS, k_zipS2, k_d1, k_d1S, k_d1S2, k_frz1, k_frz2, k_frz3, k_run, k_outR, k_outN, k_setG, k_setGS, k_setGS2, k_tstB, List.getElem?_cons_zero, List.getElem?_cons_succ, List.set_cons_zero, List.set_cons_succ, List.length_cons, List.length_nil, Nat.zero_add, Nat.reduceAdd, Nat.reduceSub, if_true, reduceIte, Bool.false_eq_true, Bool.true_eq_false, it_tup, not_b, Bool.not_true, h1, k_notBS]
  cases e : l.all fun x => decide (0 ≤ x) && decide (x ≤ (n : Int) - 1) with
  | false =>
    have : isLot n l = false := by unfold isLot inR; rw [e]; rfl
    simp only [k_seq, k_seqN, k_seqR, k_seqB, k_seqC, k_upS, k_upBS, k_upRS, k_upLS, k_upOS, k_nx, k_bk, k_ct, k_asg, k_asgS, k_own, k_ownS, k_if, k_ifT, k_ifF, k_ifB, k_rt, k_rtS, k_rtN, k_ex, k_exS, k_app, k_appS, k_for, k_forS, k_frz, k_par, k_parS, k_set, k_setS, k_setS2, k_bin, k_binS, k_binS2, k_un, k_unS, k_not, k_and, k_or, k_andS, k_orS, k_thenT, k_thenF, k_thenB, k_elseT, k_elseF, k_elseB, k_tst, k_andB, k_orB, k_notB, k_andBS, k_orBS, k_notBS, k_ite, k_iteB, k_disp, k_dispS, k_nil, k_cons, k_consS, k_consS2, k_star, k_starS, k_starS1, k_starS2, k_len, k_lenS, k_call, k_callS, k_callD, k_drS, k_drO, k_blt, k_bltS, k_va, k_tv, k_vaO, k_tvO, k_tvOw, k_cst, k_noO, k_someO, k_someS, k_slc, k_slcS, k_slcS1, k_slcS2, k_items, k_itemsS, k_itL, k_itT, k_rng, k_rngS, k_lc, k_lcS2, k_gx, k_gxS, k_sg, k_sgS, k_yes, k_nilE, k_vaE, k_owE, k_vaES, k_owES, k_vaES2, k_whT, k_whF, k_wh2, k_st1, k_st2, k_st3, k_sE0, k_sE, k_wip0, k_wip, k_itemsG, k_itemsGS, k_iwL, k_iwT, k_dc, k_dcS, k_dcS2, k_newD, k_get1, k_get2, k_get1S, k_get1S2, k_get2S, k_get2S2, k_get2S3, k_enum, k_enumS, k_zip, k_zipS, k_zipS2, k_d1, k_d1S, k_d1S2, k_frz1, k_frz2, k_frz3, k_run, k_outR, k_outN, k_setG, k_setGS, k_setGS2, k_tstB, List.getElem?_cons_zero, List.getElem?_cons_succ, List.set_cons_zero, List.set_cons_succ, List.length_cons, List.length_nil, Nat.zero_add, Nat.reduceAdd, Nat.reduceSub, if_true, reduceIte, Bool.false_eq_true, Bool.true_eq_false, this, Bool.not_false]
  | true =>
    have : isLot n l = chn l := by unfold isLot inR; rw [e]; rfl
    simp only [k_seq, k_seqN, k_seqR, k_seqB, k_seqC, k_upS, k_upBS, k_upRS, k_upLS, k_upOS, k_nx, k_bk, k_ct, k_asg, k_asgS, k_own, k_ownS, k_if, k_ifT, k_ifF, k_ifB, k_rt, k_rtS, k_rtN, k_ex, k_exS, k_app, k_appS, k_for, k_forS, k_frz, k_par, k_parS, k_set, k_setS, k_setS2, k_bin, k_binS, k_binS2, k_un, k_unS, k_not, k_and, k_or, k_andS, k_orS, k_thenT, k_thenF, k_thenB, k_elseT, k_elseF, k_elseB, k_tst, k_andB, k_orB, k_notB, k_andBS, k_orBS, k_notBS, k_ite, k_iteB, k_disp, k_dispS, k_nil, k_cons, k_consS, k_consS2, k_star, k_starS, k_starS1, k_starS2, k_len, k_lenS, k_call, k_callS, k_callD, k_drS, k_drO, k_blt, k_bltS, k_va, k_tv, k_vaO, k_tvO, k_tvOw, k_cst, k_noO, k_someO, k_someS, k_slc, k_slcS, k_slcS1, k_slcS2, k_items, k_itemsS, k_itL, k_itT, k_rng, k_rngS, k_lc, k_lcS2, k_gx, k_gxS, k_sg, k_sgS, k_yes, k_nilE, k_vaE, k_owE, k_vaES, k_owES, k_vaES2, k_whT, k_whF, k_wh2, k_st1, k_st2, k_st3, k_sE0, k_sE, k_wip0, k_wip, k_itemsG, k_itemsGS, k_iwL, k_iwT, k_dc, k_dcS, k_dcS2, k_newD, k_get1, k_get2, k_get1S, k_get1S2, k_get2S, k_get2S2, k_get2S3, k_enum, k_enumS, k_zip, k_zipS, k_zipS2, k_d1, k_d1S, k_d1S2, k_frz1, k_frz2, k_frz3, k_run, k_outR, k_outN, k_setG, k_setGS, k_setGS2, k_tstB, List.getElem?_cons_zero, List.getElem?_cons_succ, List.set_cons_zero, List.set_cons_succ, List.length_cons, List.length_nil, Nat.zero_add, Nat.reduceAdd, Nat.reduceSub, if_true, reduceIte, Bool.false_eq_true, Bool.true_eq_false, this, Bool.not_true, len_T, List.length_map, sub_i, hr, h2]
    rfl
/-! ### gatherings -/
def bothP (P : PP) (p : Int × Int) : Bool := P p.1 && P p.2
def isGth (n : Nat) (ps : List (Int × Int)) (l : List Int) : Bool := isLot n l && !ps.any (bothP fun x => memb x l)
def P_is_gathering (f : SemF) : Prop := ∀ (n : Nat) ps (l : List Int) st, l.length ≤ 1000000 → f [wD n ps, lD l] st = some (.bool (isGth n ps l), st)
theorem ok_is_gathering {a : SemF} (ha : P_is_lot a) : P_is_gathering (r_is_gathering a) := fun n ps l st hl => by
  have h1 := ha n ps l st hl
  have h2 := gx_all (E := pD) (tg := .tp [2, 3]) (tt := yesB) (te := x_is_gathering_1) (ρ := [some (.va (wD n ps)), some (.va (lD l)), none, none]) (st := st) true (bothP fun x => memb x l) ps fun p hp => by
    refine ⟨_, k_st2, rfl, ?_⟩
    have e1 : cmpG .In (.int p.1) (lD l) = some (.bool (memb p.1 l)) := in_T Enc.int p.1 l
    have e2 : cmpG .In (.int p.2) (lD l) = some (.bool (memb p.2 l)) := in_T Enc.int p.2 l
    simp only [x_is_gathering_1, k_seq, k_seqN, k_seqR, k_seqB, k_seqC, k_upS, k_upBS, k_upRS, k_upLS, k_upOS, k_nx, k_bk, k_ct, k_asg, k_asgS, k_own, k_ownS, k_if, k_ifT, k_ifF, k_ifB, k_rt, k_rtS, k_rtN, k_ex, k_exS, k_app, k_appS, k_for, k_forS, k_frz, k_par, k_parS, k_set, k_setS, k_setS2, k_bin, k_binS, k_binS2, k_un, k_unS, k_not, k_and, k_or, k_andS, k_orS, k_thenT, k_thenF, k_thenB, k_elseT, k_elseF, k_elseB, k_tst, k_andB, k_orB, k_notB, k_andBS, k_orBS, k_notBS, k_ite, k_iteB, k_disp, k_dispS, k_nil, k_cons, k_consS, k_consS2, k_star, k_starS, k_starS1, k_starS2, k_len, k_lenS, k_call, k_callS, k_callD, k_drS, k_drO, k_blt, k_bltS, k_va, k_tv, k_vaO, k_tvO, k_tvOw, k_cst, k_noO, k_someO, k_someS, k_slc, k_slcS, k_slcS1, k_slcS2, k_items, k_itemsS, k_itL, k_itT, k_rng, k_rngS, k_lc, k_lcS2, k_gx, k_gxS, k_sg, k_sgS, k_yes, k_nilE, k_vaE, k_owE, k_vaES, k_owES, k_vaES2, k_whT, k_whF, k_wh2, k_st1, k_st2, k_st3, k_sE0, k_sE, k_wip0, k_wip, k_itemsG, k_itemsGS, k_iwL, k_iwT, k_dc, k_dcS, k_dcS2, k_newD, k_get1, k_get2, k_get1S, k_get1S2, k_get2S, k_get2S2, k_get2S3, k_enum, k_enumS, k_zip, k_zipS, k_zipS2, k_d1, k_d1S, k_d1S2, k_frz1, k_frz2, k_frz3, k_run, k_outR, k_outN, k_setG, k_setGS, k_setGS2, k_tstB, List.getElem?_cons_zero, List.getElem?_cons_succ, List.set_cons_zero, List.set_cons_succ, List.length_cons, List.length_nil, Nat.zero_add, Nat.reduceAdd, Nat.reduceSub, if_true, reduceIte, Bool.false_eq_true, Bool.true_eq_false, e1, e2, k_thenB]
    show (if memb p.1 l = true then some (PyData.bool (memb p.2 l), st) else some (PyData.bool false, st)) = some (PyData.bool (memb p.1 l && memb p.2 l), st)
    cases memb p.1 l <;> rfl
  simp only [R_is_gathering, t_is_gathering, k_seq, k_seqN, k_seqR, k_seqB, k_seqC, k_upS, k_upBS, k_upRS, k_upLS, k_upOS, k_nx, k_bk, k_ct, k_asg, k_asgS, k_own, k_ownS, k_if, k_ifT, k_ifF, k_ifB, k_rt, k_rtS, k_rtN, k_ex, k_exS, k_app, k_appS, k_for, k_forS, k_frz, k_par, k_parS, k_set, k_setS, k_setS2, k_bin, k_binS, k_binS2, k_un, k_unS, k_not, k_and, k_or, k_andS, k_orS, k_thenT, k_thenF, k_thenB, k_elseT, k_elseF, k_elseB, k_tst, k_andB, k_orB, k_notB, k_andBS, k_orBS, k_notBS, k_ite, k_iteB, k_disp, k_dispS, k_nil, k_cons, k_consS, k_consS2, k_star, k_starS, k_starS1, k_starS2, k_len, k_lenS, k_call, k_callS, k_callD, k_drS, k_drO, k_blt, k_bltS, k_va, k_tv, k_vaO, k_tvO, k_tvOw, k_cst, k_noO, k_someO, k_someS, k_slc, k_slcS, k_slcS1, k_slcS2, k_items, k_itemsS, k_itL, k_itT, k_rng, k_rngS, k_lc, k_lcS2, k_gx, k_gxS, k_sg, k_sgS, k_yes, k_nilE, k_vaE, k_owE, k_vaES, k_owES, k_vaES2, k_whT, k_whF, k_wh2, k_st1, k_st2, k_st3, k_sE0, k_sE, k_wip0, k_wip, k_itemsG, k_itemsGS, k_iwL, k_iwT, k_dc, k_dcS, k_dcS2, k_newD, k_get1, k_get2, k_get1S, k_get1S2, k_get2S, k_get2S2, k_get2S3, k_enum, k_enumS, k_zip, k_zipS, k_zipS2, k_d1, k_d1S, k_d1S2, k_frz1, k_frz2, k_frz3, k_run, k_outR, k_outN, k_setG, k_setGS, k_setGS2, k_tstB, List.getElem?_cons_zero, List.getElem?_cons_succ, List.set_cons_zero, List.set_cons_succ, List.length_cons, List.length_nil, Nat.zero_add, Nat.reduceAdd, Nat.reduceSub, if_true, reduceIte, Bool.false_eq_true, Bool.true_eq_false, h1, w1, h2, not_b, k_thenB]
  unfold isGth
  cases isLot n l <;> simp [k_rtS, k_seqR, k_outR]
end W
namespace W
open PySem PySem.Spec PyProof.Rows Fo Th
/-! ### gatherings of people told by P -/
abbrev lP (n : Nat) (P : PP) : PyData := lD (lot n P)
theorem Web.pr {n : Nat} {ps : List (Int × Int)} (V : Web n ps) {p : Int × Int} (h : p ∈ ps) : foe ps p.1 p.2 = true ∧ 0 ≤ p.1 ∧ p.1 < n ∧ 0 ≤ p.2 ∧ p.2 < n := by
  obtain ⟨h1, h2, h3⟩ := V.at_ p h
  refine ⟨?_, h1, by omega, by omega, by omega⟩
  unfold foe
  rw [memb_iff, Int.min_eq_left (by omega), Int.max_eq_right (by omega)]
  exact h
theorem foe_mem {ps : List (Int × Int)} {x y : Int} (h : foe ps x y = true) : (min x y, max x y) ∈ ps := memb_iff.mp h
theorem gth_any {n : Nat} {ps : List (Int × Int)} (V : Web n ps) {P : PP} : ps.any (bothP fun x => memb x (lot n P)) = false ↔ Gth n (foe ps) P := by
  rw [List.any_eq_false]
  constructor
  · intro h x y x0 x1 y0 y1 hx hy
    cases e : foe ps x y with
    | false => rfl
    | true =>
      have := h _ (foe_mem e)
      have m1 : memb (min x y) (lot n P) = true := memb_iff.mpr (mem_lot.mpr (by
        rcases Int.le_total x y with q | q
        · rw [Int.min_eq_left q]; exact ⟨⟨x0, x1⟩, hx⟩
        · rw [Int.min_eq_right q]; exact ⟨⟨y0, y1⟩, hy⟩))
      have m2 : memb (max x y) (lot n P) = true := memb_iff.mpr (mem_lot.mpr (by
        rcases Int.le_total x y with q | q
        · rw [Int.max_eq_right q]; exact ⟨⟨y0, y1⟩, hy⟩
        · rw [Int.max_eq_left q]; exact ⟨⟨x0, x1⟩, hx⟩))
      exact absurd (show (memb (min x y) (lot n P) && memb (max x y) (lot n P)) = true by rw [m1, m2]; rfl) this
  · intro h p hp
    obtain ⟨f, a, b, c, d⟩ := V.pr hp
    intro q
    have q : (memb p.1 (lot n P) && memb p.2 (lot n P)) = true := q
    rw [Bool.and_eq_true, memb_iff, memb_iff, mem_lot, mem_lot] at q
    rw [h p.1 p.2 a b c d q.1.2 q.2.2] at f
    cases f
theorem isGth_P {n : Nat} {ps : List (Int × Int)} (V : Web n ps) {P : PP} (h : Gth n (foe ps) P) : isGth n ps (lot n P) = true := by
  unfold isGth
  rw [isLot_lot, (gth_any V).mpr h]
  rfl
theorem lot_small (n : Nat) (P : PP) (h : n ≤ 7 := by omega) : (lot n P).length ≤ 1000000 := Nat.le_trans (lot_length n P) (by omega)
def P_need_gathering (f : SemF) : Prop := ∀ (n : Nat) ps (P : PP) st, Web n ps → Gth n (foe ps) P → f [wD n ps, lP n P] st = some (.none, st)
theorem ok_need_gathering {a b : SemF} (ha : P_need_web a) (hb : P_is_gathering b) : P_need_gathering (r_need_gathering a b) := fun n ps P st V h => by
  have h1 := ha n ps st V
  have h2 := hb n ps (lot n P) st (lot_small n P V.hi)
  rw [isGth_P V h] at h2
  simp only [R_need_gathering, t_need_gathering, k_seq, k_seqN, k_seqR, k_seqB, k_seqC, k_upS, k_upBS, k_upRS, k_upLS, k_upOS, k_nx, k_bk, k_ct, k_asg, k_asgS, k_own, k_ownS, k_if, k_ifT, k_ifF, k_ifB, k_rt, k_rtS, k_rtN, k_ex, k_exS, k_app, k_appS, k_for, k_forS, k_frz, k_par, k_parS, k_set, k_setS, k_setS2, k_bin, k_binS, k_binS2, k_un, k_unS, k_not, k_and, k_or, k_andS, k_orS, k_thenT, k_thenF, k_thenB, k_elseT, k_elseF, k_elseB, k_tst, k_andB, k_orB, k_notB, k_andBS, k_orBS, k_notBS, k_ite, k_iteB, k_disp, k_dispS, k_nil, k_cons, k_consS, k_consS2, k_star, k_starS, k_starS1, k_starS2, k_len, k_lenS, k_call, k_callS, k_callD, k_drS, k_drO, k_blt, k_bltS, k_va, k_tv, k_vaO, k_tvO, k_tvOw, k_cst, k_noO, k_someO, k_someS, k_slc, k_slcS, k_slcS1, k_slcS2, k_items, k_itemsS, k_itL, k_itT, k_rng, k_rngS, k_lc, k_lcS2, k_gx, k_gxS, k_sg, k_sgS, k_yes, k_nilE, k_vaE, k_owE, k_vaES, k_owES, k_vaES2, k_whT, k_whF, k_wh2, k_st1, k_st2, k_st3, k_sE0, k_sE, k_wip0, k_wip, k_itemsG, k_itemsGS, k_iwL, k_iwT, k_dc, k_dcS, k_dcS2, k_newD, k_get1, k_get2, k_get1S, k_get1S2, k_get2S, k_get2S2, k_get2S3, k_enum, k_enumS, k_zip, k_zipS, k_zipS2, k_d1, k_d1S, k_d1S2, k_frz1, k_frz2, k_frz3, k_run, k_outR, k_outN, k_setG, k_setGS, k_setGS2, k_tstB, List.getElem?_cons_zero, List.getElem?_cons_succ, List.set_cons_zero, List.set_cons_succ, List.length_cons, List.length_nil, Nat.zero_add, Nat.reduceAdd, Nat.reduceSub, if_true, reduceIte, Bool.false_eq_true, Bool.true_eq_false, h1, h2, Bool.not_true]
/-! ### a coming -/
/-! ### rows -/
/-! ### comings along a row -/
end W
/-! deeds -/
namespace W
open PySem PySem.Spec PyProof.Rows Fo Th
/-! ### dicts of people -/
/-! ### with_foes -/
end W
/-! stays, deeds -/
namespace W
open PySem PySem.Spec PyProof.Rows Fo Th
theorem it_lD (r : List Int) : itemsW (lD r) = some (r.map .int) := rfl
end W
/-! growing within some: plain -/
namespace Th
abbrev LL := List Int × List Int
def add1 (c : List Int) (s : LL) (q : Int) : LL := if (decide (q ∈ c) && !decide (q ∈ s.1)) = true then (s.1 ++ [q], s.2 ++ [q]) else s
def add (c : List Int) (s : LL) (qs : List Int) : LL := qs.foldl (add1 c) s
end Th
/-! deeds -/
namespace W
open PySem PySem.Spec PyProof.Rows Fo Th
abbrev liI (l : List Int) : PyData := .list (l.map .int)
theorem it_li (l : List Int) : itemsW (liI l) = some (l.map .int) := rfl
theorem in_li (l : List Int) (x : Int) : cmpG .In (.int x) (liI l) = some (.bool (memb x l)) := in_L Enc.int x _
end W
/-! deeds made, joined, told -/
namespace W
open PySem PySem.Spec PyProof.Rows Fo Th
theorem len_lD (l : List Int) : lenW [lD l] = some (.int (l.length : Nat)) := by
  show some (PyData.int ((l.map PyData.int).length : Nat)) = _
  rw [List.length_map]
theorem Web.st {n : Nat} {ps : List (Int × Int)} (V : Web n ps) {P : PP} (h : Gth n (foe ps) P) (r : List Int) : Gth n (foe ps) (doneP (foe ps) P r) := gth_done V.isFoe r h
end W
/-! the laws' own helpers: numbers drawn, webs, rows, lots -/
namespace W
open PySem PySem.Spec PyProof.Rows Fo Th
theorem kO {t : SemS} {ρ : Rho} {st st1 : Dr} {v : PyData} (h : t ρ st = some (.rt v, st1)) : kOut (t ρ st) = some (v, st1) := by rw [h]; rfl
theorem rng_ok (j : Int) (h1 : -100000 ≤ j) (h2 : j ≤ 100000) : rangeO [.int j] = some (rngD 0 1 j.toNat) := by
  have : small62 j = true := decide_eq_true ⟨by omega, by omega⟩
  show (if small62 j = true then some (rngD 0 1 j.toNat) else none) = _
  rw [if_pos this]
theorem rng2_ok (i j : Int) (h1 : -100000 ≤ i ∧ i ≤ 100000) (h2 : -100000 ≤ j ∧ j ≤ 100000) : rangeO [.int i, .int j] = some (rngD i 1 (j - i).toNat) := by
  have a : small62 i = true := decide_eq_true ⟨Int.le_trans (by decide) h1.1, Int.lt_of_le_of_lt h1.2 (by decide)⟩
  have b : small62 j = true := decide_eq_true ⟨Int.le_trans (by decide) h2.1, Int.lt_of_le_of_lt h2.2 (by decide)⟩
  show (if (small62 i && small62 j) = true then some (rngD i 1 (j - i).toNat) else none) = _
  rw [a, b]
  rfl
theorem tk_run (m : Int) (h1 : 0 < m) (h2 : m < 2 ^ 64) (st : Dr) (G : Gd st) : ∃ r st', t__law_taken [some .dr, some (.va (.int m)), none, none] st = some (.rt (.int r), st') ∧ 0 ≤ r ∧ r < m ∧ Gd st' := by
  have hm : ∀ a : Int, 0 ≤ a % m ∧ a % m < m := fun a => ⟨Int.emod_nonneg _ (by omega), Int.emod_lt_of_pos _ h1⟩
  have hs : ∀ a : Int, 0 ≤ a % 2147483647 ∧ a % 2147483647 < 2147483647 := fun a => ⟨Int.emod_nonneg _ (by decide), Int.emod_lt_of_pos _ (by decide)⟩
  have G1 := G.i
  have G2 := G.s
  have G3 := G.s2
  have hmul := mul_i (a := st.s) (b := 48271) (by omega) (by decide)
  by_cases hc : 0 < st.c
  · refine ⟨st.c % m, { st with c := st.c / m }, ?_, (hm _).1, (hm _).2, ⟨G1, G2, G3⟩⟩
    exact (ev_seqR (ev_ifT (ev_tst (ev_bin (ev_dr rfl rfl) ev_cst (cG_gt _ _)) (by simp [truV, hc])) (ev_seq (ev_asg (ev_bin (ev_blt (ev_cons (ev_dr rfl rfl) ev_nil) rfl) (ev_tv rfl) (mod_i h1)) rfl)
      (ev_seq (ev_drSet rfl (ev_bin (ev_dr rfl rfl) (ev_tv rfl) (fdiv_i h1 h2)) rfl) (ev_seqR (ev_rt (ev_va rfl)))))))
  · have c1 : ∀ ρ : Rho, ρ[0]? = some (some .dr) → tstR (binR (cmpG .Gt) (drR 0 3) (cstR (.int 0))) ρ st = some (false, st) := fun ρ h => ev_tst (ev_bin (ev_dr h rfl) ev_cst (cG_gt _ _)) (by simp [truV, hc])
    by_cases hl : (st.sc.length : Int) < st.i + 1
    · refine ⟨(st.s * 48271 + 11) % 2147483647 / 7 % m, { st with i := st.i + 1, s := (st.s * 48271 + 11) % 2147483647 }, ?_, (hm _).1, (hm _).2, ⟨by show 0 ≤ st.i + 1; omega, (hs _).1, (hs _).2⟩⟩
      exact (ev_seq (ev_ifF (c1 _ rfl) rfl) (ev_seq (ev_drSet rfl (ev_bin (ev_dr rfl rfl) ev_cst (add_i _ _)) rfl) (ev_seqR (ev_ifT (ev_tst (ev_bin (ev_dr rfl rfl) (ev_drLen rfl) (cG_gt _ _)) (by simp [truV, hl]))
        (ev_seq (ev_drSet rfl (ev_bin (ev_blt (ev_cons (ev_bin (ev_bin (ev_dr rfl rfl) ev_cst hmul) ev_cst (add_i _ _)) ev_nil) rfl) ev_cst (mod_i (by decide))) rfl)
          (ev_seqR (ev_rt (ev_bin (ev_blt (ev_cons (ev_bin (ev_dr rfl rfl) ev_cst (fdiv_i (by decide) (by decide))) ev_nil) rfl) (ev_tv rfl) (mod_i h1)))))))))
    · obtain ⟨n, hn⟩ : ∃ n, st.sc[(st.i + 1 - 1).toNat]? = some n := ⟨_, List.getElem?_eq_getElem (by omega)⟩
      have hat : L2.atI st.sc (st.i + 1 - 1) = some n := atN (by omega) hn
      have st2 : ∀ c : Int, Gd { st with i := st.i + 1, s := (st.s * 48271 + n + 11) % 2147483647, c := c } := fun c => ⟨by show 0 ≤ st.i + 1; omega, (hs _).1, (hs _).2⟩
      have hp : powV (.int 10) (.int 18) = some (.int (10 ^ 18)) := by rfl
      by_cases hb : 10 ^ 18 ≤ n
      · refine ⟨n % m, _, ?_, (hm _).1, (hm _).2, st2 (n / m)⟩
        exact (ev_seq (ev_ifF (c1 _ rfl) rfl) (ev_seq (ev_drSet rfl (ev_bin (ev_dr rfl rfl) ev_cst (add_i _ _)) rfl) (ev_seq (ev_ifF (ev_tst (ev_bin (ev_dr rfl rfl) (ev_drLen rfl) (cG_gt _ _)) (by simp [truV]; omega)) rfl)
          (ev_seq (ev_asg (ev_drGet rfl (ev_bin (ev_dr rfl rfl) ev_cst (sub_i _ _)) hat) rfl)
          (ev_seq (ev_drSet rfl (ev_bin (ev_blt (ev_cons (ev_bin (ev_bin (ev_bin (ev_dr rfl rfl) ev_cst hmul) (ev_tv rfl) (add_i _ _)) ev_cst (add_i _ _)) ev_nil) rfl) ev_cst (mod_i (by decide))) rfl)
          (ev_seq (ev_ifT (ev_tst (ev_bin (ev_tv rfl) (ev_bin ev_cst ev_cst hp) (cG_ge _ _)) (by simp [truV]; exact hb)) (ev_seq (ev_drSet rfl (ev_bin (ev_tv rfl) (ev_tv rfl) (fdiv_i h1 h2)) rfl) rfl))
          (ev_seqR (ev_rt (ev_bin (ev_blt (ev_cons (ev_tv rfl) ev_nil) rfl) (ev_tv rfl) (mod_i h1))))))))))
      · refine ⟨n % m, _, ?_, (hm _).1, (hm _).2, st2 st.c⟩
        exact (ev_seq (ev_ifF (c1 _ rfl) rfl) (ev_seq (ev_drSet rfl (ev_bin (ev_dr rfl rfl) ev_cst (add_i _ _)) rfl) (ev_seq (ev_ifF (ev_tst (ev_bin (ev_dr rfl rfl) (ev_drLen rfl) (cG_gt _ _)) (by simp [truV]; omega)) rfl)
          (ev_seq (ev_asg (ev_drGet rfl (ev_bin (ev_dr rfl rfl) ev_cst (sub_i _ _)) hat) rfl)
          (ev_seq (ev_drSet rfl (ev_bin (ev_blt (ev_cons (ev_bin (ev_bin (ev_bin (ev_dr rfl rfl) ev_cst hmul) (ev_tv rfl) (add_i _ _)) ev_cst (add_i _ _)) ev_nil) rfl) ev_cst (mod_i (by decide))) rfl)
          (ev_seq (ev_ifF (ev_tst (ev_bin (ev_tv rfl) (ev_bin ev_cst ev_cst hp) (cG_ge _ _)) (by simp [truV]; omega)) rfl)
          (ev_seqR (ev_rt (ev_bin (ev_blt (ev_cons (ev_tv rfl) ev_nil) rfl) (ev_tv rfl) (mod_i h1))))))))))
def P_taken (f : SemF) : Prop := ∀ (m : Int), 0 < m → m < 2 ^ 64 → ∀ st, Gd st → ∃ r st', f [.int m] st = some (.int r, st') ∧ 0 ≤ r ∧ r < m ∧ Gd st'
theorem ok_taken : P_taken r__law_taken := fun m h1 h2 st G => by
  obtain ⟨r, st', h, q⟩ := tk_run m h1 h2 st G
  exact ⟨r, st', by rw [R__law_taken]; exact kO h, q⟩
section
variable {a : SemF} (ha : P_taken a)
def rhoW (most w i n : Int) (qs : List (Int × Int)) (y6 y7 : Option En) : Rho := [some .dr, some (.va (.int most)), some (.va (.int w)), some (.va (.int i)), some (.va (.int n)), some (.ow (.list (qs.map pD))), y6, y7]
include ha in
theorem tk (m : Int) (h1 : 0 < m) (h2 : m < 2 ^ 64) (ρ : Rho) (hρ : ρ[0]? = some (some .dr)) (e : Sem1) (st : Dr) (he : ∀ st, e ρ st = some (.int m, st)) (G : Gd st) : ∃ r st', callD a 0 (lenR (2 - 1) (consR e nilR)) ρ st = some (.int r, st') ∧ 0 ≤ r ∧ r < m ∧ Gd st' := by
  obtain ⟨r, st', e1, h⟩ := ha m h1 h2 st G
  exact ⟨r, st', ev_callD hρ (ev_len (ev_cons (he st) ev_nil) rfl) e1, h⟩
include ha in
theorem tkB (m : Int) (h1 : 0 < m) (h2 : m < 2 ^ 64) (ρ : Rho) (hρ : ρ[0]? = some (some .dr)) (st : Dr) (G : Gd st) : TotB (tstR (binR (cmpG .Eq) (callD a 0 (lenR (2 - 1) (consR (cstR (.int m)) nilR))) (cstR (.int 0)))) ρ st := by
  obtain ⟨r, st', e, _, _, g⟩ := tk ha m h1 h2 ρ hρ (cstR (.int m)) st (fun _ => rfl) G
  exact totB_tst (ev_bin e ev_cst (cG_eq _ _)) g
include ha in
theorem web_in (most w i n o : Int) (qs : List (Int × Int)) (y7 : Option En) (st : Dr) (G : Gd st) (hl : qs.length < 1000000) : ∃ b z st', (b__law_web_2 a) (rhoW most w i n qs (some (.va (.int o))) y7) st = some (.nx (rhoW most w i n (if b = true then qs ++ [(i, o)] else qs) (some (.va (.int o))) z), st') ∧ Gd st' := by
  obtain ⟨nb, hn⟩ : TotV (orR (binR (cmpG .Eq) (tvR 6) (binR addV (tvR 3) (cstR (.int 1)))) (andR (binR (cmpG .Eq) (tvR 3) (cstR (.int 0))) (andR (binR (cmpG .Eq) (tvR 6) (binR subV (tvR 4) (cstR (.int 1)))) (binR (cmpG .Eq) (tvR 2) (cstR (.int 1)))))) (rhoW most w i n qs (some (.va (.int o))) y7) st :=
    totV_or ⟨_, ev_bin (ev_tv rfl) (ev_bin (ev_tv rfl) ev_cst (add_i _ _)) (cG_eq _ _)⟩ (totV_and ⟨_, ev_bin (ev_tv rfl) ev_cst (cG_eq _ _)⟩ (totV_and ⟨_, ev_bin (ev_tv rfl) (ev_bin (ev_tv rfl) ev_cst (sub_i _ _)) (cG_eq _ _)⟩ ⟨_, ev_bin (ev_tv rfl) ev_cst (cG_eq _ _)⟩))
  obtain ⟨b, st', e, g⟩ : TotB (orB (andB (tstR (binR (cmpG .Eq) (callD a 0 (lenR (2 - 1) (consR (cstR (.int 3)) nilR))) (cstR (.int 0)))) (tstR (binR (cmpG .Gt) (tvR 2) (cstR (.int 1))))) (orB (andB (tstR (tvR 7)) (tstR (binR (cmpG .Lt) (tvR 2) (cstR (.int 2))))) (andB (tstR (binR (cmpG .Eq) (tvR 2) (cstR (.int 3)))) (tstR (binR (cmpG .Eq) (callD a 0 (lenR (2 - 1) (consR (cstR (.int 2)) nilR))) (cstR (.int 0))))))) (rhoW most w i n qs (some (.va (.int o))) (some (.va (.bool nb)))) st :=
    totB_or (totB_and (tkB ha 3 (by decide) (by decide) _ rfl st G) fun st' g => totB_tst (ev_bin (ev_tv rfl) ev_cst (cG_gt _ _)) g) fun st' g => totB_or (totB_and (totB_tst (ev_tv rfl) g) fun st' g => totB_tst (ev_bin (ev_tv rfl) ev_cst (cG_lt _ _)) g) fun st' g => totB_and (totB_tst (ev_bin (ev_tv rfl) ev_cst (cG_eq _ _)) g) fun st' g => tkB ha 2 (by decide) (by decide) _ rfl st' g
  refine ⟨b, some (.va (.bool nb)), st', ?_, g⟩
  cases b with
  | true =>
    refine ev_seq (ev_asg hn rfl) (ev_seq (ev_ifT e (ev_seq (ev_app (ev_disp (ev_cons (ev_va rfl) (ev_cons (ev_va rfl) ev_nil)) (by show 2 ≤ 1000000; decide)) ?_) rfl)) rfl)
    show (if (qs.map pD).length < 1000000 then some _ else none) = _
    rw [List.length_map, if_pos hl]
    unfold rhoW
    rw [if_pos rfl, List.map_append]
    rfl
  | false => exact ev_seq (ev_asg hn rfl) (ev_seq (ev_ifF e rfl) rfl)
/-- the pairs so far, ahead of (i, o) -/
structure Upto (n i o : Int) (qs : List (Int × Int)) : Prop where
  at_ : ∀ p ∈ qs, 0 ≤ p.1 ∧ p.1 + 1 ≤ p.2 ∧ p.2 ≤ n - 1
  lt : qs.Pairwise plt
  to : ∀ p ∈ qs, p.1 < i ∨ p.1 = i ∧ p.2 < o
theorem Upto.add {n i o : Int} {qs : List (Int × Int)} (U : Upto n i o qs) (h0 : 0 ≤ i) (h1 : i + 1 ≤ o) (h2 : o ≤ n - 1) : Upto n i (o + 1) (qs ++ [(i, o)]) := by
  refine ⟨fun p hp => ?_, ?_, fun p hp => ?_⟩
  · rcases List.mem_append.mp hp with z | z
    · exact U.at_ p z
    · rw [List.mem_singleton.mp z]
      exact ⟨h0, h1, h2⟩
  · rw [List.pairwise_append]
    refine ⟨U.lt, List.pairwise_singleton _ _, fun p hp q hq => ?_⟩
    rw [List.mem_singleton.mp hq]
    exact U.to p hp
  · rcases List.mem_append.mp hp with z | z
    · rcases U.to p z with q | ⟨q1, q2⟩
      · exact .inl q
      · exact .inr ⟨q1, by omega⟩
    · rw [List.mem_singleton.mp z]
      exact .inr ⟨rfl, by show o < o + 1; omega⟩
theorem Upto.skip {n i o o' : Int} {qs : List (Int × Int)} (U : Upto n i o qs) (h : o ≤ o') : Upto n i o' qs :=
  ⟨U.at_, U.lt, fun p hp => (U.to p hp).elim .inl fun ⟨a, b⟩ => .inr ⟨a, by omega⟩⟩
theorem Upto.next {n i o o' : Int} {qs : List (Int × Int)} (U : Upto n i o qs) : Upto n (i + 1) o' qs :=
  ⟨U.at_, U.lt, fun p hp => .inl ((U.to p hp).elim (fun a => by omega) fun ⟨a, b⟩ => by omega)⟩
include ha in
theorem web_row (most w i n : Int) (h0 : 0 ≤ i) (hn : n ≤ 7) (L : Nat) (hL : L ≤ 100) (m : Nat) (hm : i + 1 + m = n ∨ m = 0) (qs : List (Int × Int)) (y6 y7 : Option En) (st : Dr) (G : Gd st) (U : Upto n i (i + 1) qs) (hl : qs.length + m ≤ L) :
    ∃ qs' z6 z7 st', forGo (.nm 6) (b__law_web_2 a) (rngD (i + 1) 1 m) (rhoW most w i n qs y6 y7) st = some (.nx (rhoW most w i n qs' z6 z7), st') ∧ Gd st' ∧ (∃ o, Upto n i o qs') ∧ qs'.length ≤ L := by
  obtain ⟨ρ', st', e, I⟩ := forGo_inv (t := .nm 6) (b := (b__law_web_2 a)) (fun ds ρ st => ∃ o k qs y6 y7, ds = rngD o 1 k ∧ (o + (k : Int) = n ∨ k = 0) ∧ i + 1 ≤ o ∧ ρ = rhoW most w i n qs y6 y7 ∧ Gd st ∧ Upto n i o qs ∧ qs.length + k ≤ L) (fun d ds ρ st ⟨o, k, qs, y6, y7, e1, e2, e3, e4, e5, e6, e7⟩ => by
    cases k with
    | zero => cases e1
    | succ k =>
      rw [rngD_succ] at e1
      cases e1
      subst e4
      obtain ⟨b, z, st', f1, f2⟩ := web_in ha most w i n o qs y7 st e5 (by omega)
      refine ⟨_, _, st', rfl, f1, o + 1, k, _, _, _, rfl, by omega, by omega, rfl, f2, ?_, ?_⟩
      · cases b with
        | true =>
          rw [if_pos rfl]
          exact e6.add h0 e3 (by omega)
        | false =>
          rw [if_neg (by decide)]
          exact e6.skip (by omega)
      · cases b with
        | true =>
          rw [if_pos rfl, List.length_append, List.length_singleton]
          omega
        | false =>
          rw [if_neg (by decide)]
          omega) _ _ st ⟨i + 1, m, qs, y6, y7, rfl, hm, Int.le_refl _, rfl, G, U, hl⟩
  obtain ⟨o, k, qs', z6, z7, e1, e2, e3, e4, e5, e6, e7⟩ := I
  subst e4
  exact ⟨qs', z6, z7, st', e, e5, ⟨o, e6⟩, by omega⟩
include ha in
theorem web_all (most w n : Int) (h1 : 1 ≤ n) (hn : n ≤ 7) (y3 : Option En) (y6 y7 : Option En) (st : Dr) (G : Gd st) :
    ∃ qs' z3 z6 z7 st', forGo (.nm 3) (b__law_web_1 a) (rngD 0 1 n.toNat) [some .dr, some (.va (.int most)), some (.va (.int w)), y3, some (.va (.int n)), some (.ow (.list [])), y6, y7] st = some (.nx [some .dr, some (.va (.int most)), some (.va (.int w)), z3, some (.va (.int n)), some (.ow (.list (qs'.map pD))), z6, z7], st') ∧ Gd st' ∧ Web n.toNat qs' := by
  obtain ⟨ρ', st', e, I⟩ := forGo_inv (t := .nm 3) (b := (b__law_web_1 a)) (fun ds ρ st => ∃ (i : Int) (k : Nat) (qs : List (Int × Int)) (y3 y6 y7 : Option En), ds = rngD i 1 k ∧ i + (k : Int) = n ∧ 0 ≤ i ∧ ρ = [some .dr, some (.va (.int most)), some (.va (.int w)), y3, some (.va (.int n)), some (.ow (.list (qs.map pD))), y6, y7] ∧ Gd st ∧ Upto n i (i + 1) qs ∧ (qs.length : Int) ≤ 7 * i) (fun d ds ρ st ⟨i, k, qs, y3, y6, y7, e1, e2, e3, e4, e5, e6, e7⟩ => by
    cases k with
    | zero => cases e1
    | succ k =>
      rw [rngD_succ] at e1
      cases e1
      subst e4
      obtain ⟨qs', z6, z7, st', f1, f2, ⟨o, f3⟩, f4⟩ := web_row ha most w i n e3 hn (7 * (i + 1)).toNat (by omega) (n - (i + 1)).toNat (by omega) qs y6 y7 st e5 e6 (by omega)
      refine ⟨_, _, st', rfl, ev_seq (ev_for (ev_rng (ev_len (ev_cons (ev_bin (ev_tv rfl) ev_cst (add_i _ _)) (ev_cons (ev_tv rfl) ev_nil)) rfl) (rng2_ok (i + 1) n (by omega) (by omega))) f1) rfl, i + 1, k, qs', _, _, _, rfl, by omega, by omega, rfl, f2, f3.next, by omega⟩) _ _ st ⟨0, n.toNat, [], y3, y6, y7, rfl, by omega, Int.le_refl _, rfl, G, ⟨fun p hp => by simp at hp, .nil, fun p hp => by simp at hp⟩, by simp⟩
  obtain ⟨i, k, qs', z3, z6, z7, e1, e2, e3, e4, e5, e6, e7⟩ := I
  subst e4
  exact ⟨qs', z3, z6, z7, st', e, e5, ⟨by omega, by omega, fun p hp => by have := e6.at_ p hp; omega, e6.lt, by omega⟩⟩
end
def P_law_web (f : SemF) : Prop := ∀ (m : Int), 1 ≤ m → m ≤ 7 → ∀ st, Gd st → ∃ (n : Nat) (ps : List (Int × Int)) (st' : Dr), f [.int m] st = some (wD n ps, st') ∧ Web n ps ∧ (n : Int) ≤ m ∧ Gd st'
theorem ok_law_web {a : SemF} (ha : P_taken a) : P_law_web (r__law_web a) := fun m m1 m7 st G => by
  obtain ⟨r, st1, e1, r0, r7, g1⟩ := ha m (by omega) (by omega) st G
  obtain ⟨w, st2, e2, w0, w4, g2⟩ := ha 4 (by decide) (by decide) st1 g1
  obtain ⟨qs, z3, z6, z7, st3, e3, g3, V⟩ := web_all ha m w (1 + r) (by omega) (by omega) none none none st2 g2
  have hn : ((1 + r).toNat : Int) = 1 + r := by omega
  refine ⟨(1 + r).toNat, qs, st3, ?_, V, by omega, g3⟩
  have hl := V.len
  unfold wD
  rw [R__law_web, hn]
  refine kO (ev_seq (ev_par (ev_vaE (ev_bin ev_cst (ev_callD rfl (ev_len (ev_cons (ev_va rfl) ev_nil) rfl) e1) (add_i _ _)) (ev_owE (ev_disp ev_nil (by decide)) ev_nilE)) rfl) (ev_seq (ev_asg (ev_callD rfl (ev_len (ev_cons ev_cst ev_nil) rfl) e2) rfl)
    (ev_seq (ev_for (ev_rng (ev_len (ev_cons (ev_tv rfl) ev_nil) rfl) (rng_ok (1 + r) (by omega) (by omega))) e3) (ev_seqR (ev_rt (ev_disp (ev_cons (ev_va rfl) (ev_cons (ev_blt (ev_cons (ev_tvo rfl) ev_nil) rfl) ev_nil)) (by show 2 ≤ 1000000; decide)))))))
/-! rows, picks -/
end W
/-! all lots in their order -/
namespace Th
def lxS : Nat → Int → List (List Int)
  | 0, _ => []
  | r + 1, k => (([] : List Int) :: lxS r (k + 1)).map (fun l => k :: l) ++ lxS r (k + 1)
def lots (n : Nat) : List (List Int) := [] :: lxS n 0
theorem mem_lxS : ∀ (r : Nat) (k : Int) (l : List Int), l ∈ lxS r k ↔ l ≠ [] ∧ l.Pairwise (· < ·) ∧ ∀ x ∈ l, k ≤ x ∧ x < k + r
  | 0, k, l => by
    unfold lxS
    refine ⟨fun h => (by cases h), fun ⟨h1, _, h3⟩ => ?_⟩
    cases l with
    | nil => exact absurd rfl h1
    | cons a l => have := h3 a (List.mem_cons_self ..); omega
  | r + 1, k, l => by
    unfold lxS
    rw [List.mem_append, List.mem_map, mem_lxS r (k + 1) l]
    constructor
    · rintro (⟨m, hm, rfl⟩ | ⟨h1, h2, h3⟩)
      · refine ⟨by simp, ?_⟩
        rcases List.mem_cons.mp hm with e | hm
        · subst e
          refine ⟨List.pairwise_singleton _ _, fun x hx => ?_⟩
          rw [List.mem_singleton.mp hx]; omega
        · obtain ⟨q1, q2, q3⟩ := (mem_lxS r (k + 1) m).mp hm
          refine ⟨List.pairwise_cons.mpr ⟨fun x hx => by have := q3 x hx; omega, q2⟩, fun x hx => ?_⟩
          rcases List.mem_cons.mp hx with e | hx
          · rw [e]; omega
          · have := q3 x hx; omega
      · exact ⟨h1, h2, fun x hx => by have := h3 x hx; omega⟩
    · rintro ⟨h1, h2, h3⟩
      cases l with
      | nil => exact absurd rfl h1
      | cons a l =>
        rw [List.pairwise_cons] at h2
        have ha := h3 a (List.mem_cons_self ..)
        by_cases e : a = k
        · subst e
          refine .inl ⟨l, ?_, rfl⟩
          cases l with
          | nil => exact List.mem_cons_self ..
          | cons b l =>
            refine List.mem_cons_of_mem _ ((mem_lxS r (a + 1) _).mpr ⟨by simp, h2.2, fun x hx => ?_⟩)
            have := h2.1 x hx
            have := h3 x (List.mem_cons_of_mem _ hx)
            omega
        · refine .inr ⟨by simp, List.pairwise_cons.mpr h2, fun x hx => ?_⟩
          have := h3 x hx
          rcases List.mem_cons.mp hx with e2 | hx
          · omega
          · have := h2.1 x hx; omega
theorem mem_lots {n : Nat} {l : List Int} : l ∈ lots n ↔ l.Pairwise (· < ·) ∧ Wi n l := by
  unfold lots
  rw [List.mem_cons, mem_lxS]
  constructor
  · rintro (e | ⟨_, h2, h3⟩)
    · rw [e]; exact ⟨.nil, fun x h => (by cases h)⟩
    · exact ⟨h2, fun x hx => by have := h3 x hx; omega⟩
  · rintro ⟨h1, h2⟩
    cases l with
    | nil => exact .inl rfl
    | cons a l => exact .inr ⟨by simp, h1, fun x hx => by have := h2 x hx; omega⟩
theorem lot_lots (n : Nat) (P : PP) : lot n P ∈ lots n := mem_lots.mpr ⟨lot_pw n P, fun x hx => (mem_lot.mp hx).1⟩
theorem lots_lot {n : Nat} {l : List Int} (h : l ∈ lots n) : l = lot n (inl l) := lot_of (mem_lots.mp h).1 (mem_lots.mp h).2
theorem lxS_len : ∀ (r : Nat) (k : Int), (lxS r k).length + 1 = 2 ^ r
  | 0, _ => rfl
  | r + 1, k => by
    unfold lxS
    rw [List.length_append, List.length_map, List.length_cons]
    have := lxS_len r (k + 1)
    rw [Nat.pow_succ]
    omega
theorem lots_len (n : Nat) : (lots n).length = 2 ^ n := by
  unfold lots
  rw [List.length_cons, lxS_len]
theorem lxS_nodup : ∀ (r : Nat) (k : Int), (lxS r k).Nodup
  | 0, _ => by unfold lxS; exact .nil
  | r + 1, k => by
    unfold lxS
    have hd : (([] : List Int) :: lxS r (k + 1)).Nodup := List.nodup_cons.mpr ⟨fun h => ((mem_lxS r (k + 1) []).mp h).1 rfl, lxS_nodup r (k + 1)⟩
    refine List.nodup_append.mpr ⟨?_, lxS_nodup r (k + 1), fun a ha b hb e => ?_⟩
    · unfold List.Nodup at hd ⊢
      rw [List.pairwise_map]
      exact hd.imp fun h e => h (by injection e)
    · obtain ⟨m, _, rfl⟩ := List.mem_map.mp ha
      have := ((mem_lxS r (k + 1) b).mp hb).2.2 k (by rw [← e]; exact List.mem_cons_self ..)
      omega
theorem lots_nodup (n : Nat) : (lots n).Nodup := List.nodup_cons.mpr ⟨fun h => ((mem_lxS n 0 []).mp h).1 rfl, lxS_nodup n 0⟩
end Th
/-! the laws' lots and gatherings -/
namespace W
open PySem PySem.Spec PyProof.Rows Fo Th
def P_lots (f : SemF) : Prop := ∀ (n : Nat) ps st, Web n ps → f [wD n ps] st = some (.list ((lots n).map lD), st)
theorem lw1 (x : PyData) (st : Dr) : r__law_lots [.tuple [.int 1, x]] st = some (.list ((lots 1).map lD), st) := by kernel_rfl
theorem lw2 (x : PyData) (st : Dr) : r__law_lots [.tuple [.int 2, x]] st = some (.list ((lots 2).map lD), st) := by kernel_rfl
theorem lw3 (x : PyData) (st : Dr) : r__law_lots [.tuple [.int 3, x]] st = some (.list ((lots 3).map lD), st) := by kernel_rfl
theorem lw4 (x : PyData) (st : Dr) : r__law_lots [.tuple [.int 4, x]] st = some (.list ((lots 4).map lD), st) := by kernel_rfl
theorem lw5 (x : PyData) (st : Dr) : r__law_lots [.tuple [.int 5, x]] st = some (.list ((lots 5).map lD), st) := by kernel_rfl
theorem lw6 (x : PyData) (st : Dr) : r__law_lots [.tuple [.int 6, x]] st = some (.list ((lots 6).map lD), st) := by kernel_rfl
theorem lw7 (x : PyData) (st : Dr) : r__law_lots [.tuple [.int 7, x]] st = some (.list ((lots 7).map lD), st) := by kernel_rfl
theorem ok_lots : P_lots r__law_lots := fun n ps st V => by
  have h1 := V.lo
  have h2 := V.hi
  have : n = 1 ∨ n = 2 ∨ n = 3 ∨ n = 4 ∨ n = 5 ∨ n = 6 ∨ n = 7 := by omega
  rcases this with rfl | rfl | rfl | rfl | rfl | rfl | rfl
  · exact lw1 _ st
  · exact lw2 _ st
  · exact lw3 _ st
  · exact lw4 _ st
  · exact lw5 _ st
  · exact lw6 _ st
  · exact lw7 _ st
def isGB (ps : List (Int × Int)) (l : List Int) : Bool := !ps.any (bothP fun x => memb x l)
def gath (n : Nat) (ps : List (Int × Int)) : List (List Int) := (lots n).filter (isGB ps)
theorem isGB_iff {n : Nat} {ps : List (Int × Int)} (V : Web n ps) (P : PP) : isGB ps (lot n P) = true ↔ Gth n (foe ps) P := by
  unfold isGB
  rw [Bool.not_eq_true', gth_any V]
theorem mem_gath {n : Nat} {ps : List (Int × Int)} (V : Web n ps) {l : List Int} : l ∈ gath n ps ↔ ∃ P, Gth n (foe ps) P ∧ l = lot n P := by
  unfold gath
  rw [List.mem_filter]
  constructor
  · rintro ⟨h1, h2⟩
    have e := lots_lot h1
    exact ⟨inl l, (isGB_iff V _).mp (e ▸ h2), e⟩
  · rintro ⟨P, h, rfl⟩
    exact ⟨lot_lots n P, (isGB_iff V P).mpr h⟩
theorem gath_ne {n : Nat} {ps : List (Int × Int)} (V : Web n ps) : gath n ps ≠ [] := fun h => by
  have : lot n none0 ∈ gath n ps := (mem_gath V).mpr ⟨none0, gth_none n _, rfl⟩
  rw [h] at this
  cases this
theorem gath_len {n : Nat} {ps : List (Int × Int)} (V : Web n ps) : (gath n ps).length ≤ 128 := by
  have h := List.length_filter_le (isGB ps) (lots n)
  rw [lots_len] at h
  have h2 := V.hi
  exact Nat.le_trans h (Nat.le_trans (Nat.pow_le_pow_right (by decide) h2) (by decide))
def P_law_isg (f : SemF) : Prop := ∀ (n : Nat) ps (l : List Int) st, Web n ps → f [wD n ps, lD l] st = some (.bool (isGB ps l), st)
theorem ok_law_isg : P_law_isg r__law_is_gathering := fun n ps l st V => by
  have h1 := lc_filter (E := pD) (tg := .nm 2) (tt := c__law_is_gathering_1) (te := x__law_is_gathering_2) (ρ := [some (.va (wD n ps)), some (.va (lD l)), none]) (st := st) (bothP fun x => memb x l) pD ps fun p hp => ⟨_, rfl, by
    have g0 : getW (pD p) (.int 0) = some (.int p.1) := get2a _ _
    have g1 : getW (pD p) (.int 1) = some (.int p.2) := get2b _ _
    have i0 : ∀ x, cmpG .In (.int x) (lD l) = some (.bool (memb x l)) := fun x => in_T Enc.int x l
    have bp : bothP (fun x => memb x l) p = (memb p.1 l && memb p.2 l) := rfl
    rw [bp]
    cases e1 : memb p.1 l <;> simp only [c__law_is_gathering_1, k_seq, k_seqN, k_seqR, k_seqB, k_seqC, k_upS, k_upBS, k_upRS, k_upLS, k_upOS, k_nx, k_bk, k_ct, k_asg, k_asgS, k_own, k_ownS, k_if, k_ifT, k_ifF, k_ifB, k_rt, k_rtS, k_rtN, k_ex, k_exS, k_app, k_appS, k_for, k_forS, k_frz, k_par, k_parS, k_set, k_setS, k_setS2, k_bin, k_binS, k_binS2, k_un, k_unS, k_not, k_and, k_or, k_andS, k_orS, k_thenT, k_thenF, k_thenB, k_elseT, k_elseF, k_elseB, k_tst, k_andB, k_orB, k_notB, k_andBS, k_orBS, k_notBS, k_ite, k_iteB, k_disp, k_dispS, k_nil, k_cons, k_consS, k_consS2, k_star, k_starS, k_starS1, k_starS2, k_len, k_lenS, k_call, k_callS, k_callD, k_drS, k_drO, k_blt, k_bltS, k_va, k_tv, k_vaO, k_tvO, k_tvOw, k_cst, k_noO, k_someO, k_someS, k_slc, k_slcS, k_slcS1, k_slcS2, k_items, k_itemsS, k_itL, k_itT, k_rng, k_rngS, k_lc, k_lcS2, k_gx, k_gxS, k_sg, k_sgS, k_yes, k_nilE, k_vaE, k_owE, k_vaES, k_owES, k_vaES2, k_whT, k_whF, k_wh2, k_st1, k_st2, k_st3, k_sE0, k_sE, k_wip0, k_wip, k_itemsG, k_itemsGS, k_iwL, k_iwT, k_dc, k_dcS, k_dcS2, k_newD, k_get1, k_get2, k_get1S, k_get1S2, k_get2S, k_get2S2, k_get2S3, k_enum, k_enumS, k_zip, k_zipS, k_zipS2, k_d1, k_d1S, k_d1S2, k_frz1, k_frz2, k_frz3, k_run, k_outR, k_outN, k_setG, k_setGS, k_setGS2, k_tstB, List.getElem?_cons_zero, List.getElem?_cons_succ, List.set_cons_zero, List.set_cons_succ, List.length_cons, List.length_nil, Nat.zero_add, Nat.reduceAdd, Nat.reduceSub, if_true, reduceIte, Bool.false_eq_true, Bool.true_eq_false, g0, g1, i0, e1, Bool.true_and, Bool.false_and], fun _ => rfl⟩
  have m1 : (ps.map pD).length ≤ 1000000 := by rw [List.length_map]; have := V.len; omega
  have it : itemsW (.tuple (ps.map pD)) = some (ps.map pD) := rfl
  have h2 := Enc.toL enc_p (ps.filter (bothP fun x => memb x l)) []
  rw [List.map_nil] at h2
  simp only [R__law_is_gathering, t__law_is_gathering, k_seq, k_seqN, k_seqR, k_seqB, k_seqC, k_upS, k_upBS, k_upRS, k_upLS, k_upOS, k_nx, k_bk, k_ct, k_asg, k_asgS, k_own, k_ownS, k_if, k_ifT, k_ifF, k_ifB, k_rt, k_rtS, k_rtN, k_ex, k_exS, k_app, k_appS, k_for, k_forS, k_frz, k_par, k_parS, k_set, k_setS, k_setS2, k_bin, k_binS, k_binS2, k_un, k_unS, k_not, k_and, k_or, k_andS, k_orS, k_thenT, k_thenF, k_thenB, k_elseT, k_elseF, k_elseB, k_tst, k_andB, k_orB, k_notB, k_andBS, k_orBS, k_notBS, k_ite, k_iteB, k_disp, k_dispS, k_nil, k_cons, k_consS, k_consS2, k_star, k_starS, k_starS1, k_starS2, k_len, k_lenS, k_call, k_callS, k_callD, k_drS, k_drO, k_blt, k_bltS, k_va, k_tv, k_vaO, k_tvO, k_tvOw, k_cst, k_noO, k_someO, k_someS, k_slc, k_slcS, k_slcS1, k_slcS2, k_items, k_itemsS, k_itL, k_itT, k_rng, k_rngS, k_lc, k_lcS2, k_gx, k_gxS, k_sg, k_sgS, k_yes, k_nilE, k_vaE, k_owE, k_vaES, k_owES, k_vaES2, k_whT, k_whF, k_wh2, k_st1, k_st2, k_st3, k_sE0, k_sE, k_wip0, k_wip, k_itemsG, k_itemsGS, k_iwL, k_iwT, k_dc, k_dcS, k_dcS2, k_newD, k_get1, k_get2, k_get1S, k_get1S2, k_get2S, k_get2S2, k_get2S3, k_enum, k_enumS, k_zip, k_zipS, k_zipS2, k_d1, k_d1S, k_d1S2, k_frz1, k_frz2, k_frz3, k_run, k_outR, k_outN, k_setG, k_setGS, k_setGS2, k_tstB, List.getElem?_cons_zero, List.getElem?_cons_succ, List.set_cons_zero, List.set_cons_succ, List.length_cons, List.length_nil, Nat.zero_add, Nat.reduceAdd, Nat.reduceSub, if_true, reduceIte, Bool.false_eq_true, Bool.true_eq_false, w1, it, k_lcS m1, h1, mk_0, h2]
  congr 3
  unfold isGB
  rw [Bool.eq_iff_iff, decide_eq_true_eq, Bool.not_eq_true', List.filter_eq_nil_iff, List.any_eq_false]
def P_gaths (f : SemF) : Prop := ∀ (n : Nat) ps st, Web n ps → f [wD n ps] st = some (.list ((gath n ps).map lD), st)
theorem ok_gaths {a b : SemF} (ha : P_lots a) (hb : P_law_isg b) : P_gaths (r__law_gatherings a b) := fun n ps st V => by
  have h1 := lc_filter (E := lD) (tg := .nm 1) (tt := c__law_gatherings_1 b) (te := x__law_gatherings_2) (ρ := [some (.va (wD n ps)), none]) (st := st) (isGB ps) lD (lots n) fun l hl => ⟨_, rfl, by
    simp only [c__law_gatherings_1, k_seq, k_seqN, k_seqR, k_seqB, k_seqC, k_upS, k_upBS, k_upRS, k_upLS, k_upOS, k_nx, k_bk, k_ct, k_asg, k_asgS, k_own, k_ownS, k_if, k_ifT, k_ifF, k_ifB, k_rt, k_rtS, k_rtN, k_ex, k_exS, k_app, k_appS, k_for, k_forS, k_frz, k_par, k_parS, k_set, k_setS, k_setS2, k_bin, k_binS, k_binS2, k_un, k_unS, k_not, k_and, k_or, k_andS, k_orS, k_thenT, k_thenF, k_thenB, k_elseT, k_elseF, k_elseB, k_tst, k_andB, k_orB, k_notB, k_andBS, k_orBS, k_notBS, k_ite, k_iteB, k_disp, k_dispS, k_nil, k_cons, k_consS, k_consS2, k_star, k_starS, k_starS1, k_starS2, k_len, k_lenS, k_call, k_callS, k_callD, k_drS, k_drO, k_blt, k_bltS, k_va, k_tv, k_vaO, k_tvO, k_tvOw, k_cst, k_noO, k_someO, k_someS, k_slc, k_slcS, k_slcS1, k_slcS2, k_items, k_itemsS, k_itL, k_itT, k_rng, k_rngS, k_lc, k_lcS2, k_gx, k_gxS, k_sg, k_sgS, k_yes, k_nilE, k_vaE, k_owE, k_vaES, k_owES, k_vaES2, k_whT, k_whF, k_wh2, k_st1, k_st2, k_st3, k_sE0, k_sE, k_wip0, k_wip, k_itemsG, k_itemsGS, k_iwL, k_iwT, k_dc, k_dcS, k_dcS2, k_newD, k_get1, k_get2, k_get1S, k_get1S2, k_get2S, k_get2S2, k_get2S3, k_enum, k_enumS, k_zip, k_zipS, k_zipS2, k_d1, k_d1S, k_d1S2, k_frz1, k_frz2, k_frz3, k_run, k_outR, k_outN, k_setG, k_setGS, k_setGS2, k_tstB, List.getElem?_cons_zero, List.getElem?_cons_succ, List.set_cons_zero, List.set_cons_succ, List.length_cons, List.length_nil, Nat.zero_add, Nat.reduceAdd, Nat.reduceSub, if_true, reduceIte, Bool.false_eq_true, Bool.true_eq_false, hb n ps l st V], fun _ => rfl⟩
  have m1 : ((lots n).map lD).length ≤ 1000000 := by
    rw [List.length_map, lots_len]
    exact Nat.le_trans (Nat.pow_le_pow_right (by decide) V.hi) (by decide)
  have it : itemsW (.list ((lots n).map lD)) = some ((lots n).map lD) := rfl
  simp only [R__law_gatherings, t__law_gatherings, k_seq, k_seqN, k_seqR, k_seqB, k_seqC, k_upS, k_upBS, k_upRS, k_upLS, k_upOS, k_nx, k_bk, k_ct, k_asg, k_asgS, k_own, k_ownS, k_if, k_ifT, k_ifF, k_ifB, k_rt, k_rtS, k_rtN, k_ex, k_exS, k_app, k_appS, k_for, k_forS, k_frz, k_par, k_parS, k_set, k_setS, k_setS2, k_bin, k_binS, k_binS2, k_un, k_unS, k_not, k_and, k_or, k_andS, k_orS, k_thenT, k_thenF, k_thenB, k_elseT, k_elseF, k_elseB, k_tst, k_andB, k_orB, k_notB, k_andBS, k_orBS, k_notBS, k_ite, k_iteB, k_disp, k_dispS, k_nil, k_cons, k_consS, k_consS2, k_star, k_starS, k_starS1, k_starS2, k_len, k_lenS, k_call, k_callS, k_callD, k_drS, k_drO, k_blt, k_bltS, k_va, k_tv, k_vaO, k_tvO, k_tvOw, k_cst, k_noO, k_someO, k_someS, k_slc, k_slcS, k_slcS1, k_slcS2, k_items, k_itemsS, k_itL, k_itT, k_rng, k_rngS, k_lc, k_lcS2, k_gx, k_gxS, k_sg, k_sgS, k_yes, k_nilE, k_vaE, k_owE, k_vaES, k_owES, k_vaES2, k_whT, k_whF, k_wh2, k_st1, k_st2, k_st3, k_sE0, k_sE, k_wip0, k_wip, k_itemsG, k_itemsGS, k_iwL, k_iwT, k_dc, k_dcS, k_dcS2, k_newD, k_get1, k_get2, k_get1S, k_get1S2, k_get2S, k_get2S2, k_get2S3, k_enum, k_enumS, k_zip, k_zipS, k_zipS2, k_d1, k_d1S, k_d1S2, k_frz1, k_frz2, k_frz3, k_run, k_outR, k_outN, k_setG, k_setGS, k_setGS2, k_tstB, List.getElem?_cons_zero, List.getElem?_cons_succ, List.set_cons_zero, List.set_cons_succ, List.length_cons, List.length_nil, Nat.zero_add, Nat.reduceAdd, Nat.reduceSub, if_true, reduceIte, Bool.false_eq_true, Bool.true_eq_false, ha n ps st V, it, k_lcS m1, h1]
  rfl
end W
/-! rows again -/
namespace Th
end Th
/-! what laws do with rows and deeds -/
namespace W
open PySem PySem.Spec PyProof.Rows Fo Th
theorem Gd.start (ns : List Int) (s : Int) (h : 0 ≤ s ∧ s < 2147483647) : Gd ⟨ns, 0, s, 0⟩ := ⟨Int.le_refl 0, h.1, h.2⟩
theorem ne_self {α : Type} [DecidableEq α] {E : α → PyData} {n : Nat} (h : Enc E n) (a : α) (hn : n ≤ 64 := by decide) : cmpG .NotEq (E a) (E a) = some (.bool false) := by rw [ne_E h a a hn]; simp
end W
/-! alike, the laws' foes and comings, all gatherings -/
namespace W
open PySem PySem.Spec PyProof.Rows Fo Th
/-! ### alike -/
/-! ### the laws' foes -/
def nbr (x : Int) (p : Int × Int) : List Int := (if p.1 = x then [p.2] else []) ++ (if p.2 = x then [p.1] else [])
theorem mem_nbr {x y : Int} {p : Int × Int} (hp : p.1 < p.2) : y ∈ nbr x p ↔ p = (min x y, max x y) := by
  unfold nbr
  obtain ⟨a, b⟩ := p
  rw [List.mem_append]
  simp only at hp ⊢
  have hx : (a, b) = (min x y, max x y) ↔ a = min x y ∧ b = max x y := by simp
  rw [hx]
  constructor
  · rintro (h | h)
    · by_cases e : a = x
      · rw [if_pos e, List.mem_singleton] at h; omega
      · rw [if_neg e] at h; cases h
    · by_cases e : b = x
      · rw [if_pos e, List.mem_singleton] at h; omega
      · rw [if_neg e] at h; cases h
  · rintro ⟨h1, h2⟩
    rcases Int.le_total x y with q | q
    · left; rw [if_pos (by omega), List.mem_singleton]; omega
    · right; rw [if_pos (by omega), List.mem_singleton]; omega
theorem nd_nbr {x : Int} {p : Int × Int} (hp : p.1 < p.2) : (nbr x p).Nodup := by
  unfold nbr
  by_cases e : p.1 = x
  · rw [if_pos e, if_neg (by omega)]; simp
  · rw [if_neg e]
    by_cases e : p.2 = x
    · rw [if_pos e]; simp
    · rw [if_neg e]; simp
theorem nbrs_mem {x y : Int} : ∀ {ps : List (Int × Int)}, (∀ p ∈ ps, p.1 < p.2) → (y ∈ ps.flatMap (nbr x) ↔ (min x y, max x y) ∈ ps) := fun {ps} h => by
  rw [List.mem_flatMap]
  constructor
  · rintro ⟨p, hp, hy⟩
    rw [← (mem_nbr (h p hp)).mp hy]
    exact hp
  · intro hp
    exact ⟨_, hp, (mem_nbr (h _ hp)).mpr rfl⟩
theorem nbrs_nd {x : Int} : ∀ {ps : List (Int × Int)}, (∀ p ∈ ps, p.1 < p.2) → ps.Nodup → (ps.flatMap (nbr x)).Nodup
  | [], _, _ => .nil
  | p :: ps, h, hd => by
    rw [List.nodup_cons] at hd
    rw [List.flatMap_cons]
    refine List.nodup_append.mpr ⟨nd_nbr (h p (List.mem_cons_self ..)), nbrs_nd (fun q hq => h q (List.mem_cons_of_mem _ hq)) hd.2, fun a ha b hb e => ?_⟩
    rw [← e] at hb
    have h1 := (mem_nbr (h p (List.mem_cons_self ..))).mp ha
    have h2 := (nbrs_mem fun q hq => h q (List.mem_cons_of_mem _ hq)).mp hb
    rw [← h1] at h2
    exact hd.1 h2
theorem nbrs_len (x : Int) : ∀ ps : List (Int × Int), (ps.flatMap (nbr x)).length ≤ 2 * ps.length
  | [] => by simp
  | p :: ps => by
    rw [List.flatMap_cons, List.length_append, List.length_cons]
    have := nbrs_len x ps
    have : (nbr x p).length ≤ 2 := by
      unfold nbr
      rw [List.length_append]
      split <;> split <;> simp
    omega
theorem Web.nd {n : Nat} {ps : List (Int × Int)} (V : Web n ps) : ps.Nodup := V.lt.imp fun h e => by
  unfold plt at h
  rw [e] at h
  omega
theorem Web.lts {n : Nat} {ps : List (Int × Int)} (V : Web n ps) : ∀ p ∈ ps, p.1 < p.2 := fun p hp => by have := V.at_ p hp; omega
theorem nbrs_lot {n : Nat} {ps : List (Int × Int)} (V : Web n ps) (x : Int) : isort (ps.flatMap (nbr x)) = lot n (foe ps x) := by
  refine isort_lot (nbrs_nd V.lts V.nd) (fun y hy => ?_) fun y _ _ => ?_
  · have := V.at_ _ ((nbrs_mem V.lts).mp hy)
    simp only at this
    omega
  · rw [nbrs_mem V.lts]
    exact memb_iff.symm
def P_law_foes (f : SemF) : Prop := ∀ (n : Nat) ps (x : Int) st, Web n ps → f [wD n ps, .int x] st = some (liI (lot n (foe ps x)), st)
theorem mul_one (d : PyData) (b : Bool) : mulW (.list [d]) (.int (if b then 1 else 0)) = some (.list (if b then [d] else [])) := by cases b <;> rfl
theorem add_li (a b : List Int) (h : a.length + b.length ≤ 1000000) : addV (liI a) (liI b) = some (liI (a ++ b)) := by
  show (if (a.map PyData.int).length + (b.map PyData.int).length ≤ 1000000 then some (PyData.list (a.map .int ++ b.map .int)) else none) = _
  rw [if_pos (by simpa using h), ← List.map_append]
theorem int_b (b : Bool) : intV1 [.bool b] = some (.int (if b then 1 else 0)) := rfl
theorem lf_go (n : Nat) (ps : List (Int × Int)) (x : Int) (st : Dr) : ∀ (qs : List (Int × Int)) (fnd : List Int) (y3 y4 : Option En), fnd.length + 2 * qs.length ≤ 1000 → ∃ z3 z4, forGo (.tp [3, 4]) b__law_foes_1 (qs.map pD) [some (.va (wD n ps)), some (.va (.int x)), some (.va (liI fnd)), y3, y4] st = some (.nx [some (.va (wD n ps)), some (.va (.int x)), some (.va (liI (fnd ++ qs.flatMap (nbr x)))), z3, z4], st)
  | [], fnd, y3, y4, _ => ⟨y3, y4, by rw [List.flatMap_nil, List.append_nil]; rfl⟩
  | p :: qs, fnd, y3, y4, h => by
    rw [List.length_cons] at h
    have hn : (nbr x p).length ≤ 2 := by
      unfold nbr
      rw [List.length_append]
      split <;> split <;> simp
    obtain ⟨z3, z4, ih⟩ := lf_go n ps x st qs (fnd ++ nbr x p) (some (.va (.int p.1))) (some (.va (.int p.2))) (by rw [List.length_append]; omega)
    refine ⟨z3, z4, ?_⟩
    have l1 : ∀ b : Bool, (if b then PyData.list [PyData.int p.2] else PyData.list []) = liI (if b then [p.2] else []) := fun b => by cases b <;> rfl
    have m1 : mulW (.list [.int p.2]) (.int (if decide (p.1 = x) then 1 else 0)) = some (liI (if p.1 = x then [p.2] else [])) := by
      rw [mul_one]
      by_cases e : p.1 = x
      · rw [if_pos e, decide_eq_true e]; rfl
      · rw [if_neg e, decide_eq_false e]; rfl
    have m2 : mulW (.list [.int p.1]) (.int (if decide (p.2 = x) then 1 else 0)) = some (liI (if p.2 = x then [p.1] else [])) := by
      rw [mul_one]
      by_cases e : p.2 = x
      · rw [if_pos e, decide_eq_true e]; rfl
      · rw [if_neg e, decide_eq_false e]; rfl
    have k1 : (if p.1 = x then [p.2] else []).length ≤ 1 := by split <;> simp
    have k2 : (if p.2 = x then [p.1] else []).length ≤ 1 := by split <;> simp
    have a1 := add_li fnd (if p.1 = x then [p.2] else []) (by omega)
    have a2 := add_li (fnd ++ (if p.1 = x then [p.2] else [])) (if p.2 = x then [p.1] else []) (by rw [List.length_append]; omega)
    have en : fnd ++ nbr x p = (fnd ++ (if p.1 = x then [p.2] else [])) ++ (if p.2 = x then [p.1] else []) := by
      unfold nbr
      rw [List.append_assoc]
    have hb : b__law_foes_1 [some (.va (wD n ps)), some (.va (.int x)), some (.va (liI fnd)), some (.va (.int p.1)), some (.va (.int p.2))] st = some (.nx [some (.va (wD n ps)), some (.va (.int x)), some (.va (liI (fnd ++ nbr x p))), some (.va (.int p.1)), some (.va (.int p.2))], st) := by
      rw [en]
      simp only [b__law_foes_1, k_seq, k_seqN, k_seqR, k_seqB, k_seqC, k_upS, k_upBS, k_upRS, k_upLS, k_upOS, k_nx, k_bk, k_ct, k_asg, k_asgS, k_own, k_ownS, k_if, k_ifT, k_ifF, k_ifB, k_rt, k_rtS, k_rtN, k_ex, k_exS, k_app, k_appS, k_for, k_forS, k_frz, k_par, k_parS, k_set, k_setS, k_setS2, k_bin, k_binS, k_binS2, k_un, k_unS, k_not, k_and, k_or, k_andS, k_orS, k_thenT, k_thenF, k_thenB, k_elseT, k_elseF, k_elseB, k_tst, k_andB, k_orB, k_notB, k_andBS, k_orBS, k_notBS, k_ite, k_iteB, k_disp, k_dispS, k_nil, k_cons, k_consS, k_consS2, k_star, k_starS, k_starS1, k_starS2, k_len, k_lenS, k_call, k_callS, k_callD, k_drS, k_drO, k_blt, k_bltS, k_va, k_tv, k_vaO, k_tvO, k_tvOw, k_cst, k_noO, k_someO, k_someS, k_slc, k_slcS, k_slcS1, k_slcS2, k_items, k_itemsS, k_itL, k_itT, k_rng, k_rngS, k_lc, k_lcS2, k_gx, k_gxS, k_sg, k_sgS, k_yes, k_nilE, k_vaE, k_owE, k_vaES, k_owES, k_vaES2, k_whT, k_whF, k_wh2, k_st1, k_st2, k_st3, k_sE0, k_sE, k_wip0, k_wip, k_itemsG, k_itemsGS, k_iwL, k_iwT, k_dc, k_dcS, k_dcS2, k_newD, k_get1, k_get2, k_get1S, k_get1S2, k_get2S, k_get2S2, k_get2S3, k_enum, k_enumS, k_zip, k_zipS, k_zipS2, k_d1, k_d1S, k_d1S2, k_frz1, k_frz2, k_frz3, k_run, k_outR, k_outN, k_setG, k_setGS, k_setGS2, k_tstB, List.getElem?_cons_zero, List.getElem?_cons_succ, List.set_cons_zero, List.set_cons_succ, List.length_cons, List.length_nil, Nat.zero_add, Nat.reduceAdd, Nat.reduceSub, if_true, reduceIte, Bool.false_eq_true, Bool.true_eq_false, mk_1, int_b, cG_eq, m1, m2, a1, a2]
    have hs : storeT (.tp [3, 4]) (pD p) [some (.va (wD n ps)), some (.va (.int x)), some (.va (liI fnd)), y3, y4] = some [some (.va (wD n ps)), some (.va (.int x)), some (.va (liI fnd)), some (.va (.int p.1)), some (.va (.int p.2))] := rfl
    rw [List.map_cons, List.flatMap_cons, ← List.append_assoc]
    unfold forGo
    simp only [bnd_ap, up_ap, hs, om_some, ob_some, hb]
    exact ih
theorem ok_law_foes : P_law_foes r__law_foes := fun n ps x st V => by
  have V3 := V.len
  obtain ⟨z3, z4, h1⟩ := lf_go n ps x st ps [] none none (by simp; omega)
  rw [List.nil_append] at h1
  have hs := sorted_L (l := ps.flatMap (nbr x)) (by have := nbrs_len x ps; omega)
  rw [nbrs_lot V] at hs
  have h1 : forGo (.tp [3, 4]) b__law_foes_1 (ps.map pD) [some (.va (wD n ps)), some (.va (.int x)), some (.va (.list [])), none, none] st = _ := h1
  have it : itemsW (.tuple (ps.map pD)) = some (ps.map pD) := rfl
  simp only [R__law_foes, t__law_foes, k_seq, k_seqN, k_seqR, k_seqB, k_seqC, k_upS, k_upBS, k_upRS, k_upLS, k_upOS, k_nx, k_bk, k_ct, k_asg, k_asgS, k_own, k_ownS, k_if, k_ifT, k_ifF, k_ifB, k_rt, k_rtS, k_rtN, k_ex, k_exS, k_app, k_appS, k_for, k_forS, k_frz, k_par, k_parS, k_set, k_setS, k_setS2, k_bin, k_binS, k_binS2, k_un, k_unS, k_not, k_and, k_or, k_andS, k_orS, k_thenT, k_thenF, k_thenB, k_elseT, k_elseF, k_elseB, k_tst, k_andB, k_orB, k_notB, k_andBS, k_orBS, k_notBS, k_ite, k_iteB, k_disp, k_dispS, k_nil, k_cons, k_consS, k_consS2, k_star, k_starS, k_starS1, k_starS2, k_len, k_lenS, k_call, k_callS, k_callD, k_drS, k_drO, k_blt, k_bltS, k_va, k_tv, k_vaO, k_tvO, k_tvOw, k_cst, k_noO, k_someO, k_someS, k_slc, k_slcS, k_slcS1, k_slcS2, k_items, k_itemsS, k_itL, k_itT, k_rng, k_rngS, k_lc, k_lcS2, k_gx, k_gxS, k_sg, k_sgS, k_yes, k_nilE, k_vaE, k_owE, k_vaES, k_owES, k_vaES2, k_whT, k_whF, k_wh2, k_st1, k_st2, k_st3, k_sE0, k_sE, k_wip0, k_wip, k_itemsG, k_itemsGS, k_iwL, k_iwT, k_dc, k_dcS, k_dcS2, k_newD, k_get1, k_get2, k_get1S, k_get1S2, k_get2S, k_get2S2, k_get2S3, k_enum, k_enumS, k_zip, k_zipS, k_zipS2, k_d1, k_d1S, k_d1S2, k_frz1, k_frz2, k_frz3, k_run, k_outR, k_outN, k_setG, k_setGS, k_setGS2, k_tstB, List.getElem?_cons_zero, List.getElem?_cons_succ, List.set_cons_zero, List.set_cons_succ, List.length_cons, List.length_nil, Nat.zero_add, Nat.reduceAdd, Nat.reduceSub, if_true, reduceIte, Bool.false_eq_true, Bool.true_eq_false, mk_0, w1, it, h1, hs]
/-! ### all lots, all gatherings of the program -/
def P_all_lots (f : SemF) : Prop := P_lots f
theorem al1 (x : PyData) (st : Dr) : r_all_lots [.tuple [.int 1, x]] st = some (.list ((lots 1).map lD), st) := by kernel_rfl
theorem al2 (x : PyData) (st : Dr) : r_all_lots [.tuple [.int 2, x]] st = some (.list ((lots 2).map lD), st) := by kernel_rfl
theorem al3 (x : PyData) (st : Dr) : r_all_lots [.tuple [.int 3, x]] st = some (.list ((lots 3).map lD), st) := by kernel_rfl
theorem al4 (x : PyData) (st : Dr) : r_all_lots [.tuple [.int 4, x]] st = some (.list ((lots 4).map lD), st) := by kernel_rfl
theorem al5 (x : PyData) (st : Dr) : r_all_lots [.tuple [.int 5, x]] st = some (.list ((lots 5).map lD), st) := by kernel_rfl
theorem al6 (x : PyData) (st : Dr) : r_all_lots [.tuple [.int 6, x]] st = some (.list ((lots 6).map lD), st) := by kernel_rfl
theorem al7 (x : PyData) (st : Dr) : r_all_lots [.tuple [.int 7, x]] st = some (.list ((lots 7).map lD), st) := by kernel_rfl
theorem ok_all_lots : P_all_lots r_all_lots := fun n ps st V => by
  have h1 := V.lo
  have h2 := V.hi
  have : n = 1 ∨ n = 2 ∨ n = 3 ∨ n = 4 ∨ n = 5 ∨ n = 6 ∨ n = 7 := by omega
  rcases this with rfl | rfl | rfl | rfl | rfl | rfl | rfl
  · exact al1 _ st
  · exact al2 _ st
  · exact al3 _ st
  · exact al4 _ st
  · exact al5 _ st
  · exact al6 _ st
  · exact al7 _ st
def P_all_gatherings (f : SemF) : Prop := ∀ (n : Nat) ps st, Web n ps → f [wD n ps] st = some (.list ((gath n ps).map lD), st)
theorem ok_all_gatherings {a b : SemF} (ha : P_all_lots a) (hb : P_is_gathering b) : P_all_gatherings (r_all_gatherings a b) := fun n ps st V => by
  have hn := V.hi
  have h1 := lc_filter (E := lD) (tg := .nm 1) (tt := c_all_gatherings_1 b) (te := x_all_gatherings_2) (ρ := [some (.va (wD n ps)), none]) (st := st) (isGB ps) lD (lots n) fun l hl => ⟨_, rfl, by
    have hll : l.length ≤ 1000000 := by rw [lots_lot hl]; exact lot_small n _ hn
    have e : isGth n ps l = isGB ps l := by
      unfold isGth isGB
      rw [lots_lot hl, isLot_lot, ← lots_lot hl]
      rfl
    simp only [c_all_gatherings_1, k_seq, k_seqN, k_seqR, k_seqB, k_seqC, k_upS, k_upBS, k_upRS, k_upLS, k_upOS, k_nx, k_bk, k_ct, k_asg, k_asgS, k_own, k_ownS, k_if, k_ifT, k_ifF, k_ifB, k_rt, k_rtS, k_rtN, k_ex, k_exS, k_app, k_appS, k_for, k_forS, k_frz, k_par, k_parS, k_set, k_setS, k_setS2, k_bin, k_binS, k_binS2, k_un, k_unS, k_not, k_and, k_or, k_andS, k_orS, k_thenT, k_thenF, k_thenB, k_elseT, k_elseF, k_elseB, k_tst, k_andB, k_orB, k_notB, k_andBS, k_orBS, k_notBS, k_ite, k_iteB, k_disp, k_dispS, k_nil, k_cons, k_consS, k_consS2, k_star, k_starS, k_starS1, k_starS2, k_len, k_lenS, k_call, k_callS, k_callD, k_drS, k_drO, k_blt, k_bltS, k_va, k_tv, k_vaO, k_tvO, k_tvOw, k_cst, k_noO, k_someO, k_someS, k_slc, k_slcS, k_slcS1, k_slcS2, k_items, k_itemsS, k_itL, k_itT, k_rng, k_rngS, k_lc, k_lcS2, k_gx, k_gxS, k_sg, k_sgS, k_yes, k_nilE, k_vaE, k_owE, k_vaES, k_owES, k_vaES2, k_whT, k_whF, k_wh2, k_st1, k_st2, k_st3, k_sE0, k_sE, k_wip0, k_wip, k_itemsG, k_itemsGS, k_iwL, k_iwT, k_dc, k_dcS, k_dcS2, k_newD, k_get1, k_get2, k_get1S, k_get1S2, k_get2S, k_get2S2, k_get2S3, k_enum, k_enumS, k_zip, k_zipS, k_zipS2, k_d1, k_d1S, k_d1S2, k_frz1, k_frz2, k_frz3, k_run, k_outR, k_outN, k_setG, k_setGS, k_setGS2, k_tstB, List.getElem?_cons_zero, List.getElem?_cons_succ, List.set_cons_zero, List.set_cons_succ, List.length_cons, List.length_nil, Nat.zero_add, Nat.reduceAdd, Nat.reduceSub, if_true, reduceIte, Bool.false_eq_true, Bool.true_eq_false, hb n ps l st hll, e], fun _ => rfl⟩
  have m1 : ((lots n).map lD).length ≤ 1000000 := by
    rw [List.length_map, lots_len]
    exact Nat.le_trans (Nat.pow_le_pow_right (by decide) V.hi) (by decide)
  have it : itemsW (.list ((lots n).map lD)) = some ((lots n).map lD) := rfl
  have h2 := fun st => ha n ps st V
  simp only [R_all_gatherings, t_all_gatherings, k_seq, k_seqN, k_seqR, k_seqB, k_seqC, k_upS, k_upBS, k_upRS, k_upLS, k_upOS, k_nx, k_bk, k_ct, k_asg, k_asgS, k_own, k_ownS, k_if, k_ifT, k_ifF, k_ifB, k_rt, k_rtS, k_rtN, k_ex, k_exS, k_app, k_appS, k_for, k_forS, k_frz, k_par, k_parS, k_set, k_setS, k_setS2, k_bin, k_binS, k_binS2, k_un, k_unS, k_not, k_and, k_or, k_andS, k_orS, k_thenT, k_thenF, k_thenB, k_elseT, k_elseF, k_elseB, k_tst, k_andB, k_orB, k_notB, k_andBS, k_orBS, k_notBS, k_ite, k_iteB, k_disp, k_dispS, k_nil, k_cons, k_consS, k_consS2, k_star, k_starS, k_starS1, k_starS2, k_len, k_lenS, k_call, k_callS, k_callD, k_drS, k_drO, k_blt, k_bltS, k_va, k_tv, k_vaO, k_tvO, k_tvOw, k_cst, k_noO, k_someO, k_someS, k_slc, k_slcS, k_slcS1, k_slcS2, k_items, k_itemsS, k_itL, k_itT, k_rng, k_rngS, k_lc, k_lcS2, k_gx, k_gxS, k_sg, k_sgS, k_yes, k_nilE, k_vaE, k_owE, k_vaES, k_owES, k_vaES2, k_whT, k_whF, k_wh2, k_st1, k_st2, k_st3, k_sE0, k_sE, k_wip0, k_wip, k_itemsG, k_itemsGS, k_iwL, k_iwT, k_dc, k_dcS, k_dcS2, k_newD, k_get1, k_get2, k_get1S, k_get1S2, k_get2S, k_get2S2, k_get2S3, k_enum, k_enumS, k_zip, k_zipS, k_zipS2, k_d1, k_d1S, k_d1S2, k_frz1, k_frz2, k_frz3, k_run, k_outR, k_outN, k_setG, k_setGS, k_setGS2, k_tstB, List.getElem?_cons_zero, List.getElem?_cons_succ, List.set_cons_zero, List.set_cons_succ, List.length_cons, List.length_nil, Nat.zero_add, Nat.reduceAdd, Nat.reduceSub, if_true, reduceIte, Bool.false_eq_true, Bool.true_eq_false, h2, it, k_lcS m1, h1]
  rfl
def P_gathering_count (f : SemF) : Prop := ∀ (n : Nat) ps st, Web n ps → f [wD n ps] st = some (.int ((gath n ps).length : Nat), st)
theorem ok_gathering_count {a b : SemF} (ha : P_need_web a) (hb : P_all_gatherings b) : P_gathering_count (r_gathering_count a b) := fun n ps st V => by
  simp only [R_gathering_count, t_gathering_count, k_seq, k_seqN, k_seqR, k_seqB, k_seqC, k_upS, k_upBS, k_upRS, k_upLS, k_upOS, k_nx, k_bk, k_ct, k_asg, k_asgS, k_own, k_ownS, k_if, k_ifT, k_ifF, k_ifB, k_rt, k_rtS, k_rtN, k_ex, k_exS, k_app, k_appS, k_for, k_forS, k_frz, k_par, k_parS, k_set, k_setS, k_setS2, k_bin, k_binS, k_binS2, k_un, k_unS, k_not, k_and, k_or, k_andS, k_orS, k_thenT, k_thenF, k_thenB, k_elseT, k_elseF, k_elseB, k_tst, k_andB, k_orB, k_notB, k_andBS, k_orBS, k_notBS, k_ite, k_iteB, k_disp, k_dispS, k_nil, k_cons, k_consS, k_consS2, k_star, k_starS, k_starS1, k_starS2, k_len, k_lenS, k_call, k_callS, k_callD, k_drS, k_drO, k_blt, k_bltS, k_va, k_tv, k_vaO, k_tvO, k_tvOw, k_cst, k_noO, k_someO, k_someS, k_slc, k_slcS, k_slcS1, k_slcS2, k_items, k_itemsS, k_itL, k_itT, k_rng, k_rngS, k_lc, k_lcS2, k_gx, k_gxS, k_sg, k_sgS, k_yes, k_nilE, k_vaE, k_owE, k_vaES, k_owES, k_vaES2, k_whT, k_whF, k_wh2, k_st1, k_st2, k_st3, k_sE0, k_sE, k_wip0, k_wip, k_itemsG, k_itemsGS, k_iwL, k_iwT, k_dc, k_dcS, k_dcS2, k_newD, k_get1, k_get2, k_get1S, k_get1S2, k_get2S, k_get2S2, k_get2S3, k_enum, k_enumS, k_zip, k_zipS, k_zipS2, k_d1, k_d1S, k_d1S2, k_frz1, k_frz2, k_frz3, k_run, k_outR, k_outN, k_setG, k_setGS, k_setGS2, k_tstB, List.getElem?_cons_zero, List.getElem?_cons_succ, List.set_cons_zero, List.set_cons_succ, List.length_cons, List.length_nil, Nat.zero_add, Nat.reduceAdd, Nat.reduceSub, if_true, reduceIte, Bool.false_eq_true, Bool.true_eq_false, ha n ps st V, hb n ps st V, len_L, List.length_map]
end W
/-! deeds are told by gatherings -/
namespace Th
end Th
/-! counting lots -/
namespace Th
theorem len_eq_of {α : Type} [DecidableEq α] : ∀ {l m : List α}, l.Nodup → (∀ x ∈ l, x ∈ m) → l.length ≤ m.length
  | [], m, _, _ => Nat.zero_le _
  | a :: l, m, hd, h => by
    rw [List.nodup_cons] at hd
    have ha := h a (List.mem_cons_self ..)
    have := len_eq_of (l := l) (m := m.erase a) hd.2 fun x hx => (List.mem_erase_of_ne (by rintro rfl; exact hd.1 hx)).mpr (h x (List.mem_cons_of_mem _ hx))
    rw [List.length_erase_of_mem ha] at this
    have : 0 < m.length := List.length_pos_of_mem ha
    rw [List.length_cons]
    omega
theorem len_same {α : Type} [DecidableEq α] {l m : List α} (h1 : l.Nodup) (h2 : m.Nodup) (h : ∀ x, x ∈ l ↔ x ∈ m) : l.length = m.length :=
  Nat.le_antisymm (len_eq_of h1 fun x hx => (h x).mp hx) (len_eq_of h2 fun x hx => (h x).mpr hx)
theorem ind_sum (x : Nat) : ∀ k, ((List.range k).map fun s => if x = s then 1 else 0).sum = if x < k then 1 else 0
  | 0 => rfl
  | k + 1 => by
    rw [List.range_succ, List.map_append, List.sum_append, ind_sum x k]
    simp only [List.map_cons, List.map_nil, List.sum_cons, List.sum_nil]
    by_cases h1 : x < k
    · rw [if_pos h1, if_neg (by omega : ¬ x = k), if_pos (by omega : x < k + 1)]; rfl
    · by_cases h2 : x = k
      · rw [if_neg h1, if_pos h2, if_pos (by omega : x < k + 1)]; rfl
      · rw [if_neg h1, if_neg h2, if_neg (by omega : ¬ x < k + 1)]; rfl
theorem sum_add (f g : Nat → Nat) : ∀ l : List Nat, (l.map fun s => f s + g s).sum = (l.map f).sum + (l.map g).sum
  | [] => rfl
  | a :: l => by
    rw [List.map_cons, List.map_cons, List.map_cons, List.sum_cons, List.sum_cons, List.sum_cons, sum_add f g l]
    omega
/-- how many have so many -/
def cntL (L : List (List Int)) (s : Nat) : Nat := (L.filter fun l => l.length == s).length
theorem sum_cnt : ∀ (L : List (List Int)) (m : Nat), (∀ l ∈ L, l.length ≤ m) → ((List.range (m + 1)).map (cntL L)).sum = L.length
  | [], m, _ => by
    have : ∀ k, ((List.range k).map (cntL [])).sum = 0 := fun k => by
      induction k with
      | zero => rfl
      | succ k ih =>
        rw [List.range_succ, List.map_append, List.sum_append, ih]
        rfl
    exact this _
  | l :: L, m, h => by
    have e : ((List.range (m + 1)).map (cntL (l :: L))) = (List.range (m + 1)).map fun s => (if l.length = s then 1 else 0) + cntL L s := List.map_congr_left fun s _ => by
      unfold cntL
      rw [List.filter_cons]
      by_cases q : l.length = s
      · rw [if_pos (by simpa using q), if_pos q, List.length_cons]; omega
      · rw [if_neg (by simpa using q), if_neg q]; omega
    rw [e, sum_add, ind_sum, sum_cnt L m fun x hx => h x (List.mem_cons_of_mem _ hx), if_pos (by have := h l (List.mem_cons_self ..); omega), List.length_cons]
    omega
theorem split_len {α : Type} (p : α → Bool) (l : List α) : l.length = (l.filter p).length + (l.filter fun x => !p x).length := by
  induction l with
  | nil => rfl
  | cons a l ih =>
    rw [List.filter_cons, List.filter_cons]
    cases p a with
    | true => simp only [if_true, Bool.not_true, Bool.false_eq_true, if_false, List.length_cons]; omega
    | false => simp only [Bool.not_false, if_true, Bool.false_eq_true, if_false, List.length_cons]; omega
/-- one more within -/
theorem lot_more {n : Nat} {P : PP} {x : Int} (x0 : 0 ≤ x) (x1 : x < n) (h : P x = false) : (lot n P).length + 1 ≤ (lot n fun y => P y || decide (y = x)).length := by
  have := len_eq_of (l := x :: lot n P) (m := lot n fun y => P y || decide (y = x)) (List.nodup_cons.mpr ⟨fun hx => (by
    have := (mem_lot.mp hx).2
    rw [h] at this
    cases this), nodup_of_pw (lot_pw _ _)⟩) (fun y hy => by
      rcases List.mem_cons.mp hy with e | hy
      · rw [e]; exact mem_lot.mpr ⟨⟨x0, x1⟩, by simp⟩
      · exact mem_lot.mpr ⟨(mem_lot.mp hy).1, by rw [(mem_lot.mp hy).2]; rfl⟩)
  rw [List.length_cons] at this
  exact this
/-- lots of two -/
def prs (n : Nat) : List (Int × Int) := (ran n).flatMap fun a => ((ran n).filter fun b => decide (a < b)).map fun b => (a, b)
def twoL (p : Int × Int) : List Int := [p.1, p.2]
theorem lots0 : ∀ n ∈ List.range 8, ((lots n).filter fun l => l.length == 0) = [[]] := by decide +kernel
theorem lots1 : ∀ n ∈ List.range 8, ((lots n).filter fun l => l.length == 1) = (ran n).map fun x => [x] := by decide +kernel
theorem lots2 : ∀ n ∈ List.range 8, ((lots n).filter fun l => l.length == 2) = (prs n).map twoL := by decide +kernel
theorem prs_len : ∀ n ∈ List.range 8, (prs n).length = n * (n - 1) / 2 := by decide +kernel
theorem prs_nd : ∀ n ∈ List.range 8, (prs n).Nodup := by decide +kernel
theorem mem_prs {n : Nat} {p : Int × Int} : p ∈ prs n ↔ 0 ≤ p.1 ∧ p.1 < p.2 ∧ p.2 < n := by
  unfold prs
  rw [List.mem_flatMap]
  constructor
  · rintro ⟨a, ha, h⟩
    obtain ⟨b, hb, rfl⟩ := List.mem_map.mp h
    obtain ⟨hb, hl⟩ := List.mem_filter.mp hb
    have := mem_ran.mp ha
    have := mem_ran.mp hb
    have := of_decide_eq_true hl
    exact ⟨by omega, this, by omega⟩
  · rintro ⟨h1, h2, h3⟩
    exact ⟨p.1, mem_ran.mpr (by omega), List.mem_map.mpr ⟨p.2, List.mem_filter.mpr ⟨mem_ran.mpr (by omega), decide_eq_true h2⟩, rfl⟩⟩
end Th
/-! sizes -/
namespace W
open PySem PySem.Spec PyProof.Rows Fo Th
def mxL (L : List (List Int)) : Nat := (L.map List.length).foldl max 0
theorem fold_max : ∀ (l : List Nat) (a : Nat), a ≤ l.foldl max a ∧ (∀ x ∈ l, x ≤ l.foldl max a) ∧ (l.foldl max a = a ∨ l.foldl max a ∈ l)
  | [], a => ⟨Nat.le_refl _, fun x h => (by cases h), .inl rfl⟩
  | b :: l, a => by
    obtain ⟨h1, h2, h3⟩ := fold_max l (max a b)
    rw [List.foldl_cons]
    refine ⟨by omega, fun x hx => ?_, ?_⟩
    · rcases List.mem_cons.mp hx with e | hx
      · omega
      · exact h2 x hx
    · rcases h3 with h3 | h3
      · rcases Nat.le_total a b with q | q
        · right; rw [h3, Nat.max_eq_right q]; exact List.mem_cons_self ..
        · left; rw [h3, Nat.max_eq_left q]
      · right; exact List.mem_cons_of_mem _ h3
theorem mxL_ge {L : List (List Int)} {l : List Int} (h : l ∈ L) : l.length ≤ mxL L := (fold_max _ 0).2.1 _ (List.mem_map.mpr ⟨l, h, rfl⟩)
theorem mxL_mem {L : List (List Int)} (h : L ≠ []) : ∃ l ∈ L, l.length = mxL L := by
  rcases (fold_max (L.map List.length) 0).2.2 with e | e
  · cases L with
    | nil => exact absurd rfl h
    | cons l L =>
      refine ⟨l, List.mem_cons_self .., ?_⟩
      have := mxL_ge (L := l :: L) (List.mem_cons_self ..)
      unfold mxL at this ⊢
      omega
  · obtain ⟨l, hl, q⟩ := List.mem_map.mp e
    exact ⟨l, hl, q⟩
theorem fold_gt : ∀ (l : List Nat) (a : Nat), (l.map fun k : Nat => PyData.int (k : Int)).foldl (fun a y => if cmpB .Lt a y = true then y else a) (.int (a : Int)) = .int ((l.foldl max a : Nat) : Int)
  | [], a => rfl
  | b :: l, a => by
    rw [List.map_cons, List.foldl_cons, List.foldl_cons]
    have e : (if cmpB .Lt (.int (a : Int)) (.int (b : Int)) = true then PyData.int (b : Int) else .int (a : Int)) = .int ((max a b : Nat) : Int) := by
      have : cmpB .Lt (.int (a : Int)) (.int (b : Int)) = decide ((a : Int) < b) := by unfold cmpB cmpI; rfl
      rw [this]
      by_cases h : (a : Int) < b
      · rw [if_pos (decide_eq_true h), Nat.max_eq_right (by omega)]
      · rw [if_neg (by simpa using h), Nat.max_eq_left (by omega)]
    rw [e]
    exact fold_gt l (max a b)
theorem max_lens {L : List (List Int)} (h : L ≠ []) (hl : L.length ≤ 1000000) : maxW [.list (L.map fun l => .int (l.length : Nat))] = some (.int (mxL L : Nat)) := by
  cases L with
  | nil => exact absurd rfl h
  | cons l L =>
    show bstO .Gt ((l :: L).map fun l : List Int => PyData.int (l.length : Nat)) = _
    rw [List.map_cons]
    show (if sOk (PyData.int (l.length : Nat) :: L.map fun l : List Int => PyData.int (l.length : Nat)) = true then some (List.foldl (fun a y => if cmpB .Lt a y = true then y else a) (PyData.int (l.length : Nat)) (L.map fun l : List Int => PyData.int (l.length : Nat))) else none) = _
    have e1 : (l :: L).map (fun l : List Int => PyData.int (l.length : Nat)) = ((l :: L).map fun l : List Int => (l.length : Int)).map .int := by rw [List.map_map]; rfl
    have hs := sOk_int (l := (l :: L).map fun l : List Int => (l.length : Int)) (by rw [List.length_map]; exact hl)
    rw [← e1, List.map_cons] at hs
    rw [if_pos hs]
    have e2 : L.map (fun l : List Int => PyData.int (l.length : Nat)) = (L.map List.length).map fun k : Nat => PyData.int (k : Int) := by rw [List.map_map]; rfl
    rw [e2, fold_gt]
    unfold mxL
    rw [List.map_cons, List.foldl_cons, Nat.zero_max]
theorem count_lens (L : List (List Int)) (s : Nat) : countV (.list (L.map fun l => .int (l.length : Nat))) (.int (s : Nat)) = some (.int (cntL L s : Nat)) := by
  have e1 : L.map (fun l : List Int => PyData.int (l.length : Nat)) = (L.map fun l : List Int => (l.length : Int)).map .int := by rw [List.map_map]; rfl
  have e0 : intsOf ((L.map fun l : List Int => (l.length : Int)).map PyData.int) = some (L.map fun l : List Int => (l.length : Int)) := by
    generalize (L.map fun l : List Int => (l.length : Int)) = ms
    induction ms with
    | nil => rfl
    | cons a l ih =>
      rw [List.map_cons]
      unfold intsOf
      rw [ih]
      rfl
  show (intsOf (L.map fun l : List Int => PyData.int (l.length : Nat))).map (fun ns => PyData.int (ns.count (s : Int) : Nat)) = _
  rw [e1, e0]
  show some (PyData.int (((L.map fun l : List Int => (l.length : Int)).count (s : Int) : Nat) : Int)) = _
  have e3 : (L.map fun l : List Int => (l.length : Int)).count (s : Int) = cntL L s := by
    unfold cntL
    induction L with
    | nil => rfl
    | cons l L ih =>
      have := fun h1 h2 => ih h1 h2
      rw [List.map_cons, List.count_cons, List.filter_cons]
      have ih2 : (L.map fun l : List Int => (l.length : Int)).count (s : Int) = (L.filter fun l => l.length == s).length := by
        clear ih this e0 e1
        induction L with
        | nil => rfl
        | cons l L ih =>
          rw [List.map_cons, List.count_cons, List.filter_cons, ih]
          by_cases q : l.length = s
          · rw [if_pos (beq_iff_eq.mpr (by omega)), if_pos (beq_iff_eq.mpr q)]; rfl
          · rw [if_neg (fun h => q (by have := beq_iff_eq.mp h; omega)), if_neg (fun h => q (beq_iff_eq.mp h))]; rfl
      rw [ih2]
      by_cases q : l.length = s
      · rw [if_pos (beq_iff_eq.mpr (by omega)), if_pos (beq_iff_eq.mpr q)]; rfl
      · rw [if_neg (fun h => q (by have := beq_iff_eq.mp h; omega)), if_neg (fun h => q (beq_iff_eq.mp h))]; rfl
  rw [e3]
def cntsL (n : Nat) (ps : List (Int × Int)) : List Int := (List.range (mxL (gath n ps) + 1)).map fun s => (cntL (gath n ps) s : Int)
theorem gath_small {n : Nat} {ps : List (Int × Int)} (V : Web n ps) {l : List Int} (h : l ∈ gath n ps) : l.length ≤ 7 := by
  obtain ⟨P, _, rfl⟩ := (mem_gath V).mp h
  have := lot_length n P
  have := V.hi
  omega
theorem mxG_small {n : Nat} {ps : List (Int × Int)} (V : Web n ps) : mxL (gath n ps) ≤ 7 := by
  obtain ⟨l, hl, e⟩ := mxL_mem (gath_ne V)
  rw [← e]
  exact gath_small V hl
def P_counts (f : SemF) : Prop := ∀ (n : Nat) ps st, Web n ps → f [wD n ps] st = some (liI (cntsL n ps), st)
theorem ok_counts {a : SemF} (ha : P_all_gatherings a) : P_counts (r_counts a) := fun n ps st V => by
  have G := gath_len V
  have M := mxG_small V
  have h1 := lc_filter (E := lD) (tg := .nm 2) (tt := yesB) (te := x_counts_1) (ρ := [some (.va (wD n ps)), none, none, none]) (st := st) (fun _ => true) (fun l : List Int => PyData.int (l.length : Nat)) (gath n ps) fun l hl => ⟨_, rfl, rfl, fun _ => by simp only [x_counts_1, k_seq, k_seqN, k_seqR, k_seqB, k_seqC, k_upS, k_upBS, k_upRS, k_upLS, k_upOS, k_nx, k_bk, k_ct, k_asg, k_asgS, k_own, k_ownS, k_if, k_ifT, k_ifF, k_ifB, k_rt, k_rtS, k_rtN, k_ex, k_exS, k_app, k_appS, k_for, k_forS, k_frz, k_par, k_parS, k_set, k_setS, k_setS2, k_bin, k_binS, k_binS2, k_un, k_unS, k_not, k_and, k_or, k_andS, k_orS, k_thenT, k_thenF, k_thenB, k_elseT, k_elseF, k_elseB, k_tst, k_andB, k_orB, k_notB, k_andBS, k_orBS, k_notBS, k_ite, k_iteB, k_disp, k_dispS, k_nil, k_cons, k_consS, k_consS2, k_star, k_starS, k_starS1, k_starS2, k_len, k_lenS, k_call, k_callS, k_callD, k_drS, k_drO, k_blt, k_bltS, k_va, k_tv, k_vaO, k_tvO, k_tvOw, k_cst, k_noO, k_someO, k_someS, k_slc, k_slcS, k_slcS1, k_slcS2, k_items, k_itemsS, k_itL, k_itT, k_rng, k_rngS, k_lc, k_lcS2, k_gx, k_gxS, k_sg, k_sgS, k_yes, k_nilE, k_vaE, k_owE, k_vaES, k_owES, k_vaES2, k_whT, k_whF, k_wh2, k_st1, k_st2, k_st3, k_sE0, k_sE, k_wip0, k_wip, k_itemsG, k_itemsGS, k_iwL, k_iwT, k_dc, k_dcS, k_dcS2, k_newD, k_get1, k_get2, k_get1S, k_get1S2, k_get2S, k_get2S2, k_get2S3, k_enum, k_enumS, k_zip, k_zipS, k_zipS2, k_d1, k_d1S, k_d1S2, k_frz1, k_frz2, k_frz3, k_run, k_outR, k_outN, k_setG, k_setGS, k_setGS2, k_tstB, List.getElem?_cons_zero, List.getElem?_cons_succ, List.set_cons_zero, List.set_cons_succ, List.length_cons, List.length_nil, Nat.zero_add, Nat.reduceAdd, Nat.reduceSub, if_true, reduceIte, Bool.false_eq_true, Bool.true_eq_false, len_lD]⟩
  rw [List.filter_eq_self.mpr fun _ _ => rfl] at h1
  have m1 : ((gath n ps).map lD).length ≤ 1000000 := by rw [List.length_map]; omega
  have h2 := lc_filter (E := PyData.int) (tg := .nm 3) (tt := yesB) (te := x_counts_2) (ρ := [some (.va (wD n ps)), some (.va (.list ((gath n ps).map fun l : List Int => PyData.int (l.length : Nat)))), none, none]) (st := st) (fun _ => true) (fun s : Int => PyData.int (cntL (gath n ps) s.toNat : Nat)) (ran (mxL (gath n ps) + 1)) fun s hs => ⟨_, rfl, rfl, fun _ => by
    have := count_lens (gath n ps) s.toNat
    rw [Int.toNat_of_nonneg (mem_ran.mp hs).1] at this
    simp only [x_counts_2, k_seq, k_seqN, k_seqR, k_seqB, k_seqC, k_upS, k_upBS, k_upRS, k_upLS, k_upOS, k_nx, k_bk, k_ct, k_asg, k_asgS, k_own, k_ownS, k_if, k_ifT, k_ifF, k_ifB, k_rt, k_rtS, k_rtN, k_ex, k_exS, k_app, k_appS, k_for, k_forS, k_frz, k_par, k_parS, k_set, k_setS, k_setS2, k_bin, k_binS, k_binS2, k_un, k_unS, k_not, k_and, k_or, k_andS, k_orS, k_thenT, k_thenF, k_thenB, k_elseT, k_elseF, k_elseB, k_tst, k_andB, k_orB, k_notB, k_andBS, k_orBS, k_notBS, k_ite, k_iteB, k_disp, k_dispS, k_nil, k_cons, k_consS, k_consS2, k_star, k_starS, k_starS1, k_starS2, k_len, k_lenS, k_call, k_callS, k_callD, k_drS, k_drO, k_blt, k_bltS, k_va, k_tv, k_vaO, k_tvO, k_tvOw, k_cst, k_noO, k_someO, k_someS, k_slc, k_slcS, k_slcS1, k_slcS2, k_items, k_itemsS, k_itL, k_itT, k_rng, k_rngS, k_lc, k_lcS2, k_gx, k_gxS, k_sg, k_sgS, k_yes, k_nilE, k_vaE, k_owE, k_vaES, k_owES, k_vaES2, k_whT, k_whF, k_wh2, k_st1, k_st2, k_st3, k_sE0, k_sE, k_wip0, k_wip, k_itemsG, k_itemsGS, k_iwL, k_iwT, k_dc, k_dcS, k_dcS2, k_newD, k_get1, k_get2, k_get1S, k_get1S2, k_get2S, k_get2S2, k_get2S3, k_enum, k_enumS, k_zip, k_zipS, k_zipS2, k_d1, k_d1S, k_d1S2, k_frz1, k_frz2, k_frz3, k_run, k_outR, k_outN, k_setG, k_setGS, k_setGS2, k_tstB, List.getElem?_cons_zero, List.getElem?_cons_succ, List.set_cons_zero, List.set_cons_succ, List.length_cons, List.length_nil, Nat.zero_add, Nat.reduceAdd, Nat.reduceSub, if_true, reduceIte, Bool.false_eq_true, Bool.true_eq_false, this]⟩
  rw [List.filter_eq_self.mpr fun _ _ => rfl] at h2
  have m2 : ((ran (mxL (gath n ps) + 1)).map PyData.int).length ≤ 1000000 := by rw [List.length_map, ran_length]; omega
  have it : itemsW (.list ((gath n ps).map lD)) = some ((gath n ps).map lD) := rfl
  have mx := max_lens (gath_ne V) (by omega : (gath n ps).length ≤ 1000000)
  have rg := rng_ran (mxL (gath n ps) + 1) (by omega)
  rw [show ((mxL (gath n ps) + 1 : Nat) : Int) = (mxL (gath n ps) : Nat) + 1 by omega] at rg
  have ec : (ran (mxL (gath n ps) + 1)).map (fun s : Int => PyData.int (cntL (gath n ps) s.toNat : Nat)) = (cntsL n ps).map .int := by
    unfold ran cntsL
    rw [List.map_map, List.map_map]
    exact List.map_congr_left fun k _ => by simp
  rw [ec] at h2
  simp -implicitDefEqProofs only [R_counts, t_counts, k_seq, k_seqN, k_seqR, k_seqB, k_seqC, k_upS, k_upBS, k_upRS, k_upLS, k_upOS, k_nx, k_bk, k_ct, k_asg, k_asgS, k_own, k_ownS, k_if, k_ifT, k_ifF, k_ifB, k_rt, k_rtS, k_rtN, k_ex, k_exS, k_app, k_appS, k_for, k_forS, k_frz, k_par, k_parS, k_set, k_setS, k_setS2, k_bin, k_binS, k_binS2, k_un, k_unS, k_not, k_and, k_or, k_andS, k_orS, k_thenT, k_thenF, k_thenB, k_elseT, k_elseF, k_elseB, k_tst, k_andB, k_orB, k_notB, k_andBS, k_orBS, k_notBS, k_ite, k_iteB, k_disp, k_dispS, k_nil, k_cons, k_consS, k_consS2, k_star, k_starS, k_starS1, k_starS2, k_len, k_lenS, k_call, k_callS, k_callD, k_drS, k_drO, k_blt, k_bltS, k_va, k_tv, k_vaO, k_tvO, k_tvOw, k_cst, k_noO, k_someO, k_someS, k_slc, k_slcS, k_slcS1, k_slcS2, k_items, k_itemsS, k_itL, k_itT, k_rng, k_rngS, k_lc, k_lcS2, k_gx, k_gxS, k_sg, k_sgS, k_yes, k_nilE, k_vaE, k_owE, k_vaES, k_owES, k_vaES2, k_whT, k_whF, k_wh2, k_st1, k_st2, k_st3, k_sE0, k_sE, k_wip0, k_wip, k_itemsG, k_itemsGS, k_iwL, k_iwT, k_dc, k_dcS, k_dcS2, k_newD, k_get1, k_get2, k_get1S, k_get1S2, k_get2S, k_get2S2, k_get2S3, k_enum, k_enumS, k_zip, k_zipS, k_zipS2, k_d1, k_d1S, k_d1S2, k_frz1, k_frz2, k_frz3, k_run, k_outR, k_outN, k_setG, k_setGS, k_setGS2, k_tstB, List.getElem?_cons_zero, List.getElem?_cons_succ, List.set_cons_zero, List.set_cons_succ, List.length_cons, List.length_nil, Nat.zero_add, Nat.reduceAdd, Nat.reduceSub, if_true, reduceIte, Bool.false_eq_true, Bool.true_eq_false, ha n ps st V, it, k_lcS m1, h1, mx, add_i, rg, k_lcS m2, h2]
def P_size_counts (f : SemF) : Prop := ∀ (n : Nat) ps st, Web n ps → f [wD n ps] st = some (lD (cntsL n ps), st)
theorem ok_size_counts {a b : SemF} (ha : P_need_web a) (hb : P_counts b) : P_size_counts (r_size_counts a b) := fun n ps st V => by
  simp only [R_size_counts, t_size_counts, k_seq, k_seqN, k_seqR, k_seqB, k_seqC, k_upS, k_upBS, k_upRS, k_upLS, k_upOS, k_nx, k_bk, k_ct, k_asg, k_asgS, k_own, k_ownS, k_if, k_ifT, k_ifF, k_ifB, k_rt, k_rtS, k_rtN, k_ex, k_exS, k_app, k_appS, k_for, k_forS, k_frz, k_par, k_parS, k_set, k_setS, k_setS2, k_bin, k_binS, k_binS2, k_un, k_unS, k_not, k_and, k_or, k_andS, k_orS, k_thenT, k_thenF, k_thenB, k_elseT, k_elseF, k_elseB, k_tst, k_andB, k_orB, k_notB, k_andBS, k_orBS, k_notBS, k_ite, k_iteB, k_disp, k_dispS, k_nil, k_cons, k_consS, k_consS2, k_star, k_starS, k_starS1, k_starS2, k_len, k_lenS, k_call, k_callS, k_callD, k_drS, k_drO, k_blt, k_bltS, k_va, k_tv, k_vaO, k_tvO, k_tvOw, k_cst, k_noO, k_someO, k_someS, k_slc, k_slcS, k_slcS1, k_slcS2, k_items, k_itemsS, k_itL, k_itT, k_rng, k_rngS, k_lc, k_lcS2, k_gx, k_gxS, k_sg, k_sgS, k_yes, k_nilE, k_vaE, k_owE, k_vaES, k_owES, k_vaES2, k_whT, k_whF, k_wh2, k_st1, k_st2, k_st3, k_sE0, k_sE, k_wip0, k_wip, k_itemsG, k_itemsGS, k_iwL, k_iwT, k_dc, k_dcS, k_dcS2, k_newD, k_get1, k_get2, k_get1S, k_get1S2, k_get2S, k_get2S2, k_get2S3, k_enum, k_enumS, k_zip, k_zipS, k_zipS2, k_d1, k_d1S, k_d1S2, k_frz1, k_frz2, k_frz3, k_run, k_outR, k_outN, k_setG, k_setGS, k_setGS2, k_tstB, List.getElem?_cons_zero, List.getElem?_cons_succ, List.set_cons_zero, List.set_cons_succ, List.length_cons, List.length_nil, Nat.zero_add, Nat.reduceAdd, Nat.reduceSub, if_true, reduceIte, Bool.false_eq_true, Bool.true_eq_false, ha n ps st V, hb n ps st V, tup_L]
  rfl
def fillL (n : Nat) (ps : List (Int × Int)) (l : List Int) : Bool := ((ran n).filter fun x => !memb x l).all fun x => (lot n (foe ps x)).any fun y => memb y l
def P_fills (f : SemF) : Prop := ∀ (n : Nat) ps (l : List Int) st, n ≤ 7 → f [wD n ps, lD l] st = some (.bool (fillL n ps l), st)
theorem ok_fills {a : SemF} (ha : P_foes a) : P_fills (r_fills a) := fun n ps l st hn => by
  have nin : ∀ x, cmpG .NotIn (.int x) (lD l) = some (.bool (!memb x l)) := fun x => nin_T Enc.int x l
  have inn : ∀ x, cmpG .In (.int x) (lD l) = some (.bool (memb x l)) := fun x => in_T Enc.int x l
  have h1 := lc_filter (E := PyData.int) (tg := .nm 3) (tt := c_fills_1) (te := x_fills_2) (ρ := [some (.va (wD n ps)), some (.va (lD l)), none, none, none]) (st := st) (fun x => !memb x l) PyData.int (ran n) fun x hx => ⟨_, rfl, by simp only [c_fills_1, k_seq, k_seqN, k_seqR, k_seqB, k_seqC, k_upS, k_upBS, k_upRS, k_upLS, k_upOS, k_nx, k_bk, k_ct, k_asg, k_asgS, k_own, k_ownS, k_if, k_ifT, k_ifF, k_ifB, k_rt, k_rtS, k_rtN, k_ex, k_exS, k_app, k_appS, k_for, k_forS, k_frz, k_par, k_parS, k_set, k_setS, k_setS2, k_bin, k_binS, k_binS2, k_un, k_unS, k_not, k_and, k_or, k_andS, k_orS, k_thenT, k_thenF, k_thenB, k_elseT, k_elseF, k_elseB, k_tst, k_andB, k_orB, k_notB, k_andBS, k_orBS, k_notBS, k_ite, k_iteB, k_disp, k_dispS, k_nil, k_cons, k_consS, k_consS2, k_star, k_starS, k_starS1, k_starS2, k_len, k_lenS, k_call, k_callS, k_callD, k_drS, k_drO, k_blt, k_bltS, k_va, k_tv, k_vaO, k_tvO, k_tvOw, k_cst, k_noO, k_someO, k_someS, k_slc, k_slcS, k_slcS1, k_slcS2, k_items, k_itemsS, k_itL, k_itT, k_rng, k_rngS, k_lc, k_lcS2, k_gx, k_gxS, k_sg, k_sgS, k_yes, k_nilE, k_vaE, k_owE, k_vaES, k_owES, k_vaES2, k_whT, k_whF, k_wh2, k_st1, k_st2, k_st3, k_sE0, k_sE, k_wip0, k_wip, k_itemsG, k_itemsGS, k_iwL, k_iwT, k_dc, k_dcS, k_dcS2, k_newD, k_get1, k_get2, k_get1S, k_get1S2, k_get2S, k_get2S2, k_get2S3, k_enum, k_enumS, k_zip, k_zipS, k_zipS2, k_d1, k_d1S, k_d1S2, k_frz1, k_frz2, k_frz3, k_run, k_outR, k_outN, k_setG, k_setGS, k_setGS2, k_tstB, List.getElem?_cons_zero, List.getElem?_cons_succ, List.set_cons_zero, List.set_cons_succ, List.length_cons, List.length_nil, Nat.zero_add, Nat.reduceAdd, Nat.reduceSub, if_true, reduceIte, Bool.false_eq_true, Bool.true_eq_false, nin], fun _ => rfl⟩
  have m1 : ((ran n).map PyData.int).length ≤ 1000000 := by rw [List.length_map, ran_length]; omega
  have h3 := gx_all (E := PyData.int) (tg := .nm 3) (tt := yesB) (te := x_fills_3 a) (ρ := [some (.va (wD n ps)), some (.va (lD l)), some (.va (liI ((ran n).filter fun x => !memb x l))), none, none]) (st := st) false (fun x => (lot n (foe ps x)).any fun y => memb y l) ((ran n).filter fun x => !memb x l) fun x hx => ⟨_, rfl, rfl, by
    have h2 := gx_all (E := PyData.int) (tg := .nm 4) (tt := yesB) (te := x_fills_4) (ρ := [some (.va (wD n ps)), some (.va (lD l)), some (.va (liI ((ran n).filter fun x => !memb x l))), some (.va (.int x)), none]) (st := st) true (fun y => memb y l) (lot n (foe ps x)) fun y hy => ⟨_, rfl, rfl, by simp only [x_fills_4, k_seq, k_seqN, k_seqR, k_seqB, k_seqC, k_upS, k_upBS, k_upRS, k_upLS, k_upOS, k_nx, k_bk, k_ct, k_asg, k_asgS, k_own, k_ownS, k_if, k_ifT, k_ifF, k_ifB, k_rt, k_rtS, k_rtN, k_ex, k_exS, k_app, k_appS, k_for, k_forS, k_frz, k_par, k_parS, k_set, k_setS, k_setS2, k_bin, k_binS, k_binS2, k_un, k_unS, k_not, k_and, k_or, k_andS, k_orS, k_thenT, k_thenF, k_thenB, k_elseT, k_elseF, k_elseB, k_tst, k_andB, k_orB, k_notB, k_andBS, k_orBS, k_notBS, k_ite, k_iteB, k_disp, k_dispS, k_nil, k_cons, k_consS, k_consS2, k_star, k_starS, k_starS1, k_starS2, k_len, k_lenS, k_call, k_callS, k_callD, k_drS, k_drO, k_blt, k_bltS, k_va, k_tv, k_vaO, k_tvO, k_tvOw, k_cst, k_noO, k_someO, k_someS, k_slc, k_slcS, k_slcS1, k_slcS2, k_items, k_itemsS, k_itL, k_itT, k_rng, k_rngS, k_lc, k_lcS2, k_gx, k_gxS, k_sg, k_sgS, k_yes, k_nilE, k_vaE, k_owE, k_vaES, k_owES, k_vaES2, k_whT, k_whF, k_wh2, k_st1, k_st2, k_st3, k_sE0, k_sE, k_wip0, k_wip, k_itemsG, k_itemsGS, k_iwL, k_iwT, k_dc, k_dcS, k_dcS2, k_newD, k_get1, k_get2, k_get1S, k_get1S2, k_get2S, k_get2S2, k_get2S3, k_enum, k_enumS, k_zip, k_zipS, k_zipS2, k_d1, k_d1S, k_d1S2, k_frz1, k_frz2, k_frz3, k_run, k_outR, k_outN, k_setG, k_setGS, k_setGS2, k_tstB, List.getElem?_cons_zero, List.getElem?_cons_succ, List.set_cons_zero, List.set_cons_succ, List.length_cons, List.length_nil, Nat.zero_add, Nat.reduceAdd, Nat.reduceSub, if_true, reduceIte, Bool.false_eq_true, Bool.true_eq_false, inn]⟩
    have it : itemsW (.list ((lot n (foe ps x)).map .int)) = some ((lot n (foe ps x)).map .int) := rfl
    simp only [x_fills_3, k_seq, k_seqN, k_seqR, k_seqB, k_seqC, k_upS, k_upBS, k_upRS, k_upLS, k_upOS, k_nx, k_bk, k_ct, k_asg, k_asgS, k_own, k_ownS, k_if, k_ifT, k_ifF, k_ifB, k_rt, k_rtS, k_rtN, k_ex, k_exS, k_app, k_appS, k_for, k_forS, k_frz, k_par, k_parS, k_set, k_setS, k_setS2, k_bin, k_binS, k_binS2, k_un, k_unS, k_not, k_and, k_or, k_andS, k_orS, k_thenT, k_thenF, k_thenB, k_elseT, k_elseF, k_elseB, k_tst, k_andB, k_orB, k_notB, k_andBS, k_orBS, k_notBS, k_ite, k_iteB, k_disp, k_dispS, k_nil, k_cons, k_consS, k_consS2, k_star, k_starS, k_starS1, k_starS2, k_len, k_lenS, k_call, k_callS, k_callD, k_drS, k_drO, k_blt, k_bltS, k_va, k_tv, k_vaO, k_tvO, k_tvOw, k_cst, k_noO, k_someO, k_someS, k_slc, k_slcS, k_slcS1, k_slcS2, k_items, k_itemsS, k_itL, k_itT, k_rng, k_rngS, k_lc, k_lcS2, k_gx, k_gxS, k_sg, k_sgS, k_yes, k_nilE, k_vaE, k_owE, k_vaES, k_owES, k_vaES2, k_whT, k_whF, k_wh2, k_st1, k_st2, k_st3, k_sE0, k_sE, k_wip0, k_wip, k_itemsG, k_itemsGS, k_iwL, k_iwT, k_dc, k_dcS, k_dcS2, k_newD, k_get1, k_get2, k_get1S, k_get1S2, k_get2S, k_get2S2, k_get2S3, k_enum, k_enumS, k_zip, k_zipS, k_zipS2, k_d1, k_d1S, k_d1S2, k_frz1, k_frz2, k_frz3, k_run, k_outR, k_outN, k_setG, k_setGS, k_setGS2, k_tstB, List.getElem?_cons_zero, List.getElem?_cons_succ, List.set_cons_zero, List.set_cons_succ, List.length_cons, List.length_nil, Nat.zero_add, Nat.reduceAdd, Nat.reduceSub, if_true, reduceIte, Bool.false_eq_true, Bool.true_eq_false, ha n ps x st hn, it, h2]⟩
  simp -implicitDefEqProofs only [R_fills, t_fills, k_seq, k_seqN, k_seqR, k_seqB, k_seqC, k_upS, k_upBS, k_upRS, k_upLS, k_upOS, k_nx, k_bk, k_ct, k_asg, k_asgS, k_own, k_ownS, k_if, k_ifT, k_ifF, k_ifB, k_rt, k_rtS, k_rtN, k_ex, k_exS, k_app, k_appS, k_for, k_forS, k_frz, k_par, k_parS, k_set, k_setS, k_setS2, k_bin, k_binS, k_binS2, k_un, k_unS, k_not, k_and, k_or, k_andS, k_orS, k_thenT, k_thenF, k_thenB, k_elseT, k_elseF, k_elseB, k_tst, k_andB, k_orB, k_notB, k_andBS, k_orBS, k_notBS, k_ite, k_iteB, k_disp, k_dispS, k_nil, k_cons, k_consS, k_consS2, k_star, k_starS, k_starS1, k_starS2, k_len, k_lenS, k_call, k_callS, k_callD, k_drS, k_drO, k_blt, k_bltS, k_va, k_tv, k_vaO, k_tvO, k_tvOw, k_cst, k_noO, k_someO, k_someS, k_slc, k_slcS, k_slcS1, k_slcS2, k_items, k_itemsS, k_itL, k_itT, k_rng, k_rngS, k_lc, k_lcS2, k_gx, k_gxS, k_sg, k_sgS, k_yes, k_nilE, k_vaE, k_owE, k_vaES, k_owES, k_vaES2, k_whT, k_whF, k_wh2, k_st1, k_st2, k_st3, k_sE0, k_sE, k_wip0, k_wip, k_itemsG, k_itemsGS, k_iwL, k_iwT, k_dc, k_dcS, k_dcS2, k_newD, k_get1, k_get2, k_get1S, k_get1S2, k_get2S, k_get2S2, k_get2S3, k_enum, k_enumS, k_zip, k_zipS, k_zipS2, k_d1, k_d1S, k_d1S2, k_frz1, k_frz2, k_frz3, k_run, k_outR, k_outN, k_setG, k_setGS, k_setGS2, k_tstB, List.getElem?_cons_zero, List.getElem?_cons_succ, List.set_cons_zero, List.set_cons_succ, List.length_cons, List.length_nil, Nat.zero_add, Nat.reduceAdd, Nat.reduceSub, if_true, reduceIte, Bool.false_eq_true, Bool.true_eq_false, w0, rng_ran n (by omega), k_lcS m1, h1, it_li, h3]
  rfl
def P_is_full (f : SemF) : Prop := ∀ (n : Nat) ps (P : PP) st, Web n ps → Gth n (foe ps) P → f [wD n ps, lP n P] st = some (.bool (fillL n ps (lot n P)), st)
theorem ok_is_full {a b : SemF} (ha : P_need_gathering a) (hb : P_fills b) : P_is_full (r_is_full a b) := fun n ps P st V h => by
  simp only [R_is_full, t_is_full, k_seq, k_seqN, k_seqR, k_seqB, k_seqC, k_upS, k_upBS, k_upRS, k_upLS, k_upOS, k_nx, k_bk, k_ct, k_asg, k_asgS, k_own, k_ownS, k_if, k_ifT, k_ifF, k_ifB, k_rt, k_rtS, k_rtN, k_ex, k_exS, k_app, k_appS, k_for, k_forS, k_frz, k_par, k_parS, k_set, k_setS, k_setS2, k_bin, k_binS, k_binS2, k_un, k_unS, k_not, k_and, k_or, k_andS, k_orS, k_thenT, k_thenF, k_thenB, k_elseT, k_elseF, k_elseB, k_tst, k_andB, k_orB, k_notB, k_andBS, k_orBS, k_notBS, k_ite, k_iteB, k_disp, k_dispS, k_nil, k_cons, k_consS, k_consS2, k_star, k_starS, k_starS1, k_starS2, k_len, k_lenS, k_call, k_callS, k_callD, k_drS, k_drO, k_blt, k_bltS, k_va, k_tv, k_vaO, k_tvO, k_tvOw, k_cst, k_noO, k_someO, k_someS, k_slc, k_slcS, k_slcS1, k_slcS2, k_items, k_itemsS, k_itL, k_itT, k_rng, k_rngS, k_lc, k_lcS2, k_gx, k_gxS, k_sg, k_sgS, k_yes, k_nilE, k_vaE, k_owE, k_vaES, k_owES, k_vaES2, k_whT, k_whF, k_wh2, k_st1, k_st2, k_st3, k_sE0, k_sE, k_wip0, k_wip, k_itemsG, k_itemsGS, k_iwL, k_iwT, k_dc, k_dcS, k_dcS2, k_newD, k_get1, k_get2, k_get1S, k_get1S2, k_get2S, k_get2S2, k_get2S3, k_enum, k_enumS, k_zip, k_zipS, k_zipS2, k_d1, k_d1S, k_d1S2, k_frz1, k_frz2, k_frz3, k_run, k_outR, k_outN, k_setG, k_setGS, k_setGS2, k_tstB, List.getElem?_cons_zero, List.getElem?_cons_succ, List.set_cons_zero, List.set_cons_succ, List.length_cons, List.length_nil, Nat.zero_add, Nat.reduceAdd, Nat.reduceSub, if_true, reduceIte, Bool.false_eq_true, Bool.true_eq_false, ha n ps P st V h, hb n ps (lot n P) st V.hi]
def P_full_gatherings (f : SemF) : Prop := ∀ (n : Nat) ps st, Web n ps → f [wD n ps] st = some (tD lD ((gath n ps).filter (fillL n ps)), st)
theorem ok_full_gatherings {a b c : SemF} (ha : P_need_web a) (hb : P_all_gatherings b) (hc : P_fills c) : P_full_gatherings (r_full_gatherings a b c) := fun n ps st V => by
  have G := gath_len V
  have h1 := lc_filter (E := lD) (tg := .nm 1) (tt := c_full_gatherings_1 c) (te := x_full_gatherings_2) (ρ := [some (.va (wD n ps)), none]) (st := st) (fillL n ps) lD (gath n ps) fun l hl => ⟨_, rfl, by simp only [c_full_gatherings_1, k_seq, k_seqN, k_seqR, k_seqB, k_seqC, k_upS, k_upBS, k_upRS, k_upLS, k_upOS, k_nx, k_bk, k_ct, k_asg, k_asgS, k_own, k_ownS, k_if, k_ifT, k_ifF, k_ifB, k_rt, k_rtS, k_rtN, k_ex, k_exS, k_app, k_appS, k_for, k_forS, k_frz, k_par, k_parS, k_set, k_setS, k_setS2, k_bin, k_binS, k_binS2, k_un, k_unS, k_not, k_and, k_or, k_andS, k_orS, k_thenT, k_thenF, k_thenB, k_elseT, k_elseF, k_elseB, k_tst, k_andB, k_orB, k_notB, k_andBS, k_orBS, k_notBS, k_ite, k_iteB, k_disp, k_dispS, k_nil, k_cons, k_consS, k_consS2, k_star, k_starS, k_starS1, k_starS2, k_len, k_lenS, k_call, k_callS, k_callD, k_drS, k_drO, k_blt, k_bltS, k_va, k_tv, k_vaO, k_tvO, k_tvOw, k_cst, k_noO, k_someO, k_someS, k_slc, k_slcS, k_slcS1, k_slcS2, k_items, k_itemsS, k_itL, k_itT, k_rng, k_rngS, k_lc, k_lcS2, k_gx, k_gxS, k_sg, k_sgS, k_yes, k_nilE, k_vaE, k_owE, k_vaES, k_owES, k_vaES2, k_whT, k_whF, k_wh2, k_st1, k_st2, k_st3, k_sE0, k_sE, k_wip0, k_wip, k_itemsG, k_itemsGS, k_iwL, k_iwT, k_dc, k_dcS, k_dcS2, k_newD, k_get1, k_get2, k_get1S, k_get1S2, k_get2S, k_get2S2, k_get2S3, k_enum, k_enumS, k_zip, k_zipS, k_zipS2, k_d1, k_d1S, k_d1S2, k_frz1, k_frz2, k_frz3, k_run, k_outR, k_outN, k_setG, k_setGS, k_setGS2, k_tstB, List.getElem?_cons_zero, List.getElem?_cons_succ, List.set_cons_zero, List.set_cons_succ, List.length_cons, List.length_nil, Nat.zero_add, Nat.reduceAdd, Nat.reduceSub, if_true, reduceIte, Bool.false_eq_true, Bool.true_eq_false, hc n ps l st V.hi], fun _ => rfl⟩
  have m1 : ((gath n ps).map lD).length ≤ 1000000 := by rw [List.length_map]; omega
  have it : itemsW (.list ((gath n ps).map lD)) = some ((gath n ps).map lD) := rfl
  simp -implicitDefEqProofs only [R_full_gatherings, t_full_gatherings, k_seq, k_seqN, k_seqR, k_seqB, k_seqC, k_upS, k_upBS, k_upRS, k_upLS, k_upOS, k_nx, k_bk, k_ct, k_asg, k_asgS, k_own, k_ownS, k_if, k_ifT, k_ifF, k_ifB, k_rt, k_rtS, k_rtN, k_ex, k_exS, k_app, k_appS, k_for, k_forS, k_frz, k_par, k_parS, k_set, k_setS, k_setS2, k_bin, k_binS, k_binS2, k_un, k_unS, k_not, k_and, k_or, k_andS, k_orS, k_thenT, k_thenF, k_thenB, k_elseT, k_elseF, k_elseB, k_tst, k_andB, k_orB, k_notB, k_andBS, k_orBS, k_notBS, k_ite, k_iteB, k_disp, k_dispS, k_nil, k_cons, k_consS, k_consS2, k_star, k_starS, k_starS1, k_starS2, k_len, k_lenS, k_call, k_callS, k_callD, k_drS, k_drO, k_blt, k_bltS, k_va, k_tv, k_vaO, k_tvO, k_tvOw, k_cst, k_noO, k_someO, k_someS, k_slc, k_slcS, k_slcS1, k_slcS2, k_items, k_itemsS, k_itL, k_itT, k_rng, k_rngS, k_lc, k_lcS2, k_gx, k_gxS, k_sg, k_sgS, k_yes, k_nilE, k_vaE, k_owE, k_vaES, k_owES, k_vaES2, k_whT, k_whF, k_wh2, k_st1, k_st2, k_st3, k_sE0, k_sE, k_wip0, k_wip, k_itemsG, k_itemsGS, k_iwL, k_iwT, k_dc, k_dcS, k_dcS2, k_newD, k_get1, k_get2, k_get1S, k_get1S2, k_get2S, k_get2S2, k_get2S3, k_enum, k_enumS, k_zip, k_zipS, k_zipS2, k_d1, k_d1S, k_d1S2, k_frz1, k_frz2, k_frz3, k_run, k_outR, k_outN, k_setG, k_setGS, k_setGS2, k_tstB, List.getElem?_cons_zero, List.getElem?_cons_succ, List.set_cons_zero, List.set_cons_succ, List.length_cons, List.length_nil, Nat.zero_add, Nat.reduceAdd, Nat.reduceSub, if_true, reduceIte, Bool.false_eq_true, Bool.true_eq_false, ha n ps st V, hb n ps st V, it, k_lcS m1, h1, tup_L]
  rfl
def topL (n : Nat) (ps : List (Int × Int)) : List (List Int) := (gath n ps).filter fun l => l.length == mxL (gath n ps)
def P_largest (f : SemF) : Prop := ∀ (n : Nat) ps st, Web n ps → f [wD n ps] st = some (tD lD (topL n ps), st)
theorem ok_largest {a b : SemF} (ha : P_need_web a) (hb : P_all_gatherings b) : P_largest (r_largest a b) := fun n ps st V => by
  have G := gath_len V
  have h1 := lc_filter (E := lD) (tg := .nm 3) (tt := yesB) (te := x_largest_1) (ρ := [some (.va (wD n ps)), some (.va (.list ((gath n ps).map lD))), none, none]) (st := st) (fun _ => true) (fun l : List Int => PyData.int (l.length : Nat)) (gath n ps) fun l hl => ⟨_, rfl, rfl, fun _ => by simp only [x_largest_1, k_seq, k_seqN, k_seqR, k_seqB, k_seqC, k_upS, k_upBS, k_upRS, k_upLS, k_upOS, k_nx, k_bk, k_ct, k_asg, k_asgS, k_own, k_ownS, k_if, k_ifT, k_ifF, k_ifB, k_rt, k_rtS, k_rtN, k_ex, k_exS, k_app, k_appS, k_for, k_forS, k_frz, k_par, k_parS, k_set, k_setS, k_setS2, k_bin, k_binS, k_binS2, k_un, k_unS, k_not, k_and, k_or, k_andS, k_orS, k_thenT, k_thenF, k_thenB, k_elseT, k_elseF, k_elseB, k_tst, k_andB, k_orB, k_notB, k_andBS, k_orBS, k_notBS, k_ite, k_iteB, k_disp, k_dispS, k_nil, k_cons, k_consS, k_consS2, k_star, k_starS, k_starS1, k_starS2, k_len, k_lenS, k_call, k_callS, k_callD, k_drS, k_drO, k_blt, k_bltS, k_va, k_tv, k_vaO, k_tvO, k_tvOw, k_cst, k_noO, k_someO, k_someS, k_slc, k_slcS, k_slcS1, k_slcS2, k_items, k_itemsS, k_itL, k_itT, k_rng, k_rngS, k_lc, k_lcS2, k_gx, k_gxS, k_sg, k_sgS, k_yes, k_nilE, k_vaE, k_owE, k_vaES, k_owES, k_vaES2, k_whT, k_whF, k_wh2, k_st1, k_st2, k_st3, k_sE0, k_sE, k_wip0, k_wip, k_itemsG, k_itemsGS, k_iwL, k_iwT, k_dc, k_dcS, k_dcS2, k_newD, k_get1, k_get2, k_get1S, k_get1S2, k_get2S, k_get2S2, k_get2S3, k_enum, k_enumS, k_zip, k_zipS, k_zipS2, k_d1, k_d1S, k_d1S2, k_frz1, k_frz2, k_frz3, k_run, k_outR, k_outN, k_setG, k_setGS, k_setGS2, k_tstB, List.getElem?_cons_zero, List.getElem?_cons_succ, List.set_cons_zero, List.set_cons_succ, List.length_cons, List.length_nil, Nat.zero_add, Nat.reduceAdd, Nat.reduceSub, if_true, reduceIte, Bool.false_eq_true, Bool.true_eq_false, len_lD]⟩
  rw [List.filter_eq_self.mpr fun _ _ => rfl] at h1
  have mx := max_lens (gath_ne V) (by omega : (gath n ps).length ≤ 1000000)
  have h2 := lc_filter (E := lD) (tg := .nm 3) (tt := c_largest_2) (te := x_largest_3) (ρ := [some (.va (wD n ps)), some (.va (.list ((gath n ps).map lD))), some (.va (.int (mxL (gath n ps) : Nat))), none]) (st := st) (fun l => l.length == mxL (gath n ps)) lD (gath n ps) fun l hl => ⟨_, rfl, by
    have e : (decide ((l.length : Int) = (mxL (gath n ps) : Nat)) : Bool) = (l.length == mxL (gath n ps)) := by
      rw [Bool.eq_iff_iff, decide_eq_true_eq, beq_iff_eq]
      omega
    simp only [c_largest_2, k_seq, k_seqN, k_seqR, k_seqB, k_seqC, k_upS, k_upBS, k_upRS, k_upLS, k_upOS, k_nx, k_bk, k_ct, k_asg, k_asgS, k_own, k_ownS, k_if, k_ifT, k_ifF, k_ifB, k_rt, k_rtS, k_rtN, k_ex, k_exS, k_app, k_appS, k_for, k_forS, k_frz, k_par, k_parS, k_set, k_setS, k_setS2, k_bin, k_binS, k_binS2, k_un, k_unS, k_not, k_and, k_or, k_andS, k_orS, k_thenT, k_thenF, k_thenB, k_elseT, k_elseF, k_elseB, k_tst, k_andB, k_orB, k_notB, k_andBS, k_orBS, k_notBS, k_ite, k_iteB, k_disp, k_dispS, k_nil, k_cons, k_consS, k_consS2, k_star, k_starS, k_starS1, k_starS2, k_len, k_lenS, k_call, k_callS, k_callD, k_drS, k_drO, k_blt, k_bltS, k_va, k_tv, k_vaO, k_tvO, k_tvOw, k_cst, k_noO, k_someO, k_someS, k_slc, k_slcS, k_slcS1, k_slcS2, k_items, k_itemsS, k_itL, k_itT, k_rng, k_rngS, k_lc, k_lcS2, k_gx, k_gxS, k_sg, k_sgS, k_yes, k_nilE, k_vaE, k_owE, k_vaES, k_owES, k_vaES2, k_whT, k_whF, k_wh2, k_st1, k_st2, k_st3, k_sE0, k_sE, k_wip0, k_wip, k_itemsG, k_itemsGS, k_iwL, k_iwT, k_dc, k_dcS, k_dcS2, k_newD, k_get1, k_get2, k_get1S, k_get1S2, k_get2S, k_get2S2, k_get2S3, k_enum, k_enumS, k_zip, k_zipS, k_zipS2, k_d1, k_d1S, k_d1S2, k_frz1, k_frz2, k_frz3, k_run, k_outR, k_outN, k_setG, k_setGS, k_setGS2, k_tstB, List.getElem?_cons_zero, List.getElem?_cons_succ, List.set_cons_zero, List.set_cons_succ, List.length_cons, List.length_nil, Nat.zero_add, Nat.reduceAdd, Nat.reduceSub, if_true, reduceIte, Bool.false_eq_true, Bool.true_eq_false, len_lD, cG_eq, e], fun _ => rfl⟩
  have m1 : ((gath n ps).map lD).length ≤ 1000000 := by rw [List.length_map]; omega
  have it : itemsW (.list ((gath n ps).map lD)) = some ((gath n ps).map lD) := rfl
  simp -implicitDefEqProofs only [R_largest, t_largest, k_seq, k_seqN, k_seqR, k_seqB, k_seqC, k_upS, k_upBS, k_upRS, k_upLS, k_upOS, k_nx, k_bk, k_ct, k_asg, k_asgS, k_own, k_ownS, k_if, k_ifT, k_ifF, k_ifB, k_rt, k_rtS, k_rtN, k_ex, k_exS, k_app, k_appS, k_for, k_forS, k_frz, k_par, k_parS, k_set, k_setS, k_setS2, k_bin, k_binS, k_binS2, k_un, k_unS, k_not, k_and, k_or, k_andS, k_orS, k_thenT, k_thenF, k_thenB, k_elseT, k_elseF, k_elseB, k_tst, k_andB, k_orB, k_notB, k_andBS, k_orBS, k_notBS, k_ite, k_iteB, k_disp, k_dispS, k_nil, k_cons, k_consS, k_consS2, k_star, k_starS, k_starS1, k_starS2, k_len, k_lenS, k_call, k_callS, k_callD, k_drS, k_drO, k_blt, k_bltS, k_va, k_tv, k_vaO, k_tvO, k_tvOw, k_cst, k_noO, k_someO, k_someS, k_slc, k_slcS, k_slcS1, k_slcS2, k_items, k_itemsS, k_itL, k_itT, k_rng, k_rngS, k_lc, k_lcS2, k_gx, k_gxS, k_sg, k_sgS, k_yes, k_nilE, k_vaE, k_owE, k_vaES, k_owES, k_vaES2, k_whT, k_whF, k_wh2, k_st1, k_st2, k_st3, k_sE0, k_sE, k_wip0, k_wip, k_itemsG, k_itemsGS, k_iwL, k_iwT, k_dc, k_dcS, k_dcS2, k_newD, k_get1, k_get2, k_get1S, k_get1S2, k_get2S, k_get2S2, k_get2S3, k_enum, k_enumS, k_zip, k_zipS, k_zipS2, k_d1, k_d1S, k_d1S2, k_frz1, k_frz2, k_frz3, k_run, k_outR, k_outN, k_setG, k_setGS, k_setGS2, k_tstB, List.getElem?_cons_zero, List.getElem?_cons_succ, List.set_cons_zero, List.set_cons_succ, List.length_cons, List.length_nil, Nat.zero_add, Nat.reduceAdd, Nat.reduceSub, if_true, reduceIte, Bool.false_eq_true, Bool.true_eq_false, ha n ps st V, hb n ps st V, it, k_lcS m1, h1, mx, h2, tup_L]
  rfl
end W
/-! gatherings counted -/
namespace W
open PySem PySem.Spec PyProof.Rows Fo Th
theorem gath_nd (n : Nat) (ps : List (Int × Int)) : (gath n ps).Nodup := (lots_nodup n).filter _
theorem mem_gathL {n : Nat} {ps : List (Int × Int)} {l : List Int} : l ∈ gath n ps ↔ (l.Pairwise (· < ·) ∧ Wi n l) ∧ isGB ps l = true := by
  unfold gath
  rw [List.mem_filter, mem_lots]
theorem isGB_all {ps : List (Int × Int)} {l : List Int} : isGB ps l = true ↔ ∀ p ∈ ps, ¬ (p.1 ∈ l ∧ p.2 ∈ l) := by
  unfold isGB
  rw [Bool.not_eq_true', List.any_eq_false]
  constructor
  · intro h p hp ⟨h1, h2⟩
    exact h p hp (show (memb p.1 l && memb p.2 l) = true by rw [memb_iff.mpr h1, memb_iff.mpr h2]; rfl)
  · intro h p hp q
    have q : (memb p.1 l && memb p.2 l) = true := q
    rw [Bool.and_eq_true, memb_iff, memb_iff] at q
    exact h p hp q
theorem cnt_eq (n : Nat) (ps : List (Int × Int)) (s : Nat) : cntL (gath n ps) s = (((lots n).filter fun l => l.length == s).filter (isGB ps)).length := by
  unfold cntL gath
  rw [List.filter_filter, List.filter_filter]
  refine congrArg List.length (List.filter_congr fun l _ => Bool.and_comm _ _)
theorem in8 {n : Nat} {ps : List (Int × Int)} (V : Web n ps) : n ∈ List.range 8 := List.mem_range.mpr (by have := V.hi; omega)
theorem cnt0 {n : Nat} {ps : List (Int × Int)} (V : Web n ps) : cntL (gath n ps) 0 = 1 := by
  rw [cnt_eq, lots0 n (in8 V)]
  have : isGB ps [] = true := isGB_all.mpr fun p _ h => by cases h.1
  rw [List.filter_cons, if_pos this]
  rfl
theorem cnt1 {n : Nat} {ps : List (Int × Int)} (V : Web n ps) : cntL (gath n ps) 1 = n := by
  rw [cnt_eq, lots1 n (in8 V), List.filter_eq_self.mpr, List.length_map, ran_length]
  intro l hl
  obtain ⟨x, _, rfl⟩ := List.mem_map.mp hl
  refine isGB_all.mpr fun p hp ⟨h1, h2⟩ => ?_
  rw [List.mem_singleton] at h1 h2
  have := V.lts p hp
  omega
theorem cnt2 {n : Nat} {ps : List (Int × Int)} (V : Web n ps) : cntL (gath n ps) 2 + ps.length = n * (n - 1) / 2 := by
  have e : (((prs n).map twoL).filter (isGB ps)).length = ((prs n).filter fun p => !memb p ps).length := by
    rw [List.filter_map, List.length_map]
    refine congrArg List.length (List.filter_congr fun p hp => ?_)
    have hp := mem_prs.mp hp
    show isGB ps (twoL p) = !memb p ps
    rw [Bool.eq_iff_iff, isGB_all, Bool.not_eq_true', memb_no]
    constructor
    · intro h hm
      exact h p hm ⟨by simp [twoL], by simp [twoL]⟩
    · intro h q hq ⟨h1, h2⟩
      have hq2 := V.lts q hq
      have h1 : q.1 ∈ [p.1, p.2] := h1
      have h2 : q.2 ∈ [p.1, p.2] := h2
      simp only [List.mem_cons, List.not_mem_nil, or_false] at h1 h2
      have : q = p := by
        obtain ⟨a, b⟩ := q
        obtain ⟨c, d⟩ := p
        simp only at hq2 hp h1 h2
        have : a = c := by omega
        have : b = d := by omega
        simp [*]
      exact h (this ▸ hq)
  have e2 : ((prs n).filter fun p => memb p ps).length = ps.length := len_same ((prs_nd n (in8 V)).filter _) V.nd fun p => by
    rw [List.mem_filter, mem_prs, memb_iff]
    constructor
    · exact fun h => h.2
    · intro h
      have := V.at_ p h
      exact ⟨by omega, h⟩
  have sp := split_len (fun p => memb p ps) (prs n)
  rw [prs_len n (in8 V), e2] at sp
  rw [cnt_eq, lots2 n (in8 V), e]
  omega
theorem one_gath {n : Nat} {ps : List (Int × Int)} (V : Web n ps) : [(0 : Int)] ∈ gath n ps := mem_gathL.mpr ⟨⟨List.pairwise_singleton _ _, fun x hx => by
  rw [List.mem_singleton.mp hx]
  have := V.lo
  omega⟩, isGB_all.mpr fun p hp ⟨h1, h2⟩ => by
    rw [List.mem_singleton] at h1 h2
    have := V.lts p hp
    omega⟩
theorem mx1 {n : Nat} {ps : List (Int × Int)} (V : Web n ps) : 1 ≤ mxL (gath n ps) := mxL_ge (one_gath V)
theorem sum_int (f : Nat → Nat) : ∀ l : List Nat, (l.map fun s => (f s : Int)).sum = (((l.map f).sum : Nat) : Int)
  | [] => rfl
  | a :: l => by
    rw [List.map_cons, List.map_cons, List.sum_cons, List.sum_cons, sum_int f l]
    omega
theorem cnts_sum (n : Nat) (ps : List (Int × Int)) : (cntsL n ps).sum = ((gath n ps).length : Nat) := by
  unfold cntsL
  rw [sum_int, sum_cnt (gath n ps) (mxL (gath n ps)) fun l hl => mxL_ge hl]
theorem cnts_at {n : Nat} {ps : List (Int × Int)} {s : Nat} (h : s ≤ mxL (gath n ps)) : (cntsL n ps)[s]? = some (cntL (gath n ps) s : Int) := by
  unfold cntsL
  rw [List.getElem?_map, List.getElem?_range (by omega)]
  rfl
theorem cnts_len (n : Nat) (ps : List (Int × Int)) : (cntsL n ps).length = mxL (gath n ps) + 1 := by unfold cntsL; simp
theorem top_len (n : Nat) (ps : List (Int × Int)) : (topL n ps).length = cntL (gath n ps) (mxL (gath n ps)) := rfl
/-- the largest fill -/
theorem top_fill {n : Nat} {ps : List (Int × Int)} (V : Web n ps) {l : List Int} (h : l ∈ topL n ps) : fillL n ps l = true := by
  obtain ⟨hg, hl⟩ := List.mem_filter.mp h
  rw [beq_iff_eq] at hl
  obtain ⟨P, hP, rfl⟩ := (mem_gath V).mp hg
  unfold fillL
  rw [List.all_eq_true]
  intro x hx
  obtain ⟨hx, hn⟩ := List.mem_filter.mp hx
  obtain ⟨x0, x1⟩ := mem_ran.mp hx
  have hPx : P x = false := by
    cases e : P x with
    | false => rfl
    | true =>
      rw [memb_iff.mpr (mem_lot.mpr ⟨⟨x0, x1⟩, e⟩)] at hn
      cases hn
  cases e : ((lot n (foe ps x)).any fun y => memb y (lot n P)) with
  | true => rfl
  | false =>
    exfalso
    rw [List.any_eq_false] at e
    have hno : ∀ y : Int, 0 ≤ y → y < n → P y = true → foe ps x y = false := fun y y0 y1 hy => by
      cases f : foe ps x y with
      | false => rfl
      | true => exact absurd (memb_iff.mpr (mem_lot.mpr ⟨⟨y0, y1⟩, hy⟩)) (e y (mem_lot.mpr ⟨⟨y0, y1⟩, f⟩))
    have hG : Gth n (foe ps) fun y => P y || decide (y = x) := fun a b a0 a1 b0 b1 ha hb => by
      rw [Bool.or_eq_true, decide_eq_true_eq] at ha hb
      rcases ha with ha | rfl
      · rcases hb with hb | rfl
        · exact hP a b a0 a1 b0 b1 ha hb
        · rw [V.isFoe.sym]; exact hno a a0 a1 ha
      · rcases hb with hb | rfl
        · exact hno b b0 b1 hb
        · exact V.isFoe.irr _
    have h1 := mxL_ge ((mem_gath V).mpr ⟨_, hG, rfl⟩)
    have h2 := lot_more x0 x1 hPx
    omega
/-- a person left out -/
def lessP (m : Nat) (ps : List (Int × Int)) : List (Int × Int) := ps.filter fun p => !(decide ((m : Int) = p.1) || decide ((m : Int) = p.2))
theorem less_web {m : Nat} {ps : List (Int × Int)} (V : Web (m + 1) ps) (h : 1 ≤ m) : Web m (lessP m ps) := ⟨h, by have := V.hi; omega, fun p hp => by
  obtain ⟨h1, h2⟩ := List.mem_filter.mp hp
  have := V.at_ p h1
  simp only [Bool.not_eq_true', Bool.or_eq_false_iff, decide_eq_false_iff_not] at h2
  omega, V.lt.filter _, Nat.le_trans (List.length_filter_le _ _) V.len⟩
def farL (m : Nat) (ps : List (Int × Int)) : List (List Int) := (gath m (lessP m ps)).filter fun l => decide ((l.filter fun k => memb k (lot (m + 1) (foe ps m))) = [])
theorem less_isGB {m : Nat} {ps : List (Int × Int)} {l : List Int} (h : (m : Int) ∉ l) : isGB (lessP m ps) l = isGB ps l := by
  rw [Bool.eq_iff_iff, isGB_all, isGB_all]
  constructor
  · intro g p hp ⟨h1, h2⟩
    refine g p (List.mem_filter.mpr ⟨hp, ?_⟩) ⟨h1, h2⟩
    simp only [Bool.not_eq_true', Bool.or_eq_false_iff, decide_eq_false_iff_not]
    exact ⟨fun e => h (e ▸ h1), fun e => h (e ▸ h2)⟩
  · intro g p hp
    exact g p (List.mem_filter.mp hp).1
theorem snoc_of {m : Int} {l : List Int} (h : l.Pairwise (· < ·)) (hm : m ∈ l) (hl : ∀ x ∈ l, x ≤ m) : l = (l.filter fun x => !decide (x = m)) ++ [m] := by
  refine pw_ext h ?_ fun x => ?_
  · rw [List.pairwise_append]
    refine ⟨h.filter _, List.pairwise_singleton _ _, fun a ha b hb => ?_⟩
    obtain ⟨ha, hn⟩ := List.mem_filter.mp ha
    rw [List.mem_singleton] at hb
    have := hl a ha
    have hn : ¬ a = m := by simpa using hn
    omega
  · rw [List.mem_append, List.mem_filter, List.mem_singleton]
    constructor
    · intro hx
      by_cases e : x = m
      · exact .inr e
      · exact .inl ⟨hx, by simpa using e⟩
    · rintro (h | rfl)
      · exact h.1
      · exact hm
theorem gath_less {m : Nat} {ps : List (Int × Int)} (V : Web (m + 1) ps) : (gath (m + 1) ps).length = (gath m (lessP m ps)).length + (farL m ps).length := by
  have sp := split_len (fun l => memb (m : Int) l) (gath (m + 1) ps)
  have e1 : ((gath (m + 1) ps).filter fun l => !memb (m : Int) l).length = (gath m (lessP m ps)).length := len_same ((gath_nd _ _).filter _) (gath_nd _ _) fun l => by
    rw [List.mem_filter, mem_gathL, mem_gathL, Bool.not_eq_true', memb_no]
    constructor
    · rintro ⟨⟨⟨h1, h2⟩, h3⟩, h4⟩
      refine ⟨⟨h1, fun x hx => ?_⟩, by rw [less_isGB h4]; exact h3⟩
      have := h2 x hx
      have : x ≠ m := fun e => h4 (e ▸ hx)
      omega
    · rintro ⟨⟨h1, h2⟩, h3⟩
      have h4 : (m : Int) ∉ l := fun h => by have := h2 _ h; omega
      exact ⟨⟨⟨h1, fun x hx => by have := h2 x hx; omega⟩, by rw [← less_isGB h4]; exact h3⟩, h4⟩
  have e2 : ((gath (m + 1) ps).filter fun l => memb (m : Int) l).length = ((farL m ps).map fun l => l ++ [(m : Int)]).length := by
    refine len_same ((gath_nd _ _).filter _) ?_ fun l => ?_
    · have hd : (farL m ps).Nodup := (gath_nd _ _).filter _
      unfold List.Nodup at hd ⊢
      rw [List.pairwise_map]
      exact hd.imp fun h e => h (List.append_cancel_right e)
    · rw [List.mem_filter, mem_gathL, memb_iff, List.mem_map]
      constructor
      · rintro ⟨⟨⟨h1, h2⟩, h3⟩, h4⟩
        have es := snoc_of h1 h4 fun x hx => by have := h2 x hx; omega
        have hm' : (m : Int) ∉ (l.filter fun x => !decide (x = (m : Int))) := fun h => by
          have := (List.mem_filter.mp h).2
          simp at this
        refine ⟨l.filter fun x => !decide (x = (m : Int)), List.mem_filter.mpr ⟨mem_gathL.mpr ⟨⟨h1.filter _, fun x hx => ?_⟩, ?_⟩, ?_⟩, es.symm⟩
        · obtain ⟨hx, hn⟩ := List.mem_filter.mp hx
          have := h2 x hx
          have hn : ¬ x = (m : Int) := by simpa using hn
          omega
        · rw [less_isGB hm', isGB_all]
          exact fun p hp ⟨q1, q2⟩ => isGB_all.mp h3 p hp ⟨(List.mem_filter.mp q1).1, (List.mem_filter.mp q2).1⟩
        · rw [decide_eq_true_eq, List.filter_eq_nil_iff]
          intro k hk hf
          obtain ⟨hk, _⟩ := List.mem_filter.mp hk
          have hf := (mem_lot.mp (memb_iff.mp hf)).2
          obtain ⟨P, hP, el⟩ := (mem_gath V).mp (mem_gathL.mpr ⟨⟨h1, h2⟩, h3⟩)
          rw [el] at hk h4
          have a := mem_lot.mp hk
          have b := mem_lot.mp h4
          rw [hP m k b.1.1 b.1.2 a.1.1 a.1.2 b.2 a.2] at hf
          cases hf
      · rintro ⟨l', hl', rfl⟩
        obtain ⟨hg, hf⟩ := List.mem_filter.mp hl'
        obtain ⟨⟨h1, h2⟩, h3⟩ := mem_gathL.mp hg
        rw [decide_eq_true_eq, List.filter_eq_nil_iff] at hf
        have h4 : (m : Int) ∉ l' := fun h => by have := h2 _ h; omega
        rw [less_isGB h4] at h3
        refine ⟨⟨⟨?_, fun x hx => ?_⟩, isGB_all.mpr fun p hp ⟨q1, q2⟩ => ?_⟩, by simp⟩
        · rw [List.pairwise_append]
          refine ⟨h1, List.pairwise_singleton _ _, fun a ha b hb => ?_⟩
          rw [List.mem_singleton] at hb
          have := h2 a ha
          omega
        · rcases List.mem_append.mp hx with h | h
          · have := h2 x h; omega
          · rw [List.mem_singleton] at h; omega
        · have hp2 := V.at_ p hp
          rcases List.mem_append.mp q1 with a | a
          · rcases List.mem_append.mp q2 with b | b
            · exact isGB_all.mp h3 p hp ⟨a, b⟩
            · rw [List.mem_singleton] at b
              have hx := h2 _ a
              refine hf p.1 a (memb_iff.mpr (mem_lot.mpr ⟨by omega, ?_⟩))
              unfold foe
              rw [memb_iff, Int.min_eq_right (by omega), Int.max_eq_left (by omega), ← b]
              exact hp
          · rw [List.mem_singleton] at a
            omega
  rw [List.length_map] at e2
  omega
end W
/-! special webs -/
namespace W
open PySem PySem.Spec PyProof.Rows Fo Th
def rowP (n : Nat) : List (Int × Int) := (List.range (n - 1)).map fun (k : Nat) => ((k : Int), (k : Int) + 1)
def ringP (n : Nat) : List (Int × Int) := match rowP n with
  | a :: b :: r => a :: (0, (n : Int) - 1) :: b :: r
  | l => l
def fullP (n : Nat) : List (Int × Int) := (List.range n).flatMap fun (i : Nat) => (List.range (n - i - 1)).map fun (k : Nat) => ((i : Int), (i : Int) + (k : Int) + 1)
instance : DecidableRel plt := fun p q => by unfold plt; exact inferInstance
def webB (n : Nat) (ps : List (Int × Int)) : Bool := decide (1 ≤ n) && decide (n ≤ 7) && (ps.all fun p => decide (0 ≤ p.1) && decide (p.1 + 1 ≤ p.2) && decide (p.2 ≤ (n : Int) - 1)) && decide (ps.Pairwise plt) && decide (ps.length ≤ 49)
theorem web_of {n : Nat} {ps : List (Int × Int)} (h : webB n ps = true) : Web n ps := by
  unfold webB at h
  simp only [Bool.and_eq_true, List.all_eq_true, decide_eq_true_eq] at h
  exact ⟨h.1.1.1.1, h.1.1.1.2, fun p hp => ⟨(h.1.1.2 p hp).1.1, (h.1.1.2 p hp).1.2, (h.1.1.2 p hp).2⟩, h.1.2, h.2⟩
theorem web_fullP : ∀ n ∈ [1, 2, 3, 4, 5, 6, 7], webB n (fullP n) = true := by decide +kernel
theorem web_rowP : ∀ n ∈ [1, 2, 3, 4, 5, 6, 7], webB n (rowP n) = true := by decide +kernel
theorem web_ringP : ∀ n ∈ [1, 2, 3, 4, 5, 6, 7], webB n (ringP n) = true := by decide +kernel
theorem of17 {p : Nat → Prop} (h1 : p 1) (h2 : p 2) (h3 : p 3) (h4 : p 4) (h5 : p 5) (h6 : p 6) (h7 : p 7) (n : Nat) (a : 1 ≤ n) (b : n ≤ 7) : p n := by
  have : n = 1 ∨ n = 2 ∨ n = 3 ∨ n = 4 ∨ n = 5 ∨ n = 6 ∨ n = 7 := by omega
  rcases this with rfl | rfl | rfl | rfl | rfl | rfl | rfl <;> assumption
theorem in17 {n : Nat} (a : 1 ≤ n) (b : n ≤ 7) : n ∈ [1, 2, 3, 4, 5, 6, 7] := by
  have : n = 1 ∨ n = 2 ∨ n = 3 ∨ n = 4 ∨ n = 5 ∨ n = 6 ∨ n = 7 := by omega
  rcases this with rfl | rfl | rfl | rfl | rfl | rfl | rfl <;> decide
def P_special (ps : Nat → List (Int × Int)) (f : SemF) : Prop := ∀ n : Nat, 1 ≤ n → n ≤ 7 → ∀ st, f [.int (n : Int)] st = some (wD n (ps n), st)
theorem kk_full : P_special fullP (r_full_web (r_need_size r_is_in)) := fun n a b => of17 (p := fun n => ∀ st, r_full_web (r_need_size r_is_in) [.int (n : Int)] st = some (wD n (fullP n), st)) (fun _ => by kernel_rfl) (fun _ => by kernel_rfl) (fun _ => by kernel_rfl) (fun _ => by kernel_rfl) (fun _ => by kernel_rfl) (fun _ => by kernel_rfl) (fun _ => by kernel_rfl) n a b
theorem kk_row : P_special rowP (r_row_web (r_need_size r_is_in)) := fun n a b => of17 (p := fun n => ∀ st, r_row_web (r_need_size r_is_in) [.int (n : Int)] st = some (wD n (rowP n), st)) (fun _ => by kernel_rfl) (fun _ => by kernel_rfl) (fun _ => by kernel_rfl) (fun _ => by kernel_rfl) (fun _ => by kernel_rfl) (fun _ => by kernel_rfl) (fun _ => by kernel_rfl) n a b
theorem kk_ring : P_special ringP (r_ring_web (r_need_size r_is_in)) := fun n a b => of17 (p := fun n => ∀ st, r_ring_web (r_need_size r_is_in) [.int (n : Int)] st = some (wD n (ringP n), st)) (fun _ => by kernel_rfl) (fun _ => by kernel_rfl) (fun _ => by kernel_rfl) (fun _ => by kernel_rfl) (fun _ => by kernel_rfl) (fun _ => by kernel_rfl) (fun _ => by kernel_rfl) n a b
theorem full_full : ∀ n ∈ [1, 2, 3, 4, 5, 6, 7], (gath n (fullP n)).filter (fillL n (fullP n)) = (ran n).map fun x => [x] := by decide +kernel
theorem row_top : ∀ n ∈ [1, 2, 3, 4, 5, 6, 7], mxL (gath n (rowP n)) = (n + 1) / 2 := by decide +kernel
theorem ring_top : ∀ n ∈ [3, 4, 5, 6, 7], mxL (gath n (ringP n)) = n / 2 := by decide +kernel
end W
namespace Hd
open PySem PySem.Spec PyProof.Rows L2
def top (i : Nat) : Stmt := PySem.Challenge.pw_foescome_k81_across_sizes.main.body.getD i (.Pass ⟨0, 0, 0, 0⟩)
def dfn (x : Str) (i : Nat) : He.DefD := ⟨(x, none), x, x, defArgs (top i), defBody (top i), defScope (top i), [], []⟩
def fn : List He.DefD := [dfn "is_in" 7, dfn "need_web" 8, dfn "are_foes" 9, dfn "foes" 10, dfn "is_lot" 11, dfn "is_gathering" 12, dfn "need_gathering" 13, dfn "all_lots" 14, dfn "all_gatherings" 15, dfn "gathering_count" 16, dfn "counts" 18, dfn "size_counts" 19, dfn "fills" 20, dfn "is_full" 21, dfn "full_gatherings" 22, dfn "largest" 23, dfn "need_size" 25, dfn "row_web" 26, dfn "ring_web" 27, dfn "full_web" 28, dfn "_law_taken" 30, dfn "_law_web" 33, dfn "_law_foes" 34, dfn "_law_lots" 37, dfn "_law_is_gathering" 38, dfn "_law_gatherings" 39, dfn "law" 43]
def fa : List He.Fa := [.glo "is_in", .glo "need_web", .glo "are_foes", .glo "foes", .glo "is_lot", .glo "is_gathering", .glo "need_gathering", .glo "all_lots", .glo "all_gatherings", .glo "gathering_count", .glo "counts", .glo "size_counts", .glo "fills", .glo "is_full", .glo "full_gatherings", .glo "largest", .glo "need_size", .glo "row_web", .glo "ring_web", .glo "full_web", .glo "_law_taken", .glo "_law_web", .glo "_law_foes", .glo "_law_lots", .glo "_law_is_gathering", .glo "_law_gatherings", .glo "law", .free "all", .free "any", .free "bool", .free "int", .free "isinstance", .free "len", .free "max", .free "min", .free "range", .free "sorted", .free "sum", .free "tuple", .int "MOST_PEOPLE" 7]
def tf : List He.Defn := [("need_web", none), ("is_lot", none), ("is_gathering", none), ("fills", none)]
def ex (K : PySem.W.Frag) : Bool := true
abbrev R : PySem.W.OpenRow := PySem.W.OpenLaw.row PySem.Challenge.rw_foescome_k81_across_sizes
def lo0 : List Str := ["FoeError", "BadWeb", "BadGathering", "BadSize", "MOST_PEOPLE", "is_in", "need_web", "are_foes", "foes", "is_lot", "is_gathering", "need_gathering", "all_lots", "all_gatherings", "gathering_count", "counts", "size_counts", "fills", "is_full", "full_gatherings"]
def lo1 : List Str := ["largest", "need_size", "row_web", "ring_web", "full_web", "_law_taken", "_law_pick", "_law_alike", "_law_web", "_law_foes", "_law_come", "_law_done", "_law_lots", "_law_is_gathering", "_law_gatherings", "_law_row", "_law_deed", "_law_made"]
def lo : List Str := lo0 ++ lo1
abbrev hk : PySem.W.Hook := He.hookX 5 fa fn [] tf ex
def ob (s : PySem.W.SharedT) : He.AlX := He.obsX 5 fa fn [] tf ex (HandSHeadRun.getT s)
theorem ob_eq (s : PySem.W.SharedT) : ob s = hk.obs s.abs := He.obsX_eq (HandSHeadRun.getT_eq s)
theorem run (w : World) : HandSHeadRun.RunEq R (PySem.W.view R.prog [43]) hk ob 4000 lo w := by
  intro os
  kernel_rfl
end Hd
namespace Hd
open PySem PySem.Spec PyProof.Rows L2
def cs : List (Str × Int) := Fo.cisOf fa
def bs : List Str := Fo.bltsOf fa
def F0 : List (Str × Fo.FnI) := []
def C1 : Fo.Cfg := ⟨["value", "least", "most"], defScope (top 7), F0, cs, bs, false, false, fun _ => true, none⟩
def s_is_in : Fo.SemF := Fo.semD C1 [] false (defBody (top 7))
def F1 : List (Str × Fo.FnI) := ("is_in", ⟨false, 3, s_is_in⟩) :: F0
def C2 : Fo.Cfg := ⟨["web", "pair", "k"], defScope (top 8), F1, cs, bs, true, false, fun _ => true, none⟩
def s_need_web : Fo.SemF := Fo.semD C2 [] false (defBody (top 8))
def F2 : List (Str × Fo.FnI) := ("need_web", ⟨false, 1, s_need_web⟩) :: F1
def C3 : Fo.Cfg := ⟨["web", "one", "other"], defScope (top 9), F2, cs, bs, false, false, fun _ => true, none⟩
def s_are_foes : Fo.SemF := Fo.semD C3 [] false (defBody (top 9))
def F3 : List (Str × Fo.FnI) := ("are_foes", ⟨false, 3, s_are_foes⟩) :: F2
def C4 : Fo.Cfg := ⟨["web", "person", "other"], defScope (top 10), F3, cs, bs, false, false, fun _ => true, none⟩
def s_foes : Fo.SemF := Fo.semD C4 [] false (defBody (top 10))
def F4 : List (Str × Fo.FnI) := ("foes", ⟨false, 2, s_foes⟩) :: F3
def C5 : Fo.Cfg := ⟨["web", "value", "k", "one"], defScope (top 11), F4, cs, bs, true, false, fun _ => true, none⟩
def s_is_lot : Fo.SemF := Fo.semD C5 [] false (defBody (top 11))
def F5 : List (Str × Fo.FnI) := ("is_lot", ⟨false, 2, s_is_lot⟩) :: F4
def C6 : Fo.Cfg := ⟨["web", "value", "one", "other"], defScope (top 12), F5, cs, bs, true, false, fun _ => true, none⟩
def s_is_gathering : Fo.SemF := Fo.semD C6 [] false (defBody (top 12))
def F6 : List (Str × Fo.FnI) := ("is_gathering", ⟨false, 2, s_is_gathering⟩) :: F5
def C7 : Fo.Cfg := ⟨["web", "gathering"], defScope (top 13), F6, cs, bs, false, false, fun _ => true, none⟩
def s_need_gathering : Fo.SemF := Fo.semD C7 [] false (defBody (top 13))
def F7 : List (Str × Fo.FnI) := ("need_gathering", ⟨false, 2, s_need_gathering⟩) :: F6
def C8 : Fo.Cfg := ⟨["web", "found", "person", "one"], defScope (top 14), F7, cs, bs, false, false, fun _ => true, none⟩
def s_all_lots : Fo.SemF := Fo.semD C8 [] false (defBody (top 14))
def F8 : List (Str × Fo.FnI) := ("all_lots", ⟨false, 1, s_all_lots⟩) :: F7
def C9 : Fo.Cfg := ⟨["web", "one"], defScope (top 15), F8, cs, bs, false, false, fun _ => true, none⟩
def s_all_gatherings : Fo.SemF := Fo.semD C9 [] false (defBody (top 15))
def F9 : List (Str × Fo.FnI) := ("all_gatherings", ⟨false, 1, s_all_gatherings⟩) :: F8
def C10 : Fo.Cfg := ⟨["web"], defScope (top 16), F9, cs, bs, false, false, fun _ => true, none⟩
def s_gathering_count : Fo.SemF := Fo.semD C10 [] false (defBody (top 16))
def F10 : List (Str × Fo.FnI) := ("gathering_count", ⟨false, 1, s_gathering_count⟩) :: F9
def C11 : Fo.Cfg := ⟨["web", "sizes", "one", "size"], defScope (top 18), F10, cs, bs, false, false, fun _ => true, none⟩
def s_counts : Fo.SemF := Fo.semD C11 [] false (defBody (top 18))
def F11 : List (Str × Fo.FnI) := ("counts", ⟨false, 1, s_counts⟩) :: F10
def C12 : Fo.Cfg := ⟨["web"], defScope (top 19), F11, cs, bs, false, false, fun _ => true, none⟩
def s_size_counts : Fo.SemF := Fo.semD C12 [] false (defBody (top 19))
def F12 : List (Str × Fo.FnI) := ("size_counts", ⟨false, 1, s_size_counts⟩) :: F11
def C13 : Fo.Cfg := ⟨["web", "gathering", "rest", "person", "other"], defScope (top 20), F12, cs, bs, true, false, fun _ => true, none⟩
def s_fills : Fo.SemF := Fo.semD C13 [] false (defBody (top 20))
def F13 : List (Str × Fo.FnI) := ("fills", ⟨false, 2, s_fills⟩) :: F12
def C14 : Fo.Cfg := ⟨["web", "gathering"], defScope (top 21), F13, cs, bs, false, false, fun _ => true, none⟩
def s_is_full : Fo.SemF := Fo.semD C14 [] false (defBody (top 21))
def F14 : List (Str × Fo.FnI) := ("is_full", ⟨false, 2, s_is_full⟩) :: F13
def C15 : Fo.Cfg := ⟨["web", "one"], defScope (top 22), F14, cs, bs, false, false, fun _ => true, none⟩
def s_full_gatherings : Fo.SemF := Fo.semD C15 [] false (defBody (top 22))
def F15 : List (Str × Fo.FnI) := ("full_gatherings", ⟨false, 1, s_full_gatherings⟩) :: F14
def C16 : Fo.Cfg := ⟨["web", "some", "most", "one"], defScope (top 23), F15, cs, bs, false, false, fun _ => true, none⟩
def s_largest : Fo.SemF := Fo.semD C16 [] false (defBody (top 23))
def F16 : List (Str × Fo.FnI) := ("largest", ⟨false, 1, s_largest⟩) :: F15
def C17 : Fo.Cfg := ⟨["size"], defScope (top 25), F16, cs, bs, false, false, fun _ => true, none⟩
def s_need_size : Fo.SemF := Fo.semD C17 [] false (defBody (top 25))
def F17 : List (Str × Fo.FnI) := ("need_size", ⟨false, 1, s_need_size⟩) :: F16
def C18 : Fo.Cfg := ⟨["size", "one"], defScope (top 26), F17, cs, bs, false, false, fun _ => true, none⟩
def s_row_web : Fo.SemF := Fo.semD C18 [] false (defBody (top 26))
def F18 : List (Str × Fo.FnI) := ("row_web", ⟨false, 1, s_row_web⟩) :: F17
def C19 : Fo.Cfg := ⟨["size", "pairs", "one"], defScope (top 27), F18, cs, bs, false, false, fun _ => true, none⟩
def s_ring_web : Fo.SemF := Fo.semD C19 [] false (defBody (top 27))
def F19 : List (Str × Fo.FnI) := ("ring_web", ⟨false, 1, s_ring_web⟩) :: F18
def C20 : Fo.Cfg := ⟨["size", "pairs", "one", "other"], defScope (top 28), F19, cs, bs, false, false, fun _ => true, none⟩
def s_full_web : Fo.SemF := Fo.semD C20 [] false (defBody (top 28))
def F20 : List (Str × Fo.FnI) := ("full_web", ⟨false, 1, s_full_web⟩) :: F19
def C21 : Fo.Cfg := ⟨["_law_row_here", "_law_many", "_law_cell", "_law_found"], defScope (top 30), F20, cs, bs, false, false, fun _ => true, (some "_law_row_here")⟩
def s__law_taken : Fo.SemF := Fo.semD C21 [] true (defBody (top 30))
def F21 : List (Str × Fo.FnI) := ("_law_taken", ⟨true, 2, s__law_taken⟩) :: F20
def C22 : Fo.Cfg := ⟨["_law_row_here", "_law_most", "_law_way", "_law_one", "_law_size", "_law_pairs", "_law_other", "_law_near"], defScope (top 33), F21, cs, bs, false, false, fun _ => true, none⟩
def s__law_web : Fo.SemF := Fo.semD C22 ["_law_pairs"] true (defBody (top 33))
def F22 : List (Str × Fo.FnI) := ("_law_web", ⟨true, 2, s__law_web⟩) :: F21
def C23 : Fo.Cfg := ⟨["_law_web_here", "_law_person", "_law_found", "_law_one", "_law_other"], defScope (top 34), F22, cs, bs, false, false, fun _ => true, none⟩
def s__law_foes : Fo.SemF := Fo.semD C23 [] false (defBody (top 34))
def F23 : List (Str × Fo.FnI) := ("_law_foes", ⟨false, 2, s__law_foes⟩) :: F22
def C24 : Fo.Cfg := ⟨["_law_web_here", "_law_found", "_law_person", "_law_one"], defScope (top 37), F23, cs, bs, false, false, fun _ => true, none⟩
def s__law_lots : Fo.SemF := Fo.semD C24 [] false (defBody (top 37))
def F24 : List (Str × Fo.FnI) := ("_law_lots", ⟨false, 1, s__law_lots⟩) :: F23
def C25 : Fo.Cfg := ⟨["_law_web_here", "_law_lot", "_law_pair"], defScope (top 38), F24, cs, bs, false, false, fun _ => true, none⟩
def s__law_is_gathering : Fo.SemF := Fo.semD C25 [] false (defBody (top 38))
def F25 : List (Str × Fo.FnI) := ("_law_is_gathering", ⟨false, 2, s__law_is_gathering⟩) :: F24
def C26 : Fo.Cfg := ⟨["_law_web_here", "_law_lot"], defScope (top 39), F25, cs, bs, false, false, fun _ => true, none⟩
def s__law_gatherings : Fo.SemF := Fo.semD C26 [] false (defBody (top 39))
def F26 : List (Str × Fo.FnI) := ("_law_gatherings", ⟨false, 1, s__law_gatherings⟩) :: F25
def C27 : Fo.Cfg := ⟨["_law_script", "_law_row_here", "_law_counts", "_law_web_here", "_law_size", "_law_last", "_law_foes_here", "_law_rest", "_law_far", "_law_some", "_law_top", "_law_lot", "_law_one", "_law_pair", "_law_k"], defScope (top 43), F26, cs, bs, false, false, fun _ => true, none⟩
def lawRest : List Stmt := (defBody (top 43)).tail
def s_law (ns : List Int) (seed : Int) : Option (Fo.Out × Fo.Dr) := Fo.rdS (Fo.rd 40) C27 [] 30 lawRest (Fo.law0 C27.N) ⟨ns, 0, seed, 0⟩
end Hd
namespace Hd
open PySem PySem.Spec PyProof.Rows Fo
theorem e_is_in : s_is_in = W.r_is_in  := semD_run (C := C1) (by kernel_rfl)
theorem e_need_web : s_need_web = W.r_need_web s_is_in := semD_run (C := C2) (by kernel_rfl)
theorem e_are_foes : s_are_foes = W.r_are_foes  := semD_run (C := C3) (by kernel_rfl)
theorem e_foes : s_foes = W.r_foes s_are_foes := semD_run (C := C4) (by kernel_rfl)
theorem e_is_lot : s_is_lot = W.r_is_lot s_is_in := semD_run (C := C5) (by kernel_rfl)
theorem e_is_gathering : s_is_gathering = W.r_is_gathering s_is_lot := semD_run (C := C6) (by kernel_rfl)
theorem e_need_gathering : s_need_gathering = W.r_need_gathering s_need_web s_is_gathering := semD_run (C := C7) (by kernel_rfl)
theorem e_all_lots : s_all_lots = W.r_all_lots  := semD_run (C := C8) (by kernel_rfl)
theorem e_all_gatherings : s_all_gatherings = W.r_all_gatherings s_all_lots s_is_gathering := semD_run (C := C9) (by kernel_rfl)
theorem e_gathering_count : s_gathering_count = W.r_gathering_count s_need_web s_all_gatherings := semD_run (C := C10) (by kernel_rfl)
theorem e_counts : s_counts = W.r_counts s_all_gatherings := semD_run (C := C11) (by kernel_rfl)
theorem e_size_counts : s_size_counts = W.r_size_counts s_need_web s_counts := semD_run (C := C12) (by kernel_rfl)
theorem e_fills : s_fills = W.r_fills s_foes := semD_run (C := C13) (by kernel_rfl)
theorem e_is_full : s_is_full = W.r_is_full s_need_gathering s_fills := semD_run (C := C14) (by kernel_rfl)
theorem e_full_gatherings : s_full_gatherings = W.r_full_gatherings s_need_web s_all_gatherings s_fills := semD_run (C := C15) (by kernel_rfl)
theorem e_largest : s_largest = W.r_largest s_need_web s_all_gatherings := semD_run (C := C16) (by kernel_rfl)
theorem e_need_size : s_need_size = W.r_need_size s_is_in := semD_run (C := C17) (by kernel_rfl)
theorem e_row_web : s_row_web = W.r_row_web s_need_size := semD_run (C := C18) (by kernel_rfl)
theorem e_ring_web : s_ring_web = W.r_ring_web s_need_size := semD_run (C := C19) (by kernel_rfl)
theorem e_full_web : s_full_web = W.r_full_web s_need_size := semD_run (C := C20) (by kernel_rfl)
theorem e__law_taken : s__law_taken = W.r__law_taken  := semD_run (C := C21) (by kernel_rfl)
theorem e__law_web : s__law_web = W.r__law_web s__law_taken := semD_run (C := C22) (by kernel_rfl)
theorem e__law_foes : s__law_foes = W.r__law_foes  := semD_run (C := C23) (by kernel_rfl)
theorem e__law_lots : s__law_lots = W.r__law_lots  := semD_run (C := C24) (by kernel_rfl)
theorem e__law_is_gathering : s__law_is_gathering = W.r__law_is_gathering  := semD_run (C := C25) (by kernel_rfl)
theorem e__law_gatherings : s__law_gatherings = W.r__law_gatherings s__law_lots s__law_is_gathering := semD_run (C := C26) (by kernel_rfl)
def c_law_1 : SemB := (tstR (binR (cmpG .NotIn) (tvR 5) (tvR 13)))
def x_law_2 : Sem1 := (vaR 13)
def c_law_4 : SemB := (tstR (binR (cmpG .In) (tvR 14) (tvR 6)))
def x_law_5 : Sem1 := (vaR 14)
def c_law_3 : SemB := (tstR (binR (cmpG .Eq) (lcR (itemsG (tvR 11)) (.nm 14) [14] c_law_4 x_law_5) (dispR .list nilR)))
def x_law_6 : Sem1 := (vaR 11)
def c_law_7 : SemB := (tstR (binR (cmpG .NotIn) (tvR 12) (tvR 9)))
def x_law_8 : Sem1 := (vaR 12)
def c_law_9 : SemB := (tstR (binR (cmpG .IsNot) (callR s_is_full (lenR 2 (consR (vaR 3) (consR (vaR 12) nilR)))) (cstR (.bool true))))
def x_law_10 : Sem1 := (vaR 12)
def x_law_11 : Sem1 := (dispR .tuple (consR (vaR 14) nilR))
def l_1 : SemS := (parS [3, 4] (vaE (callD s__law_web 1 (lenR (2 - 1) (consR (cstR (.int 7)) nilR))) (vaE (binR addV (cstR (.int 1)) (callD s__law_taken 1 (lenR (2 - 1) (consR (cstR (.int 7)) nilR)))) nilE)))
def l_2 : SemS := (asgS (callR s_size_counts (lenR 1 (consR (vaR 3) nilR))) (.nm 2))
def l_3 : SemS := (ifS (orB (tstR (binR (cmpG .NotEq) (bltR sumW (consR (tvR 2) nilR)) (callR s_gathering_count (lenR 1 (consR (vaR 3) nilR))))) (orB (tstR (binR (cmpG .NotEq) (binR getW (tvR 2) (cstR (.int 0))) (cstR (.int 1)))) (tstR (binR (cmpG .NotEq) (binR getW (tvR 2) (cstR (.int 1))) (binR getW (tvR 3) (cstR (.int 0))))))) (seqS (rtS (cstR (.bool false))) nxS) nxS)
def l_4 : SemS := (ifS (andB (tstR (binR (cmpG .Gt) (bltR lenW (consR (tvR 2) nilR)) (cstR (.int 2)))) (tstR (binR (cmpG .NotEq) (binR getW (tvR 2) (cstR (.int 2))) (binR subV (binR fdivV (binR mulW (binR getW (tvR 3) (cstR (.int 0))) (binR subV (binR getW (tvR 3) (cstR (.int 0))) (cstR (.int 1)))) (cstR (.int 2))) (bltR lenW (consR (binR getW (tvR 3) (cstR (.int 1))) nilR)))))) (seqS (rtS (cstR (.bool false))) nxS) nxS)
def l_5 : SemS := (parS [5, 6] (vaE (binR subV (binR getW (tvR 3) (cstR (.int 0))) (cstR (.int 1))) (vaE (callR s__law_foes (lenR 2 (consR (vaR 3) (consR (binR subV (binR getW (tvR 3) (cstR (.int 0))) (cstR (.int 1))) nilR)))) nilE)))
def l_6 : SemS := (ifS (tstR (binR (cmpG .Gt) (tvR 5) (cstR (.int 0)))) (seqS (asgS (dispR .tuple (consR (vaR 5) (consR (bltR tupleV (consR (lcR (itemsG (binR getW (tvR 3) (cstR (.int 1)))) (.nm 13) [13] c_law_1 x_law_2) nilR)) nilR))) (.nm 7)) (seqS (asgS (bltR lenW (consR (lcR (itemsG (callR s__law_gatherings (lenR 1 (consR (vaR 7) nilR)))) (.nm 11) [11] c_law_3 x_law_6) nilR)) (.nm 8)) (seqS (ifS (tstR (binR (cmpG .NotEq) (callR s_gathering_count (lenR 1 (consR (vaR 3) nilR))) (binR addV (callR s_gathering_count (lenR 1 (consR (vaR 7) nilR))) (tvR 8)))) (seqS (rtS (cstR (.bool false))) nxS) nxS) nxS))) nxS)
def l_7 : SemS := (parS [9, 10] (vaE (callR s_full_gatherings (lenR 1 (consR (vaR 3) nilR))) (vaE (callR s_largest (lenR 1 (consR (vaR 3) nilR))) nilE)))
def l_8 : SemS := (ifS (orB (tstR (binR (cmpG .NotEq) (lcR (itemsG (tvR 10)) (.nm 12) [12] c_law_7 x_law_8) (dispR .list nilR))) (tstR (binR (cmpG .NotEq) (lcR (itemsG (tvR 9)) (.nm 12) [12] c_law_9 x_law_10) (dispR .list nilR)))) (seqS (rtS (cstR (.bool false))) nxS) nxS)
def l_9 : SemS := (ifS (orB (tstR (binR (cmpG .NotEq) (bltR lenW (consR (tvR 10) nilR)) (binR getW (tvR 2) (unR negV (cstR (.int 1)))))) (tstR (binR (cmpG .NotEq) (bltR lenW (consR (binR getW (tvR 10) (cstR (.int 0))) nilR)) (binR subV (bltR lenW (consR (tvR 2) nilR)) (cstR (.int 1)))))) (seqS (rtS (cstR (.bool false))) nxS) nxS)
def l_10 : SemS := (ifS (orB (tstR (binR (cmpG .NotEq) (callR s_full_gatherings (lenR 1 (consR (callR s_full_web (lenR 1 (consR (vaR 4) nilR))) nilR))) (bltR tupleV (consR (lcR (rngR (lenR 1 (consR (tvR 4) nilR))) (.nm 14) [14] yesB x_law_11) nilR)))) (tstR (binR (cmpG .NotEq) (bltR lenW (consR (binR getW (callR s_largest (lenR 1 (consR (callR s_row_web (lenR 1 (consR (vaR 4) nilR))) nilR))) (cstR (.int 0))) nilR)) (binR fdivV (binR addV (tvR 4) (cstR (.int 1))) (cstR (.int 2)))))) (seqS (rtS (cstR (.bool false))) nxS) nxS)
def l_11 : SemS := (rtS (orR (binR (cmpG .Lt) (tvR 4) (cstR (.int 3))) (binR (cmpG .Eq) (bltR lenW (consR (binR getW (callR s_largest (lenR 1 (consR (callR s_ring_web (lenR 1 (consR (vaR 4) nilR))) nilR))) (cstR (.int 0))) nilR)) (binR fdivV (tvR 4) (cstR (.int 2))))))
def t_law : SemS := seqS l_1 (seqS l_2 (seqS l_3 (seqS l_4 (seqS l_5 (seqS l_6 (seqS l_7 (seqS l_8 (seqS l_9 (seqS l_10 (seqS l_11 (nxS)))))))))))
theorem e_law (ns : List Int) (seed : Int) : s_law ns seed = t_law (law0 ["_law_script", "_law_row_here", "_law_counts", "_law_web_here", "_law_size", "_law_last", "_law_foes_here", "_law_rest", "_law_far", "_law_some", "_law_top", "_law_lot", "_law_one", "_law_pair", "_law_k"]) ⟨ns, 0, seed, 0⟩ := by kernel_rfl
end Hd
namespace Hd
open PySem PySem.Spec PyProof.Rows Fo Th W
theorem p_is_in : W.P_is_in s_is_in := by rw [e_is_in]; exact W.ok_is_in
theorem p_need_web : W.P_need_web s_need_web := by rw [e_need_web]; exact W.ok_need_web p_is_in
theorem p_are_foes : W.P_are_foes s_are_foes := by rw [e_are_foes]; exact W.ok_are_foes
theorem p_foes : W.P_foes s_foes := by rw [e_foes]; exact W.ok_foes p_are_foes
theorem p_is_lot : W.P_is_lot s_is_lot := by rw [e_is_lot]; exact W.ok_is_lot p_is_in
theorem p_is_gathering : W.P_is_gathering s_is_gathering := by rw [e_is_gathering]; exact W.ok_is_gathering p_is_lot
theorem p_need_gathering : W.P_need_gathering s_need_gathering := by rw [e_need_gathering]; exact W.ok_need_gathering p_need_web p_is_gathering
theorem p_all_lots : W.P_all_lots s_all_lots := by rw [e_all_lots]; exact W.ok_all_lots
theorem p_all_gatherings : W.P_all_gatherings s_all_gatherings := by rw [e_all_gatherings]; exact W.ok_all_gatherings p_all_lots p_is_gathering
theorem p_gathering_count : W.P_gathering_count s_gathering_count := by rw [e_gathering_count]; exact W.ok_gathering_count p_need_web p_all_gatherings
theorem p_counts : W.P_counts s_counts := by rw [e_counts]; exact W.ok_counts p_all_gatherings
theorem p_size_counts : W.P_size_counts s_size_counts := by rw [e_size_counts]; exact W.ok_size_counts p_need_web p_counts
theorem p_fills : W.P_fills s_fills := by rw [e_fills]; exact W.ok_fills p_foes
theorem p_is_full : W.P_is_full s_is_full := by rw [e_is_full]; exact W.ok_is_full p_need_gathering p_fills
theorem p_full_gatherings : W.P_full_gatherings s_full_gatherings := by rw [e_full_gatherings]; exact W.ok_full_gatherings p_need_web p_all_gatherings p_fills
theorem p_largest : W.P_largest s_largest := by rw [e_largest]; exact W.ok_largest p_need_web p_all_gatherings
theorem p__law_taken : W.P_taken s__law_taken := by rw [e__law_taken]; exact W.ok_taken
theorem p__law_web : W.P_law_web s__law_web := by rw [e__law_web]; exact W.ok_law_web p__law_taken
theorem p__law_foes : W.P_law_foes s__law_foes := by rw [e__law_foes]; exact W.ok_law_foes
theorem p__law_lots : W.P_lots s__law_lots := by rw [e__law_lots]; exact W.ok_lots
theorem p__law_is_gathering : W.P_law_isg s__law_is_gathering := by rw [e__law_is_gathering]; exact W.ok_law_isg
theorem p__law_gatherings : W.P_gaths s__law_gatherings := by rw [e__law_gatherings]; exact W.ok_gaths p__law_lots p__law_is_gathering
theorem p_full_web : W.P_special fullP s_full_web := by rw [e_full_web, e_need_size, e_is_in]; exact W.kk_full
theorem p_row_web : W.P_special rowP s_row_web := by rw [e_row_web, e_need_size, e_is_in]; exact W.kk_row
theorem p_ring_web : W.P_special ringP s_ring_web := by rw [e_ring_web, e_need_size, e_is_in]; exact W.kk_ring
theorem cn_at {n : Nat} {ps : List (Int × Int)} {s : Nat} (h : s ≤ mxL (gath n ps)) : getW (lD (cntsL n ps)) (.int (s : Nat)) = some (.int (cntL (gath n ps) s : Nat)) := by
  show L2.atI ((cntsL n ps).map PyData.int) (s : Nat) = _
  refine atN (by omega) ?_
  rw [Int.toNat_natCast, List.getElem?_map, cnts_at h]
  rfl
theorem cn_last (n : Nat) (ps : List (Int × Int)) : getW (lD (cntsL n ps)) (.int (-1)) = some (.int (cntL (gath n ps) (mxL (gath n ps)) : Nat)) := by
  show L2.atI ((cntsL n ps).map PyData.int) (-1) = _
  refine at_last (E := PyData.int) ?_
  rw [List.getLast?_eq_getElem?, cnts_len, Nat.add_sub_cancel, cnts_at (Nat.le_refl _)]
theorem sum_c (n : Nat) (ps : List (Int × Int)) : sumW [lD (cntsL n ps)] = some (.int ((gath n ps).length : Nat)) := by
  show (intsOf ((cntsL n ps).map PyData.int)).map (fun ns => PyData.int ns.sum) = _
  have : intsOf ((cntsL n ps).map PyData.int) = some (cntsL n ps) := by
    generalize cntsL n ps = l
    induction l with
    | nil => rfl
    | cons a l ih =>
      rw [List.map_cons]
      unfold intsOf
      rw [ih]
      rfl
  rw [this, ← cnts_sum]
  rfl
theorem top_ne {n : Nat} {ps : List (Int × Int)} (V : Web n ps) : ∃ l L, topL n ps = l :: L ∧ l.length = mxL (gath n ps) := by
  obtain ⟨l, hl, e⟩ := mxL_mem (gath_ne V)
  have hm : l ∈ topL n ps := List.mem_filter.mpr ⟨hl, beq_iff_eq.mpr e⟩
  cases h : topL n ps with
  | nil => rw [h] at hm; cases hm
  | cons a L =>
    refine ⟨a, L, rfl, ?_⟩
    have : a ∈ topL n ps := by rw [h]; exact List.mem_cons_self ..
    exact beq_iff_eq.mp (List.mem_filter.mp this).2
theorem top0 {n : Nat} {ps : List (Int × Int)} (V : Web n ps) : ∃ l, getW (tD lD (topL n ps)) (.int 0) = some (lD l) ∧ l.length = mxL (gath n ps) := by
  obtain ⟨l, L, h, e⟩ := top_ne V
  refine ⟨l, ?_, e⟩
  rw [h]
  exact at_map (E := lD) (l := l :: L) (i := 0) (by simp)
theorem len_tD {α : Type} (E : α → PyData) (l : List α) : lenW [tD E l] = some (.int (l.length : Nat)) := by
  show some (PyData.int ((l.map E).length : Nat)) = _
  rw [List.length_map]
theorem ne_no {a b : Int} (h : a = b) : cmpG .NotEq (.int a) (.int b) = some (.bool false) := by rw [cG_ne, h]; simp
theorem sem_ok (ns : List Int) : ∃ st', s_law ns 13581 = some (.rt (.bool true), st') := by
  obtain ⟨n, ps, st1, e1, V, hn, g1⟩ := p__law_web 7 (by decide) (by decide) ⟨ns, 0, 13581, 0⟩ (Gd.start _ _ (by decide))
  obtain ⟨z, st2, e2, z0, z7, g2⟩ := p__law_taken 7 (by decide) (by decide) st1 g1
  obtain ⟨m, hm, m1, m7⟩ : ∃ m : Nat, 1 + z = (m : Int) ∧ 1 ≤ m ∧ m ≤ 7 := ⟨(1 + z).toNat, by omega, by omega, by omega⟩
  have V1 := V.lo
  have V2 := V.hi
  have G1 := gath_len V
  have M1 := mx1 V
  have M7 := mxG_small V
  have a1 : addV (.int 1) (.int z) = some (.int (m : Int)) := by rw [add_i, hm]
  have sc := fun st => p_size_counts n ps st V
  have gc := fun st => p_gathering_count n ps st V
  have q1 : l_1 [none, some .dr, none, none, none, none, none, none, none, none, none, none, none, none, none] ⟨ns, 0, 13581, 0⟩ = some (.nx [none, some .dr, none, some (.va (wD n ps)), some (.va (.int m)), none, none, none, none, none, none, none, none, none, none], st2) := by simp -implicitDefEqProofs only [l_1, k_seq, k_seqN, k_seqR, k_seqB, k_seqC, k_upS, k_upBS, k_upRS, k_upLS, k_upOS, k_nx, k_bk, k_ct, k_asg, k_asgS, k_own, k_ownS, k_if, k_ifT, k_ifF, k_ifB, k_rt, k_rtS, k_rtN, k_ex, k_exS, k_app, k_appS, k_for, k_forS, k_frz, k_par, k_parS, k_set, k_setS, k_setS2, k_bin, k_binS, k_binS2, k_un, k_unS, k_not, k_and, k_or, k_andS, k_orS, k_thenT, k_thenF, k_thenB, k_elseT, k_elseF, k_elseB, k_tst, k_andB, k_orB, k_notB, k_andBS, k_orBS, k_notBS, k_ite, k_iteB, k_disp, k_dispS, k_nil, k_cons, k_consS, k_consS2, k_star, k_starS, k_starS1, k_starS2, k_len, k_lenS, k_call, k_callS, k_callD, k_drS, k_drO, k_blt, k_bltS, k_va, k_tv, k_vaO, k_tvO, k_tvOw, k_cst, k_noO, k_someO, k_someS, k_slc, k_slcS, k_slcS1, k_slcS2, k_items, k_itemsS, k_itL, k_itT, k_rng, k_rngS, k_lc, k_lcS2, k_gx, k_gxS, k_sg, k_sgS, k_yes, k_nilE, k_vaE, k_owE, k_vaES, k_owES, k_vaES2, k_whT, k_whF, k_wh2, k_st1, k_st2, k_st3, k_sE0, k_sE, k_wip0, k_wip, k_itemsG, k_itemsGS, k_iwL, k_iwT, k_dc, k_dcS, k_dcS2, k_newD, k_get1, k_get2, k_get1S, k_get1S2, k_get2S, k_get2S2, k_get2S3, k_enum, k_enumS, k_zip, k_zipS, k_zipS2, k_d1, k_d1S, k_d1S2, k_frz1, k_frz2, k_frz3, k_run, k_outR, k_outN, k_setG, k_setGS, k_setGS2, k_tstB, List.getElem?_cons_zero, List.getElem?_cons_succ, List.set_cons_zero, List.set_cons_succ, List.length_cons, List.length_nil, Nat.zero_add, Nat.reduceAdd, Nat.reduceSub, if_true, reduceIte, Bool.false_eq_true, Bool.true_eq_false, e1, e2, a1]
  have q2 : l_2 [none, some .dr, none, some (.va (wD n ps)), some (.va (.int m)), none, none, none, none, none, none, none, none, none, none] st2 = some (.nx [none, some .dr, some (.va (lD (cntsL n ps))), some (.va (wD n ps)), some (.va (.int m)), none, none, none, none, none, none, none, none, none, none], st2) := by simp -implicitDefEqProofs only [l_2, k_seq, k_seqN, k_seqR, k_seqB, k_seqC, k_upS, k_upBS, k_upRS, k_upLS, k_upOS, k_nx, k_bk, k_ct, k_asg, k_asgS, k_own, k_ownS, k_if, k_ifT, k_ifF, k_ifB, k_rt, k_rtS, k_rtN, k_ex, k_exS, k_app, k_appS, k_for, k_forS, k_frz, k_par, k_parS, k_set, k_setS, k_setS2, k_bin, k_binS, k_binS2, k_un, k_unS, k_not, k_and, k_or, k_andS, k_orS, k_thenT, k_thenF, k_thenB, k_elseT, k_elseF, k_elseB, k_tst, k_andB, k_orB, k_notB, k_andBS, k_orBS, k_notBS, k_ite, k_iteB, k_disp, k_dispS, k_nil, k_cons, k_consS, k_consS2, k_star, k_starS, k_starS1, k_starS2, k_len, k_lenS, k_call, k_callS, k_callD, k_drS, k_drO, k_blt, k_bltS, k_va, k_tv, k_vaO, k_tvO, k_tvOw, k_cst, k_noO, k_someO, k_someS, k_slc, k_slcS, k_slcS1, k_slcS2, k_items, k_itemsS, k_itL, k_itT, k_rng, k_rngS, k_lc, k_lcS2, k_gx, k_gxS, k_sg, k_sgS, k_yes, k_nilE, k_vaE, k_owE, k_vaES, k_owES, k_vaES2, k_whT, k_whF, k_wh2, k_st1, k_st2, k_st3, k_sE0, k_sE, k_wip0, k_wip, k_itemsG, k_itemsGS, k_iwL, k_iwT, k_dc, k_dcS, k_dcS2, k_newD, k_get1, k_get2, k_get1S, k_get1S2, k_get2S, k_get2S2, k_get2S3, k_enum, k_enumS, k_zip, k_zipS, k_zipS2, k_d1, k_d1S, k_d1S2, k_frz1, k_frz2, k_frz3, k_run, k_outR, k_outN, k_setG, k_setGS, k_setGS2, k_tstB, List.getElem?_cons_zero, List.getElem?_cons_succ, List.set_cons_zero, List.set_cons_succ, List.length_cons, List.length_nil, Nat.zero_add, Nat.reduceAdd, Nat.reduceSub, if_true, reduceIte, Bool.false_eq_true, Bool.true_eq_false, sc]
  have c0 : getW (lD (cntsL n ps)) (.int 0) = some (.int 1) := by
    have := cn_at (n := n) (ps := ps) (s := 0) (Nat.zero_le _)
    rw [cnt0 V] at this
    exact this
  have c1 : getW (lD (cntsL n ps)) (.int 1) = some (.int (n : Int)) := by
    have := cn_at (n := n) (ps := ps) (s := 1) M1
    rw [cnt1 V] at this
    exact this
  have q3 : l_3 [none, some .dr, some (.va (lD (cntsL n ps))), some (.va (wD n ps)), some (.va (.int m)), none, none, none, none, none, none, none, none, none, none] st2 = some (.nx [none, some .dr, some (.va (lD (cntsL n ps))), some (.va (wD n ps)), some (.va (.int m)), none, none, none, none, none, none, none, none, none, none], st2) := by simp -implicitDefEqProofs only [l_3, k_seq, k_seqN, k_seqR, k_seqB, k_seqC, k_upS, k_upBS, k_upRS, k_upLS, k_upOS, k_nx, k_bk, k_ct, k_asg, k_asgS, k_own, k_ownS, k_if, k_ifT, k_ifF, k_ifB, k_rt, k_rtS, k_rtN, k_ex, k_exS, k_app, k_appS, k_for, k_forS, k_frz, k_par, k_parS, k_set, k_setS, k_setS2, k_bin, k_binS, k_binS2, k_un, k_unS, k_not, k_and, k_or, k_andS, k_orS, k_thenT, k_thenF, k_thenB, k_elseT, k_elseF, k_elseB, k_tst, k_andB, k_orB, k_notB, k_andBS, k_orBS, k_notBS, k_ite, k_iteB, k_disp, k_dispS, k_nil, k_cons, k_consS, k_consS2, k_star, k_starS, k_starS1, k_starS2, k_len, k_lenS, k_call, k_callS, k_callD, k_drS, k_drO, k_blt, k_bltS, k_va, k_tv, k_vaO, k_tvO, k_tvOw, k_cst, k_noO, k_someO, k_someS, k_slc, k_slcS, k_slcS1, k_slcS2, k_items, k_itemsS, k_itL, k_itT, k_rng, k_rngS, k_lc, k_lcS2, k_gx, k_gxS, k_sg, k_sgS, k_yes, k_nilE, k_vaE, k_owE, k_vaES, k_owES, k_vaES2, k_whT, k_whF, k_wh2, k_st1, k_st2, k_st3, k_sE0, k_sE, k_wip0, k_wip, k_itemsG, k_itemsGS, k_iwL, k_iwT, k_dc, k_dcS, k_dcS2, k_newD, k_get1, k_get2, k_get1S, k_get1S2, k_get2S, k_get2S2, k_get2S3, k_enum, k_enumS, k_zip, k_zipS, k_zipS2, k_d1, k_d1S, k_d1S2, k_frz1, k_frz2, k_frz3, k_run, k_outR, k_outN, k_setG, k_setGS, k_setGS2, k_tstB, List.getElem?_cons_zero, List.getElem?_cons_succ, List.set_cons_zero, List.set_cons_succ, List.length_cons, List.length_nil, Nat.zero_add, Nat.reduceAdd, Nat.reduceSub, if_true, reduceIte, Bool.false_eq_true, Bool.true_eq_false, sum_c, gc, c0, c1, w0, ne_no]
  have lc : lenW [lD (cntsL n ps)] = some (.int ((mxL (gath n ps) + 1 : Nat) : Int)) := by rw [len_lD, cnts_len]
  have lw : lenW [.tuple (ps.map pD)] = some (.int (ps.length : Nat)) := by rw [W.len_T, List.length_map]
  have q4 : l_4 [none, some .dr, some (.va (lD (cntsL n ps))), some (.va (wD n ps)), some (.va (.int m)), none, none, none, none, none, none, none, none, none, none] st2 = some (.nx [none, some .dr, some (.va (lD (cntsL n ps))), some (.va (wD n ps)), some (.va (.int m)), none, none, none, none, none, none, none, none, none, none], st2) := by
    by_cases h : 2 ≤ mxL (gath n ps)
    · have c2 : getW (lD (cntsL n ps)) (.int 2) = some (.int (cntL (gath n ps) 2 : Nat)) := cn_at h
      have gt : cmpG .Gt (.int ((mxL (gath n ps) + 1 : Nat) : Int)) (.int 2) = some (.bool true) := by rw [cG_gt, decide_eq_true (by omega)]
      have mu : mulW (.int (n : Int)) (.int ((n : Int) - 1)) = some (.int ((n : Int) * ((n : Int) - 1))) := mul_i (by omega) (by omega)
      have fd : fdivV (.int ((n : Int) * ((n : Int) - 1))) (.int 2) = some (.int ((n : Int) * ((n : Int) - 1) / 2)) := fdiv_i (by decide) (by decide)
      have key := cnt2 V
      have e5 : (n : Int) * ((n : Int) - 1) / 2 = ((n * (n - 1) / 2 : Nat) : Int) := by
        have : ((n : Int) - 1) = ((n - 1 : Nat) : Int) := by omega
        rw [this]
        norm_cast
      have ne : cmpG .NotEq (.int (cntL (gath n ps) 2 : Nat)) (.int ((n : Int) * ((n : Int) - 1) / 2 - (ps.length : Nat))) = some (.bool false) := ne_no (by rw [e5]; omega)
      simp -implicitDefEqProofs only [l_4, k_seq, k_seqN, k_seqR, k_seqB, k_seqC, k_upS, k_upBS, k_upRS, k_upLS, k_upOS, k_nx, k_bk, k_ct, k_asg, k_asgS, k_own, k_ownS, k_if, k_ifT, k_ifF, k_ifB, k_rt, k_rtS, k_rtN, k_ex, k_exS, k_app, k_appS, k_for, k_forS, k_frz, k_par, k_parS, k_set, k_setS, k_setS2, k_bin, k_binS, k_binS2, k_un, k_unS, k_not, k_and, k_or, k_andS, k_orS, k_thenT, k_thenF, k_thenB, k_elseT, k_elseF, k_elseB, k_tst, k_andB, k_orB, k_notB, k_andBS, k_orBS, k_notBS, k_ite, k_iteB, k_disp, k_dispS, k_nil, k_cons, k_consS, k_consS2, k_star, k_starS, k_starS1, k_starS2, k_len, k_lenS, k_call, k_callS, k_callD, k_drS, k_drO, k_blt, k_bltS, k_va, k_tv, k_vaO, k_tvO, k_tvOw, k_cst, k_noO, k_someO, k_someS, k_slc, k_slcS, k_slcS1, k_slcS2, k_items, k_itemsS, k_itL, k_itT, k_rng, k_rngS, k_lc, k_lcS2, k_gx, k_gxS, k_sg, k_sgS, k_yes, k_nilE, k_vaE, k_owE, k_vaES, k_owES, k_vaES2, k_whT, k_whF, k_wh2, k_st1, k_st2, k_st3, k_sE0, k_sE, k_wip0, k_wip, k_itemsG, k_itemsGS, k_iwL, k_iwT, k_dc, k_dcS, k_dcS2, k_newD, k_get1, k_get2, k_get1S, k_get1S2, k_get2S, k_get2S2, k_get2S3, k_enum, k_enumS, k_zip, k_zipS, k_zipS2, k_d1, k_d1S, k_d1S2, k_frz1, k_frz2, k_frz3, k_run, k_outR, k_outN, k_setG, k_setGS, k_setGS2, k_tstB, List.getElem?_cons_zero, List.getElem?_cons_succ, List.set_cons_zero, List.set_cons_succ, List.length_cons, List.length_nil, Nat.zero_add, Nat.reduceAdd, Nat.reduceSub, if_true, reduceIte, Bool.false_eq_true, Bool.true_eq_false, lc, gt, c2, w0, w1, sub_i, mu, fd, lw, ne]
    · have gt : cmpG .Gt (.int ((mxL (gath n ps) + 1 : Nat) : Int)) (.int 2) = some (.bool false) := by rw [cG_gt, decide_eq_false (by omega)]
      simp -implicitDefEqProofs only [l_4, k_seq, k_seqN, k_seqR, k_seqB, k_seqC, k_upS, k_upBS, k_upRS, k_upLS, k_upOS, k_nx, k_bk, k_ct, k_asg, k_asgS, k_own, k_ownS, k_if, k_ifT, k_ifF, k_ifB, k_rt, k_rtS, k_rtN, k_ex, k_exS, k_app, k_appS, k_for, k_forS, k_frz, k_par, k_parS, k_set, k_setS, k_setS2, k_bin, k_binS, k_binS2, k_un, k_unS, k_not, k_and, k_or, k_andS, k_orS, k_thenT, k_thenF, k_thenB, k_elseT, k_elseF, k_elseB, k_tst, k_andB, k_orB, k_notB, k_andBS, k_orBS, k_notBS, k_ite, k_iteB, k_disp, k_dispS, k_nil, k_cons, k_consS, k_consS2, k_star, k_starS, k_starS1, k_starS2, k_len, k_lenS, k_call, k_callS, k_callD, k_drS, k_drO, k_blt, k_bltS, k_va, k_tv, k_vaO, k_tvO, k_tvOw, k_cst, k_noO, k_someO, k_someS, k_slc, k_slcS, k_slcS1, k_slcS2, k_items, k_itemsS, k_itL, k_itT, k_rng, k_rngS, k_lc, k_lcS2, k_gx, k_gxS, k_sg, k_sgS, k_yes, k_nilE, k_vaE, k_owE, k_vaES, k_owES, k_vaES2, k_whT, k_whF, k_wh2, k_st1, k_st2, k_st3, k_sE0, k_sE, k_wip0, k_wip, k_itemsG, k_itemsGS, k_iwL, k_iwT, k_dc, k_dcS, k_dcS2, k_newD, k_get1, k_get2, k_get1S, k_get1S2, k_get2S, k_get2S2, k_get2S3, k_enum, k_enumS, k_zip, k_zipS, k_zipS2, k_d1, k_d1S, k_d1S2, k_frz1, k_frz2, k_frz3, k_run, k_outR, k_outN, k_setG, k_setGS, k_setGS2, k_tstB, List.getElem?_cons_zero, List.getElem?_cons_succ, List.set_cons_zero, List.set_cons_succ, List.length_cons, List.length_nil, Nat.zero_add, Nat.reduceAdd, Nat.reduceSub, if_true, reduceIte, Bool.false_eq_true, Bool.true_eq_false, lc, gt]
  have lf := fun st => p__law_foes n ps ((n : Int) - 1) st V
  have q5 : l_5 [none, some .dr, some (.va (lD (cntsL n ps))), some (.va (wD n ps)), some (.va (.int m)), none, none, none, none, none, none, none, none, none, none] st2 = some (.nx [none, some .dr, some (.va (lD (cntsL n ps))), some (.va (wD n ps)), some (.va (.int m)), some (.va (.int ((n : Int) - 1))), some (.va (liI (lot n (foe ps ((n : Int) - 1))))), none, none, none, none, none, none, none, none], st2) := by simp -implicitDefEqProofs only [l_5, k_seq, k_seqN, k_seqR, k_seqB, k_seqC, k_upS, k_upBS, k_upRS, k_upLS, k_upOS, k_nx, k_bk, k_ct, k_asg, k_asgS, k_own, k_ownS, k_if, k_ifT, k_ifF, k_ifB, k_rt, k_rtS, k_rtN, k_ex, k_exS, k_app, k_appS, k_for, k_forS, k_frz, k_par, k_parS, k_set, k_setS, k_setS2, k_bin, k_binS, k_binS2, k_un, k_unS, k_not, k_and, k_or, k_andS, k_orS, k_thenT, k_thenF, k_thenB, k_elseT, k_elseF, k_elseB, k_tst, k_andB, k_orB, k_notB, k_andBS, k_orBS, k_notBS, k_ite, k_iteB, k_disp, k_dispS, k_nil, k_cons, k_consS, k_consS2, k_star, k_starS, k_starS1, k_starS2, k_len, k_lenS, k_call, k_callS, k_callD, k_drS, k_drO, k_blt, k_bltS, k_va, k_tv, k_vaO, k_tvO, k_tvOw, k_cst, k_noO, k_someO, k_someS, k_slc, k_slcS, k_slcS1, k_slcS2, k_items, k_itemsS, k_itL, k_itT, k_rng, k_rngS, k_lc, k_lcS2, k_gx, k_gxS, k_sg, k_sgS, k_yes, k_nilE, k_vaE, k_owE, k_vaES, k_owES, k_vaES2, k_whT, k_whF, k_wh2, k_st1, k_st2, k_st3, k_sE0, k_sE, k_wip0, k_wip, k_itemsG, k_itemsGS, k_iwL, k_iwT, k_dc, k_dcS, k_dcS2, k_newD, k_get1, k_get2, k_get1S, k_get1S2, k_get2S, k_get2S2, k_get2S3, k_enum, k_enumS, k_zip, k_zipS, k_zipS2, k_d1, k_d1S, k_d1S2, k_frz1, k_frz2, k_frz3, k_run, k_outR, k_outN, k_setG, k_setGS, k_setGS2, k_tstB, List.getElem?_cons_zero, List.getElem?_cons_succ, List.set_cons_zero, List.set_cons_succ, List.length_cons, List.length_nil, Nat.zero_add, Nat.reduceAdd, Nat.reduceSub, if_true, reduceIte, Bool.false_eq_true, Bool.true_eq_false, w0, sub_i, lf]
  obtain ⟨y7, y8, q6⟩ : ∃ y7 y8, l_6 [none, some .dr, some (.va (lD (cntsL n ps))), some (.va (wD n ps)), some (.va (.int m)), some (.va (.int ((n : Int) - 1))), some (.va (liI (lot n (foe ps ((n : Int) - 1))))), none, none, none, none, none, none, none, none] st2 = some (.nx [none, some .dr, some (.va (lD (cntsL n ps))), some (.va (wD n ps)), some (.va (.int m)), some (.va (.int ((n : Int) - 1))), some (.va (liI (lot n (foe ps ((n : Int) - 1))))), y7, y8, none, none, none, none, none, none], st2) := by
    by_cases h : 2 ≤ n
    · obtain ⟨k, rfl⟩ : ∃ k, n = k + 1 := ⟨n - 1, by omega⟩
      have hk : 1 ≤ k := by omega
      have ek : (((k + 1 : Nat) : Int) - 1) = (k : Int) := by omega
      rw [ek]
      have V' := less_web V hk
      have gt : cmpG .Gt (.int (k : Int)) (.int 0) = some (.bool true) := by rw [cG_gt, decide_eq_true (by omega)]
      have h1 := lc_filter (E := pD) (tg := .nm 13) (tt := c_law_1) (te := x_law_2) (ρ := [none, some .dr, some (.va (lD (cntsL (k + 1) ps))), some (.va (wD (k + 1) ps)), some (.va (.int m)), some (.va (.int (k : Int))), some (.va (liI (lot (k + 1) (foe ps k)))), none, none, none, none, none, none, none, none]) (st := st2) (fun p => !(decide ((k : Int) = p.1) || decide ((k : Int) = p.2))) pD ps fun p hp => ⟨_, rfl, by
        have i1 : cmpG .NotIn (.int (k : Int)) (pD p) = some (.bool (!(decide ((k : Int) = p.1) || decide ((k : Int) = p.2)))) := by
          have := nin_T Enc.int (k : Int) [p.1, p.2]
          have e : memb (k : Int) [p.1, p.2] = (decide ((k : Int) = p.1) || decide ((k : Int) = p.2)) := by
            rw [Bool.eq_iff_iff, memb_iff]
            simp
          rw [e] at this
          exact this
        simp -implicitDefEqProofs only [c_law_1, k_seq, k_seqN, k_seqR, k_seqB, k_seqC, k_upS, k_upBS, k_upRS, k_upLS, k_upOS, k_nx, k_bk, k_ct, k_asg, k_asgS, k_own, k_ownS, k_if, k_ifT, k_ifF, k_ifB, k_rt, k_rtS, k_rtN, k_ex, k_exS, k_app, k_appS, k_for, k_forS, k_frz, k_par, k_parS, k_set, k_setS, k_setS2, k_bin, k_binS, k_binS2, k_un, k_unS, k_not, k_and, k_or, k_andS, k_orS, k_thenT, k_thenF, k_thenB, k_elseT, k_elseF, k_elseB, k_tst, k_andB, k_orB, k_notB, k_andBS, k_orBS, k_notBS, k_ite, k_iteB, k_disp, k_dispS, k_nil, k_cons, k_consS, k_consS2, k_star, k_starS, k_starS1, k_starS2, k_len, k_lenS, k_call, k_callS, k_callD, k_drS, k_drO, k_blt, k_bltS, k_va, k_tv, k_vaO, k_tvO, k_tvOw, k_cst, k_noO, k_someO, k_someS, k_slc, k_slcS, k_slcS1, k_slcS2, k_items, k_itemsS, k_itL, k_itT, k_rng, k_rngS, k_lc, k_lcS2, k_gx, k_gxS, k_sg, k_sgS, k_yes, k_nilE, k_vaE, k_owE, k_vaES, k_owES, k_vaES2, k_whT, k_whF, k_wh2, k_st1, k_st2, k_st3, k_sE0, k_sE, k_wip0, k_wip, k_itemsG, k_itemsGS, k_iwL, k_iwT, k_dc, k_dcS, k_dcS2, k_newD, k_get1, k_get2, k_get1S, k_get1S2, k_get2S, k_get2S2, k_get2S3, k_enum, k_enumS, k_zip, k_zipS, k_zipS2, k_d1, k_d1S, k_d1S2, k_frz1, k_frz2, k_frz3, k_run, k_outR, k_outN, k_setG, k_setGS, k_setGS2, k_tstB, List.getElem?_cons_zero, List.getElem?_cons_succ, List.set_cons_zero, List.set_cons_succ, List.length_cons, List.length_nil, Nat.zero_add, Nat.reduceAdd, Nat.reduceSub, if_true, reduceIte, Bool.false_eq_true, Bool.true_eq_false, i1], fun _ => rfl⟩
      have m1' : (ps.map pD).length ≤ 1000000 := by rw [List.length_map]; have := V.len; omega
      have it : itemsW (.tuple (ps.map pD)) = some (ps.map pD) := rfl
      have wd : mkO PyData.tuple [.int (k : Int), .tuple ((ps.filter fun p => !(decide ((k : Int) = p.1) || decide ((k : Int) = p.2))).map pD)] = some (wD k (lessP k ps)) := mk_2 _ _ _
      have gg := fun st => p__law_gatherings k (lessP k ps) st V'
      have gcc := fun st => p_gathering_count k (lessP k ps) st V'
      have G' := gath_len V'
      have it2 : itemsW (.list ((gath k (lessP k ps)).map lD)) = some ((gath k (lessP k ps)).map lD) := rfl
      have m2 : ((gath k (lessP k ps)).map lD).length ≤ 1000000 := by rw [List.length_map]; omega
      have h2 := lc_filter (E := lD) (tg := .nm 11) (tt := c_law_3) (te := x_law_6) (ρ := [none, some .dr, some (.va (lD (cntsL (k + 1) ps))), some (.va (wD (k + 1) ps)), some (.va (.int m)), some (.va (.int (k : Int))), some (.va (liI (lot (k + 1) (foe ps k)))), some (.va (wD k (lessP k ps))), none, none, none, none, none, none, none]) (st := st2) (fun l => decide ((l.filter fun x => memb x (lot (k + 1) (foe ps k))) = [])) lD (gath k (lessP k ps)) fun l hl => ⟨_, rfl, by
        have h3 := lc_filter (E := PyData.int) (tg := .nm 14) (tt := c_law_4) (te := x_law_5) (ρ := [none, some .dr, some (.va (lD (cntsL (k + 1) ps))), some (.va (wD (k + 1) ps)), some (.va (.int m)), some (.va (.int (k : Int))), some (.va (liI (lot (k + 1) (foe ps k)))), some (.va (wD k (lessP k ps))), none, none, none, some (.va (lD l)), none, none, none]) (st := st2) (fun x => memb x (lot (k + 1) (foe ps k))) PyData.int l fun x hx => ⟨_, rfl, by simp -implicitDefEqProofs only [c_law_4, k_seq, k_seqN, k_seqR, k_seqB, k_seqC, k_upS, k_upBS, k_upRS, k_upLS, k_upOS, k_nx, k_bk, k_ct, k_asg, k_asgS, k_own, k_ownS, k_if, k_ifT, k_ifF, k_ifB, k_rt, k_rtS, k_rtN, k_ex, k_exS, k_app, k_appS, k_for, k_forS, k_frz, k_par, k_parS, k_set, k_setS, k_setS2, k_bin, k_binS, k_binS2, k_un, k_unS, k_not, k_and, k_or, k_andS, k_orS, k_thenT, k_thenF, k_thenB, k_elseT, k_elseF, k_elseB, k_tst, k_andB, k_orB, k_notB, k_andBS, k_orBS, k_notBS, k_ite, k_iteB, k_disp, k_dispS, k_nil, k_cons, k_consS, k_consS2, k_star, k_starS, k_starS1, k_starS2, k_len, k_lenS, k_call, k_callS, k_callD, k_drS, k_drO, k_blt, k_bltS, k_va, k_tv, k_vaO, k_tvO, k_tvOw, k_cst, k_noO, k_someO, k_someS, k_slc, k_slcS, k_slcS1, k_slcS2, k_items, k_itemsS, k_itL, k_itT, k_rng, k_rngS, k_lc, k_lcS2, k_gx, k_gxS, k_sg, k_sgS, k_yes, k_nilE, k_vaE, k_owE, k_vaES, k_owES, k_vaES2, k_whT, k_whF, k_wh2, k_st1, k_st2, k_st3, k_sE0, k_sE, k_wip0, k_wip, k_itemsG, k_itemsGS, k_iwL, k_iwT, k_dc, k_dcS, k_dcS2, k_newD, k_get1, k_get2, k_get1S, k_get1S2, k_get2S, k_get2S2, k_get2S3, k_enum, k_enumS, k_zip, k_zipS, k_zipS2, k_d1, k_d1S, k_d1S2, k_frz1, k_frz2, k_frz3, k_run, k_outR, k_outN, k_setG, k_setGS, k_setGS2, k_tstB, List.getElem?_cons_zero, List.getElem?_cons_succ, List.set_cons_zero, List.set_cons_succ, List.length_cons, List.length_nil, Nat.zero_add, Nat.reduceAdd, Nat.reduceSub, if_true, reduceIte, Bool.false_eq_true, Bool.true_eq_false, in_li], fun _ => rfl⟩
        have m3 : (l.map PyData.int).length ≤ 1000000 := by rw [List.length_map]; have := gath_small V' hl; omega
        have e3 : cmpG .Eq (.list ((l.filter fun x => memb x (lot (k + 1) (foe ps k))).map .int)) (.list []) = some (.bool (decide ((l.filter fun x => memb x (lot (k + 1) (foe ps k))) = []))) := Enc.toL Enc.int _ []
        simp -implicitDefEqProofs only [c_law_3, k_seq, k_seqN, k_seqR, k_seqB, k_seqC, k_upS, k_upBS, k_upRS, k_upLS, k_upOS, k_nx, k_bk, k_ct, k_asg, k_asgS, k_own, k_ownS, k_if, k_ifT, k_ifF, k_ifB, k_rt, k_rtS, k_rtN, k_ex, k_exS, k_app, k_appS, k_for, k_forS, k_frz, k_par, k_parS, k_set, k_setS, k_setS2, k_bin, k_binS, k_binS2, k_un, k_unS, k_not, k_and, k_or, k_andS, k_orS, k_thenT, k_thenF, k_thenB, k_elseT, k_elseF, k_elseB, k_tst, k_andB, k_orB, k_notB, k_andBS, k_orBS, k_notBS, k_ite, k_iteB, k_disp, k_dispS, k_nil, k_cons, k_consS, k_consS2, k_star, k_starS, k_starS1, k_starS2, k_len, k_lenS, k_call, k_callS, k_callD, k_drS, k_drO, k_blt, k_bltS, k_va, k_tv, k_vaO, k_tvO, k_tvOw, k_cst, k_noO, k_someO, k_someS, k_slc, k_slcS, k_slcS1, k_slcS2, k_items, k_itemsS, k_itL, k_itT, k_rng, k_rngS, k_lc, k_lcS2, k_gx, k_gxS, k_sg, k_sgS, k_yes, k_nilE, k_vaE, k_owE, k_vaES, k_owES, k_vaES2, k_whT, k_whF, k_wh2, k_st1, k_st2, k_st3, k_sE0, k_sE, k_wip0, k_wip, k_itemsG, k_itemsGS, k_iwL, k_iwT, k_dc, k_dcS, k_dcS2, k_newD, k_get1, k_get2, k_get1S, k_get1S2, k_get2S, k_get2S2, k_get2S3, k_enum, k_enumS, k_zip, k_zipS, k_zipS2, k_d1, k_d1S, k_d1S2, k_frz1, k_frz2, k_frz3, k_run, k_outR, k_outN, k_setG, k_setGS, k_setGS2, k_tstB, List.getElem?_cons_zero, List.getElem?_cons_succ, List.set_cons_zero, List.set_cons_succ, List.length_cons, List.length_nil, Nat.zero_add, Nat.reduceAdd, Nat.reduceSub, if_true, reduceIte, Bool.false_eq_true, Bool.true_eq_false, it_lD, k_lcS m3, h3, mk_0, e3], fun _ => rfl⟩
      have lfar : lenW [.list (((gath k (lessP k ps)).filter fun l => decide ((l.filter fun x => memb x (lot (k + 1) (foe ps k))) = [])).map lD)] = some (.int ((farL k ps).length : Nat)) := by rw [len_L, List.length_map]; rfl
      have gl := gath_less V
      have ne : cmpG .NotEq (.int ((gath (k + 1) ps).length : Nat)) (.int (((gath k (lessP k ps)).length : Nat) + ((farL k ps).length : Nat))) = some (.bool false) := ne_no (by omega)
      exact ⟨some (.va (wD k (lessP k ps))), some (.va (.int ((farL k ps).length : Nat))), by simp -implicitDefEqProofs only [l_6, k_seq, k_seqN, k_seqR, k_seqB, k_seqC, k_upS, k_upBS, k_upRS, k_upLS, k_upOS, k_nx, k_bk, k_ct, k_asg, k_asgS, k_own, k_ownS, k_if, k_ifT, k_ifF, k_ifB, k_rt, k_rtS, k_rtN, k_ex, k_exS, k_app, k_appS, k_for, k_forS, k_frz, k_par, k_parS, k_set, k_setS, k_setS2, k_bin, k_binS, k_binS2, k_un, k_unS, k_not, k_and, k_or, k_andS, k_orS, k_thenT, k_thenF, k_thenB, k_elseT, k_elseF, k_elseB, k_tst, k_andB, k_orB, k_notB, k_andBS, k_orBS, k_notBS, k_ite, k_iteB, k_disp, k_dispS, k_nil, k_cons, k_consS, k_consS2, k_star, k_starS, k_starS1, k_starS2, k_len, k_lenS, k_call, k_callS, k_callD, k_drS, k_drO, k_blt, k_bltS, k_va, k_tv, k_vaO, k_tvO, k_tvOw, k_cst, k_noO, k_someO, k_someS, k_slc, k_slcS, k_slcS1, k_slcS2, k_items, k_itemsS, k_itL, k_itT, k_rng, k_rngS, k_lc, k_lcS2, k_gx, k_gxS, k_sg, k_sgS, k_yes, k_nilE, k_vaE, k_owE, k_vaES, k_owES, k_vaES2, k_whT, k_whF, k_wh2, k_st1, k_st2, k_st3, k_sE0, k_sE, k_wip0, k_wip, k_itemsG, k_itemsGS, k_iwL, k_iwT, k_dc, k_dcS, k_dcS2, k_newD, k_get1, k_get2, k_get1S, k_get1S2, k_get2S, k_get2S2, k_get2S3, k_enum, k_enumS, k_zip, k_zipS, k_zipS2, k_d1, k_d1S, k_d1S2, k_frz1, k_frz2, k_frz3, k_run, k_outR, k_outN, k_setG, k_setGS, k_setGS2, k_tstB, List.getElem?_cons_zero, List.getElem?_cons_succ, List.set_cons_zero, List.set_cons_succ, List.length_cons, List.length_nil, Nat.zero_add, Nat.reduceAdd, Nat.reduceSub, if_true, reduceIte, Bool.false_eq_true, Bool.true_eq_false, gt, w1, it, k_lcS m1', h1, tup_L, wd, gg, it2, k_lcS m2, h2, lfar, gc, gcc, add_i, ne]⟩
    · have gt : cmpG .Gt (.int ((n : Int) - 1)) (.int 0) = some (.bool false) := by rw [cG_gt, decide_eq_false (by omega)]
      exact ⟨none, none, by simp -implicitDefEqProofs only [l_6, k_seq, k_seqN, k_seqR, k_seqB, k_seqC, k_upS, k_upBS, k_upRS, k_upLS, k_upOS, k_nx, k_bk, k_ct, k_asg, k_asgS, k_own, k_ownS, k_if, k_ifT, k_ifF, k_ifB, k_rt, k_rtS, k_rtN, k_ex, k_exS, k_app, k_appS, k_for, k_forS, k_frz, k_par, k_parS, k_set, k_setS, k_setS2, k_bin, k_binS, k_binS2, k_un, k_unS, k_not, k_and, k_or, k_andS, k_orS, k_thenT, k_thenF, k_thenB, k_elseT, k_elseF, k_elseB, k_tst, k_andB, k_orB, k_notB, k_andBS, k_orBS, k_notBS, k_ite, k_iteB, k_disp, k_dispS, k_nil, k_cons, k_consS, k_consS2, k_star, k_starS, k_starS1, k_starS2, k_len, k_lenS, k_call, k_callS, k_callD, k_drS, k_drO, k_blt, k_bltS, k_va, k_tv, k_vaO, k_tvO, k_tvOw, k_cst, k_noO, k_someO, k_someS, k_slc, k_slcS, k_slcS1, k_slcS2, k_items, k_itemsS, k_itL, k_itT, k_rng, k_rngS, k_lc, k_lcS2, k_gx, k_gxS, k_sg, k_sgS, k_yes, k_nilE, k_vaE, k_owE, k_vaES, k_owES, k_vaES2, k_whT, k_whF, k_wh2, k_st1, k_st2, k_st3, k_sE0, k_sE, k_wip0, k_wip, k_itemsG, k_itemsGS, k_iwL, k_iwT, k_dc, k_dcS, k_dcS2, k_newD, k_get1, k_get2, k_get1S, k_get1S2, k_get2S, k_get2S2, k_get2S3, k_enum, k_enumS, k_zip, k_zipS, k_zipS2, k_d1, k_d1S, k_d1S2, k_frz1, k_frz2, k_frz3, k_run, k_outR, k_outN, k_setG, k_setGS, k_setGS2, k_tstB, List.getElem?_cons_zero, List.getElem?_cons_succ, List.set_cons_zero, List.set_cons_succ, List.length_cons, List.length_nil, Nat.zero_add, Nat.reduceAdd, Nat.reduceSub, if_true, reduceIte, Bool.false_eq_true, Bool.true_eq_false, gt]⟩
  have fg := fun st => p_full_gatherings n ps st V
  have lg := fun st => p_largest n ps st V
  have q7 : l_7 [none, some .dr, some (.va (lD (cntsL n ps))), some (.va (wD n ps)), some (.va (.int m)), some (.va (.int ((n : Int) - 1))), some (.va (liI (lot n (foe ps ((n : Int) - 1))))), y7, y8, none, none, none, none, none, none] st2 = some (.nx [none, some .dr, some (.va (lD (cntsL n ps))), some (.va (wD n ps)), some (.va (.int m)), some (.va (.int ((n : Int) - 1))), some (.va (liI (lot n (foe ps ((n : Int) - 1))))), y7, y8, some (.va (tD lD ((gath n ps).filter (fillL n ps)))), some (.va (tD lD (topL n ps))), none, none, none, none], st2) := by simp -implicitDefEqProofs only [l_7, k_seq, k_seqN, k_seqR, k_seqB, k_seqC, k_upS, k_upBS, k_upRS, k_upLS, k_upOS, k_nx, k_bk, k_ct, k_asg, k_asgS, k_own, k_ownS, k_if, k_ifT, k_ifF, k_ifB, k_rt, k_rtS, k_rtN, k_ex, k_exS, k_app, k_appS, k_for, k_forS, k_frz, k_par, k_parS, k_set, k_setS, k_setS2, k_bin, k_binS, k_binS2, k_un, k_unS, k_not, k_and, k_or, k_andS, k_orS, k_thenT, k_thenF, k_thenB, k_elseT, k_elseF, k_elseB, k_tst, k_andB, k_orB, k_notB, k_andBS, k_orBS, k_notBS, k_ite, k_iteB, k_disp, k_dispS, k_nil, k_cons, k_consS, k_consS2, k_star, k_starS, k_starS1, k_starS2, k_len, k_lenS, k_call, k_callS, k_callD, k_drS, k_drO, k_blt, k_bltS, k_va, k_tv, k_vaO, k_tvO, k_tvOw, k_cst, k_noO, k_someO, k_someS, k_slc, k_slcS, k_slcS1, k_slcS2, k_items, k_itemsS, k_itL, k_itT, k_rng, k_rngS, k_lc, k_lcS2, k_gx, k_gxS, k_sg, k_sgS, k_yes, k_nilE, k_vaE, k_owE, k_vaES, k_owES, k_vaES2, k_whT, k_whF, k_wh2, k_st1, k_st2, k_st3, k_sE0, k_sE, k_wip0, k_wip, k_itemsG, k_itemsGS, k_iwL, k_iwT, k_dc, k_dcS, k_dcS2, k_newD, k_get1, k_get2, k_get1S, k_get1S2, k_get2S, k_get2S2, k_get2S3, k_enum, k_enumS, k_zip, k_zipS, k_zipS2, k_d1, k_d1S, k_d1S2, k_frz1, k_frz2, k_frz3, k_run, k_outR, k_outN, k_setG, k_setGS, k_setGS2, k_tstB, List.getElem?_cons_zero, List.getElem?_cons_succ, List.set_cons_zero, List.set_cons_succ, List.length_cons, List.length_nil, Nat.zero_add, Nat.reduceAdd, Nat.reduceSub, if_true, reduceIte, Bool.false_eq_true, Bool.true_eq_false, fg, lg]
  have tl : (topL n ps).length ≤ 128 := Nat.le_trans (List.length_filter_le _ _) G1
  have fl : ((gath n ps).filter (fillL n ps)).length ≤ 128 := Nat.le_trans (List.length_filter_le _ _) G1
  have t8 := lc_filter (E := lD) (tg := .nm 12) (tt := c_law_7) (te := x_law_8) (ρ := [none, some .dr, some (.va (lD (cntsL n ps))), some (.va (wD n ps)), some (.va (.int m)), some (.va (.int ((n : Int) - 1))), some (.va (liI (lot n (foe ps ((n : Int) - 1))))), y7, y8, some (.va (tD lD ((gath n ps).filter (fillL n ps)))), some (.va (tD lD (topL n ps))), none, none, none, none]) (st := st2) (fun _ => false) lD (topL n ps) fun l hl => ⟨_, rfl, by
    have i1 : cmpG .NotIn (lD l) (tD lD ((gath n ps).filter (fillL n ps))) = some (.bool false) := by
      have := nin_T enc_l l ((gath n ps).filter (fillL n ps))
      rw [memb_iff.mpr (List.mem_filter.mpr ⟨(List.mem_filter.mp hl).1, top_fill V hl⟩)] at this
      exact this
    simp -implicitDefEqProofs only [c_law_7, k_seq, k_seqN, k_seqR, k_seqB, k_seqC, k_upS, k_upBS, k_upRS, k_upLS, k_upOS, k_nx, k_bk, k_ct, k_asg, k_asgS, k_own, k_ownS, k_if, k_ifT, k_ifF, k_ifB, k_rt, k_rtS, k_rtN, k_ex, k_exS, k_app, k_appS, k_for, k_forS, k_frz, k_par, k_parS, k_set, k_setS, k_setS2, k_bin, k_binS, k_binS2, k_un, k_unS, k_not, k_and, k_or, k_andS, k_orS, k_thenT, k_thenF, k_thenB, k_elseT, k_elseF, k_elseB, k_tst, k_andB, k_orB, k_notB, k_andBS, k_orBS, k_notBS, k_ite, k_iteB, k_disp, k_dispS, k_nil, k_cons, k_consS, k_consS2, k_star, k_starS, k_starS1, k_starS2, k_len, k_lenS, k_call, k_callS, k_callD, k_drS, k_drO, k_blt, k_bltS, k_va, k_tv, k_vaO, k_tvO, k_tvOw, k_cst, k_noO, k_someO, k_someS, k_slc, k_slcS, k_slcS1, k_slcS2, k_items, k_itemsS, k_itL, k_itT, k_rng, k_rngS, k_lc, k_lcS2, k_gx, k_gxS, k_sg, k_sgS, k_yes, k_nilE, k_vaE, k_owE, k_vaES, k_owES, k_vaES2, k_whT, k_whF, k_wh2, k_st1, k_st2, k_st3, k_sE0, k_sE, k_wip0, k_wip, k_itemsG, k_itemsGS, k_iwL, k_iwT, k_dc, k_dcS, k_dcS2, k_newD, k_get1, k_get2, k_get1S, k_get1S2, k_get2S, k_get2S2, k_get2S3, k_enum, k_enumS, k_zip, k_zipS, k_zipS2, k_d1, k_d1S, k_d1S2, k_frz1, k_frz2, k_frz3, k_run, k_outR, k_outN, k_setG, k_setGS, k_setGS2, k_tstB, List.getElem?_cons_zero, List.getElem?_cons_succ, List.set_cons_zero, List.set_cons_succ, List.length_cons, List.length_nil, Nat.zero_add, Nat.reduceAdd, Nat.reduceSub, if_true, reduceIte, Bool.false_eq_true, Bool.true_eq_false, i1], fun z => Bool.noConfusion z⟩
  have nil8 : ∀ l : List (List Int), l.filter (fun _ => false) = [] := fun l => by simp
  rw [nil8] at t8
  have t9 := lc_filter (E := lD) (tg := .nm 12) (tt := c_law_9) (te := x_law_10) (ρ := [none, some .dr, some (.va (lD (cntsL n ps))), some (.va (wD n ps)), some (.va (.int m)), some (.va (.int ((n : Int) - 1))), some (.va (liI (lot n (foe ps ((n : Int) - 1))))), y7, y8, some (.va (tD lD ((gath n ps).filter (fillL n ps)))), some (.va (tD lD (topL n ps))), none, none, none, none]) (st := st2) (fun _ => false) lD ((gath n ps).filter (fillL n ps)) fun l hl => ⟨_, rfl, by
    obtain ⟨hg, hf⟩ := List.mem_filter.mp hl
    obtain ⟨P, hP, rfl⟩ := (mem_gath V).mp hg
    have f1 := p_is_full n ps P st2 V hP
    rw [hf] at f1
    have i1 : cmpG .IsNot (.bool true) (.bool true) = some (.bool false) := rfl
    simp -implicitDefEqProofs only [c_law_9, k_seq, k_seqN, k_seqR, k_seqB, k_seqC, k_upS, k_upBS, k_upRS, k_upLS, k_upOS, k_nx, k_bk, k_ct, k_asg, k_asgS, k_own, k_ownS, k_if, k_ifT, k_ifF, k_ifB, k_rt, k_rtS, k_rtN, k_ex, k_exS, k_app, k_appS, k_for, k_forS, k_frz, k_par, k_parS, k_set, k_setS, k_setS2, k_bin, k_binS, k_binS2, k_un, k_unS, k_not, k_and, k_or, k_andS, k_orS, k_thenT, k_thenF, k_thenB, k_elseT, k_elseF, k_elseB, k_tst, k_andB, k_orB, k_notB, k_andBS, k_orBS, k_notBS, k_ite, k_iteB, k_disp, k_dispS, k_nil, k_cons, k_consS, k_consS2, k_star, k_starS, k_starS1, k_starS2, k_len, k_lenS, k_call, k_callS, k_callD, k_drS, k_drO, k_blt, k_bltS, k_va, k_tv, k_vaO, k_tvO, k_tvOw, k_cst, k_noO, k_someO, k_someS, k_slc, k_slcS, k_slcS1, k_slcS2, k_items, k_itemsS, k_itL, k_itT, k_rng, k_rngS, k_lc, k_lcS2, k_gx, k_gxS, k_sg, k_sgS, k_yes, k_nilE, k_vaE, k_owE, k_vaES, k_owES, k_vaES2, k_whT, k_whF, k_wh2, k_st1, k_st2, k_st3, k_sE0, k_sE, k_wip0, k_wip, k_itemsG, k_itemsGS, k_iwL, k_iwT, k_dc, k_dcS, k_dcS2, k_newD, k_get1, k_get2, k_get1S, k_get1S2, k_get2S, k_get2S2, k_get2S3, k_enum, k_enumS, k_zip, k_zipS, k_zipS2, k_d1, k_d1S, k_d1S2, k_frz1, k_frz2, k_frz3, k_run, k_outR, k_outN, k_setG, k_setGS, k_setGS2, k_tstB, List.getElem?_cons_zero, List.getElem?_cons_succ, List.set_cons_zero, List.set_cons_succ, List.length_cons, List.length_nil, Nat.zero_add, Nat.reduceAdd, Nat.reduceSub, if_true, reduceIte, Bool.false_eq_true, Bool.true_eq_false, f1, i1], fun z => Bool.noConfusion z⟩
  rw [nil8] at t9
  have mt : ((topL n ps).map lD).length ≤ 1000000 := by rw [List.length_map]; omega
  have mf : (((gath n ps).filter (fillL n ps)).map lD).length ≤ 1000000 := by rw [List.length_map]; omega
  have itt : ∀ L : List (List Int), itemsW (tD lD L) = some (L.map lD) := fun _ => rfl
  have n0 : cmpG .NotEq (.list (([] : List (List Int)).map lD)) (.list []) = some (.bool false) := rfl
  have q8 : l_8 [none, some .dr, some (.va (lD (cntsL n ps))), some (.va (wD n ps)), some (.va (.int m)), some (.va (.int ((n : Int) - 1))), some (.va (liI (lot n (foe ps ((n : Int) - 1))))), y7, y8, some (.va (tD lD ((gath n ps).filter (fillL n ps)))), some (.va (tD lD (topL n ps))), none, none, none, none] st2 = some (.nx [none, some .dr, some (.va (lD (cntsL n ps))), some (.va (wD n ps)), some (.va (.int m)), some (.va (.int ((n : Int) - 1))), some (.va (liI (lot n (foe ps ((n : Int) - 1))))), y7, y8, some (.va (tD lD ((gath n ps).filter (fillL n ps)))), some (.va (tD lD (topL n ps))), none, none, none, none], st2) := by simp -implicitDefEqProofs only [l_8, k_seq, k_seqN, k_seqR, k_seqB, k_seqC, k_upS, k_upBS, k_upRS, k_upLS, k_upOS, k_nx, k_bk, k_ct, k_asg, k_asgS, k_own, k_ownS, k_if, k_ifT, k_ifF, k_ifB, k_rt, k_rtS, k_rtN, k_ex, k_exS, k_app, k_appS, k_for, k_forS, k_frz, k_par, k_parS, k_set, k_setS, k_setS2, k_bin, k_binS, k_binS2, k_un, k_unS, k_not, k_and, k_or, k_andS, k_orS, k_thenT, k_thenF, k_thenB, k_elseT, k_elseF, k_elseB, k_tst, k_andB, k_orB, k_notB, k_andBS, k_orBS, k_notBS, k_ite, k_iteB, k_disp, k_dispS, k_nil, k_cons, k_consS, k_consS2, k_star, k_starS, k_starS1, k_starS2, k_len, k_lenS, k_call, k_callS, k_callD, k_drS, k_drO, k_blt, k_bltS, k_va, k_tv, k_vaO, k_tvO, k_tvOw, k_cst, k_noO, k_someO, k_someS, k_slc, k_slcS, k_slcS1, k_slcS2, k_items, k_itemsS, k_itL, k_itT, k_rng, k_rngS, k_lc, k_lcS2, k_gx, k_gxS, k_sg, k_sgS, k_yes, k_nilE, k_vaE, k_owE, k_vaES, k_owES, k_vaES2, k_whT, k_whF, k_wh2, k_st1, k_st2, k_st3, k_sE0, k_sE, k_wip0, k_wip, k_itemsG, k_itemsGS, k_iwL, k_iwT, k_dc, k_dcS, k_dcS2, k_newD, k_get1, k_get2, k_get1S, k_get1S2, k_get2S, k_get2S2, k_get2S3, k_enum, k_enumS, k_zip, k_zipS, k_zipS2, k_d1, k_d1S, k_d1S2, k_frz1, k_frz2, k_frz3, k_run, k_outR, k_outN, k_setG, k_setGS, k_setGS2, k_tstB, List.getElem?_cons_zero, List.getElem?_cons_succ, List.set_cons_zero, List.set_cons_succ, List.length_cons, List.length_nil, Nat.zero_add, Nat.reduceAdd, Nat.reduceSub, if_true, reduceIte, Bool.false_eq_true, Bool.true_eq_false, itt, k_lcS mt, k_lcS mf, t8, t9, mk_0, n0]
  obtain ⟨l0, hl0, el0⟩ := top0 V
  have q9 : l_9 [none, some .dr, some (.va (lD (cntsL n ps))), some (.va (wD n ps)), some (.va (.int m)), some (.va (.int ((n : Int) - 1))), some (.va (liI (lot n (foe ps ((n : Int) - 1))))), y7, y8, some (.va (tD lD ((gath n ps).filter (fillL n ps)))), some (.va (tD lD (topL n ps))), none, none, none, none] st2 = some (.nx [none, some .dr, some (.va (lD (cntsL n ps))), some (.va (wD n ps)), some (.va (.int m)), some (.va (.int ((n : Int) - 1))), some (.va (liI (lot n (foe ps ((n : Int) - 1))))), y7, y8, some (.va (tD lD ((gath n ps).filter (fillL n ps)))), some (.va (tD lD (topL n ps))), none, none, none, none], st2) := by
    have k1 : cmpG .NotEq (.int ((topL n ps).length : Nat)) (.int (cntL (gath n ps) (mxL (gath n ps)) : Nat)) = some (.bool false) := ne_no (by rw [top_len])
    have k2 : cmpG .NotEq (.int (l0.length : Nat)) (.int (((mxL (gath n ps) + 1 : Nat) : Int) - 1)) = some (.bool false) := ne_no (by omega)
    simp -implicitDefEqProofs only [l_9, k_seq, k_seqN, k_seqR, k_seqB, k_seqC, k_upS, k_upBS, k_upRS, k_upLS, k_upOS, k_nx, k_bk, k_ct, k_asg, k_asgS, k_own, k_ownS, k_if, k_ifT, k_ifF, k_ifB, k_rt, k_rtS, k_rtN, k_ex, k_exS, k_app, k_appS, k_for, k_forS, k_frz, k_par, k_parS, k_set, k_setS, k_setS2, k_bin, k_binS, k_binS2, k_un, k_unS, k_not, k_and, k_or, k_andS, k_orS, k_thenT, k_thenF, k_thenB, k_elseT, k_elseF, k_elseB, k_tst, k_andB, k_orB, k_notB, k_andBS, k_orBS, k_notBS, k_ite, k_iteB, k_disp, k_dispS, k_nil, k_cons, k_consS, k_consS2, k_star, k_starS, k_starS1, k_starS2, k_len, k_lenS, k_call, k_callS, k_callD, k_drS, k_drO, k_blt, k_bltS, k_va, k_tv, k_vaO, k_tvO, k_tvOw, k_cst, k_noO, k_someO, k_someS, k_slc, k_slcS, k_slcS1, k_slcS2, k_items, k_itemsS, k_itL, k_itT, k_rng, k_rngS, k_lc, k_lcS2, k_gx, k_gxS, k_sg, k_sgS, k_yes, k_nilE, k_vaE, k_owE, k_vaES, k_owES, k_vaES2, k_whT, k_whF, k_wh2, k_st1, k_st2, k_st3, k_sE0, k_sE, k_wip0, k_wip, k_itemsG, k_itemsGS, k_iwL, k_iwT, k_dc, k_dcS, k_dcS2, k_newD, k_get1, k_get2, k_get1S, k_get1S2, k_get2S, k_get2S2, k_get2S3, k_enum, k_enumS, k_zip, k_zipS, k_zipS2, k_d1, k_d1S, k_d1S2, k_frz1, k_frz2, k_frz3, k_run, k_outR, k_outN, k_setG, k_setGS, k_setGS2, k_tstB, List.getElem?_cons_zero, List.getElem?_cons_succ, List.set_cons_zero, List.set_cons_succ, List.length_cons, List.length_nil, Nat.zero_add, Nat.reduceAdd, Nat.reduceSub, if_true, reduceIte, Bool.false_eq_true, Bool.true_eq_false, len_tD, neg_i, cn_last, k1, hl0, len_lD, cnts_len, sub_i, k2]
  have F := web_of (web_fullP m (in17 m1 m7))
  have R := web_of (web_rowP m (in17 m1 m7))
  have Q := web_of (web_ringP m (in17 m1 m7))
  have f1 := fun st => p_full_web m m1 m7 st
  have f2 := fun st => p_full_gatherings m (fullP m) st F
  rw [full_full m (in17 m1 m7)] at f2
  have r1 := fun st => p_row_web m m1 m7 st
  have r2 := fun st => p_largest m (rowP m) st R
  have g1' := fun st => p_ring_web m m1 m7 st
  have g2' := fun st => p_largest m (ringP m) st Q
  obtain ⟨lr, hlr, elr⟩ := top0 R
  obtain ⟨lq, hlq, elq⟩ := top0 Q
  have t10 := lc_filter (E := PyData.int) (tg := .nm 14) (tt := yesB) (te := x_law_11) (ρ := [none, some .dr, some (.va (lD (cntsL n ps))), some (.va (wD n ps)), some (.va (.int m)), some (.va (.int ((n : Int) - 1))), some (.va (liI (lot n (foe ps ((n : Int) - 1))))), y7, y8, some (.va (tD lD ((gath n ps).filter (fillL n ps)))), some (.va (tD lD (topL n ps))), none, none, none, none]) (st := st2) (fun _ => true) (fun x => lD [x]) (ran m) fun x hx => ⟨_, rfl, rfl, fun _ => by
    simp -implicitDefEqProofs only [x_law_11, k_seq, k_seqN, k_seqR, k_seqB, k_seqC, k_upS, k_upBS, k_upRS, k_upLS, k_upOS, k_nx, k_bk, k_ct, k_asg, k_asgS, k_own, k_ownS, k_if, k_ifT, k_ifF, k_ifB, k_rt, k_rtS, k_rtN, k_ex, k_exS, k_app, k_appS, k_for, k_forS, k_frz, k_par, k_parS, k_set, k_setS, k_setS2, k_bin, k_binS, k_binS2, k_un, k_unS, k_not, k_and, k_or, k_andS, k_orS, k_thenT, k_thenF, k_thenB, k_elseT, k_elseF, k_elseB, k_tst, k_andB, k_orB, k_notB, k_andBS, k_orBS, k_notBS, k_ite, k_iteB, k_disp, k_dispS, k_nil, k_cons, k_consS, k_consS2, k_star, k_starS, k_starS1, k_starS2, k_len, k_lenS, k_call, k_callS, k_callD, k_drS, k_drO, k_blt, k_bltS, k_va, k_tv, k_vaO, k_tvO, k_tvOw, k_cst, k_noO, k_someO, k_someS, k_slc, k_slcS, k_slcS1, k_slcS2, k_items, k_itemsS, k_itL, k_itT, k_rng, k_rngS, k_lc, k_lcS2, k_gx, k_gxS, k_sg, k_sgS, k_yes, k_nilE, k_vaE, k_owE, k_vaES, k_owES, k_vaES2, k_whT, k_whF, k_wh2, k_st1, k_st2, k_st3, k_sE0, k_sE, k_wip0, k_wip, k_itemsG, k_itemsGS, k_iwL, k_iwT, k_dc, k_dcS, k_dcS2, k_newD, k_get1, k_get2, k_get1S, k_get1S2, k_get2S, k_get2S2, k_get2S3, k_enum, k_enumS, k_zip, k_zipS, k_zipS2, k_d1, k_d1S, k_d1S2, k_frz1, k_frz2, k_frz3, k_run, k_outR, k_outN, k_setG, k_setGS, k_setGS2, k_tstB, List.getElem?_cons_zero, List.getElem?_cons_succ, List.set_cons_zero, List.set_cons_succ, List.length_cons, List.length_nil, Nat.zero_add, Nat.reduceAdd, Nat.reduceSub, if_true, reduceIte, Bool.false_eq_true, Bool.true_eq_false, mk_1]
    rfl⟩
  rw [List.filter_eq_self.mpr fun _ _ => rfl] at t10
  have mr : ((ran m).map PyData.int).length ≤ 1000000 := by rw [List.length_map, ran_length]; omega
  have tt10 : tupleV [.list ((ran m).map fun x => lD [x])] = some (tD lD ((ran m).map fun x => [x])) := by
    show some (PyData.tuple ((ran m).map fun x => lD [x])) = some (PyData.tuple (((ran m).map fun x => [x]).map lD))
    rw [List.map_map]
    rfl
  have nf : cmpG .NotEq (tD lD ((ran m).map fun x => [x])) (tD lD ((ran m).map fun x => [x])) = some (.bool false) := ne_self enc_ls _
  have q10 : l_10 [none, some .dr, some (.va (lD (cntsL n ps))), some (.va (wD n ps)), some (.va (.int m)), some (.va (.int ((n : Int) - 1))), some (.va (liI (lot n (foe ps ((n : Int) - 1))))), y7, y8, some (.va (tD lD ((gath n ps).filter (fillL n ps)))), some (.va (tD lD (topL n ps))), none, none, none, none] st2 = some (.nx [none, some .dr, some (.va (lD (cntsL n ps))), some (.va (wD n ps)), some (.va (.int m)), some (.va (.int ((n : Int) - 1))), some (.va (liI (lot n (foe ps ((n : Int) - 1))))), y7, y8, some (.va (tD lD ((gath n ps).filter (fillL n ps)))), some (.va (tD lD (topL n ps))), none, none, none, none], st2) := by
    have fd : fdivV (.int ((m : Int) + 1)) (.int 2) = some (.int (((m : Int) + 1) / 2)) := fdiv_i (by decide) (by decide)
    have k2 : cmpG .NotEq (.int (lr.length : Nat)) (.int (((m : Int) + 1) / 2)) = some (.bool false) := ne_no (by rw [elr, row_top m (in17 m1 m7)]; omega)
    simp -implicitDefEqProofs only [l_10, k_seq, k_seqN, k_seqR, k_seqB, k_seqC, k_upS, k_upBS, k_upRS, k_upLS, k_upOS, k_nx, k_bk, k_ct, k_asg, k_asgS, k_own, k_ownS, k_if, k_ifT, k_ifF, k_ifB, k_rt, k_rtS, k_rtN, k_ex, k_exS, k_app, k_appS, k_for, k_forS, k_frz, k_par, k_parS, k_set, k_setS, k_setS2, k_bin, k_binS, k_binS2, k_un, k_unS, k_not, k_and, k_or, k_andS, k_orS, k_thenT, k_thenF, k_thenB, k_elseT, k_elseF, k_elseB, k_tst, k_andB, k_orB, k_notB, k_andBS, k_orBS, k_notBS, k_ite, k_iteB, k_disp, k_dispS, k_nil, k_cons, k_consS, k_consS2, k_star, k_starS, k_starS1, k_starS2, k_len, k_lenS, k_call, k_callS, k_callD, k_drS, k_drO, k_blt, k_bltS, k_va, k_tv, k_vaO, k_tvO, k_tvOw, k_cst, k_noO, k_someO, k_someS, k_slc, k_slcS, k_slcS1, k_slcS2, k_items, k_itemsS, k_itL, k_itT, k_rng, k_rngS, k_lc, k_lcS2, k_gx, k_gxS, k_sg, k_sgS, k_yes, k_nilE, k_vaE, k_owE, k_vaES, k_owES, k_vaES2, k_whT, k_whF, k_wh2, k_st1, k_st2, k_st3, k_sE0, k_sE, k_wip0, k_wip, k_itemsG, k_itemsGS, k_iwL, k_iwT, k_dc, k_dcS, k_dcS2, k_newD, k_get1, k_get2, k_get1S, k_get1S2, k_get2S, k_get2S2, k_get2S3, k_enum, k_enumS, k_zip, k_zipS, k_zipS2, k_d1, k_d1S, k_d1S2, k_frz1, k_frz2, k_frz3, k_run, k_outR, k_outN, k_setG, k_setGS, k_setGS2, k_tstB, List.getElem?_cons_zero, List.getElem?_cons_succ, List.set_cons_zero, List.set_cons_succ, List.length_cons, List.length_nil, Nat.zero_add, Nat.reduceAdd, Nat.reduceSub, if_true, reduceIte, Bool.false_eq_true, Bool.true_eq_false, f1, f2, rng_ran m (by omega), k_lcS mr, t10, tt10, nf, r1, r2, hlr, len_lD, add_i, fd, k2]
  have q11 : l_11 [none, some .dr, some (.va (lD (cntsL n ps))), some (.va (wD n ps)), some (.va (.int m)), some (.va (.int ((n : Int) - 1))), some (.va (liI (lot n (foe ps ((n : Int) - 1))))), y7, y8, some (.va (tD lD ((gath n ps).filter (fillL n ps)))), some (.va (tD lD (topL n ps))), none, none, none, none] st2 = some (.rt (.bool true), st2) := by
    by_cases h : m < 3
    · have lt : cmpG .Lt (.int (m : Int)) (.int 3) = some (.bool true) := by rw [cG_lt, decide_eq_true (by omega)]
      simp -implicitDefEqProofs only [l_11, k_seq, k_seqN, k_seqR, k_seqB, k_seqC, k_upS, k_upBS, k_upRS, k_upLS, k_upOS, k_nx, k_bk, k_ct, k_asg, k_asgS, k_own, k_ownS, k_if, k_ifT, k_ifF, k_ifB, k_rt, k_rtS, k_rtN, k_ex, k_exS, k_app, k_appS, k_for, k_forS, k_frz, k_par, k_parS, k_set, k_setS, k_setS2, k_bin, k_binS, k_binS2, k_un, k_unS, k_not, k_and, k_or, k_andS, k_orS, k_thenT, k_thenF, k_thenB, k_elseT, k_elseF, k_elseB, k_tst, k_andB, k_orB, k_notB, k_andBS, k_orBS, k_notBS, k_ite, k_iteB, k_disp, k_dispS, k_nil, k_cons, k_consS, k_consS2, k_star, k_starS, k_starS1, k_starS2, k_len, k_lenS, k_call, k_callS, k_callD, k_drS, k_drO, k_blt, k_bltS, k_va, k_tv, k_vaO, k_tvO, k_tvOw, k_cst, k_noO, k_someO, k_someS, k_slc, k_slcS, k_slcS1, k_slcS2, k_items, k_itemsS, k_itL, k_itT, k_rng, k_rngS, k_lc, k_lcS2, k_gx, k_gxS, k_sg, k_sgS, k_yes, k_nilE, k_vaE, k_owE, k_vaES, k_owES, k_vaES2, k_whT, k_whF, k_wh2, k_st1, k_st2, k_st3, k_sE0, k_sE, k_wip0, k_wip, k_itemsG, k_itemsGS, k_iwL, k_iwT, k_dc, k_dcS, k_dcS2, k_newD, k_get1, k_get2, k_get1S, k_get1S2, k_get2S, k_get2S2, k_get2S3, k_enum, k_enumS, k_zip, k_zipS, k_zipS2, k_d1, k_d1S, k_d1S2, k_frz1, k_frz2, k_frz3, k_run, k_outR, k_outN, k_setG, k_setGS, k_setGS2, k_tstB, List.getElem?_cons_zero, List.getElem?_cons_succ, List.set_cons_zero, List.set_cons_succ, List.length_cons, List.length_nil, Nat.zero_add, Nat.reduceAdd, Nat.reduceSub, if_true, reduceIte, Bool.false_eq_true, Bool.true_eq_false, lt]
    · have lt : cmpG .Lt (.int (m : Int)) (.int 3) = some (.bool false) := by rw [cG_lt, decide_eq_false (by omega)]
      have hm3 : m ∈ [3, 4, 5, 6, 7] := by
        have : m = 3 ∨ m = 4 ∨ m = 5 ∨ m = 6 ∨ m = 7 := by omega
        rcases this with rfl | rfl | rfl | rfl | rfl <;> decide
      have fd : fdivV (.int (m : Int)) (.int 2) = some (.int ((m : Int) / 2)) := fdiv_i (by decide) (by decide)
      have k2 : cmpG .Eq (.int (lq.length : Nat)) (.int ((m : Int) / 2)) = some (.bool true) := by rw [cG_eq, decide_eq_true (by rw [elq, ring_top m hm3]; omega)]
      simp -implicitDefEqProofs only [l_11, k_seq, k_seqN, k_seqR, k_seqB, k_seqC, k_upS, k_upBS, k_upRS, k_upLS, k_upOS, k_nx, k_bk, k_ct, k_asg, k_asgS, k_own, k_ownS, k_if, k_ifT, k_ifF, k_ifB, k_rt, k_rtS, k_rtN, k_ex, k_exS, k_app, k_appS, k_for, k_forS, k_frz, k_par, k_parS, k_set, k_setS, k_setS2, k_bin, k_binS, k_binS2, k_un, k_unS, k_not, k_and, k_or, k_andS, k_orS, k_thenT, k_thenF, k_thenB, k_elseT, k_elseF, k_elseB, k_tst, k_andB, k_orB, k_notB, k_andBS, k_orBS, k_notBS, k_ite, k_iteB, k_disp, k_dispS, k_nil, k_cons, k_consS, k_consS2, k_star, k_starS, k_starS1, k_starS2, k_len, k_lenS, k_call, k_callS, k_callD, k_drS, k_drO, k_blt, k_bltS, k_va, k_tv, k_vaO, k_tvO, k_tvOw, k_cst, k_noO, k_someO, k_someS, k_slc, k_slcS, k_slcS1, k_slcS2, k_items, k_itemsS, k_itL, k_itT, k_rng, k_rngS, k_lc, k_lcS2, k_gx, k_gxS, k_sg, k_sgS, k_yes, k_nilE, k_vaE, k_owE, k_vaES, k_owES, k_vaES2, k_whT, k_whF, k_wh2, k_st1, k_st2, k_st3, k_sE0, k_sE, k_wip0, k_wip, k_itemsG, k_itemsGS, k_iwL, k_iwT, k_dc, k_dcS, k_dcS2, k_newD, k_get1, k_get2, k_get1S, k_get1S2, k_get2S, k_get2S2, k_get2S3, k_enum, k_enumS, k_zip, k_zipS, k_zipS2, k_d1, k_d1S, k_d1S2, k_frz1, k_frz2, k_frz3, k_run, k_outR, k_outN, k_setG, k_setGS, k_setGS2, k_tstB, List.getElem?_cons_zero, List.getElem?_cons_succ, List.set_cons_zero, List.set_cons_succ, List.length_cons, List.length_nil, Nat.zero_add, Nat.reduceAdd, Nat.reduceSub, if_true, reduceIte, Bool.false_eq_true, Bool.true_eq_false, lt, g1', g2', hlq, len_lD, fd, k2]
  refine ⟨st2, ?_⟩
  rw [e_law]
  exact ev_seq q1 (ev_seq q2 (ev_seq q3 (ev_seq q4 (ev_seq q5 (ev_seq q6 (ev_seq q7 (ev_seq q8 (ev_seq q9 (ev_seq q10 (ev_seqR q11))))))))))
end Hd
namespace Hd
open PySem PySem.Spec PyProof.Rows L2
section
variable {P : Program} {w : World} {K : PySem.W.Frag} {mg : Str → Option Value} {base : Heap} {h : Heap}
abbrev tb (K : PySem.W.Frag) : List Addr := tf.map fun p => (He.cT K p).2
theorem tb_of (hT : ∀ p ∈ tf, GxR.TabB base mg (He.codeOf K p) (He.cT K p).2) (p : He.Defn) (hp : p ∈ tf) : ∃ Pt, Pt ∈ tb K ∧ GxR.TabB base mg (He.codeOf K p) Pt := ⟨_, List.mem_map.mpr ⟨p, hp, rfl⟩, hT p hp⟩
theorem A0 : Fo.AllOk P w K mg base ⟨tb K, []⟩ 1 F0 := Fo.AllOk.nil
theorem A1 (X : K.In base) (G : base.Ns mainGlobals mg) (c : He.SaysX fa fn [] tf ex w h K) (hT : ∀ p ∈ tf, GxR.TabB base mg (He.codeOf K p) (He.cT K p).2) : Fo.AllOk P w K mg base ⟨tb K, []⟩ 2 F1 := by
  obtain ⟨fd, F⟩ := c.t.d.def_ 0 rfl
  exact Fo.AllOk.add (C := C1) (ps := ["value", "least", "most"]) (A0) (by decide) (Fo.mdl_of X G c (by decide +kernel)) rfl rfl (fun _ => rfl) rfl F (F.bindsN fun _ _ _ _ _ _ us hl => match us, hl with | [_, _, _], _ => rfl) (He.glo_ok X G (c.t.d.fact 0 rfl))
    ⟨rfl, rfl, rfl, by decide +kernel, rfl, by decide +kernel, by decide +kernel⟩ (fun z => Bool.noConfusion z) (fun z => Bool.noConfusion z)
theorem A2 (X : K.In base) (G : base.Ns mainGlobals mg) (c : He.SaysX fa fn [] tf ex w h K) (hT : ∀ p ∈ tf, GxR.TabB base mg (He.codeOf K p) (He.cT K p).2) : Fo.AllOk P w K mg base ⟨tb K, []⟩ 5 F2 := by
  obtain ⟨fd, F⟩ := c.t.d.def_ 1 rfl
  exact Fo.AllOk.add (C := C2) (ps := ["web"]) (A1 X G c hT) (by decide) (Fo.mdl_of X G c (by decide +kernel)) rfl rfl (fun _ => rfl) rfl F (F.bindsN fun _ _ _ _ _ _ us hl => match us, hl with | [_], _ => rfl) (He.glo_ok X G (c.t.d.fact 1 rfl))
    ⟨rfl, rfl, rfl, by decide +kernel, rfl, by decide +kernel, by decide +kernel⟩ (fun _ => tb_of hT ("need_web", none) (by decide)) (fun z => Bool.noConfusion z)
theorem A3 (X : K.In base) (G : base.Ns mainGlobals mg) (c : He.SaysX fa fn [] tf ex w h K) (hT : ∀ p ∈ tf, GxR.TabB base mg (He.codeOf K p) (He.cT K p).2) : Fo.AllOk P w K mg base ⟨tb K, []⟩ 6 F3 := by
  obtain ⟨fd, F⟩ := c.t.d.def_ 2 rfl
  exact Fo.AllOk.add (C := C3) (ps := ["web", "one", "other"]) (A2 X G c hT) (by decide) (Fo.mdl_of X G c (by decide +kernel)) rfl rfl (fun _ => rfl) rfl F (F.bindsN fun _ _ _ _ _ _ us hl => match us, hl with | [_, _, _], _ => rfl) (He.glo_ok X G (c.t.d.fact 2 rfl))
    ⟨rfl, rfl, rfl, by decide +kernel, rfl, by decide +kernel, by decide +kernel⟩ (fun z => Bool.noConfusion z) (fun z => Bool.noConfusion z)
theorem A4 (X : K.In base) (G : base.Ns mainGlobals mg) (c : He.SaysX fa fn [] tf ex w h K) (hT : ∀ p ∈ tf, GxR.TabB base mg (He.codeOf K p) (He.cT K p).2) : Fo.AllOk P w K mg base ⟨tb K, []⟩ 7 F4 := by
  obtain ⟨fd, F⟩ := c.t.d.def_ 3 rfl
  exact Fo.AllOk.add (C := C4) (ps := ["web", "person"]) (A3 X G c hT) (by decide) (Fo.mdl_of X G c (by decide +kernel)) rfl rfl (fun _ => rfl) rfl F (F.bindsN fun _ _ _ _ _ _ us hl => match us, hl with | [_, _], _ => rfl) (He.glo_ok X G (c.t.d.fact 3 rfl))
    ⟨rfl, rfl, rfl, by decide +kernel, rfl, by decide +kernel, by decide +kernel⟩ (fun z => Bool.noConfusion z) (fun z => Bool.noConfusion z)
theorem A5 (X : K.In base) (G : base.Ns mainGlobals mg) (c : He.SaysX fa fn [] tf ex w h K) (hT : ∀ p ∈ tf, GxR.TabB base mg (He.codeOf K p) (He.cT K p).2) : Fo.AllOk P w K mg base ⟨tb K, []⟩ 10 F5 := by
  obtain ⟨fd, F⟩ := c.t.d.def_ 4 rfl
  exact Fo.AllOk.add (C := C5) (ps := ["web", "value"]) (A4 X G c hT) (by decide) (Fo.mdl_of X G c (by decide +kernel)) rfl rfl (fun _ => rfl) rfl F (F.bindsN fun _ _ _ _ _ _ us hl => match us, hl with | [_, _], _ => rfl) (He.glo_ok X G (c.t.d.fact 4 rfl))
    ⟨rfl, rfl, rfl, by decide +kernel, rfl, by decide +kernel, by decide +kernel⟩ (fun _ => tb_of hT ("is_lot", none) (by decide)) (fun z => Bool.noConfusion z)
theorem A6 (X : K.In base) (G : base.Ns mainGlobals mg) (c : He.SaysX fa fn [] tf ex w h K) (hT : ∀ p ∈ tf, GxR.TabB base mg (He.codeOf K p) (He.cT K p).2) : Fo.AllOk P w K mg base ⟨tb K, []⟩ 13 F6 := by
  obtain ⟨fd, F⟩ := c.t.d.def_ 5 rfl
  exact Fo.AllOk.add (C := C6) (ps := ["web", "value"]) (A5 X G c hT) (by decide) (Fo.mdl_of X G c (by decide +kernel)) rfl rfl (fun _ => rfl) rfl F (F.bindsN fun _ _ _ _ _ _ us hl => match us, hl with | [_, _], _ => rfl) (He.glo_ok X G (c.t.d.fact 5 rfl))
    ⟨rfl, rfl, rfl, by decide +kernel, rfl, by decide +kernel, by decide +kernel⟩ (fun _ => tb_of hT ("is_gathering", none) (by decide)) (fun z => Bool.noConfusion z)
theorem A7 (X : K.In base) (G : base.Ns mainGlobals mg) (c : He.SaysX fa fn [] tf ex w h K) (hT : ∀ p ∈ tf, GxR.TabB base mg (He.codeOf K p) (He.cT K p).2) : Fo.AllOk P w K mg base ⟨tb K, []⟩ 14 F7 := by
  obtain ⟨fd, F⟩ := c.t.d.def_ 6 rfl
  exact Fo.AllOk.add (C := C7) (ps := ["web", "gathering"]) (A6 X G c hT) (by decide) (Fo.mdl_of X G c (by decide +kernel)) rfl rfl (fun _ => rfl) rfl F (F.bindsN fun _ _ _ _ _ _ us hl => match us, hl with | [_, _], _ => rfl) (He.glo_ok X G (c.t.d.fact 6 rfl))
    ⟨rfl, rfl, rfl, by decide +kernel, rfl, by decide +kernel, by decide +kernel⟩ (fun z => Bool.noConfusion z) (fun z => Bool.noConfusion z)
theorem A8 (X : K.In base) (G : base.Ns mainGlobals mg) (c : He.SaysX fa fn [] tf ex w h K) (hT : ∀ p ∈ tf, GxR.TabB base mg (He.codeOf K p) (He.cT K p).2) : Fo.AllOk P w K mg base ⟨tb K, []⟩ 15 F8 := by
  obtain ⟨fd, F⟩ := c.t.d.def_ 7 rfl
  exact Fo.AllOk.add (C := C8) (ps := ["web"]) (A7 X G c hT) (by decide) (Fo.mdl_of X G c (by decide +kernel)) rfl rfl (fun _ => rfl) rfl F (F.bindsN fun _ _ _ _ _ _ us hl => match us, hl with | [_], _ => rfl) (He.glo_ok X G (c.t.d.fact 7 rfl))
    ⟨rfl, rfl, rfl, by decide +kernel, rfl, by decide +kernel, by decide +kernel⟩ (fun z => Bool.noConfusion z) (fun z => Bool.noConfusion z)
theorem A9 (X : K.In base) (G : base.Ns mainGlobals mg) (c : He.SaysX fa fn [] tf ex w h K) (hT : ∀ p ∈ tf, GxR.TabB base mg (He.codeOf K p) (He.cT K p).2) : Fo.AllOk P w K mg base ⟨tb K, []⟩ 16 F9 := by
  obtain ⟨fd, F⟩ := c.t.d.def_ 8 rfl
  exact Fo.AllOk.add (C := C9) (ps := ["web"]) (A8 X G c hT) (by decide) (Fo.mdl_of X G c (by decide +kernel)) rfl rfl (fun _ => rfl) rfl F (F.bindsN fun _ _ _ _ _ _ us hl => match us, hl with | [_], _ => rfl) (He.glo_ok X G (c.t.d.fact 8 rfl))
    ⟨rfl, rfl, rfl, by decide +kernel, rfl, by decide +kernel, by decide +kernel⟩ (fun z => Bool.noConfusion z) (fun z => Bool.noConfusion z)
theorem A10 (X : K.In base) (G : base.Ns mainGlobals mg) (c : He.SaysX fa fn [] tf ex w h K) (hT : ∀ p ∈ tf, GxR.TabB base mg (He.codeOf K p) (He.cT K p).2) : Fo.AllOk P w K mg base ⟨tb K, []⟩ 17 F10 := by
  obtain ⟨fd, F⟩ := c.t.d.def_ 9 rfl
  exact Fo.AllOk.add (C := C10) (ps := ["web"]) (A9 X G c hT) (by decide) (Fo.mdl_of X G c (by decide +kernel)) rfl rfl (fun _ => rfl) rfl F (F.bindsN fun _ _ _ _ _ _ us hl => match us, hl with | [_], _ => rfl) (He.glo_ok X G (c.t.d.fact 9 rfl))
    ⟨rfl, rfl, rfl, by decide +kernel, rfl, by decide +kernel, by decide +kernel⟩ (fun z => Bool.noConfusion z) (fun z => Bool.noConfusion z)
theorem A11 (X : K.In base) (G : base.Ns mainGlobals mg) (c : He.SaysX fa fn [] tf ex w h K) (hT : ∀ p ∈ tf, GxR.TabB base mg (He.codeOf K p) (He.cT K p).2) : Fo.AllOk P w K mg base ⟨tb K, []⟩ 18 F11 := by
  obtain ⟨fd, F⟩ := c.t.d.def_ 10 rfl
  exact Fo.AllOk.add (C := C11) (ps := ["web"]) (A10 X G c hT) (by decide) (Fo.mdl_of X G c (by decide +kernel)) rfl rfl (fun _ => rfl) rfl F (F.bindsN fun _ _ _ _ _ _ us hl => match us, hl with | [_], _ => rfl) (He.glo_ok X G (c.t.d.fact 10 rfl))
    ⟨rfl, rfl, rfl, by decide +kernel, rfl, by decide +kernel, by decide +kernel⟩ (fun z => Bool.noConfusion z) (fun z => Bool.noConfusion z)
theorem A12 (X : K.In base) (G : base.Ns mainGlobals mg) (c : He.SaysX fa fn [] tf ex w h K) (hT : ∀ p ∈ tf, GxR.TabB base mg (He.codeOf K p) (He.cT K p).2) : Fo.AllOk P w K mg base ⟨tb K, []⟩ 19 F12 := by
  obtain ⟨fd, F⟩ := c.t.d.def_ 11 rfl
  exact Fo.AllOk.add (C := C12) (ps := ["web"]) (A11 X G c hT) (by decide) (Fo.mdl_of X G c (by decide +kernel)) rfl rfl (fun _ => rfl) rfl F (F.bindsN fun _ _ _ _ _ _ us hl => match us, hl with | [_], _ => rfl) (He.glo_ok X G (c.t.d.fact 11 rfl))
    ⟨rfl, rfl, rfl, by decide +kernel, rfl, by decide +kernel, by decide +kernel⟩ (fun z => Bool.noConfusion z) (fun z => Bool.noConfusion z)
theorem A13 (X : K.In base) (G : base.Ns mainGlobals mg) (c : He.SaysX fa fn [] tf ex w h K) (hT : ∀ p ∈ tf, GxR.TabB base mg (He.codeOf K p) (He.cT K p).2) : Fo.AllOk P w K mg base ⟨tb K, []⟩ 22 F13 := by
  obtain ⟨fd, F⟩ := c.t.d.def_ 12 rfl
  exact Fo.AllOk.add (C := C13) (ps := ["web", "gathering"]) (A12 X G c hT) (by decide) (Fo.mdl_of X G c (by decide +kernel)) rfl rfl (fun _ => rfl) rfl F (F.bindsN fun _ _ _ _ _ _ us hl => match us, hl with | [_, _], _ => rfl) (He.glo_ok X G (c.t.d.fact 12 rfl))
    ⟨rfl, rfl, rfl, by decide +kernel, rfl, by decide +kernel, by decide +kernel⟩ (fun _ => tb_of hT ("fills", none) (by decide)) (fun z => Bool.noConfusion z)
theorem A14 (X : K.In base) (G : base.Ns mainGlobals mg) (c : He.SaysX fa fn [] tf ex w h K) (hT : ∀ p ∈ tf, GxR.TabB base mg (He.codeOf K p) (He.cT K p).2) : Fo.AllOk P w K mg base ⟨tb K, []⟩ 23 F14 := by
  obtain ⟨fd, F⟩ := c.t.d.def_ 13 rfl
  exact Fo.AllOk.add (C := C14) (ps := ["web", "gathering"]) (A13 X G c hT) (by decide) (Fo.mdl_of X G c (by decide +kernel)) rfl rfl (fun _ => rfl) rfl F (F.bindsN fun _ _ _ _ _ _ us hl => match us, hl with | [_, _], _ => rfl) (He.glo_ok X G (c.t.d.fact 13 rfl))
    ⟨rfl, rfl, rfl, by decide +kernel, rfl, by decide +kernel, by decide +kernel⟩ (fun z => Bool.noConfusion z) (fun z => Bool.noConfusion z)
theorem A15 (X : K.In base) (G : base.Ns mainGlobals mg) (c : He.SaysX fa fn [] tf ex w h K) (hT : ∀ p ∈ tf, GxR.TabB base mg (He.codeOf K p) (He.cT K p).2) : Fo.AllOk P w K mg base ⟨tb K, []⟩ 24 F15 := by
  obtain ⟨fd, F⟩ := c.t.d.def_ 14 rfl
  exact Fo.AllOk.add (C := C15) (ps := ["web"]) (A14 X G c hT) (by decide) (Fo.mdl_of X G c (by decide +kernel)) rfl rfl (fun _ => rfl) rfl F (F.bindsN fun _ _ _ _ _ _ us hl => match us, hl with | [_], _ => rfl) (He.glo_ok X G (c.t.d.fact 14 rfl))
    ⟨rfl, rfl, rfl, by decide +kernel, rfl, by decide +kernel, by decide +kernel⟩ (fun z => Bool.noConfusion z) (fun z => Bool.noConfusion z)
theorem A16 (X : K.In base) (G : base.Ns mainGlobals mg) (c : He.SaysX fa fn [] tf ex w h K) (hT : ∀ p ∈ tf, GxR.TabB base mg (He.codeOf K p) (He.cT K p).2) : Fo.AllOk P w K mg base ⟨tb K, []⟩ 25 F16 := by
  obtain ⟨fd, F⟩ := c.t.d.def_ 15 rfl
  exact Fo.AllOk.add (C := C16) (ps := ["web"]) (A15 X G c hT) (by decide) (Fo.mdl_of X G c (by decide +kernel)) rfl rfl (fun _ => rfl) rfl F (F.bindsN fun _ _ _ _ _ _ us hl => match us, hl with | [_], _ => rfl) (He.glo_ok X G (c.t.d.fact 15 rfl))
    ⟨rfl, rfl, rfl, by decide +kernel, rfl, by decide +kernel, by decide +kernel⟩ (fun z => Bool.noConfusion z) (fun z => Bool.noConfusion z)
theorem A17 (X : K.In base) (G : base.Ns mainGlobals mg) (c : He.SaysX fa fn [] tf ex w h K) (hT : ∀ p ∈ tf, GxR.TabB base mg (He.codeOf K p) (He.cT K p).2) : Fo.AllOk P w K mg base ⟨tb K, []⟩ 26 F17 := by
  obtain ⟨fd, F⟩ := c.t.d.def_ 16 rfl
  exact Fo.AllOk.add (C := C17) (ps := ["size"]) (A16 X G c hT) (by decide) (Fo.mdl_of X G c (by decide +kernel)) rfl rfl (fun _ => rfl) rfl F (F.bindsN fun _ _ _ _ _ _ us hl => match us, hl with | [_], _ => rfl) (He.glo_ok X G (c.t.d.fact 16 rfl))
    ⟨rfl, rfl, rfl, by decide +kernel, rfl, by decide +kernel, by decide +kernel⟩ (fun z => Bool.noConfusion z) (fun z => Bool.noConfusion z)
theorem A18 (X : K.In base) (G : base.Ns mainGlobals mg) (c : He.SaysX fa fn [] tf ex w h K) (hT : ∀ p ∈ tf, GxR.TabB base mg (He.codeOf K p) (He.cT K p).2) : Fo.AllOk P w K mg base ⟨tb K, []⟩ 27 F18 := by
  obtain ⟨fd, F⟩ := c.t.d.def_ 17 rfl
  exact Fo.AllOk.add (C := C18) (ps := ["size"]) (A17 X G c hT) (by decide) (Fo.mdl_of X G c (by decide +kernel)) rfl rfl (fun _ => rfl) rfl F (F.bindsN fun _ _ _ _ _ _ us hl => match us, hl with | [_], _ => rfl) (He.glo_ok X G (c.t.d.fact 17 rfl))
    ⟨rfl, rfl, rfl, by decide +kernel, rfl, by decide +kernel, by decide +kernel⟩ (fun z => Bool.noConfusion z) (fun z => Bool.noConfusion z)
theorem A19 (X : K.In base) (G : base.Ns mainGlobals mg) (c : He.SaysX fa fn [] tf ex w h K) (hT : ∀ p ∈ tf, GxR.TabB base mg (He.codeOf K p) (He.cT K p).2) : Fo.AllOk P w K mg base ⟨tb K, []⟩ 28 F19 := by
  obtain ⟨fd, F⟩ := c.t.d.def_ 18 rfl
  exact Fo.AllOk.add (C := C19) (ps := ["size"]) (A18 X G c hT) (by decide) (Fo.mdl_of X G c (by decide +kernel)) rfl rfl (fun _ => rfl) rfl F (F.bindsN fun _ _ _ _ _ _ us hl => match us, hl with | [_], _ => rfl) (He.glo_ok X G (c.t.d.fact 18 rfl))
    ⟨rfl, rfl, rfl, by decide +kernel, rfl, by decide +kernel, by decide +kernel⟩ (fun z => Bool.noConfusion z) (fun z => Bool.noConfusion z)
theorem A20 (X : K.In base) (G : base.Ns mainGlobals mg) (c : He.SaysX fa fn [] tf ex w h K) (hT : ∀ p ∈ tf, GxR.TabB base mg (He.codeOf K p) (He.cT K p).2) : Fo.AllOk P w K mg base ⟨tb K, []⟩ 29 F20 := by
  obtain ⟨fd, F⟩ := c.t.d.def_ 19 rfl
  exact Fo.AllOk.add (C := C20) (ps := ["size"]) (A19 X G c hT) (by decide) (Fo.mdl_of X G c (by decide +kernel)) rfl rfl (fun _ => rfl) rfl F (F.bindsN fun _ _ _ _ _ _ us hl => match us, hl with | [_], _ => rfl) (He.glo_ok X G (c.t.d.fact 19 rfl))
    ⟨rfl, rfl, rfl, by decide +kernel, rfl, by decide +kernel, by decide +kernel⟩ (fun z => Bool.noConfusion z) (fun z => Bool.noConfusion z)
theorem A21 (X : K.In base) (G : base.Ns mainGlobals mg) (c : He.SaysX fa fn [] tf ex w h K) (hT : ∀ p ∈ tf, GxR.TabB base mg (He.codeOf K p) (He.cT K p).2) : Fo.AllOk P w K mg base ⟨tb K, []⟩ 30 F21 := by
  obtain ⟨fd, F⟩ := c.t.d.def_ 20 rfl
  exact Fo.AllOk.add (C := C21) (ps := ["_law_row_here", "_law_many"]) (A20 X G c hT) (by decide) (Fo.mdl_of X G c (by decide +kernel)) rfl rfl (fun _ => rfl) rfl F (F.bindsN fun _ _ _ _ _ _ us hl => match us, hl with | [_, _], _ => rfl) (He.glo_ok X G (c.t.d.fact 20 rfl))
    ⟨rfl, rfl, rfl, by decide +kernel, rfl, by decide +kernel, by decide +kernel⟩ (fun z => Bool.noConfusion z) (fun _ z => nomatch z)
theorem A22 (X : K.In base) (G : base.Ns mainGlobals mg) (c : He.SaysX fa fn [] tf ex w h K) (hT : ∀ p ∈ tf, GxR.TabB base mg (He.codeOf K p) (He.cT K p).2) : Fo.AllOk P w K mg base ⟨tb K, []⟩ 31 F22 := by
  obtain ⟨fd, F⟩ := c.t.d.def_ 21 rfl
  exact Fo.AllOk.add (C := C22) (ps := ["_law_row_here", "_law_most"]) (A21 X G c hT) (by decide) (Fo.mdl_of X G c (by decide +kernel)) rfl rfl (fun _ => rfl) rfl F (F.bindsN fun _ _ _ _ _ _ us hl => match us, hl with | [_, _], _ => rfl) (He.glo_ok X G (c.t.d.fact 21 rfl))
    ⟨rfl, rfl, rfl, by decide +kernel, rfl, by decide +kernel, by decide +kernel⟩ (fun z => Bool.noConfusion z) (fun _ z => nomatch z)
theorem A23 (X : K.In base) (G : base.Ns mainGlobals mg) (c : He.SaysX fa fn [] tf ex w h K) (hT : ∀ p ∈ tf, GxR.TabB base mg (He.codeOf K p) (He.cT K p).2) : Fo.AllOk P w K mg base ⟨tb K, []⟩ 32 F23 := by
  obtain ⟨fd, F⟩ := c.t.d.def_ 22 rfl
  exact Fo.AllOk.add (C := C23) (ps := ["_law_web_here", "_law_person"]) (A22 X G c hT) (by decide) (Fo.mdl_of X G c (by decide +kernel)) rfl rfl (fun _ => rfl) rfl F (F.bindsN fun _ _ _ _ _ _ us hl => match us, hl with | [_, _], _ => rfl) (He.glo_ok X G (c.t.d.fact 22 rfl))
    ⟨rfl, rfl, rfl, by decide +kernel, rfl, by decide +kernel, by decide +kernel⟩ (fun z => Bool.noConfusion z) (fun z => Bool.noConfusion z)
theorem A24 (X : K.In base) (G : base.Ns mainGlobals mg) (c : He.SaysX fa fn [] tf ex w h K) (hT : ∀ p ∈ tf, GxR.TabB base mg (He.codeOf K p) (He.cT K p).2) : Fo.AllOk P w K mg base ⟨tb K, []⟩ 33 F24 := by
  obtain ⟨fd, F⟩ := c.t.d.def_ 23 rfl
  exact Fo.AllOk.add (C := C24) (ps := ["_law_web_here"]) (A23 X G c hT) (by decide) (Fo.mdl_of X G c (by decide +kernel)) rfl rfl (fun _ => rfl) rfl F (F.bindsN fun _ _ _ _ _ _ us hl => match us, hl with | [_], _ => rfl) (He.glo_ok X G (c.t.d.fact 23 rfl))
    ⟨rfl, rfl, rfl, by decide +kernel, rfl, by decide +kernel, by decide +kernel⟩ (fun z => Bool.noConfusion z) (fun z => Bool.noConfusion z)
theorem A25 (X : K.In base) (G : base.Ns mainGlobals mg) (c : He.SaysX fa fn [] tf ex w h K) (hT : ∀ p ∈ tf, GxR.TabB base mg (He.codeOf K p) (He.cT K p).2) : Fo.AllOk P w K mg base ⟨tb K, []⟩ 34 F25 := by
  obtain ⟨fd, F⟩ := c.t.d.def_ 24 rfl
  exact Fo.AllOk.add (C := C25) (ps := ["_law_web_here", "_law_lot"]) (A24 X G c hT) (by decide) (Fo.mdl_of X G c (by decide +kernel)) rfl rfl (fun _ => rfl) rfl F (F.bindsN fun _ _ _ _ _ _ us hl => match us, hl with | [_, _], _ => rfl) (He.glo_ok X G (c.t.d.fact 24 rfl))
    ⟨rfl, rfl, rfl, by decide +kernel, rfl, by decide +kernel, by decide +kernel⟩ (fun z => Bool.noConfusion z) (fun z => Bool.noConfusion z)
theorem A26 (X : K.In base) (G : base.Ns mainGlobals mg) (c : He.SaysX fa fn [] tf ex w h K) (hT : ∀ p ∈ tf, GxR.TabB base mg (He.codeOf K p) (He.cT K p).2) : Fo.AllOk P w K mg base ⟨tb K, []⟩ 35 F26 := by
  obtain ⟨fd, F⟩ := c.t.d.def_ 25 rfl
  exact Fo.AllOk.add (C := C26) (ps := ["_law_web_here"]) (A25 X G c hT) (by decide) (Fo.mdl_of X G c (by decide +kernel)) rfl rfl (fun _ => rfl) rfl F (F.bindsN fun _ _ _ _ _ _ us hl => match us, hl with | [_], _ => rfl) (He.glo_ok X G (c.t.d.fact 25 rfl))
    ⟨rfl, rfl, rfl, by decide +kernel, rfl, by decide +kernel, by decide +kernel⟩ (fun z => Bool.noConfusion z) (fun z => Bool.noConfusion z)
end
theorem sem (ns : List Int) (hl : ns.length ≤ 63) (hb : ∀ z ∈ ns, Builtin.Int.intBits z ≤ 1048576) : ∃ st', s_law ns 13581 = some (.rt (.bool true), st') := sem_ok ns
theorem law_done (sem : ∀ ns : List Int, ns.length ≤ 63 → (∀ z ∈ ns, Builtin.Int.intBits z ≤ 1048576) → ∃ st', s_law ns 13581 = some (.rt (.bool true), st')) {w : World} {K : PySem.W.Frag} {mg : Str → Option Value} {h : Heap} {fAdr : Addr} (KX : K.In h) (G0 : h.Ns mainGlobals mg) (hfa : mg ("law" : Str) = some (.ref fAdr)) (c : He.SaysX fa fn [] tf ex w h K) : LamX.LawAtS PySem.Challenge.rw_foescome_k81_across_sizes w K L2.CX0 36 63 "_law_script" mg fAdr h := by
  obtain ⟨fd, F⟩ := c.t.d.def_ 26 rfl
  have e := hfa.symm.trans (He.glo_ok KX G0 (c.t.d.fact 26 (f := .glo "law") rfl))
  cases e
  refine Fo.law_at KX c (fun s u => FunD.bindsA (ps := ["_law_script"]) F (fun _ _ _ _ _ _ us hl => match us, hl with | [_], _ => rfl) s [u] rfl) fun base X G hT => ?_
  exact Fo.law_ok (C := C27) (row := "_law_row_here") (seed := 13581) (rest := lawRest) (mu := []) (Fo.mdl_of X G c (by decide +kernel)) (A26 X G c hT) rfl rfl (fun _ => rfl) rfl F ⟨rfl, rfl, rfl, by decide +kernel, rfl, by decide +kernel, by decide +kernel⟩ (fun z => Bool.noConfusion z) rfl rfl rfl (by decide +kernel) (by decide +kernel) sem
end Hd
open PySem PySem.W PySem.Calls PyProof.Rows
theorem PySem.Challenge.cw_foescome_k81_across_sizes_holds : PySem.Challenge.rw_foescome_k81_across_sizes.Holds := by
  w_on; o_law
  refine HandSHeadRun.head_any (r := OpenLaw.row PySem.Challenge.rw_foescome_k81_across_sizes) (q := view (OpenLaw.row PySem.Challenge.rw_foescome_k81_across_sizes).prog [43]) (H := Hd.hk) (ob := Hd.ob) (M := 4000) (loose := Hd.lo) (d := HandSHeadRun.topDef (OpenLaw.row PySem.Challenge.rw_foescome_k81_across_sizes).prog 43) (kwd := []) Hd.ob_eq
    (by kernel_rfl) (fun s => by kernel_rfl) Hd.run (by kernel_rfl) (by kernel_rfl) (by kernel_rfl) (by rfl) (by first | assumption | decide +kernel) (by decide +kernel) ⟨rfl, rfl, rfl, rfl, rfl, by decide +kernel⟩ ?hw ?hc
  case hw => w_witness2
  case hc =>
    refine LamX.walk_ofTsE (l := PySem.Challenge.rw_foescome_k81_across_sizes) (n := 63) (k := 36) (x := "_law_script") (CX := fun _ => L2.CX0) rfl (by decide) (by kernel_rfl) ⟨rfl, by decide, by decide⟩ ?F (fun _ _ _ _ _ z => z)
    intro w mg fa h Y G hmg0
    obtain ⟨K, KX, c⟩ := Y
    have hmg : mg ("law" : PySem.Str) = some (.ref fa) := by
      have e : (HandSHeadRun.topDef (OpenLaw.row PySem.Challenge.rw_foescome_k81_across_sizes).prog 43).name = ("law" : PySem.Str) := by kernel_rfl
      rw [← e]
      exact hmg0
    exact ⟨K, KX, Hd.law_done Hd.sem KX G hmg c⟩
