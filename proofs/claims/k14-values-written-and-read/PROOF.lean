import PyProof.Rows.All
import Wide.All
import OpenK.AllK
import Wide.FinOn
import HandS.ForMost
import HandS.Wide
import HandS.Rev
import HandS.Deep
import HandS.Exc
import HandS.TryOnly
import HandS.ExcOwn
import HandS.WordsExc
import HandS.HeadHook1
import HandS.TupAny
import HandS.Text
import HandS.Iter
import HandS.Dict
import HandS.Zip
import HandS.RevRange
import HandS.TupLe
import HandS.Defaults
import HandS.IsInst
import HandS.EndTab
import HandS.HeadWalk
import HandS.Head0
import HandS.Head1
import HandS.Head2
import HandS.HeadEnd
import HandS.HeadHook2
import HandS.HeadHook3
import HandS.HeadHook4
import PyProof.StrOps2
import PyProof.AutoSeq1
import PyProof.Draws
import PyProof.EnumMake
import KE.KDictPairs
import HandS.Style
import PyProof.FitsInt
import PySem.Challenge.RW_pursewright_k14_values_written_and_read
set_option Elab.async false
set_option linter.all false
set_option maxRecDepth 100000
/-! DLa: owned trees M over the abstract heap, states, steps. -/
namespace DL
open PySem PySem.Spec PyProof.Rows L2

/-- a text or an int -/
def keyV : V → Bool
  | .int _ => true
  | .str _ => true
  | _ => false
/-- how a tuple stands: one of keys as it is, another with its object, which has no dict -/
def NewT (xs : List V) (ho : HO) : Prop := (xs.all keyV = true ∧ xs ≠ [] → ho = .tup xs) ∧ (¬ (xs.all keyV = true ∧ xs ≠ []) → ∃ o : Obj, o.dict = none ∧ ho = .frz o (.tup xs))
def PlT (H : Hp) (a : Addr) (xs : List V) : Prop := ∃ ho, NewT xs ho ∧ H a = some ho
theorem NewT.rd {H : Hp} {a : Addr} {xs : List V} {ho : HO} (n : NewT xs ho) (h : H a = some ho) : Rd H a (.tup xs) := by
  by_cases z : xs.all keyV = true ∧ xs ≠ []
  · rw [n.1 z] at h; exact .inl h
  · obtain ⟨o, _, e⟩ := n.2 z
    rw [e] at h; exact .inr ⟨o, h⟩
theorem PlT.sq {K : PySem.W.Frag} {H : Hp} {a : Addr} {xs : List V} (h : PlT H a xs) : SqT K H a xs := let ⟨_, n, e⟩ := h; .inl (n.rd e)
theorem PlT.of {H : Hp} {a : Addr} {xs : List V} {ho : HO} (n : NewT xs ho) : PlT (upd H a ho) a xs := ⟨ho, n, upd_same⟩
def keyD : Key → PyData
  | .inl i => .int i
  | .inr x => .str x
def keyTD (k : List Key) : PyData := .tuple (k.map keyD)
/-- a tuple of unknown make, as data -/
abbrev wkT (ds : List PyData) : PyData := .dict [(.none, .tuple ds)]
mutual
/-- data that stands in the known heap -/
inductive Da (K : PySem.W.Frag) (H : Hp) : V → PyData → Prop
  | non : Da K H .non .none
  | bl (b : Bool) : Da K H (.bl b) (.bool b)
  | int (i : Int) : Da K H (.int i) (.int i)
  | str (x : Str) : Da K H (.str x) (.str x)
  | lst {a : Addr} {xs : List V} {ds : List PyData} : Rd H a (.lst xs) → DaAll K H xs ds → Da K H (.ref a) (.list ds)
  | tup {a : Addr} {xs : List V} {ds : List PyData} : PlT H a xs → DaAll K H xs ds → Da K H (.ref a) (.tuple ds)
  | wk {a : Addr} {xs : List V} {ds : List PyData} {kvs : List (PyData × PyData)} : SqT K H a xs → DaAll K H xs ds → kvs = [(.none, .tuple ds)] → Da K H (.ref a) (.dict kvs)
  | dk {a : Addr} {o : Obj} {ks : List Key} {vs : List V} {ds : List PyData} {kvs : List (PyData × PyData)} : H a = some (.frz o (.dK (ks.zip vs))) → ks.length = vs.length → ks.Nodup → DaAll K H vs ds → kvs = (ks.map keyD).zip ds → Da K H (.ref a) (.dict kvs)
  | dt {a : Addr} {o : Obj} {ks : List (List Key)} {vs : List V} {ds : List PyData} {kvs : List (PyData × PyData)} : H a = some (.frz o (.dT (ks.zip vs))) → ks.length = vs.length → ks.Nodup → DaAll K H vs ds → kvs = (.none, .none) :: (ks.map keyTD).zip ds → Da K H (.ref a) (.dict kvs)
inductive DaAll (K : PySem.W.Frag) (H : Hp) : List V → List PyData → Prop
  | nil : DaAll K H [] []
  | cons {v : V} {vs : List V} {d : PyData} {ds : List PyData} : Da K H v d → DaAll K H vs ds → DaAll K H (v :: vs) (d :: ds)
end
theorem keyD_none {k : Key} : keyD k ≠ .none := by cases k <;> exact fun e => nomatch e
theorem Da.wkinv {K : PySem.W.Frag} {H : Hp} {v : V} {ds : List PyData} (h : Da K H v (wkT ds)) : ∃ a xs, v = .ref a ∧ SqT K H a xs ∧ DaAll K H xs ds := by
  unfold wkT at h
  generalize hk : [(PyData.none, PyData.tuple ds)] = kvs at h
  cases h with
  | wk h1 h2 h3 =>
    subst h3
    cases hk
    exact ⟨_, _, rfl, h1, h2⟩
  | dk h1 h2 h3 h4 h5 =>
    subst h5
    rename_i ks vs es
    cases ks with
    | nil => cases hk
    | cons k ks =>
      cases es with
      | nil => cases hk
      | cons e es =>
        simp only [List.map_cons, List.zip_cons_cons, List.cons.injEq, Prod.mk.injEq] at hk
        exact absurd hk.1.1.symm keyD_none
  | dt h1 h2 h3 h4 h5 =>
    subst h5
    cases hk
mutual
theorem Da.dp {K : PySem.W.Frag} {H : Hp} : ∀ {d : PyData} {v : V}, Da K H v d → d.canLay0 = true → Dp K H v d
  | .none, _, h, _ => by cases h; exact .non
  | .bool b, _, h, _ => by cases h; exact .bl b
  | .int i, _, h, _ => by cases h; exact .int i
  | .str x, _, h, _ => by cases h; exact .str x
  | .list ds, _, h, z => by cases h with | lst hs ha => exact .lst (.inl hs) (DaAll.dp ha (by rwa [PyData.canLay0] at z))
  | .tuple ds, _, h, z => by cases h with | tup hs ha => exact .tup hs.sq (DaAll.dp ha (by rwa [PyData.canLay0] at z))
  | .dict _, _, h, z => by rw [PyData.canLay0] at z; cases z
theorem DaAll.dp {K : PySem.W.Frag} {H : Hp} : ∀ {ds : List PyData} {vs : List V}, DaAll K H vs ds → PyData.canLayAll0 ds = true → DpAll K H vs ds
  | [], _, h, _ => by cases h; exact .nil
  | d :: ds, _, h, z => by
    rw [PyData.canLayAll0, Bool.and_eq_true] at z
    cases h with | cons h1 h2 => exact .cons (Da.dp h1 z.1) (DaAll.dp h2 z.2)
end
inductive M where
  | dat (d : PyData)
  | scr (ns : List Int)
  | lst (xs : List M)
  | dk (ks : List Key) (xs : List M)
  | dt (ks : List (List Key)) (xs : List M)
  | ins (C : Str) (ns : List Str) (xs : List M)

abbrev Rho := List (Option M)
abbrev St := L2.St

mutual
inductive RM (K : PySem.W.Frag) (G H : Hp) : V → M → List Addr → Prop
  | dat {v : V} {d : PyData} : Da K G v d → RM K G H v (.dat d) []
  | scr {a : Addr} {ns : List Int} : SqL K G a (ns.map V.int) → RM K G H (.ref a) (.scr ns) []
  | lst {a : Addr} {vs : List V} {xs : List M} {fp : List Addr} : H a = some (.lst vs) → RMs K G H vs xs fp → RM K G H (.ref a) (.lst xs) (a :: fp)
  | dk {a : Addr} {ks : List Key} {vs : List V} {xs : List M} {fp : List Addr} : H a = some (.dK (ks.zip vs)) → ks.length = vs.length → RMs K G H vs xs fp → ks.Nodup → RM K G H (.ref a) (.dk ks xs) (a :: fp)
  | dt {a : Addr} {ks : List (List Key)} {vs : List V} {xs : List M} {fp : List Addr} : H a = some (.dT (ks.zip vs)) → ks.length = vs.length → RMs K G H vs xs fp → ks.Nodup → RM K G H (.ref a) (.dt ks xs) (a :: fp)
  | ins {a dx : Addr} {C : Str} {ns : List Str} {vs : List V} {xs : List M} {fp : List Addr} : H a = some (.ins (He.ga K C) dx (ns.zip vs)) → H dx = some (.own a) → ns.length = vs.length → RMs K G H vs xs fp →
      RM K G H (.ref a) (.ins C ns xs) (a :: dx :: fp)
inductive RMs (K : PySem.W.Frag) (G H : Hp) : List V → List M → List Addr → Prop
  | nil : RMs K G H [] [] []
  | cons {v : V} {m : M} {vs : List V} {xs : List M} {fp fq : List Addr} : RM K G H v m fp → RMs K G H vs xs fq → RMs K G H (v :: vs) (m :: xs) (fp ++ fq)
end

/-- knowledge of one heap kept in another -/
abbrev Ext (G G' : Hp) : Prop := ∀ a o, G a = some o → G' a = some o
theorem Ext.refl (G : Hp) : Ext G G := fun _ _ h => h
theorem Ext.trans {G G1 G2 : Hp} (a : Ext G G1) (b : Ext G1 G2) : Ext G G2 := fun x o h => b x o (a x o h)
theorem Ext.rd {H H' : Hp} {a : Addr} {u : HO} (e : Ext H H') (h : Rd H a u) : Rd H' a u := by
  rcases h with h | ⟨o, h⟩
  · exact .inl (e a _ h)
  · exact .inr ⟨o, e a _ h⟩
theorem Ext.l {K : PySem.W.Frag} {H H' : Hp} {a : Addr} {xs : List V} (e : Ext H H') (h : SqL K H a xs) : SqL K H' a xs := by
  rcases h with h | h
  · exact .inl (e.rd h)
  · exact .inr h
theorem Ext.t {K : PySem.W.Frag} {H H' : Hp} {a : Addr} {xs : List V} (e : Ext H H') (h : SqT K H a xs) : SqT K H' a xs := by
  rcases h with h | h
  · exact .inl (e.rd h)
  · exact .inr h
theorem Ext.pl {H H' : Hp} {a : Addr} {xs : List V} (e : Ext H H') (h : PlT H a xs) : PlT H' a xs := let ⟨ho, n, h1⟩ := h; ⟨ho, n, e a _ h1⟩
mutual
theorem Ext.dp' {K : PySem.W.Frag} {H H' : Hp} (e : Ext H H') : ∀ {v : V} {d : PyData}, Da K H v d → Da K H' v d
  | _, _, .non => .non
  | _, _, .bl b => .bl b
  | _, _, .int i => .int i
  | _, _, .str x => .str x
  | _, _, .lst hs ha => .lst (e.rd hs) (Ext.dps' e ha)
  | _, _, .tup hs ha => .tup (e.pl hs) (Ext.dps' e ha)
  | _, _, .wk hs ha q => .wk (e.t hs) (Ext.dps' e ha) q
  | _, _, .dk hs h1 h2 ha q => .dk (e _ _ hs) h1 h2 (Ext.dps' e ha) q
  | _, _, .dt hs h1 h2 ha q => .dt (e _ _ hs) h1 h2 (Ext.dps' e ha) q
theorem Ext.dps' {K : PySem.W.Frag} {H H' : Hp} (e : Ext H H') : ∀ {vs : List V} {ds : List PyData}, DaAll K H vs ds → DaAll K H' vs ds
  | _, _, .nil => .nil
  | _, _, .cons h1 h2 => .cons (Ext.dp' e h1) (Ext.dps' e h2)
end
theorem Ext.dp {K : PySem.W.Frag} {H H' : Hp} (e : Ext H H') (d : PyData) {v : V} (h : Da K H v d) : Da K H' v d := Ext.dp' e h
theorem Ext.dps {K : PySem.W.Frag} {H H' : Hp} (e : Ext H H') (ds : List PyData) {vs : List V} (h : DaAll K H vs ds) : DaAll K H' vs ds := Ext.dps' e h
theorem DaAll.length {K : PySem.W.Frag} {H : Hp} : ∀ {vs : List V} {ds : List PyData}, DaAll K H vs ds → vs.length = ds.length
  | _, _, .nil => rfl
  | _, _, .cons _ t => by simp [DaAll.length t]
theorem DaAll.get {K : PySem.W.Frag} {H : Hp} : ∀ {vs : List V} {ds : List PyData} {i : Nat} {d : PyData}, DaAll K H vs ds → ds[i]? = some d → ∃ v, vs[i]? = some v ∧ Da K H v d
  | _, _, _, _, .nil, e => by simp at e
  | _, _, 0, _, .cons r _, e => by simp at e; subst e; exact ⟨_, rfl, r⟩
  | _, _, i + 1, d, .cons _ t, e => by
    obtain ⟨v, h1, h2⟩ := DaAll.get (i := i) (d := d) t (by simpa using e)
    exact ⟨v, by simpa using h1, h2⟩
theorem DaAll.getV {K : PySem.W.Frag} {H : Hp} : ∀ {vs : List V} {ds : List PyData} {i : Nat} {v : V}, DaAll K H vs ds → vs[i]? = some v → ∃ d, ds[i]? = some d ∧ Da K H v d
  | _, _, _, _, .nil, e => by simp at e
  | _, _, 0, _, .cons r _, e => by simp at e; subst e; exact ⟨_, rfl, r⟩
  | _, _, i + 1, d, .cons _ t, e => by
    obtain ⟨v, h1, h2⟩ := DaAll.getV (i := i) (v := d) t (by simpa using e)
    exact ⟨v, by simpa using h1, h2⟩
theorem DaAll.append {K : PySem.W.Frag} {H : Hp} : ∀ {vs ws : List V} {ds es : List PyData}, DaAll K H vs ds → DaAll K H ws es → DaAll K H (vs ++ ws) (ds ++ es)
  | _, _, _, _, .nil, s => s
  | _, _, _, _, .cons r t, s => .cons r (DaAll.append t s)
theorem DaAll.take {K : PySem.W.Frag} {H : Hp} : ∀ {vs : List V} {ds : List PyData} (n : Nat), DaAll K H vs ds → DaAll K H (vs.take n) (ds.take n)
  | _, _, 0, _ => .nil
  | _, _, _ + 1, .nil => .nil
  | _, _, n + 1, .cons r t => .cons r (DaAll.take n t)
theorem DaAll.drop {K : PySem.W.Frag} {H : Hp} : ∀ {vs : List V} {ds : List PyData} (n : Nat), DaAll K H vs ds → DaAll K H (vs.drop n) (ds.drop n)
  | _, _, 0, r => r
  | _, _, _ + 1, .nil => .nil
  | _, _, n + 1, .cons _ t => DaAll.drop n t
theorem DaAll.reverse {K : PySem.W.Frag} {H : Hp} : ∀ {vs : List V} {ds : List PyData}, DaAll K H vs ds → DaAll K H vs.reverse ds.reverse
  | _, _, .nil => .nil
  | _, _, .cons r t => by rw [List.reverse_cons, List.reverse_cons]; exact DaAll.append (DaAll.reverse t) (.cons r .nil)
/-- the values of ints, texts, truths -/
theorem dp_ints {K : PySem.W.Frag} {H : Hp} : ∀ {vs : List V} {ns : List Int}, DaAll K H vs (ns.map PyData.int) → vs = ns.map V.int
  | _, [], h => by cases h; rfl
  | _, n :: ns, h => by cases h with | cons h1 h2 => cases h1; rw [dp_ints h2]; rfl
theorem ints_dp {K : PySem.W.Frag} {H : Hp} : ∀ ns : List Int, DaAll K H (ns.map V.int) (ns.map PyData.int)
  | [] => .nil
  | n :: ns => .cons (.int n) (ints_dp ns)
theorem dp_strs {K : PySem.W.Frag} {H : Hp} : ∀ {vs : List V} {ns : List Str}, DaAll K H vs (ns.map PyData.str) → vs = ns.map V.str
  | _, [], h => by cases h; rfl
  | _, n :: ns, h => by cases h with | cons h1 h2 => cases h1; rw [dp_strs h2]; rfl
theorem strs_dp {K : PySem.W.Frag} {H : Hp} : ∀ ns : List Str, DaAll K H (ns.map V.str) (ns.map PyData.str)
  | [] => .nil
  | n :: ns => .cons (.str n) (strs_dp ns)
theorem dp_bls {K : PySem.W.Frag} {H : Hp} : ∀ {vs : List V} {ns : List Bool}, DaAll K H vs (ns.map PyData.bool) → vs = ns.map V.bl
  | _, [], h => by cases h; rfl
  | _, n :: ns, h => by cases h with | cons h1 h2 => cases h1; rw [dp_bls h2]; rfl

/-! ### trees -/
theorem RMs.length {K : PySem.W.Frag} {G H : Hp} : ∀ {vs : List V} {xs : List M} {fp : List Addr}, RMs K G H vs xs fp → vs.length = xs.length
  | _, _, _, .nil => rfl
  | _, _, _, .cons _ t => by simp [RMs.length t]
mutual
/-- another heap that has the tree's own cells alike -/
theorem RM.at {K : PySem.W.Frag} {G H G' H' : Hp} (e : Ext G G') : ∀ {m : M} {v : V} {fp : List Addr}, RM K G H v m fp → (∀ a ∈ fp, H' a = H a) → RM K G' H' v m fp
  | .dat d, _, _, h, _ => by cases h with | dat h => exact .dat (Ext.dp e d h)
  | .scr d, _, _, h, _ => by cases h with | scr h => exact .scr (e.l h)
  | .lst xs, _, _, h, k => by
    cases h with | lst h1 h2 => exact .lst ((k _ List.mem_cons_self).trans h1) (RMs.at e h2 fun a ha => k a (List.mem_cons_of_mem _ ha))
  | .dk ks xs, _, _, h, k => by
    cases h with | dk h1 h2 h3 hn => exact .dk ((k _ List.mem_cons_self).trans h1) h2 (RMs.at e h3 fun a ha => k a (List.mem_cons_of_mem _ ha)) hn
  | .dt ks xs, _, _, h, k => by
    cases h with | dt h1 h2 h3 hn => exact .dt ((k _ List.mem_cons_self).trans h1) h2 (RMs.at e h3 fun a ha => k a (List.mem_cons_of_mem _ ha)) hn
  | .ins C ns xs, _, _, h, k => by
    cases h with | ins h1 h2 h3 h4 => exact .ins ((k _ List.mem_cons_self).trans h1) ((k _ (List.mem_cons_of_mem _ List.mem_cons_self)).trans h2) h3 (RMs.at e h4 fun a ha => k a (List.mem_cons_of_mem _ (List.mem_cons_of_mem _ ha)))
theorem RMs.at {K : PySem.W.Frag} {G H G' H' : Hp} (e : Ext G G') : ∀ {xs : List M} {vs : List V} {fp : List Addr}, RMs K G H vs xs fp → (∀ a ∈ fp, H' a = H a) → RMs K G' H' vs xs fp
  | [], _, _, h, _ => by cases h; exact .nil
  | x :: xs, _, _, h, k => by
    cases h with | cons h1 h2 => exact .cons (RM.at e h1 fun a ha => k a (List.mem_append_left _ ha)) (RMs.at e h2 fun a ha => k a (List.mem_append_right _ ha))
end
mutual
theorem RM.tracked {K : PySem.W.Frag} {G H : Hp} : ∀ {m : M} {v : V} {fp : List Addr}, RM K G H v m fp → ∀ a ∈ fp, ∃ o, H a = some o
  | .dat d, _, _, h, _, ha => by cases h with | dat h => cases ha
  | .scr d, _, _, h, _, ha => by cases h with | scr h => cases ha
  | .lst xs, _, _, h, a, ha => by
    cases h with | lst h1 h2 =>
      rcases List.mem_cons.mp ha with rfl | ha
      · exact ⟨_, h1⟩
      · exact RMs.tracked h2 a ha
  | .dk ks xs, _, _, h, a, ha => by
    cases h with | dk h1 h2 h3 =>
      rcases List.mem_cons.mp ha with rfl | ha
      · exact ⟨_, h1⟩
      · exact RMs.tracked h3 a ha
  | .dt ks xs, _, _, h, a, ha => by
    cases h with | dt h1 h2 h3 =>
      rcases List.mem_cons.mp ha with rfl | ha
      · exact ⟨_, h1⟩
      · exact RMs.tracked h3 a ha
  | .ins C ns xs, _, _, h, a, ha => by
    cases h with | ins h1 h2 h3 h4 =>
      rcases List.mem_cons.mp ha with rfl | ha
      · exact ⟨_, h1⟩
      rcases List.mem_cons.mp ha with rfl | ha
      · exact ⟨_, h2⟩
      · exact RMs.tracked h4 a ha
theorem RMs.tracked {K : PySem.W.Frag} {G H : Hp} : ∀ {xs : List M} {vs : List V} {fp : List Addr}, RMs K G H vs xs fp → ∀ a ∈ fp, ∃ o, H a = some o
  | [], _, _, h, _, ha => by cases h; cases ha
  | x :: xs, _, _, h, a, ha => by
    cases h with | cons h1 h2 =>
      rcases List.mem_append.mp ha with ha | ha
      · exact RM.tracked h1 a ha
      · exact RMs.tracked h2 a ha
end
mutual
/-- a tree that may be looked at as data -/
def M.frz : M → Option PyData
  | .dat d => some d
  | .lst xs => match M.frzs xs with
    | some ds => some (.list ds)
    | none => none
  | _ => none
def M.frzs : List M → Option (List PyData)
  | [] => some []
  | x :: xs => match M.frz x, M.frzs xs with
    | some d, some ds => some (d :: ds)
    | _, _ => none
end
/-- G and the cells of H at fp -/
def gl (G H : Hp) (fp : List Addr) : Hp := fun a => if a ∈ fp then H a else G a
theorem gl_in {G H : Hp} {fp : List Addr} {a : Addr} (h : a ∈ fp) : gl G H fp a = H a := if_pos h
theorem gl_out {G H : Hp} {fp : List Addr} {a : Addr} (h : a ∉ fp) : gl G H fp a = G a := if_neg h
mutual
theorem RM.freeze {K : PySem.W.Frag} {G H G' : Hp} (e : Ext G G') : ∀ {m : M} {v : V} {fp : List Addr} {d : PyData}, RM K G H v m fp → (∀ a ∈ fp, G' a = H a) → m.frz = some d → Da K G' v d
  | .dat d', _, _, d, h, _, z => by
    unfold M.frz at z
    cases z
    cases h with | dat h => exact Ext.dp e _ h
  | .lst xs, _, _, d, h, k, z => by
    unfold M.frz at z
    cases q : M.frzs xs with
    | none => rw [q] at z; cases z
    | some ds =>
      rw [q] at z
      cases z
      cases h with | lst h1 h2 => exact .lst (.inl ((k _ List.mem_cons_self).trans h1)) (RMs.freeze e h2 (fun a ha => k a (List.mem_cons_of_mem _ ha)) q)
  | .dk ks xs, _, _, d, h, _, z => by unfold M.frz at z; cases z
  | .dt ks xs, _, _, d, h, _, z => by unfold M.frz at z; cases z
  | .scr d, _, _, _, _, _, z => by unfold M.frz at z; cases z
  | .ins C ns xs, _, _, d, h, _, z => by unfold M.frz at z; cases z
theorem RMs.freeze {K : PySem.W.Frag} {G H G' : Hp} (e : Ext G G') : ∀ {xs : List M} {vs : List V} {fp : List Addr} {ds : List PyData}, RMs K G H vs xs fp → (∀ a ∈ fp, G' a = H a) → M.frzs xs = some ds → DaAll K G' vs ds
  | [], _, _, d, h, _, z => by
    unfold M.frzs at z
    cases z
    cases h; exact .nil
  | x :: xs, _, _, d, h, k, z => by
    unfold M.frzs at z
    cases q1 : M.frz x with
    | none => rw [q1] at z; cases z
    | some d1 =>
      cases q2 : M.frzs xs with
      | none => rw [q1, q2] at z; cases z
      | some ds =>
        rw [q1, q2] at z
        cases z
        cases h with | cons h1 h2 => exact .cons (RM.freeze e h1 (fun a ha => k a (List.mem_append_left _ ha)) q1) (RMs.freeze e h2 (fun a ha => k a (List.mem_append_right _ ha)) q2)
end

/-! ### slots -/
inductive ROs (K : PySem.W.Frag) (G H : Hp) : St → Rho → List Addr → Prop
  | nil : ROs K G H [] [] []
  | no {v : Option V} {σ : St} {ρ : Rho} {fp : List Addr} : ROs K G H σ ρ fp → ROs K G H (v :: σ) (none :: ρ) fp
  | so {v : V} {m : M} {σ : St} {ρ : Rho} {fp fq : List Addr} : RM K G H v m fp → ROs K G H σ ρ fq → ROs K G H (some v :: σ) (some m :: ρ) (fp ++ fq)
section
variable {K : PySem.W.Frag} {G H G' H' : Hp} {σ : St} {ρ : Rho} {fp : List Addr}
theorem ROs.length : ∀ {σ : St} {ρ : Rho} {fp : List Addr}, ROs K G H σ ρ fp → σ.length = ρ.length
  | _, _, _, .nil => rfl
  | _, _, _, .no t => by simp [ROs.length t]
  | _, _, _, .so _ t => by simp [ROs.length t]
theorem ROs.at (e : Ext G G') : ∀ {σ : St} {ρ : Rho} {fp : List Addr}, ROs K G H σ ρ fp → (∀ a ∈ fp, H' a = H a) → ROs K G' H' σ ρ fp
  | _, _, _, .nil, _ => .nil
  | _, _, _, .no t, k => .no (ROs.at e t k)
  | _, _, _, .so r t, k => .so (RM.at e r fun a ha => k a (List.mem_append_left _ ha)) (ROs.at e t fun a ha => k a (List.mem_append_right _ ha))
theorem ROs.tracked : ∀ {σ : St} {ρ : Rho} {fp : List Addr}, ROs K G H σ ρ fp → ∀ a ∈ fp, ∃ o, H a = some o
  | _, _, _, .nil, _, ha => nomatch ha
  | _, _, _, .no t, a, ha => ROs.tracked t a ha
  | _, _, _, .so r t, a, ha => by
    rcases List.mem_append.mp ha with ha | ha
    · exact r.tracked a ha
    · exact ROs.tracked t a ha
/-- a slot taken out -/
theorem ROs.out : ∀ {σ : St} {ρ : Rho} {fp : List Addr} {i : Nat} {m : M}, ROs K G H σ ρ fp → ρ[i]? = some (some m) →
    ∃ v fp1 fq, σ[i]? = some (some v) ∧ RM K G H v m fp1 ∧ ROs K G H σ (ρ.set i none) fq ∧ (fp1 ++ fq).Perm fp
  | _, _, _, _, _, .nil, e => by simp at e
  | _, _, _, 0, _, .no _, e => by simp at e
  | _, _, _, i + 1, m, .no t, e => by
    obtain ⟨v, fp1, fq, h1, h2, h3, h4⟩ := ROs.out (i := i) (m := m) t (by simpa using e)
    exact ⟨v, fp1, fq, by simpa using h1, h2, .no h3, h4⟩
  | _, _, _, 0, _, .so r t, e => by
    simp at e; subst e
    exact ⟨_, _, _, rfl, r, .no t, List.Perm.refl _⟩
  | _, _, _, i + 1, m, .so (fp := fa) (fq := fb) r t, e => by
    obtain ⟨v, fp1, fq, h1, h2, h3, h4⟩ := ROs.out (i := i) (m := m) t (by simpa using e)
    refine ⟨v, fp1, fa ++ fq, by simpa using h1, h2, .so r h3, ?_⟩
    refine List.Perm.trans ?_ (List.Perm.append_left fa h4)
    rw [← List.append_assoc, ← List.append_assoc]
    exact List.Perm.append_right fq List.perm_append_comm
/-- a slot filled -/
theorem ROs.into : ∀ {σ : St} {ρ : Rho} {fq fp1 : List Addr} {i : Nat} {m : M} {v : V}, ROs K G H σ (ρ.set i none) fq → i < ρ.length → RM K G H v m fp1 →
    ∃ fp, ROs K G H (σ.set i (some v)) (ρ.set i (some m)) fp ∧ (fp1 ++ fq).Perm fp
  | σ, [], _, _, i, _, _, _, e, _ => by simp at e
  | σ, x :: ρ, fq, fp1, 0, m, v, h, e, r => by
    have h : ROs K G H σ (none :: ρ) fq := h
    cases h with
    | no t => exact ⟨_, .so r t, List.Perm.refl _⟩
  | σ, x :: ρ, fq, fp1, i + 1, m, v, h, e, r => by
    have h : ROs K G H σ (x :: ρ.set i none) fq := h
    cases h with
    | no t =>
      obtain ⟨fp, h1, h2⟩ := ROs.into (i := i) (m := m) (v := v) t (by simpa using e) r
      exact ⟨fp, .no h1, h2⟩
    | so q t =>
      rename_i va ma σ1 fa fb
      obtain ⟨fp, h1, h2⟩ := ROs.into (i := i) (m := m) (v := v) t (by simpa using e) r
      refine ⟨fa ++ fp, .so q h1, ?_⟩
      refine List.Perm.trans ?_ (List.Perm.append_left fa h2)
      rw [← List.append_assoc, ← List.append_assoc]
      exact List.Perm.append_right _ List.perm_append_comm
theorem ROs.forget : ∀ {σ : St} {ρ : Rho} {fp : List Addr} (i : Nat), ROs K G H σ ρ fp → ∃ fq, ROs K G H σ (ρ.set i none) fq ∧ ∃ fr, (fr ++ fq).Perm fp
  | _, _, _, _, .nil => ⟨[], .nil, [], List.Perm.refl _⟩
  | _, _, _, 0, .no t => ⟨_, .no t, [], List.Perm.refl _⟩
  | _, _, _, i + 1, .no t => let ⟨fq, h1, fr, h2⟩ := ROs.forget i t; ⟨fq, .no h1, fr, h2⟩
  | _, _, _, 0, .so r t => ⟨_, .no t, _, List.Perm.refl _⟩
  | _, _, _, i + 1, .so (fp := fa) (fq := fb) r t => by
    obtain ⟨fq, h1, fr, h2⟩ := ROs.forget i t
    refine ⟨fa ++ fq, .so r h1, fr, ?_⟩
    refine List.Perm.trans ?_ (List.Perm.append_left fa h2)
    rw [← List.append_assoc, ← List.append_assoc]
    exact List.Perm.append_right _ List.perm_append_comm
/-- where nothing is known of a slot the value is of no matter -/
theorem ROs.any : ∀ {σ : St} {ρ : Rho} {fp : List Addr} (i : Nat) (v : Option V), ROs K G H σ ρ fp → ρ[i]? = some none → ROs K G H (σ.set i v) ρ fp
  | _, _, _, _, _, .nil, e => by simp at e
  | _, _, _, 0, _, .no t, _ => .no t
  | _, _, _, i + 1, v, .no t, e => .no (ROs.any i v t (by simpa using e))
  | _, _, _, 0, _, .so _ _, e => by simp at e
  | _, _, _, i + 1, v, .so r t, e => .so r (ROs.any i v t (by simpa using e))
end

structure Tr (H G : Hp) (fp : List Addr) (H' G' : Hp) (fp' : List Addr) : Prop where
  g : Ext G G'
  k : ∀ a o, H a = some o → a ∉ fp → H' a = some o
  f : ∀ a ∈ fp', a ∈ fp ∨ H a = none
  n : ∀ a o, G' a = some o → G a = some o ∨ a ∈ fp ∨ H a = none
theorem Tr.refl (H G : Hp) (fp : List Addr) : Tr H G fp H G fp := ⟨Ext.refl G, fun _ _ h _ => h, fun _ h => .inl h, fun _ _ h => .inl h⟩
theorem Tr.trans {H G H1 G1 H2 G2 : Hp} {fp fp1 fp2 : List Addr} (a : Tr H G fp H1 G1 fp1) (b : Tr H1 G1 fp1 H2 G2 fp2) : Tr H G fp H2 G2 fp2 where
  g := a.g.trans b.g
  k := fun x o h n => b.k x o (a.k x o h n) fun z => by
    rcases a.f x z with z | z
    · exact n z
    · rw [h] at z; cases z
  f := fun x hx => by
    rcases b.f x hx with z | z
    · exact a.f x z
    · by_cases hf : x ∈ fp
      · exact .inl hf
      · cases q : H x with
        | none => exact .inr rfl
        | some o => rw [a.k x o q hf] at z; cases z
  n := fun x o hx => by
    rcases b.n x o hx with z | z | z
    · exact a.n x o z
    · rcases a.f x z with z | z
      · exact .inr (.inl z)
      · exact .inr (.inr z)
    · by_cases hf : x ∈ fp
      · exact .inr (.inl hf)
      · cases q : H x with
        | none => exact .inr (.inr rfl)
        | some o => rw [a.k x o q hf] at z; cases z
/-- only what is within counts -/
theorem Tr.sub {H G H1 G1 : Hp} {fp fp1 fp2 : List Addr} (a : Tr H G fp H1 G1 fp1) (h : ∀ x ∈ fp2, x ∈ fp1) : Tr H G fp H1 G1 fp2 := ⟨a.g, a.k, fun x hx => a.f x (h x hx), a.n⟩
/-- seen from more -/
theorem Tr.wide {H G H1 G1 : Hp} {fp fp1 fq fq1 fc : List Addr} (a : Tr H G fp H1 G1 fp1) (h : ∀ x, x ∈ fq ↔ x ∈ fp ∨ x ∈ fc) (h1 : ∀ x ∈ fq1, x ∈ fp1 ∨ x ∈ fc) : Tr H G fq H1 G1 fq1 where
  g := a.g
  k := fun x o e n => a.k x o e fun z => n ((h x).mpr (.inl z))
  f := fun x hx => by
    rcases h1 x hx with z | z
    · rcases a.f x z with z | z
      · exact .inl ((h x).mpr (.inl z))
      · exact .inr z
    · exact .inl ((h x).mpr (.inr z))
  n := fun x o e => by
    rcases a.n x o e with z | z | z
    · exact .inl z
    · exact .inr (.inl ((h x).mpr (.inl z)))
    · exact .inr (.inr z)
theorem Tr.new {H G : Hp} {fp : List Addr} {p : Addr} {o : HO} (h : H p = none) : Tr H G fp (upd H p o) G (p :: fp) where
  g := Ext.refl G
  k := fun a u e _ => by rw [upd_ne (ne_of_none e h)]; exact e
  f := fun a ha => by
    rcases List.mem_cons.mp ha with rfl | ha
    · exact .inr h
    · exact .inl ha
  n := fun _ _ e => .inl e
theorem Tr.write {H G : Hp} {fp : List Addr} {p : Addr} {o : HO} (h : p ∈ fp) : Tr H G fp (upd H p o) G fp where
  g := Ext.refl G
  k := fun a u e n => by
    have : a ≠ p := fun z => n (by rw [z]; exact h)
    rw [upd_ne this]; exact e
  f := fun _ ha => .inl ha
  n := fun _ _ e => .inl e

structure SA (K : PySem.W.Frag) (σ : St) (ρ : Rho) (H G : Hp) (fp : List Addr) : Prop where
  same : Ext G H
  free : ∀ a ∈ fp, G a = none
  nd : fp.Nodup
  sl : ∃ fp0, ROs K G H σ ρ fp0 ∧ fp0.Perm fp
section
variable {K : PySem.W.Frag} {G H G' H' : Hp} {σ : St} {ρ : Rho} {fp : List Addr}
theorem SA.length (S : SA K σ ρ H G fp) : σ.length = ρ.length := let ⟨_, h, _⟩ := S.sl; h.length
theorem SA.tracked (S : SA K σ ρ H G fp) : ∀ a ∈ fp, ∃ o, H a = some o := fun a ha => by
  obtain ⟨fp0, h, p⟩ := S.sl
  exact h.tracked a (p.mem_iff.mpr ha)
theorem SA.perm {fp1 : List Addr} (S : SA K σ ρ H G fp) (p : fp.Perm fp1) : SA K σ ρ H G fp1 :=
  ⟨S.same, fun a ha => S.free a (p.mem_iff.mpr ha), p.nodup_iff.mp S.nd, let ⟨f0, h, q⟩ := S.sl; ⟨f0, h, q.trans p⟩⟩
theorem SA.dat (S : SA K σ ρ H G fp) {i : Nat} {d : PyData} (h : ρ[i]? = some (some (.dat d))) : ∃ v, σ[i]? = some (some v) ∧ Da K G v d := by
  obtain ⟨fp0, h0, p⟩ := S.sl
  obtain ⟨v, fp1, fq, h1, h2, _, _⟩ := h0.out h
  cases h2 with | dat h2 => exact ⟨v, h1, h2⟩
/-- a value more, at the front -/
theorem SA.push {v : V} {m : M} {fr : List Addr} (S : SA K σ ρ H G fp) (r : RM K G H v m fr) (f : ∀ a ∈ fr, G a = none) (n : fr.Nodup) (d : ∀ a ∈ fr, a ∉ fp) : SA K (some v :: σ) (some m :: ρ) H G (fr ++ fp) := by
  obtain ⟨fp0, h0, p⟩ := S.sl
  refine ⟨S.same, fun a ha => (List.mem_append.mp ha).elim (f a) (S.free a), ?_, _, .so r h0, List.Perm.append_left fr p⟩
  rw [List.nodup_append]
  exact ⟨n, S.nd, fun a ha b hb e => d a ha (e ▸ hb)⟩
theorem SA.pushD {v : V} {d : PyData} (S : SA K σ ρ H G fp) (r : Da K G v d) : SA K (some v :: σ) (some (.dat d) :: ρ) H G fp :=
  S.push (.dat r) (fun _ h => nomatch h) List.nodup_nil fun _ h => nomatch h
theorem SA.pop {v : V} {m : M} (S : SA K (some v :: σ) (some m :: ρ) H G fp) : ∃ fr fq, RM K G H v m fr ∧ (fr ++ fq).Perm fp ∧ SA K σ ρ H G fq := by
  obtain ⟨fp0, h0, p⟩ := S.sl
  cases h0 with
  | so r t =>
    rename_i fr fq
    have nd := p.nodup_iff.mpr S.nd
    rw [List.nodup_append] at nd
    exact ⟨fr, fq, r, p, S.same, fun a ha => S.free a (p.mem_iff.mp (List.mem_append_right _ ha)), nd.2.1, _, t, List.Perm.refl _⟩
theorem SA.popD {v : V} {d : PyData} (S : SA K (some v :: σ) (some (.dat d) :: ρ) H G fp) : Da K G v d ∧ SA K σ ρ H G fp := by
  obtain ⟨fr, fq, r, p, t⟩ := S.pop
  cases r with
  | dat r => exact ⟨r, t.perm p⟩
/-- the front is forgotten -/
theorem SA.drop {v : Option V} {m : Option M} (S : SA K (v :: σ) (m :: ρ) H G fp) : ∃ fq, SA K σ ρ H G fq ∧ ∀ a ∈ fq, a ∈ fp := by
  obtain ⟨fp0, h0, p⟩ := S.sl
  cases h0 with
  | no t => exact ⟨fp, ⟨S.same, S.free, S.nd, _, t, p⟩, fun _ h => h⟩
  | so r t =>
    rename_i fr fq
    have nd := p.nodup_iff.mpr S.nd
    rw [List.nodup_append] at nd
    exact ⟨_, ⟨S.same, fun a ha => S.free a (p.mem_iff.mp (List.mem_append_right _ ha)), nd.2.1, _, t, List.Perm.refl _⟩, fun a ha => p.mem_iff.mp (List.mem_append_right _ ha)⟩
/-- knowledge grows, cells stand -/
theorem SA.out (S : SA K σ ρ H G fp) {i : Nat} {m : M} (h : ρ[i]? = some (some m)) : ∃ v fp1 fq, σ[i]? = some (some v) ∧ RM K G H v m fp1 ∧ (fp1 ++ fq).Perm fp ∧ SA K σ (ρ.set i none) H G fq := by
  obtain ⟨fp0, h0, p⟩ := S.sl
  obtain ⟨v, fp1, fq, h1, h2, h3, h4⟩ := h0.out h
  have p' := h4.trans p
  have nd := p'.nodup_iff.mpr S.nd
  rw [List.nodup_append] at nd
  exact ⟨v, fp1, fq, h1, h2, p', S.same, fun a ha => S.free a (p'.mem_iff.mp (List.mem_append_right _ ha)), nd.2.1, _, h3, List.Perm.refl _⟩
theorem SA.into {i : Nat} {m : M} {v : V} {fp1 : List Addr} (S : SA K σ (ρ.set i none) H G fp) (h : i < ρ.length) (r : RM K G H v m fp1) (f : ∀ a ∈ fp1, G a = none) (n : fp1.Nodup) (d : ∀ a ∈ fp1, a ∉ fp) :
    SA K (σ.set i (some v)) (ρ.set i (some m)) H G (fp1 ++ fp) := by
  obtain ⟨fp0, h0, p⟩ := S.sl
  obtain ⟨fq, h1, h2⟩ := h0.into h r
  refine ⟨S.same, fun a ha => (List.mem_append.mp ha).elim (f a) (S.free a), ?_, _, h1, h2.symm.trans (List.Perm.append_left fp1 p)⟩
  rw [List.nodup_append]
  exact ⟨n, S.nd, fun a ha b hb e => d a ha (e ▸ hb)⟩
theorem SA.forget (S : SA K σ ρ H G fp) (i : Nat) : ∃ fq, SA K σ (ρ.set i none) H G fq ∧ ∀ a ∈ fq, a ∈ fp := by
  obtain ⟨fp0, h0, p⟩ := S.sl
  obtain ⟨fq, h1, fr, h2⟩ := h0.forget i
  have p' := h2.trans p
  have nd := p'.nodup_iff.mpr S.nd
  rw [List.nodup_append] at nd
  exact ⟨fq, ⟨S.same, fun a ha => S.free a (p'.mem_iff.mp (List.mem_append_right _ ha)), nd.2.1, _, h1, List.Perm.refl _⟩, fun a ha => p'.mem_iff.mp (List.mem_append_right _ ha)⟩
/-- the state seen from another heap in which its cells stand as they did -/
theorem SA.at (S : SA K σ ρ H G fp) (eg : Ext G G') (es : Ext G' H') (hf : ∀ a ∈ fp, G' a = none) (hk : ∀ a ∈ fp, H' a = H a) : SA K σ ρ H' G' fp := by
  obtain ⟨fp0, h0, p⟩ := S.sl
  exact ⟨es, hf, S.nd, fp0, h0.at eg fun a ha => hk a (p.mem_iff.mp ha), p⟩
end

/-! ### paths into trees -/
inductive Stp where
  | ix (n : Nat) | key (k : Key) | fld (f : Str) | keyt (k : List Key)
def M.kids : M → List M
  | .lst xs => xs
  | .dk _ xs => xs
  | .dt _ xs => xs
  | .ins _ _ xs => xs
  | _ => []
def M.re : M → List M → M
  | .lst _, ys => .lst ys
  | .dk ks _, ys => .dk ks ys
  | .dt ks _, ys => .dt ks ys
  | .ins C ns _, ys => .ins C ns ys
  | m, _ => m
def fnd {α : Type} [DecidableEq α] (k : α) : List α → Option Nat
  | [] => none
  | x :: xs => if x = k then some 0 else (fnd k xs).map (· + 1)
def M.step : M → Stp → Option Nat
  | .lst _, .ix n => some n
  | .dk ks _, .key k => fnd k ks
  | .dt ks _, .keyt k => fnd k ks
  | .ins _ ns _, .fld f => fnd f ns
  | _, _ => none
def M.getP (m : M) : List Stp → Option M
  | [] => some m
  | s :: π => match m.step s with
    | none => none
    | some n => match m.kids[n]? with
      | none => none
      | some c => c.getP π
def M.setP (m : M) (c' : M) : List Stp → M
  | [] => c'
  | s :: π => match m.step s with
    | none => m
    | some n => match m.kids[n]? with
      | none => m
      | some c => m.re (m.kids.set n (c.setP c' π))
def vstep (H : Hp) : V → Stp → Option V
  | .ref a, .ix n => match H a with
    | some (.lst vs) => vs[n]?
    | _ => none
  | .ref a, .key k => match H a with
    | some (.dK kvs) => valV kvs k
    | _ => none
  | .ref a, .keyt k => match H a with
    | some (.dT kvs) => valV kvs k
    | _ => none
  | .ref a, .fld f => match H a with
    | some (.ins _ _ fs) => fs.lookup f
    | _ => none
  | _, _ => none
def atP (H : Hp) (v : V) : List Stp → Option V
  | [] => some v
  | s :: π => match vstep H v s with
    | none => none
    | some c => atP H c π
theorem fnd_val {α : Type} [DecidableEq α] {k : α} : ∀ {ks : List α} {vs : List V} {n : Nat}, ks.length = vs.length → fnd k ks = some n → valV (ks.zip vs) k = vs[n]?
  | [], _, _, _, h => by cases h
  | x :: ks, [], _, e, _ => by simp at e
  | x :: ks, v :: vs, n, e, h => by
    unfold fnd at h
    by_cases hx : x = k
    · rw [if_pos hx] at h; cases h
      exact valV_pos hx
    · rw [if_neg hx] at h
      cases q : fnd k ks with
      | none => rw [q] at h; cases h
      | some j =>
        rw [q] at h; cases h
        have := fnd_val (vs := vs) (by simpa using e) q
        show valV ((x, v) :: ks.zip vs) k = _
        rw [valV_neg hx, this]
        rfl
theorem fnd_lookup {k : Str} : ∀ {ks : List Str} {vs : List V} {n : Nat}, ks.length = vs.length → fnd k ks = some n → (ks.zip vs).lookup k = vs[n]?
  | [], _, _, _, h => by cases h
  | x :: ks, [], _, e, _ => by simp at e
  | x :: ks, v :: vs, n, e, h => by
    unfold fnd at h
    show List.lookup k ((x, v) :: ks.zip vs) = _
    by_cases hx : x = k
    · rw [if_pos hx] at h; cases h
      subst hx
      simp [List.lookup]
    · rw [if_neg hx] at h
      cases q : fnd k ks with
      | none => rw [q] at h; cases h
      | some j =>
        rw [q] at h; cases h
        have := fnd_lookup (vs := vs) (by simpa using e) q
        have hb : (k == x) = false := by simpa using fun z => hx z.symm
        rw [List.lookup_cons, hb]
        exact this
section
variable {K : PySem.W.Frag} {G H : Hp}
theorem RMs.out : ∀ {vs : List V} {xs : List M} {fp : List Addr} {n : Nat} {c : M}, RMs K G H vs xs fp → xs[n]? = some c →
    ∃ vc fp1 fq, vs[n]? = some vc ∧ RM K G H vc c fp1 ∧ (fp1 ++ fq).Perm fp ∧
      ∀ G' H' vc' c' fp1', Ext G G' → (∀ a ∈ fq, H' a = H a) → RM K G' H' vc' c' fp1' → ∃ fp', RMs K G' H' (vs.set n vc') (xs.set n c') fp' ∧ (fp1' ++ fq).Perm fp'
  | _, _, _, _, _, .nil, e => by simp at e
  | _, _, _, 0, c, .cons (fp := fa) (fq := fb) r t, e => by
    simp at e; subst e
    exact ⟨_, fa, fb, rfl, r, List.Perm.refl _, fun G' H' vc' c' fp1' eg k r' => ⟨_, .cons r' (t.at eg k), List.Perm.refl _⟩⟩
  | _, _, _, n + 1, c, .cons (fp := fa) (fq := fb) r t, e => by
    obtain ⟨vc, fp1, fq, h1, h2, h3, h4⟩ := RMs.out (n := n) (c := c) t (by simpa using e)
    have pm : ∀ l : List Addr, (l ++ (fa ++ fq)).Perm (fa ++ (l ++ fq)) := fun l => by
      rw [← List.append_assoc, ← List.append_assoc]
      exact List.Perm.append_right fq List.perm_append_comm
    refine ⟨vc, fp1, fa ++ fq, by simpa using h1, h2, (pm fp1).trans (List.Perm.append_left fa h3), fun G' H' vc' c' fp1' eg k r' => ?_⟩
    obtain ⟨fp', q1, q2⟩ := h4 G' H' vc' c' fp1' eg (fun a ha => k a (List.mem_append_right _ ha)) r'
    exact ⟨fa ++ fp', .cons (r.at eg fun a ha => k a (List.mem_append_left _ ha)) q1, (pm fp1').trans (List.Perm.append_left fa q2)⟩
theorem set_self {α : Type} : ∀ {l : List α} {n : Nat} {x : α}, l[n]? = some x → l.set n x = l
  | [], _, _, h => by simp at h
  | a :: l, 0, x, h => by simp at h; subst h; rfl
  | a :: l, n + 1, x, h => by
    show a :: l.set n x = a :: l
    rw [set_self (by simpa using h)]
theorem RM.kid {v : V} {m : M} {fp : List Addr} {s : Stp} {n : Nat} {c : M} (r : RM K G H v m fp) (hs : m.step s = some n) (hc : m.kids[n]? = some c) :
    ∃ vc fp1 fq, vstep H v s = some vc ∧ RM K G H vc c fp1 ∧ (fp1 ++ fq).Perm fp ∧
      ∀ G' H' c' fp1', Ext G G' → (∀ a ∈ fq, H' a = H a) → RM K G' H' vc c' fp1' → ∃ fp', RM K G' H' v (m.re (m.kids.set n c')) fp' ∧ (fp1' ++ fq).Perm fp' := by
  have pm : ∀ (a : Addr) (l fq : List Addr), (l ++ (a :: fq)).Perm (a :: (l ++ fq)) := fun a l fq => List.perm_middle
  cases r with
  | dat h => cases s <;> cases hs
  | scr h => cases s <;> cases hs
  | lst h1 h2 =>
    cases s with
    | ix j =>
      cases hs
      obtain ⟨vc, fp1, fq, q1, q2, q3, q4⟩ := h2.out (n := n) (c := c) hc
      refine ⟨vc, fp1, _ :: fq, ?_, q2, (pm _ fp1 fq).trans (List.Perm.cons _ q3), fun G' H' c' fp1' eg k r' => ?_⟩
      · show (match H _ with | some (HO.lst vs) => vs[n]? | _ => none) = _
        rw [h1]; exact q1
      · obtain ⟨fp', z1, z2⟩ := q4 G' H' vc c' fp1' eg (fun a ha => k a (List.mem_cons_of_mem _ ha)) r'
        rw [set_self q1] at z1
        exact ⟨_, .lst ((k _ List.mem_cons_self).trans h1) z1, (pm _ fp1' fq).trans (List.Perm.cons _ z2)⟩
    | key _ => cases hs
    | keyt _ => cases hs
    | fld _ => cases hs
  | dk h1 h2 h3 hn =>
    cases s with
    | key k0 =>
      have hs : fnd k0 _ = some n := hs
      obtain ⟨vc, fp1, fq, q1, q2, q3, q4⟩ := h3.out (n := n) (c := c) hc
      refine ⟨vc, fp1, _ :: fq, ?_, q2, (pm _ fp1 fq).trans (List.Perm.cons _ q3), fun G' H' c' fp1' eg k r' => ?_⟩
      · show (match H _ with | some (HO.dK kvs) => valV kvs k0 | _ => none) = _
        rw [h1]
        exact (fnd_val h2 hs).trans q1
      · obtain ⟨fp', z1, z2⟩ := q4 G' H' vc c' fp1' eg (fun a ha => k a (List.mem_cons_of_mem _ ha)) r'
        rw [set_self q1] at z1
        exact ⟨_, .dk ((k _ List.mem_cons_self).trans h1) h2 z1 hn, (pm _ fp1' fq).trans (List.Perm.cons _ z2)⟩
    | ix _ => cases hs
    | keyt _ => cases hs
    | fld _ => cases hs
  | dt h1 h2 h3 hn =>
    cases s with
    | keyt k0 =>
      have hs : fnd k0 _ = some n := hs
      obtain ⟨vc, fp1, fq, q1, q2, q3, q4⟩ := h3.out (n := n) (c := c) hc
      refine ⟨vc, fp1, _ :: fq, ?_, q2, (pm _ fp1 fq).trans (List.Perm.cons _ q3), fun G' H' c' fp1' eg k r' => ?_⟩
      · show (match H _ with | some (HO.dT kvs) => valV kvs k0 | _ => none) = _
        rw [h1]
        exact (fnd_val h2 hs).trans q1
      · obtain ⟨fp', z1, z2⟩ := q4 G' H' vc c' fp1' eg (fun a ha => k a (List.mem_cons_of_mem _ ha)) r'
        rw [set_self q1] at z1
        exact ⟨_, .dt ((k _ List.mem_cons_self).trans h1) h2 z1 hn, (pm _ fp1' fq).trans (List.Perm.cons _ z2)⟩
    | ix _ => cases hs
    | key _ => cases hs
    | fld _ => cases hs
  | ins h1 h2 h3 h4 =>
    cases s with
    | fld f0 =>
      have hs : fnd f0 _ = some n := hs
      obtain ⟨vc, fp1, fq, q1, q2, q3, q4⟩ := h4.out (n := n) (c := c) hc
      refine ⟨vc, fp1, _ :: _ :: fq, ?_, q2, ((pm _ fp1 _).trans (List.Perm.cons _ (pm _ fp1 fq))).trans (List.Perm.cons _ (List.Perm.cons _ q3)), fun G' H' c' fp1' eg k r' => ?_⟩
      · show (match H _ with | some (HO.ins _ _ fs) => fs.lookup f0 | _ => none) = _
        rw [h1]
        exact (fnd_lookup h3 hs).trans q1
      · obtain ⟨fp', z1, z2⟩ := q4 G' H' vc c' fp1' eg (fun a ha => k a (List.mem_cons_of_mem _ (List.mem_cons_of_mem _ ha))) r'
        rw [set_self q1] at z1
        exact ⟨_, .ins ((k _ List.mem_cons_self).trans h1) ((k _ (List.mem_cons_of_mem _ List.mem_cons_self)).trans h2) h3 z1, ((pm _ fp1' _).trans (List.Perm.cons _ (pm _ fp1' fq))).trans (List.Perm.cons _ (List.Perm.cons _ z2))⟩
    | ix _ => cases hs
    | key _ => cases hs
    | keyt _ => cases hs
theorem RM.focus : ∀ {π : List Stp} {v : V} {m : M} {fp : List Addr} {c : M}, RM K G H v m fp → m.getP π = some c →
    ∃ vc fp1 fq, atP H v π = some vc ∧ RM K G H vc c fp1 ∧ (fp1 ++ fq).Perm fp ∧
      ∀ G' H' c' fp1', Ext G G' → (∀ a ∈ fq, H' a = H a) → RM K G' H' vc c' fp1' → ∃ fp', RM K G' H' v (m.setP c' π) fp' ∧ (fp1' ++ fq).Perm fp'
  | [], v, m, fp, c, r, e => by
    cases e
    exact ⟨v, fp, [], rfl, r, by rw [List.append_nil], fun G' H' c' fp1' _ _ r' => ⟨fp1', r', by rw [List.append_nil]⟩⟩
  | s :: π, v, m, fp, c, r, e => by
    unfold M.getP at e
    cases hs : m.step s with
    | none => rw [hs] at e; cases e
    | some n =>
      cases hc : m.kids[n]? with
      | none => rw [hs] at e; simp only [hc] at e; cases e
      | some c1 =>
        rw [hs] at e
        simp only [hc] at e
        obtain ⟨v1, fa, fb, a1, a2, a3, a4⟩ := r.kid hs hc
        obtain ⟨vc, fp1, fq, b1, b2, b3, b4⟩ := RM.focus (π := π) a2 e
        refine ⟨vc, fp1, fq ++ fb, ?_, b2, ?_, fun G' H' c' fp1' eg k r' => ?_⟩
        · unfold atP; rw [a1]; exact b1
        · rw [← List.append_assoc]
          exact (List.Perm.append_right fb b3).trans a3
        · obtain ⟨fp', z1, z2⟩ := b4 G' H' c' fp1' eg (fun a ha => k a (List.mem_append_left _ ha)) r'
          obtain ⟨fp2, y1, y2⟩ := a4 G' H' _ fp' eg (fun a ha => k a (List.mem_append_right _ ha)) z1
          refine ⟨fp2, ?_, ?_⟩
          · unfold M.setP; rw [hs]; simp only [hc]; exact y1
          · rw [← List.append_assoc]
            exact (List.Perm.append_right fb z2).trans y2
end
/-- what stands in slot i at the path π -/
def rdP (ρ : Rho) (i : Nat) (π : List Stp) : Option M := match ρ[i]? with
  | some (some m) => m.getP π
  | _ => none
def wrP (ρ : Rho) (i : Nat) (π : List Stp) (c : M) : Rho := match ρ[i]? with
  | some (some m) => ρ.set i (some (m.setP c π))
  | _ => ρ
theorem rdP_pre {τ ρ : Rho} {i : Nat} {π : List Stp} : rdP (τ ++ ρ) (τ.length + i) π = rdP ρ i π := by
  unfold rdP
  rw [List.getElem?_append_right (Nat.le_add_right _ _), Nat.add_sub_cancel_left]
theorem wrP_pre {τ ρ : Rho} {i : Nat} {π : List Stp} {c : M} : wrP (τ ++ ρ) (τ.length + i) π c = τ ++ wrP ρ i π c := by
  unfold wrP
  rw [List.getElem?_append_right (Nat.le_add_right _ _), Nat.add_sub_cancel_left]
  cases h : ρ[i]? with
  | none => rfl
  | some om =>
    cases om with
    | none => rfl
    | some m =>
      show (τ ++ ρ).set (τ.length + i) _ = τ ++ ρ.set i _
      rw [List.set_append_right _ _ (Nat.le_add_right _ _), Nat.add_sub_cancel_left]
theorem wrP_length {ρ : Rho} {i : Nat} {π : List Stp} {c : M} : (wrP ρ i π c).length = ρ.length := by
  unfold wrP
  split
  · rw [List.length_set]
  · rfl
theorem SA.focus {K : PySem.W.Frag} {G H : Hp} {σ : St} {ρ : Rho} {fp : List Addr} {i : Nat} {π : List Stp} {c : M} (S : SA K σ ρ H G fp) (e : rdP ρ i π = some c) :
    ∃ v0 vc fp1 fq, σ[i]? = some (some v0) ∧ atP H v0 π = some vc ∧ RM K G H vc c fp1 ∧ (fp1 ++ fq).Perm fp ∧
      ∀ G' H' c' fp1', Ext G G' → Ext G' H' → (∀ a ∈ fq, H' a = H a) → (∀ a ∈ fq, G' a = none) → RM K G' H' vc c' fp1' → (∀ a ∈ fp1', G' a = none) → fp1'.Nodup → (∀ a ∈ fp1', a ∉ fq) →
        SA K σ (wrP ρ i π c') H' G' (fp1' ++ fq) := by
  unfold rdP at e
  cases hm : ρ[i]? with
  | none => rw [hm] at e; cases e
  | some om =>
    cases om with
    | none => rw [hm] at e; cases e
    | some m =>
      rw [hm] at e
      have e : m.getP π = some c := e
      obtain ⟨v0, fa, fb, h1, h2, h3, h4⟩ := S.out hm
      obtain ⟨vc, fp1, fq, b1, b2, b3, b4⟩ := h2.focus e
      have p : (fp1 ++ (fq ++ fb)).Perm fp := by
        rw [← List.append_assoc]
        exact (List.Perm.append_right fb b3).trans h3
      have nd := p.nodup_iff.mpr S.nd
      rw [List.nodup_append] at nd
      refine ⟨v0, vc, fp1, fq ++ fb, h1, b1, b2, p, fun G' H' c' fp1' eg es k kg r f n d => ?_⟩
      obtain ⟨fp', z1, z2⟩ := b4 G' H' c' fp1' eg (fun a ha => k a (List.mem_append_left _ ha)) r
      have S2 : SA K σ (ρ.set i none) H' G' fb := h4.at eg es (fun a ha => kg a (List.mem_append_right _ ha)) (fun a ha => k a (List.mem_append_right _ ha))
      have nf := nd.2.1
      rw [List.nodup_append] at nf
      have hi : i < ρ.length := (List.getElem?_eq_some_iff.mp hm).1
      have S3 := S2.into (v := v0) hi z1 (fun a ha => by
          rcases List.mem_append.mp (z2.mem_iff.mpr ha) with q | q
          · exact f a q
          · exact kg a (List.mem_append_left _ q))
        (z2.nodup_iff.mp (by
          rw [List.nodup_append]
          exact ⟨n, nf.1, fun a ha b hb e => d a ha (List.mem_append_left _ (e ▸ hb))⟩))
        (fun a ha hb => by
          rcases List.mem_append.mp (z2.mem_iff.mpr ha) with q | q
          · exact d a q (List.mem_append_right _ hb)
          · exact nf.2.2 a q a hb rfl)
      have ev : σ.set i (some v0) = σ := set_self h1
      rw [ev] at S3
      have ew : wrP ρ i π c' = ρ.set i (some (m.setP c' π)) := by
        unfold wrP; rw [hm]
      rw [ew]
      refine S3.perm ?_
      rw [← List.append_assoc]
      exact List.Perm.append_right fb z2.symm
end DL

set_option Elab.async false
set_option linter.all false
set_option maxRecDepth 100000
/-! DLe: new tuples, with what is known of their object. -/
namespace DL
open PySem PySem.Spec PyProof.Rows L2
theorem newT_ok {P : Program} {w : World} {h : Heap} {a : Addr} {xs : List V} {its : List Value} (hz : xs.length ≤ sizeLine) (r : Vals xs its) (e : h.get? a = some { cls := .type "tuple", data := .seq its.toArray }) :
    ∃ ho, NewT xs ho ∧ ∀ H : Hp, ObjOk P w H h a ho := by
  have base : ∀ H : Hp, ObjOk P w H h a (.tup xs) := fun H => ⟨hz, its, r, ⟨_, e, rfl, _, rfl⟩⟩
  by_cases z : xs.all keyV = true ∧ xs ≠ []
  · exact ⟨.tup xs, ⟨fun _ => rfl, fun n => absurd z n⟩, base⟩
  · exact ⟨.frz _ (.tup xs), ⟨fun y => absurd y z, fun _ => ⟨_, rfl, rfl⟩⟩, fun H => ⟨e, base H⟩⟩
/-- a tuple display -/
def tTupN (t : TA) : TE := fun σ H Q => t σ H fun xs H1 => xs.length ≤ sizeLine ∧ ∀ p ho, H1 p = none → NewT xs ho → Q (.ref p) (upd H1 p ho)
section
variable {X : Cx} {e : Expr} {es : List Expr} {t : TA} {pos : Pos}
theorem pe_tupN {x1} (ha : PA X es t) : PE X (.Tuple es x1 pos) (tTupN t) := by
  constructor
  intro pins s σ H Q I hq
  refine wpAny_Tuple_spliced (thn (ha.run pos pins s σ H _ I hq) fun us s1 ⟨xs, H1, I1, rr, hz, q⟩ => ⟨Nat.le_trans (Nat.le_of_eq rr.length.symm) hz, ?_⟩)
  obtain ⟨ho, n1, n2⟩ := newT_ok (P := X.prog) (w := X.w) (h := s1.heap.push { cls := .type "tuple", data := .seq us.toArray }) (a := s1.heap.objs.size) hz rr (Heap.get?_push_size _ rfl)
  exact ⟨.ref s1.heap.objs.size, upd H1 s1.heap.objs.size ho, I1.laid (t' := s1.toks) (fun b u e => Heap.get?_push_of_some _ e) (Nat.le_refl _) (n2 _), rfl, q _ _ (I1.hok.fresh (Nat.le_refl _)) n1⟩
/-- t + u -/
def rCatN (K : PySem.W.Frag) : R2 := fun x y H Q => ∃ a b xs ys, x = .ref a ∧ y = .ref b ∧ SqT K H a xs ∧ SqT K H b ys ∧ xs.length + ys.length ≤ sizeLine ∧
  (xs = [] → Q (.ref b) H) ∧ (ys = [] → Q (.ref a) H) ∧ (∀ p ho, H p = none → NewT (xs ++ ys) ho → Q (.ref p) (upd H p ho))
theorem op_catN : OpR X (binaryOp .Add) (rCatN X.K) := by
  intro pins s σ H x y v u Q I rx ry hyp
  obtain ⟨a, b, xs, ys, rfl, rfl, ta, tb, hz, q0, q1, q2⟩ := hyp
  cases rx; cases ry
  obtain ⟨its, r1, p1, _⟩ := I.tuple ta
  obtain ⟨jts, r2, p2, _⟩ := I.tuple tb
  by_cases ne : xs = []
  · subst ne
    cases r1
    exact cat_tup0 p1 p2 ⟨.ref b, H, I, rfl, q0 rfl⟩
  have hz' : its.length + jts.length ≤ sizeLine := by rw [← r1.length, ← r2.length]; exact hz
  refine HT.cat_tup p1 p2 (fun z => ne (r1.nil_iff.mp z)) (fun z => ⟨.ref a, H, I, rfl, q1 (r2.nil_iff.mp z)⟩) (fun z => ?_) hz'
  obtain ⟨ho, n1, n2⟩ := newT_ok (P := X.prog) (w := X.w) (h := s.heap.push { cls := .type "tuple", data := .seq (its ++ jts).toArray }) (a := s.heap.objs.size) (xs := xs ++ ys) (by rw [List.length_append]; exact hz) (r1.append r2) (Heap.get?_push_size _ rfl)
  exact ⟨.ref s.heap.objs.size, upd H s.heap.objs.size ho, I.laid (t' := s.toks) (fun b ob q => Heap.get?_push_of_some _ q) (Nat.le_refl _) (n2 _), rfl, q2 _ _ (I.hok.fresh (Nat.le_refl _)) n1⟩
/-- t[lo:hi], not the whole -/
def rSlN (K : PySem.W.Frag) : V → Option Int → Option Int → Hp → VK → Prop := fun x lo hi H Q => ∃ a xs, x = .ref a ∧ SqT K H a xs ∧ (cutV xs lo hi = xs → Q x H) ∧ ∀ p ho, H p = none → NewT (cutV xs lo hi) ho → Q (.ref p) (upd H p ho)
theorem sl_tupN : SlR X (rSlN X.K) := by
  intro pins s σ H x v vl vu lo hi sl Q I rx hs pl pu hyp
  obtain ⟨a, xs, rfl, hx, q1, q2⟩ := hyp
  obtain ⟨its, r, ht, hz⟩ := I.tuple hx
  have hl : its.toArray.size = xs.length := by rw [List.size_toArray]; exact r.length.symm
  cases rx
  refine ⟨"tuple", _, PyProof.Rows.slot_tuple_getitem.lookup, ht.typeIs, ?_⟩
  by_cases hw : HT.sIx xs.length 0 lo = 0 ∧ HT.sIx xs.length xs.length hi = xs.length
  · have ec : cutV xs lo hi = xs := by
      unfold cutV
      rw [hw.1, hw.2, List.drop_zero, Nat.sub_zero, List.take_length]
    exact getItem_tuple_whole ht hs pl pu (by rw [hl]; exact hw) ⟨.ref a, H, I, rfl, q1 ec⟩
  · refine HT.getItem_tuple_cut ht hs pl pu (by rw [hl]; exact hw) ?_ (by rw [hl]; exact hz)
    rw [hl]
    obtain ⟨ho, n1, n2⟩ := newT_ok (P := X.prog) (w := X.w) (a := s.heap.objs.size) (xs := cutV xs lo hi) (Nat.le_trans (cutV_length xs lo hi) hz) ((r.drop (HT.sIx xs.length 0 lo)).take (HT.sIx xs.length xs.length hi - HT.sIx xs.length 0 lo)) (Heap.get?_push_size s.heap rfl)
    exact ⟨.ref s.heap.objs.size, upd H s.heap.objs.size ho, I.laid (t' := s.toks) (fun b ob q => Heap.get?_push_of_some _ q) (Nat.le_refl _) (n2 _), rfl, q2 _ _ (I.hok.fresh (Nat.le_refl _)) n1⟩
/-- tuple(x) of a list or a tuple -/
theorem call_tupleN : CallR X (.type "tuple") (fun xs H Q => ∃ p ys, xs = [.ref p] ∧ ((SqL X.K H p ys ∧ ∀ l ho, H l = none → NewT ys ho → Q (.ref l) (upd H l ho)) ∨ (SqT X.K H p ys ∧ Q (.ref p) H))) := by
  intro pins s σ H xs us Q I r hyp
  obtain ⟨p, ys, rfl, q⟩ := hyp
  obtain ⟨u, rfl, ru⟩ := vals1 r
  cases ru
  rcases q with ⟨hs, q⟩ | ⟨hs, q⟩
  · obtain ⟨its, rv, pl, hz⟩ := I.list hs
    refine call_tuple_list pl.isList (fun h' hk => ?_) (by rw [List.size_toArray, ← rv.length]; exact hz)
    have I1 : Inv X pins σ H { s with heap := h' } := I.kept (t' := s.toks) hk
    obtain ⟨ho, n1, n2⟩ := newT_ok (P := X.prog) (w := X.w) (h := h'.push { cls := .type "tuple", data := .seq its.toArray }) (a := h'.objs.size) hz rv (Heap.get?_push_size _ rfl)
    exact ⟨.ref h'.objs.size, upd H h'.objs.size ho, I1.laid (t' := s.toks) (fun b o e => Heap.get?_push_of_some _ e) (Nat.le_refl _) (n2 _), rfl, q _ _ (I1.hok.fresh (Nat.le_refl _)) n1⟩
  · obtain ⟨its, _, p1, _⟩ := I.tuple hs
    exact call_tuple_same (items := its.toArray) p1 ⟨.ref p, H, I, rfl, q⟩
end
end DL

set_option Elab.async false
set_option linter.all false
set_option maxRecDepth 100000
/-! DLb: what an expression's, a test's, an argument list's reading does to a state; the pure operations. -/
namespace DL
open PySem PySem.Spec PyProof.Rows L2

inductive Vl where
  | val (m : M) | plc (i : Nat) (π : List Stp)
structure Xv where
  C : Str
  fs : Option (List (Str × PyData))
inductive Out (α : Type) where
  | ok (a : α) (ρ : Rho) | exc (x : Xv) (ρ : Rho) | bad
def Out.bind {α β : Type} (o : Out α) (f : α → Rho → Out β) : Out β := match o with
  | .ok a ρ => f a ρ
  | .exc x ρ => .exc x ρ
  | .bad => .bad
def Vl.pm : Vl → Option M
  | .val m => some m
  | .plc _ _ => none
def Vl.root : Vl → Bool
  | .val _ => true
  | .plc _ [] => true
  | .plc _ (_ :: _) => false
def rdVl (ρ : Rho) : Vl → Option M
  | .val m => some m
  | .plc i π => rdP ρ i π
def PF (σ : St) (H : Hp) (v : V) : Vl → Prop
  | .val _ => True
  | .plc i π => ∃ v0, σ[i]? = some (some v0) ∧ atP H v0 π = some v
def RX (K : PySem.W.Frag) (G : Hp) (x : Xv) (cls : Value) (d : Option Addr) : Prop := cls = .ref (He.ga K x.C) ∧ match x.fs with
  | none => d = none
  | some fs => ∃ a vs, d = some a ∧ G a = some (.xd ((fs.map (·.1)).zip vs)) ∧ DaAll K G vs (fs.map (·.2))

theorem vstep_mono {H H' : Hp} (e : Ext H H') : ∀ {v : V} {s : Stp} {c : V}, vstep H v s = some c → vstep H' v s = some c
  | .ref a, .ix n, c, h => by
    unfold vstep at h ⊢
    cases q : H a with
    | none => simp only [q] at h; cases h
    | some o => simp only [q] at h; simp only [e a o q]; exact h
  | .ref a, .key n, c, h => by
    unfold vstep at h ⊢
    cases q : H a with
    | none => simp only [q] at h; cases h
    | some o => simp only [q] at h; simp only [e a o q]; exact h
  | .ref a, .keyt n, c, h => by
    unfold vstep at h ⊢
    cases q : H a with
    | none => simp only [q] at h; cases h
    | some o => simp only [q] at h; simp only [e a o q]; exact h
  | .ref a, .fld n, c, h => by
    unfold vstep at h ⊢
    cases q : H a with
    | none => simp only [q] at h; cases h
    | some o => simp only [q] at h; simp only [e a o q]; exact h
  | .non, _, _, h => by cases h
  | .bl _, _, _, h => by cases h
  | .int _, _, _, h => by cases h
  | .str _, _, _, h => by cases h
  | .byt _, _, _, h => by cases h
  | .flt _, _, _, h => by cases h
  | .ty _, _, _, h => by cases h
theorem atP_mono {H H' : Hp} (e : Ext H H') : ∀ {π : List Stp} {v c : V}, atP H v π = some c → atP H' v π = some c
  | [], _, _, h => h
  | s :: π, v, c, h => by
    unfold atP at h ⊢
    cases q : vstep H v s with
    | none => rw [q] at h; cases h
    | some c1 =>
      rw [q] at h
      rw [vstep_mono e q]
      exact atP_mono e h
theorem PF.keep {σ : St} {H H' : Hp} {v : V} {b : Bool} : ∀ {a : Vl}, PF σ H v a → (b = true → Ext H H') → (b || a.root) = true → PF σ H' v a
  | .val _, _, _, _ => trivial
  | .plc i [], h, _, _ => h
  | .plc i (s :: π), ⟨v0, h1, h2⟩, e, r => by
    have hb : b = true := by simpa [Vl.root] using r
    exact ⟨v0, h1, atP_mono (e hb) h2⟩

section
variable {K : PySem.W.Frag} {W : WX} {b : Bool} {τ σ : St} {τm ρ : Rho} {H G H1 G1 : Hp} {fp fp1 : List Addr}
/-- what is asked of a result -/
def PostE (K : PySem.W.Frag) (W : WX) (b : Bool) (τ σ : St) (τm : Rho) (H G : Hp) (fp : List Addr) (Q : VK) : Out Vl → Prop
  | .ok a ρ' => ∀ v H' G' fp', Tr H G fp H' G' fp' → (b = true → Ext H H') → SA K (some v :: (τ ++ σ)) (a.pm :: (τm ++ ρ')) H' G' fp' → PF σ H' v a → Q v H'
  | .exc x ρ' => ∀ cls d H' G' fp', Tr H G fp H' G' fp' → SA K (τ ++ σ) (τm ++ ρ') H' G' fp' → RX K G' x cls d → W cls d σ H'
  | .bad => False
def EvE (K : PySem.W.Frag) (W : WX) (b : Bool) (te : TE) (f : Rho → Out Vl) : Prop :=
  ∀ (τ σ : St) (τm ρ : Rho) (H G : Hp) (fp : List Addr) (Q : VK), τ.length = τm.length → SA K (τ ++ σ) (τm ++ ρ) H G fp → PostE K W b τ σ τm H G fp Q (f ρ) → te σ H Q
def PostT (K : PySem.W.Frag) (W : WX) (b : Bool) (τ σ : St) (τm : Rho) (H G : Hp) (fp : List Addr) (Q : Bool → Hp → Prop) : Out Bool → Prop
  | .ok a ρ' => ∀ H' G' fp', Tr H G fp H' G' fp' → (b = true → Ext H H') → SA K (τ ++ σ) (τm ++ ρ') H' G' fp' → Q a H'
  | .exc x ρ' => ∀ cls d H' G' fp', Tr H G fp H' G' fp' → SA K (τ ++ σ) (τm ++ ρ') H' G' fp' → RX K G' x cls d → W cls d σ H'
  | .bad => False
def EvT (K : PySem.W.Frag) (W : WX) (b : Bool) (tt : TT) (f : Rho → Out Bool) : Prop :=
  ∀ (τ σ : St) (τm ρ : Rho) (H G : Hp) (fp : List Addr) (Q : Bool → Hp → Prop), τ.length = τm.length → SA K (τ ++ σ) (τm ++ ρ) H G fp → PostT K W b τ σ τm H G fp Q (f ρ) → tt σ H Q
inductive PFs (σ : St) (H : Hp) : List V → List Vl → Prop
  | nil : PFs σ H [] []
  | cons {v : V} {a : Vl} {vs : List V} {as : List Vl} : PF σ H v a → PFs σ H vs as → PFs σ H (v :: vs) (a :: as)
def PostA (K : PySem.W.Frag) (W : WX) (b : Bool) (τ σ : St) (τm : Rho) (H G : Hp) (fp : List Addr) (Q : List V → Hp → Prop) : Out (List Vl) → Prop
  | .ok as ρ' => ∀ vs H' G' fp', Tr H G fp H' G' fp' → (b = true → Ext H H') → SA K (vs.reverse.map some ++ (τ ++ σ)) (as.reverse.map Vl.pm ++ (τm ++ ρ')) H' G' fp' → PFs σ H' vs as → Q vs H'
  | .exc x ρ' => ∀ cls d H' G' fp', Tr H G fp H' G' fp' → SA K (τ ++ σ) (τm ++ ρ') H' G' fp' → RX K G' x cls d → W cls d σ H'
  | .bad => False
def EvA (K : PySem.W.Frag) (W : WX) (b : Bool) (ta : TA) (f : Rho → Out (List Vl)) : Prop :=
  ∀ (τ σ : St) (τm ρ : Rho) (H G : Hp) (fp : List Addr) (Q : List V → Hp → Prop), τ.length = τm.length → SA K (τ ++ σ) (τm ++ ρ) H G fp → PostA K W b τ σ τm H G fp Q (f ρ) → ta σ H Q

theorem PFs.length {H : Hp} : ∀ {vs : List V} {as : List Vl}, PFs σ H vs as → vs.length = as.length
  | _, _, .nil => rfl
  | _, _, .cons _ t => by simp [PFs.length t]
theorem PostE.tr {b' : Bool} {Q : VK} (T : Tr H G fp H1 G1 fp1) (e : b = true → Ext H H1) (hb : b = true → b' = true) : ∀ {o : Out Vl}, PostE K W b τ σ τm H G fp Q o → PostE K W b' τ σ τm H1 G1 fp1 Q o
  | .ok a ρ', h => fun v H' G' fp' T' e' S p => h v H' G' fp' (T.trans T') (fun z => (e z).trans (e' (hb z))) S p
  | .exc x ρ', h => fun cls d H' G' fp' T' S r => h cls d H' G' fp' (T.trans T') S r
  | .bad, h => h
theorem PostT.tr {b' : Bool} {Q : Bool → Hp → Prop} (T : Tr H G fp H1 G1 fp1) (e : b = true → Ext H H1) (hb : b = true → b' = true) : ∀ {o : Out Bool}, PostT K W b τ σ τm H G fp Q o → PostT K W b' τ σ τm H1 G1 fp1 Q o
  | .ok a ρ', h => fun H' G' fp' T' e' S => h H' G' fp' (T.trans T') (fun z => (e z).trans (e' (hb z))) S
  | .exc x ρ', h => fun cls d H' G' fp' T' S r => h cls d H' G' fp' (T.trans T') S r
  | .bad, h => h

/-! ### the front of a state -/
theorem SA.drops : ∀ {s : St} {m : Rho} {σ : St} {ρ : Rho} {fp : List Addr}, s.length = m.length → SA K (s ++ σ) (m ++ ρ) H G fp → ∃ fq, SA K σ ρ H G fq ∧ ∀ a ∈ fq, a ∈ fp
  | [], [], _, _, fp, _, S => ⟨fp, S, fun _ h => h⟩
  | _ :: _, [], _, _, _, e, _ => by simp at e
  | [], _ :: _, _, _, _, e, _ => by simp at e
  | x :: s, y :: m, σ, ρ, fp, e, S => by
    obtain ⟨fq, S1, h1⟩ := SA.drop (v := x) (m := y) (σ := s ++ σ) (ρ := m ++ ρ) S
    obtain ⟨fr, S2, h2⟩ := SA.drops (s := s) (m := m) (by simpa using e) S1
    exact ⟨fr, S2, fun a ha => h1 a (h2 a ha)⟩
/-- an operand is read: it stands in the front at j, or is a place -/
theorem SA.rd {s : St} {m : Rho} {v : V} {a : Vl} {j : Nat} {c : M} (S : SA K (s ++ (τ ++ σ)) (m ++ (τm ++ ρ)) H G fp) (e1 : s.length = m.length) (e2 : τ.length = τm.length)
    (h1 : s[j]? = some (some v)) (h2 : m[j]? = some a.pm) (p : PF σ H v a) (h : rdVl ρ a = some c) : ∃ fx, RM K G H v c fx := by
  cases a with
  | val m1 =>
    obtain rfl : m1 = c := Option.some.inj h
    have hj : j < m.length := (List.getElem?_eq_some_iff.mp h2).1
    have q : (m ++ (τm ++ ρ))[j]? = some (some m1) := by rw [List.getElem?_append_left hj]; exact h2
    obtain ⟨v', fp1, fq, z1, z2, _, _⟩ := S.out q
    rw [List.getElem?_append_left (by rw [e1]; exact hj), h1] at z1
    cases z1
    exact ⟨fp1, z2⟩
  | plc i π =>
    obtain ⟨v0, p1, p2⟩ := p
    have q : rdP (m ++ (τm ++ ρ)) (m.length + (τm.length + i)) π = some c := by rw [rdP_pre, rdP_pre]; exact h
    obtain ⟨v0', vc, fp1, fq, z1, z2, z3, _, _⟩ := S.focus q
    rw [← e1, ← e2, List.getElem?_append_right (Nat.le_add_right _ _), Nat.add_sub_cancel_left, List.getElem?_append_right (Nat.le_add_right _ _), Nat.add_sub_cancel_left, p1] at z1
    cases z1
    rw [p2] at z2
    cases z2
    exact ⟨fp1, z3⟩
/-- what a pure operation has made -/
structure New (H G H' G' : Hp) (fr : List Addr) : Prop where
  h : Ext H H'
  g : Ext G G'
  s : Ext G' H'
  n : ∀ a o, G' a = some o → G a = some o ∨ H a = none
  nd : fr.Nodup
  f : ∀ a ∈ fr, H a = none ∧ G' a = none
theorem New.refl (e : Ext G H) : New H G H G [] := ⟨Ext.refl H, Ext.refl G, e, fun _ _ h => .inl h, List.nodup_nil, fun _ h => nomatch h⟩
theorem none_of {H : Hp} (e : Ext G H) {p : Addr} (h : H p = none) : G p = none := by
  cases q : G p with
  | none => rfl
  | some o => rw [e p o q] at h; cases h
theorem ext_upd {p : Addr} {o : HO} (h : H p = none) : Ext H (upd H p o) := fun a u q => by
  rw [upd_ne (ne_of_none q h)]; exact q
/-- a new mutable object -/
theorem New.obj (e : Ext G H) {p : Addr} {o : HO} (h : H p = none) : New H G (upd H p o) G [p] :=
  ⟨ext_upd h, Ext.refl G, e.trans (ext_upd h), fun _ _ q => .inl q, by simp, fun a ha => by
    have : a = p := by simpa using ha
    subst this
    exact ⟨h, none_of e h⟩⟩
/-- a new object that is known from now on -/
theorem New.known (e : Ext G H) {p : Addr} {o : HO} (h : H p = none) : New H G (upd H p o) (upd G p o) [] :=
  ⟨ext_upd h, ext_upd (none_of e h), fun a u q => by
      by_cases hp : a = p
      · subst hp; rw [upd_same] at q ⊢; exact q
      · rw [upd_ne hp] at q ⊢; exact e a u q,
    fun a u q => by
      by_cases hp : a = p
      · subst hp; exact .inr h
      · rw [upd_ne hp] at q; exact .inl q, List.nodup_nil, fun _ q => nomatch q⟩
/-- the state behind it -/
theorem SA.new {v : V} {c : M} {fr : List Addr} (S : SA K σ ρ H G fp) (N : New H G H1 G1 fr) (r : RM K G1 H1 v c fr) : SA K (some v :: σ) (some c :: ρ) H1 G1 (fr ++ fp) ∧ Tr H G fp H1 G1 (fr ++ fp) := by
  have tk : ∀ a ∈ fp, G1 a = none := fun a ha => by
    cases q : G1 a with
    | none => rfl
    | some o =>
      rcases N.n a o q with z | z
      · rw [S.free a ha] at z; cases z
      · obtain ⟨o', e⟩ := S.tracked a ha
        rw [e] at z; cases z
  have st : ∀ a ∈ fp, H1 a = H a := fun a ha => by
    obtain ⟨o', e⟩ := S.tracked a ha
    rw [e, N.h a o' e]
  refine ⟨(S.at N.g N.s tk st).push r (fun a ha => (N.f a ha).2) N.nd (fun a ha hb => ?_), N.g, fun a o e _ => N.h a o e, fun a ha => ?_, fun a o e => ?_⟩
  · obtain ⟨o', e⟩ := S.tracked a hb
    rw [(N.f a ha).1] at e; cases e
  · rcases List.mem_append.mp ha with z | z
    · exact .inr (N.f a z).1
    · exact .inl z
  · rcases N.n a o e with z | z
    · exact .inl z
    · exact .inr (.inr z)
/-- a pure operation's end -/
theorem fin_new {s : St} {m : Rho} {v : V} {c : M} {fr : List Addr} {Q : VK} {H2 G2 : Hp} (P : PostE K W b τ σ τm H G fp Q (.ok (.val c) ρ)) (T : Tr H G fp H1 G1 fp1) (e : b = true → Ext H H1)
    (S : SA K (s ++ (τ ++ σ)) (m ++ (τm ++ ρ)) H1 G1 fp1) (e1 : s.length = m.length) (N : New H1 G1 H2 G2 fr) (r : RM K G2 H2 v c fr) : Q v H2 := by
  obtain ⟨fq, S1, h1⟩ := S.drops e1
  obtain ⟨S2, T2⟩ := S1.new N r
  exact P v H2 G2 (fr ++ fq) ((T.sub h1).trans T2) (fun z => (e z).trans N.h) S2 trivial

/-! ### two operands -/
def Op2 (K : PySem.W.Frag) (r : R2) (o : M → M → Option M) : Prop :=
  ∀ (v1 v2 : V) (m1 m2 m : M) (H G : Hp) (fx fy : List Addr) (Q : VK), Ext G H → RM K G H v1 m1 fx → RM K G H v2 m2 fy → o m1 m2 = some m →
    (∀ v H' G' fr, New H G H' G' fr → RM K G' H' v m fr → Q v H') → r v1 v2 H Q
def fin2 (o : M → M → Option M) (a b : Vl) (ρ : Rho) : Out Vl := match rdVl ρ a, rdVl ρ b with
  | some m1, some m2 => match o m1 m2 with
    | some m => .ok (.val m) ρ
    | none => .bad
  | _, _ => .bad
/-- two operands evaluated -/
def cTwo {β : Type} (b : Bool) (fa fb : Rho → Out Vl) (k : Vl → Vl → Rho → Out β) : Rho → Out β := fun ρ =>
  (fa ρ).bind fun x ρ1 => if b || x.root then (fb ρ1).bind fun y ρ2 => k x y ρ2 else .bad
def cOp2 (b : Bool) (o : M → M → Option M) (fa fb : Rho → Out Vl) : Rho → Out Vl := cTwo b fa fb (fin2 o)
theorem two {ba bb : Bool} {ta tb : TE} {fa fb : Rho → Out Vl} {k : Vl → Vl → Rho → Out Vl} {Q : VK} {R : V → V → Hp → Prop} (ha : EvE K W ba ta fa) (hb : EvE K W bb tb fb) (hl : τ.length = τm.length) (S : SA K (τ ++ σ) (τm ++ ρ) H G fp)
    (P : PostE K W b τ σ τm H G fp Q (cTwo bb fa fb k ρ)) (hba : b = true → ba = true ∧ bb = true)
    (hk : ∀ x y ρ2 v1 v2 H2 G2 fp2, PostE K W b τ σ τm H G fp Q (k x y ρ2) → Tr H G fp H2 G2 fp2 → (b = true → Ext H H2) → SA K (some v2 :: some v1 :: (τ ++ σ)) (y.pm :: x.pm :: (τm ++ ρ2)) H2 G2 fp2 → PF σ H2 v1 x → PF σ H2 v2 y → R v1 v2 H2) :
    ta σ H fun x H1 => tb σ H1 fun y H2 => R x y H2 := by
  refine ha τ σ τm ρ H G fp _ hl S ?_
  unfold cTwo at P
  cases hfa : fa ρ with
  | bad => rw [hfa] at P; exact P
  | exc x ρ1 =>
    rw [hfa] at P
    exact fun cls d H' G' fp' T' S' r => P cls d H' G' fp' T' S' r
  | ok x ρ1 =>
    rw [hfa] at P
    have P : PostE K W b τ σ τm H G fp Q (if bb || x.root then (fb ρ1).bind fun y ρ2 => k x y ρ2 else .bad) := P
    by_cases hr : (bb || x.root) = true
    · rw [if_pos hr] at P
      intro v1 H1 G1 fp1 T1 e1 S1 p1
      refine hb (some v1 :: τ) σ (x.pm :: τm) ρ1 H1 G1 fp1 _ (by simp [hl]) S1 ?_
      cases hfb : fb ρ1 with
      | bad => rw [hfb] at P; exact P
      | exc z ρ2 =>
        rw [hfb] at P
        intro cls d H' G' fp' T' S' r
        obtain ⟨fq, S'', h2⟩ := SA.drop (v := some v1) (m := x.pm) (σ := τ ++ σ) (ρ := τm ++ ρ2) S'
        exact P cls d H' G' fq ((T1.trans T').sub h2) S'' r
      | ok y ρ2 =>
        rw [hfb] at P
        intro v2 H2 G2 fp2 T2 e2 S2 p2
        exact hk x y ρ2 v1 v2 H2 G2 fp2 P (T1.trans T2) (fun z => (e1 (hba z).1).trans (e2 (hba z).2)) S2 (p1.keep e2 hr) p2
    · rw [if_neg hr] at P
      exact P.elim
theorem ev_op2 {ba bb : Bool} {ta tb : TE} {fa fb : Rho → Out Vl} {r : R2} {o : M → M → Option M} (ho : Op2 K r o) (ha : EvE K W ba ta fa) (hb : EvE K W bb tb fb) : EvE K W (ba && bb) (tOp r ta tb) (cOp2 bb o fa fb) := by
  intro τ σ τm ρ H G fp Q hl S P
  refine two (b := ba && bb) (R := fun x y H2 => r x y H2 Q) ha hb hl S P (fun z => by simpa using z) fun x y ρ2 v1 v2 H2 G2 fp2 P2 T2 e2 S2 p1 p2 => ?_
  unfold fin2 at P2
  cases h1 : rdVl ρ2 x with
  | none => rw [h1] at P2; exact P2.elim
  | some m1 =>
    cases h2 : rdVl ρ2 y with
    | none => rw [h1, h2] at P2; exact P2.elim
    | some m2 =>
      rw [h1, h2] at P2
      cases h3 : o m1 m2 with
      | none => simp only [h3] at P2; exact P2.elim
      | some m =>
        simp only [h3] at P2
        obtain ⟨fx, r1⟩ := S2.rd (s := [some v2, some v1]) (m := [y.pm, x.pm]) (j := 1) rfl hl rfl rfl p1 h1
        obtain ⟨fy, r2⟩ := S2.rd (s := [some v2, some v1]) (m := [y.pm, x.pm]) (j := 0) rfl hl rfl rfl p2 h2
        exact ho v1 v2 m1 m2 m H2 G2 fx fy Q S2.same r1 r2 h3 fun v H' G' fr N rr => fin_new (s := [some v2, some v1]) (m := [y.pm, x.pm]) P2 T2 e2 S2 rfl N rr

/-! ### one operand -/
def Op1 (K : PySem.W.Frag) (r : V → Hp → VK → Prop) (o : M → Option M) : Prop :=
  ∀ (v1 : V) (m1 m : M) (H G : Hp) (fx : List Addr) (Q : VK), Ext G H → RM K G H v1 m1 fx → o m1 = some m → (∀ v H' G' fr, New H G H' G' fr → RM K G' H' v m fr → Q v H') → r v1 H Q
def cOp1 (o : M → Option M) (fa : Rho → Out Vl) : Rho → Out Vl := fun ρ => (fa ρ).bind fun x ρ1 => match rdVl ρ1 x with
  | some m1 => match o m1 with
    | some m => .ok (.val m) ρ1
    | none => .bad
  | none => .bad
theorem ev_op1 {ba : Bool} {ta : TE} {fa : Rho → Out Vl} {r : V → Hp → VK → Prop} {o : M → Option M} (ho : Op1 K r o) (ha : EvE K W ba ta fa) : EvE K W ba (tUn r ta) (cOp1 o fa) := by
  intro τ σ τm ρ H G fp Q hl S P
  refine ha τ σ τm ρ H G fp _ hl S ?_
  unfold cOp1 at P
  cases hfa : fa ρ with
  | bad => rw [hfa] at P; exact P
  | exc x ρ1 => rw [hfa] at P; exact fun cls d H' G' fp' T' S' r => P cls d H' G' fp' T' S' r
  | ok x ρ1 =>
    rw [hfa] at P
    intro v1 H1 G1 fp1 T1 e1 S1 p1
    simp only [Out.bind] at P
    cases h1 : rdVl ρ1 x with
    | none => rw [h1] at P; exact P.elim
    | some m1 =>
      rw [h1] at P
      cases h3 : o m1 with
      | none => simp only [h3] at P; exact P.elim
      | some m =>
        simp only [h3] at P
        obtain ⟨fx, r1⟩ := S1.rd (s := [some v1]) (m := [x.pm]) (j := 0) rfl hl rfl rfl p1 h1
        exact ho v1 m1 m H1 G1 fx Q S1.same r1 h3 fun v H' G' fr N rr => fin_new (s := [some v1]) (m := [x.pm]) P T1 e1 S1 rfl N rr

/-! ### names, constants -/
def cVar (i : Nat) : Rho → Out Vl := fun ρ => match ρ[i]? with
  | some (some (.dat d)) => .ok (.val (.dat d)) ρ
  | some (some _) => .ok (.plc i []) ρ
  | _ => .bad
theorem SA.noneFront {v : V} (S : SA K σ ρ H G fp) : SA K (some v :: σ) (none :: ρ) H G fp := ⟨S.same, S.free, S.nd, let ⟨f0, h, p⟩ := S.sl; ⟨f0, .no h, p⟩⟩
theorem ev_var {i : Nat} : EvE K W true (tVar i) (cVar i) := by
  intro τ σ τm ρ H G fp Q hl S P
  unfold cVar at P
  cases hm : ρ[i]? with
  | none => rw [hm] at P; exact P.elim
  | some om =>
    cases om with
    | none => rw [hm] at P; exact P.elim
    | some m =>
      have hi : (τm ++ ρ)[τm.length + i]? = some (some m) := by rw [List.getElem?_append_right (Nat.le_add_right _ _), Nat.add_sub_cancel_left]; exact hm
      obtain ⟨v, fp1, fq, h1, h2, _, _⟩ := S.out hi
      rw [← hl, List.getElem?_append_right (Nat.le_add_right _ _), Nat.add_sub_cancel_left] at h1
      rw [hm] at P
      refine ⟨v, h1, ?_⟩
      have pl : PostE K W true τ σ τm H G fp Q (.ok (.plc i []) ρ) → Q v H := fun P => P v H G fp (Tr.refl H G fp) (fun _ => Ext.refl H) S.noneFront ⟨v, h1, rfl⟩
      cases m with
      | dat d =>
        cases h2 with
        | dat h2 => exact P v H G fp (Tr.refl H G fp) (fun _ => Ext.refl H) (S.pushD h2) trivial
      | scr ns => exact pl P
      | lst xs => exact pl P
      | dk ks xs => exact pl P
      | dt ks xs => exact pl P
      | ins C ns xs => exact pl P
def cD (d : PyData) : Rho → Out Vl := fun ρ => .ok (.val (.dat d)) ρ
theorem ev_c {v : V} {d : PyData} (h : ∀ G, Da K G v d) : EvE K W true (tC v) (cD d) := by
  intro τ σ τm ρ H G fp Q hl S P
  exact P v H G fp (Tr.refl H G fp) (fun _ => Ext.refl H) (S.pushD (h G)) trivial
theorem ev_int {i : Int} : EvE K W true (tC (.int i)) (cD (.int i)) := ev_c fun _ => .int i
theorem ev_str {x : Str} : EvE K W true (tC (.str x)) (cD (.str x)) := ev_c fun _ => .str x
theorem ev_bl {x : Bool} : EvE K W true (tC (.bl x)) (cD (.bool x)) := ev_c fun _ => .bl x
theorem ev_non : EvE K W true (tC .non) (cD .none) := ev_c fun _ => .non
theorem EvE.weak {ba : Bool} {te : TE} {f : Rho → Out Vl} (h : EvE K W ba te f) : EvE K W false te f := fun τ σ τm ρ H G fp Q hl S P =>
  h τ σ τm ρ H G fp Q hl S (P.tr (b := false) (b' := ba) (Tr.refl H G fp) (fun z => nomatch z) (fun z => nomatch z))

/-! ### tests -/
def cB (f : Rho → Out Vl) : Rho → Out Bool := fun ρ => (f ρ).bind fun x ρ1 => match x with
  | .val (.dat (.bool b)) => .ok b ρ1
  | _ => .bad
theorem et_B {te : TE} {f : Rho → Out Vl} (h : EvE K W b te f) {tt : TT} (ht : ∀ σ H Q, te σ H (fun x H1 => ∃ c, x = .bl c ∧ Q c H1) → tt σ H Q) : EvT K W b tt (cB f) := by
  intro τ σ τm ρ H G fp Q hl S P
  refine ht σ H Q (h τ σ τm ρ H G fp _ hl S ?_)
  unfold cB at P
  cases hf : f ρ with
  | bad => rw [hf] at P; exact P
  | exc x ρ1 => rw [hf] at P; exact fun cls d H' G' fp' T' S' r => P cls d H' G' fp' T' S' r
  | ok x ρ1 =>
    rw [hf] at P
    intro v H1 G1 fp1 T1 e1 S1 p1
    simp only [Out.bind] at P
    cases x with
    | plc i π => exact P.elim
    | val m =>
      cases m with
      | dat d =>
        cases d with
        | bool c =>
          obtain ⟨r, S2⟩ := SA.popD (v := v) (d := .bool c) (σ := τ ++ σ) (ρ := τm ++ ρ1) S1
          cases r
          exact ⟨c, rfl, P H1 G1 fp1 T1 e1 S2⟩
        | _ => exact P.elim
      | _ => exact P.elim
def cAnd (f g : Rho → Out Bool) : Rho → Out Bool := fun ρ => (f ρ).bind fun x ρ1 => if x = true then g ρ1 else .ok false ρ1
def cOr (f g : Rho → Out Bool) : Rho → Out Bool := fun ρ => (f ρ).bind fun x ρ1 => if x = true then .ok true ρ1 else g ρ1
def cNot (f : Rho → Out Bool) : Rho → Out Bool := fun ρ => (f ρ).bind fun x ρ1 => .ok (!x) ρ1
theorem et_and {bf bg : Bool} {t u : TT} {f g : Rho → Out Bool} (h : EvT K W bf t f) (h' : EvT K W bg u g) : EvT K W (bf && bg) (tAnd t u) (cAnd f g) := by
  intro τ σ τm ρ H G fp Q hl S P
  refine h τ σ τm ρ H G fp _ hl S ?_
  unfold cAnd at P
  cases hf : f ρ with
  | bad => rw [hf] at P; exact P
  | exc x ρ1 => rw [hf] at P; exact fun cls d H' G' fp' T' S' r => P cls d H' G' fp' T' S' r
  | ok x ρ1 =>
    rw [hf] at P
    intro H1 G1 fp1 T1 e1 S1
    simp only [Out.bind] at P
    cases x with
    | true =>
      show u σ H1 Q
      exact h' τ σ τm ρ1 H1 G1 fp1 Q hl S1 (PostT.tr T1 (fun z => e1 (by revert z; cases bf <;> simp)) (fun z => by revert z; cases bf <;> cases bg <;> simp) P)
    | false =>
      show Q false H1
      exact P H1 G1 fp1 T1 (fun z => e1 (by revert z; cases bf <;> simp)) S1
theorem et_or {bf bg : Bool} {t u : TT} {f g : Rho → Out Bool} (h : EvT K W bf t f) (h' : EvT K W bg u g) : EvT K W (bf && bg) (tOr t u) (cOr f g) := by
  intro τ σ τm ρ H G fp Q hl S P
  refine h τ σ τm ρ H G fp _ hl S ?_
  unfold cOr at P
  cases hf : f ρ with
  | bad => rw [hf] at P; exact P
  | exc x ρ1 => rw [hf] at P; exact fun cls d H' G' fp' T' S' r => P cls d H' G' fp' T' S' r
  | ok x ρ1 =>
    rw [hf] at P
    intro H1 G1 fp1 T1 e1 S1
    simp only [Out.bind] at P
    cases x with
    | false =>
      show u σ H1 Q
      exact h' τ σ τm ρ1 H1 G1 fp1 Q hl S1 (PostT.tr T1 (fun z => e1 (by revert z; cases bf <;> simp)) (fun z => by revert z; cases bf <;> cases bg <;> simp) P)
    | true =>
      show Q true H1
      exact P H1 G1 fp1 T1 (fun z => e1 (by revert z; cases bf <;> simp)) S1
theorem et_not {t : TT} {f : Rho → Out Bool} (h : EvT K W b t f) : EvT K W b (tNot t) (cNot f) := by
  intro τ σ τm ρ H G fp Q hl S P
  refine h τ σ τm ρ H G fp _ hl S ?_
  unfold cNot at P
  cases hf : f ρ with
  | bad => rw [hf] at P; exact P
  | exc x ρ1 => rw [hf] at P; exact fun cls d H' G' fp' T' S' r => P cls d H' G' fp' T' S' r
  | ok x ρ1 =>
    rw [hf] at P
    exact fun H1 G1 fp1 T1 e1 S1 => P H1 G1 fp1 T1 e1 S1
/-- truths as values -/
def cV (f : Rho → Out Bool) : Rho → Out Vl := fun ρ => (f ρ).bind fun x ρ1 => .ok (.val (.dat (.bool x))) ρ1
theorem ev_V {te : TE} {tt : TT} {f : Rho → Out Bool} (h : EvT K W b tt f) (ht : ∀ σ H Q, tt σ H (fun x H1 => Q (.bl x) H1) → te σ H Q) : EvE K W b te (cV f) := by
  intro τ σ τm ρ H G fp Q hl S P
  refine ht σ H Q (h τ σ τm ρ H G fp _ hl S ?_)
  unfold cV at P
  cases hf : f ρ with
  | bad => rw [hf] at P; exact P
  | exc x ρ1 => rw [hf] at P; exact fun cls d H' G' fp' T' S' r => P cls d H' G' fp' T' S' r
  | ok x ρ1 =>
    rw [hf] at P
    exact fun H1 G1 fp1 T1 e1 S1 => P (.bl x) H1 G1 fp1 T1 e1 (S1.pushD (.bl x)) trivial
/-- a if t else b -/
def cIte (ft : Rho → Out Bool) (fa fb : Rho → Out Vl) : Rho → Out Vl := fun ρ => (ft ρ).bind fun x ρ1 => if x = true then fa ρ1 else fb ρ1
theorem ev_ite {bt ba bb : Bool} {t : TT} {ta tb : TE} {ft : Rho → Out Bool} {fa fb : Rho → Out Vl} (h : EvT K W bt t ft) (ha : EvE K W ba ta fa) (hb : EvE K W bb tb fb) : EvE K W (bt && (ba && bb)) (tIf t ta tb) (cIte ft fa fb) := by
  intro τ σ τm ρ H G fp Q hl S P
  refine h τ σ τm ρ H G fp _ hl S ?_
  unfold cIte at P
  cases hf : ft ρ with
  | bad => rw [hf] at P; exact P
  | exc x ρ1 => rw [hf] at P; exact fun cls d H' G' fp' T' S' r => P cls d H' G' fp' T' S' r
  | ok x ρ1 =>
    rw [hf] at P
    intro H1 G1 fp1 T1 e1 S1
    simp only [Out.bind] at P
    cases x with
    | true =>
      show ta σ H1 Q
      exact ha τ σ τm ρ1 H1 G1 fp1 Q hl S1 (PostE.tr T1 (fun z => e1 (by revert z; cases bt <;> simp)) (fun z => by revert z; cases bt <;> cases ba <;> simp) P)
    | false =>
      show tb σ H1 Q
      exact hb τ σ τm ρ1 H1 G1 fp1 Q hl S1 (PostE.tr T1 (fun z => e1 (by revert z; cases bt <;> simp)) (fun z => by revert z; cases bt <;> cases ba <;> cases bb <;> simp) P)

/-! ### argument lists -/
def aNil : Rho → Out (List Vl) := fun ρ => .ok [] ρ
def aCons (g : Bool) (fa : Rho → Out Vl) (fr : Rho → Out (List Vl)) : Rho → Out (List Vl) := fun ρ =>
  (fa ρ).bind fun x ρ1 => if g || x.root then (fr ρ1).bind fun xs ρ2 => .ok (x :: xs) ρ2 else .bad
theorem ea_nil : EvA K W true tNil aNil := fun τ σ τm ρ H G fp Q hl S P => P [] H G fp (Tr.refl H G fp) (fun _ => Ext.refl H) S .nil
theorem ea_cons {ba br : Bool} {ta : TE} {tr : TA} {fa : Rho → Out Vl} {fr : Rho → Out (List Vl)} (ha : EvE K W ba ta fa) (hr : EvA K W br tr fr) : EvA K W (ba && br) (tCons ta tr) (aCons br fa fr) := by
  intro τ σ τm ρ H G fp Q hl S P
  refine ha τ σ τm ρ H G fp _ hl S ?_
  unfold aCons at P
  cases hfa : fa ρ with
  | bad => rw [hfa] at P; exact P
  | exc x ρ1 => rw [hfa] at P; exact fun cls d H' G' fp' T' S' r => P cls d H' G' fp' T' S' r
  | ok x ρ1 =>
    rw [hfa] at P
    have P : PostA K W (ba && br) τ σ τm H G fp Q (if br || x.root then (fr ρ1).bind fun xs ρ2 => .ok (x :: xs) ρ2 else .bad) := P
    by_cases hg : (br || x.root) = true
    · rw [if_pos hg] at P
      intro v1 H1 G1 fp1 T1 e1 S1 p1
      refine hr (some v1 :: τ) σ (x.pm :: τm) ρ1 H1 G1 fp1 _ (by simp [hl]) S1 ?_
      cases hfr : fr ρ1 with
      | bad => rw [hfr] at P; exact P
      | exc z ρ2 =>
        rw [hfr] at P
        intro cls d H' G' fp' T' S' r
        obtain ⟨fq, S'', h2⟩ := SA.drop (v := some v1) (m := x.pm) (σ := τ ++ σ) (ρ := τm ++ ρ2) S'
        exact P cls d H' G' fq ((T1.trans T').sub h2) S'' r
      | ok xs ρ2 =>
        rw [hfr] at P
        intro vs H2 G2 fp2 T2 e2 S2 p2
        have P : PostA K W (ba && br) τ σ τm H G fp Q (.ok (x :: xs) ρ2) := P
        refine P (v1 :: vs) H2 G2 fp2 (T1.trans T2) (fun z => (e1 (by revert z; cases ba <;> simp)).trans (e2 (by revert z; cases ba <;> cases br <;> simp))) ?_ (.cons (p1.keep e2 hg) p2)
        simp only [List.reverse_cons, List.map_append, List.map_cons, List.map_nil, List.append_assoc, List.cons_append, List.nil_append]
        simpa only [List.cons_append] using S2
    · rw [if_neg hg] at P
      exact P.elim
/-- all operands read -/
def rdVls (ρ : Rho) : List Vl → Option (List M)
  | [] => some []
  | a :: as => match rdVl ρ a, rdVls ρ as with
    | some m, some ms => some (m :: ms)
    | _, _ => none
inductive RBs (K : PySem.W.Frag) (G H : Hp) : List V → List M → Prop
  | nil : RBs K G H [] []
  | cons {v : V} {m : M} {vs : List V} {ms : List M} {fx : List Addr} : RM K G H v m fx → RBs K G H vs ms → RBs K G H (v :: vs) (m :: ms)
theorem SA.rds {s : St} {m : Rho} (hl : τ.length = τm.length) : ∀ {vs : List V} {as : List Vl} {ms : List M} {s : St} {m : Rho}, s.length = m.length → SA K (vs.reverse.map some ++ s ++ (τ ++ σ)) (as.reverse.map Vl.pm ++ m ++ (τm ++ ρ)) H G fp → PFs σ H vs as → rdVls ρ as = some ms → RBs K G H vs ms
  | _, _, _, _, _, _, _, .nil, h => by cases h; exact .nil
  | v :: vs, a :: as, ms, s, m, e, S, .cons p ps, h => by
    unfold rdVls at h
    cases h1 : rdVl ρ a with
    | none => rw [h1] at h; cases h
    | some m1 =>
      cases h2 : rdVls ρ as with
      | none => rw [h1, h2] at h; cases h
      | some ms' =>
        rw [h1, h2] at h
        cases h
        have hv : vs.length = as.length := ps.length
        have S' : SA K (vs.reverse.map some ++ (some v :: s) ++ (τ ++ σ)) (as.reverse.map Vl.pm ++ (a.pm :: m) ++ (τm ++ ρ)) H G fp := by
          simpa only [List.reverse_cons, List.map_append, List.map_cons, List.map_nil, List.append_assoc, List.cons_append, List.nil_append] using S
        obtain ⟨fx, r⟩ := S'.rd (j := vs.length) (v := v) (a := a) (by simp [e, hv]) hl (by
            rw [List.getElem?_append_right (by simp)]; simp) (by
            rw [List.getElem?_append_right (by simp [hv])]; simp [hv]) p h1
        exact .cons r (SA.rds (s := s) (m := m) hl (by simp [e]) S' ps h2)
def OpN (K : PySem.W.Frag) (r : List V → Hp → VK → Prop) (o : List M → Option M) : Prop :=
  ∀ (vs : List V) (ms : List M) (m : M) (H G : Hp) (Q : VK), Ext G H → RBs K G H vs ms → o ms = some m → (∀ v H' G' fr, New H G H' G' fr → RM K G' H' v m fr → Q v H') → r vs H Q
def finN (o : List M → Option M) (as : List Vl) (ρ : Rho) : Out Vl := match rdVls ρ as with
  | some ms => match o ms with
    | some m => .ok (.val m) ρ
    | none => .bad
  | none => .bad
def cOpN (o : List M → Option M) (fr : Rho → Out (List Vl)) : Rho → Out Vl := fun ρ => (fr ρ).bind fun as ρ1 => finN o as ρ1
theorem ev_opN {ta : TA} {fr : Rho → Out (List Vl)} {r : List V → Hp → VK → Prop} {o : List M → Option M} {te : TE} (ho : OpN K r o) (ha : EvA K W b ta fr) (ht : ∀ σ H Q, ta σ H (fun vs H1 => r vs H1 Q) → te σ H Q) : EvE K W b te (cOpN o fr) := by
  intro τ σ τm ρ H G fp Q hl S P
  refine ht σ H Q (ha τ σ τm ρ H G fp _ hl S ?_)
  unfold cOpN at P
  cases hf : fr ρ with
  | bad => rw [hf] at P; exact P
  | exc x ρ1 => rw [hf] at P; exact fun cls d H' G' fp' T' S' r => P cls d H' G' fp' T' S' r
  | ok as ρ1 =>
    rw [hf] at P
    intro vs H1 G1 fp1 T1 e1 S1 p1
    have P : PostE K W b τ σ τm H G fp Q (finN o as ρ1) := P
    unfold finN at P
    cases h1 : rdVls ρ1 as with
    | none => rw [h1] at P; exact P.elim
    | some ms =>
      rw [h1] at P
      cases h3 : o ms with
      | none => simp only [h3] at P; exact P.elim
      | some m =>
        simp only [h3] at P
        have rs : RBs K G1 H1 vs ms := SA.rds (s := []) (m := []) hl rfl (by rw [List.append_nil, List.append_nil]; exact S1) p1 h1
        exact ho vs ms m H1 G1 Q S1.same rs h3 fun v H' G' fr N rr => fin_new (s := vs.reverse.map some) (m := as.reverse.map Vl.pm) P T1 e1 S1 (by simp [p1.length]) N rr
end
end DL

set_option Elab.async false
set_option linter.all false
set_option maxRecDepth 100000
/-! DLc: values made of results, statements, targets, loops, comprehensions. -/
namespace DL
open PySem PySem.Spec PyProof.Rows L2

section
variable {K : PySem.W.Frag} {W : WX} {b : Bool} {τ σ : St} {τm ρ : Rho} {H G H1 G1 : Hp} {fp fp1 : List Addr}

/-! ### a result as a value of its own -/
/-- knowledge grows by cells that are one's own -/
theorem SA.freeze {i : Nat} {π : List Stp} {c : M} {d : PyData} (S : SA K σ ρ H G fp) (e : rdP ρ i π = some c) (z : c.frz = some d) :
    ∃ v0 vc G' fp', σ[i]? = some (some v0) ∧ atP H v0 π = some vc ∧ Da K G' vc d ∧ SA K σ (wrP ρ i π (.dat d)) H G' fp' ∧ Tr H G fp H G' fp' := by
  obtain ⟨v0, vc, fp1, fq, h1, h2, h3, h4, h5⟩ := S.focus e
  have nd := h4.nodup_iff.mpr S.nd
  rw [List.nodup_append] at nd
  have eg : Ext G (gl G H fp1) := fun a o q => by
    by_cases ha : a ∈ fp1
    · rw [S.free a (h4.mem_iff.mp (List.mem_append_left _ ha))] at q; cases q
    · rw [gl_out ha]; exact q
  have es : Ext (gl G H fp1) H := fun a o q => by
    by_cases ha : a ∈ fp1
    · rw [gl_in ha] at q; exact q
    · rw [gl_out ha] at q; exact S.same a o q
  have dd : Da K (gl G H fp1) vc d := h3.freeze eg (fun a ha => gl_in ha) z
  have fr : ∀ a ∈ fq, gl G H fp1 a = none := fun a ha => by
    rw [gl_out fun q => nd.2.2 a q a ha rfl]
    exact S.free a (h4.mem_iff.mp (List.mem_append_right _ ha))
  refine ⟨v0, vc, gl G H fp1, _, h1, h2, dd, h5 (gl G H fp1) H (.dat d) [] eg es (fun a _ => rfl) fr (.dat dd) (fun _ q => nomatch q) List.nodup_nil (fun _ q => nomatch q), eg, fun a o q _ => q, fun a ha => ?_, fun a o q => ?_⟩
  · exact .inl (h4.mem_iff.mp (List.mem_append_right _ (by simpa using ha)))
  · by_cases ha : a ∈ fp1
    · exact .inr (.inl (h4.mem_iff.mp (List.mem_append_left _ ha)))
    · rw [gl_out ha] at q; exact .inl q
/-- the front entry looked at as data -/
theorem SA.freezeTop {v : V} {c : M} {d : PyData} (S : SA K (some v :: σ) (some c :: ρ) H G fp) (z : c.frz = some d) :
    ∃ G' fp', SA K (some v :: σ) (some (.dat d) :: ρ) H G' fp' ∧ Tr H G fp H G' fp' := by
  obtain ⟨v0, vc, G', fp', h1, h2, h3, h4, h5⟩ := S.freeze (i := 0) (π := []) (c := c) (d := d) rfl z
  exact ⟨G', fp', h4, h5⟩
/-- a result as a tree of its own: a fresh one, or what stands at a place looked at as data -/
def toVal (a : Vl) (ρ : Rho) : Option (M × Rho) := match a with
  | .val m => some (m, ρ)
  | .plc i π => match rdP ρ i π with
    | none => none
    | some c => match c.frz with
      | none => none
      | some d => some (.dat d, wrP ρ i π (.dat d))
/-- a result as data -/
def toDat (a : Vl) (ρ : Rho) : Option (PyData × Rho) := match a with
  | .val m => match m.frz with
    | none => none
    | some d => some (d, ρ)
  | .plc i π => match rdP ρ i π with
    | none => none
    | some c => match c.frz with
      | none => none
      | some d => some (d, wrP ρ i π (.dat d))
theorem SA.plcDat {s : St} {m : Rho} {v : V} {i : Nat} {π : List Stp} {c : M} {d : PyData} (S : SA K (s ++ (τ ++ σ)) (m ++ (τm ++ ρ)) H G fp) (e1 : s.length = m.length) (e2 : τ.length = τm.length) (p : PF σ H v (.plc i π))
    (h : rdP ρ i π = some c) (z : c.frz = some d) : ∃ G' fp', Da K G' v d ∧ SA K (s ++ (τ ++ σ)) (m ++ (τm ++ wrP ρ i π (.dat d))) H G' fp' ∧ Tr H G fp H G' fp' := by
  obtain ⟨v0, p1, p2⟩ := p
  have q : rdP (m ++ (τm ++ ρ)) (m.length + (τm.length + i)) π = some c := by rw [rdP_pre, rdP_pre]; exact h
  obtain ⟨v0', vc, G', fp', z1, z2, z3, z4, z5⟩ := S.freeze q z
  rw [← e1, ← e2, List.getElem?_append_right (Nat.le_add_right _ _), Nat.add_sub_cancel_left, List.getElem?_append_right (Nat.le_add_right _ _), Nat.add_sub_cancel_left, p1] at z1
  cases z1
  rw [p2] at z2
  cases z2
  rw [wrP_pre, wrP_pre] at z4
  exact ⟨G', fp', z3, z4, z5⟩
theorem SA.toVal {v : V} {a : Vl} {m : M} {ρ1 : Rho} (S : SA K (some v :: (τ ++ σ)) (a.pm :: (τm ++ ρ)) H G fp) (hl : τ.length = τm.length) (p : PF σ H v a) (h : DL.toVal a ρ = some (m, ρ1)) :
    ∃ G' fp', SA K (some v :: (τ ++ σ)) (some m :: (τm ++ ρ1)) H G' fp' ∧ Tr H G fp H G' fp' := by
  cases a with
  | val c => cases h; exact ⟨G, fp, S, Tr.refl H G fp⟩
  | plc i π =>
    unfold DL.toVal at h
    cases h1 : rdP ρ i π with
    | none => simp only [h1] at h; cases h
    | some c =>
      cases h2 : c.frz with
      | none => simp only [h1, h2] at h; cases h
      | some d =>
        simp only [h1, h2] at h
        cases h
        obtain ⟨G', fp', z1, z2, z3⟩ := SA.plcDat (s := [some v]) (m := [none]) S rfl hl p h1 h2
        obtain ⟨fq, S2, h3⟩ := SA.drop (v := some v) (m := none) z2
        refine ⟨G', fq, S2.pushD z1, z3.sub h3⟩
theorem SA.toDat {v : V} {a : Vl} {d : PyData} {ρ1 : Rho} (S : SA K (some v :: (τ ++ σ)) (a.pm :: (τm ++ ρ)) H G fp) (hl : τ.length = τm.length) (p : PF σ H v a) (h : DL.toDat a ρ = some (d, ρ1)) :
    ∃ G' fp', SA K (some v :: (τ ++ σ)) (some (.dat d) :: (τm ++ ρ1)) H G' fp' ∧ Tr H G fp H G' fp' := by
  cases a with
  | val c =>
    unfold DL.toDat at h
    cases h2 : c.frz with
    | none => simp only [h2] at h; cases h
    | some d' =>
      simp only [h2] at h
      cases h
      exact SA.freezeTop S h2
  | plc i π =>
    unfold DL.toDat at h
    cases h1 : rdP ρ i π with
    | none => simp only [h1] at h; cases h
    | some c =>
      cases h2 : c.frz with
      | none => simp only [h1, h2] at h; cases h
      | some d =>
        simp only [h1, h2] at h
        cases h
        obtain ⟨G', fp', z1, z2, z3⟩ := SA.plcDat (s := [some v]) (m := [none]) S rfl hl p h1 h2
        obtain ⟨fq, S2, h3⟩ := SA.drop (v := some v) (m := none) z2
        refine ⟨G', fq, S2.pushD z1, z3.sub h3⟩

/-! ### statements -/
inductive Fl where
  | nx (ρ : Rho) | rt (m : M) (ρ : Rho) | bk (ρ : Rho) | ct (ρ : Rho) | exc (x : Xv) (ρ : Rho) | bad
/-- the slots at rf are as they were -/
def Kp (rf : List Nat) (σ σ' : St) : Prop := ∀ i ∈ rf, σ'[i]? = σ[i]?
theorem Kp.refl {rf : List Nat} (σ : St) : Kp rf σ σ := fun _ _ => rfl
theorem Kp.trans {rf : List Nat} {σ σ1 σ2 : St} (a : Kp rf σ σ1) (b : Kp rf σ1 σ2) : Kp rf σ σ2 := fun i h => (b i h).trans (a i h)
def PostS (K : PySem.W.Frag) (W : WX) (rf : List Nat) (σ : St) (H G : Hp) (fp : List Addr) (D : Ends) : Fl → Prop
  | .nx ρ' => ∀ σ' H' G' fp', Tr H G fp H' G' fp' → SA K σ' ρ' H' G' fp' → Kp rf σ σ' → D.nx σ' H'
  | .rt m ρ' => ∀ v σ' H' G' fp', Tr H G fp H' G' fp' → SA K (some v :: σ') (some m :: ρ') H' G' fp' → Kp rf σ σ' → D.rt v H'
  | .bk ρ' => ∀ σ' H' G' fp', Tr H G fp H' G' fp' → SA K σ' ρ' H' G' fp' → Kp rf σ σ' → D.bk σ' H'
  | .ct ρ' => ∀ σ' H' G' fp', Tr H G fp H' G' fp' → SA K σ' ρ' H' G' fp' → Kp rf σ σ' → D.ct σ' H'
  | .exc x ρ' => ∀ cls d σ' H' G' fp', Tr H G fp H' G' fp' → SA K σ' ρ' H' G' fp' → Kp rf σ σ' → RX K G' x cls d → W cls d σ' H'
  | .bad => False
def EvS (K : PySem.W.Frag) (W : WX) (rf : List Nat) (t : TS) (g : Rho → Fl) : Prop :=
  ∀ (σ : St) (ρ : Rho) (H G : Hp) (fp : List Addr) (D : Ends), SA K σ ρ H G fp → PostS K W rf σ H G fp D (g ρ) → t D σ H
variable {rf : List Nat}
theorem PostS.tr {σ1 : St} {D : Ends} (T : Tr H G fp H1 G1 fp1) (k : Kp rf σ σ1) : ∀ {o : Fl}, PostS K W rf σ H G fp D o → PostS K W rf σ1 H1 G1 fp1 D o
  | .nx ρ', h => fun σ' H' G' fp' T' S k' => h σ' H' G' fp' (T.trans T') S (k.trans k')
  | .rt m ρ', h => fun v σ' H' G' fp' T' S k' => h v σ' H' G' fp' (T.trans T') S (k.trans k')
  | .bk ρ', h => fun σ' H' G' fp' T' S k' => h σ' H' G' fp' (T.trans T') S (k.trans k')
  | .ct ρ', h => fun σ' H' G' fp' T' S k' => h σ' H' G' fp' (T.trans T') S (k.trans k')
  | .exc x ρ', h => fun cls d σ' H' G' fp' T' S k' r => h cls d σ' H' G' fp' (T.trans T') S (k.trans k') r
  | .bad, h => h
def sNx : Rho → Fl := fun ρ => .nx ρ
theorem es_next : EvS K W rf tNext sNx := fun σ ρ H G fp D S P => P σ H G fp (Tr.refl H G fp) S (Kp.refl σ)
def sSeq (f g : Rho → Fl) : Rho → Fl := fun ρ => match f ρ with
  | .nx ρ1 => g ρ1
  | .rt m ρ1 => .rt m ρ1
  | .bk ρ1 => .bk ρ1
  | .ct ρ1 => .ct ρ1
  | .exc x ρ1 => .exc x ρ1
  | .bad => .bad
theorem es_seq {t u : TS} {f g : Rho → Fl} (h : EvS K W rf t f) (h' : EvS K W rf u g) : EvS K W rf (tSeq t u) (sSeq f g) := by
  intro σ ρ H G fp D S P
  refine h σ ρ H G fp { D with nx := u D } S ?_
  unfold sSeq at P
  cases hf : f ρ with
  | nx ρ1 =>
    rw [hf] at P
    intro σ1 H1 G1 fp1 T1 S1 k1
    exact h' σ1 ρ1 H1 G1 fp1 D S1 (PostS.tr T1 k1 P)
  | rt m ρ1 => rw [hf] at P; exact P
  | bk ρ1 => rw [hf] at P; exact P
  | ct ρ1 => rw [hf] at P; exact P
  | exc x ρ1 => rw [hf] at P; exact P
  | bad => rw [hf] at P; exact P
def sBrk : Rho → Fl := fun ρ => .bk ρ
def sCnt : Rho → Fl := fun ρ => .ct ρ
theorem es_break : EvS K W rf tBreak sBrk := fun σ ρ H G fp D S P => P σ H G fp (Tr.refl H G fp) S (Kp.refl σ)
theorem es_cont : EvS K W rf tCont sCnt := fun σ ρ H G fp D S P => P σ H G fp (Tr.refl H G fp) S (Kp.refl σ)
def sNever : Rho → Fl := fun _ => .bad
theorem es_never : EvS K W rf tNever sNever := fun σ ρ H G fp D S P => P
def sIf (ft : Rho → Out Bool) (f g : Rho → Fl) : Rho → Fl := fun ρ => match ft ρ with
  | .ok c ρ1 => if c = true then f ρ1 else g ρ1
  | .exc x ρ1 => .exc x ρ1
  | .bad => .bad
theorem es_if {tc : TT} {t u : TS} {ft : Rho → Out Bool} {f g : Rho → Fl} (hc : EvT K W b tc ft) (h : EvS K W rf t f) (h' : EvS K W rf u g) : EvS K W rf (tIfS tc t u) (sIf ft f g) := by
  intro σ ρ H G fp D S P
  refine hc [] σ [] ρ H G fp _ rfl S ?_
  unfold sIf at P
  cases hf : ft ρ with
  | bad => rw [hf] at P; exact P
  | exc x ρ1 => rw [hf] at P; exact fun cls d H' G' fp' T' S' r => P cls d σ H' G' fp' T' S' (Kp.refl σ) r
  | ok c ρ1 =>
    rw [hf] at P
    intro H1 G1 fp1 T1 e1 S1
    cases c with
    | true =>
      show t D σ H1
      exact h σ ρ1 H1 G1 fp1 D S1 (PostS.tr T1 (Kp.refl σ) P)
    | false =>
      show u D σ H1
      exact h' σ ρ1 H1 G1 fp1 D S1 (PostS.tr T1 (Kp.refl σ) P)
/-- an expression alone -/
def sDrop (fe : Rho → Out Vl) : Rho → Fl := fun ρ => match fe ρ with
  | .ok _ ρ1 => .nx ρ1
  | .exc x ρ1 => .exc x ρ1
  | .bad => .bad
theorem es_drop {te : TE} {fe : Rho → Out Vl} (h : EvE K W b te fe) : EvS K W rf (tDrop te) (sDrop fe) := by
  intro σ ρ H G fp D S P
  refine h [] σ [] ρ H G fp _ rfl S ?_
  unfold sDrop at P
  cases hf : fe ρ with
  | bad => rw [hf] at P; exact P
  | exc x ρ1 => rw [hf] at P; exact fun cls d H' G' fp' T' S' r => P cls d σ H' G' fp' T' S' (Kp.refl σ) r
  | ok a ρ1 =>
    rw [hf] at P
    intro v H1 G1 fp1 T1 e1 S1 p1
    obtain ⟨fq, S2, h2⟩ := SA.drop (v := some v) (m := a.pm) (σ := σ) (ρ := ρ1) S1
    exact P σ H1 G1 fq (T1.sub h2) S2 (Kp.refl σ)
/-- the front entry put into a slot -/
theorem SA.store {v : V} {m : M} {i : Nat} (S : SA K (some v :: σ) (some m :: ρ) H G fp) (h : i < ρ.length) : ∃ fq, SA K (σ.set i (some v)) (ρ.set i (some m)) H G fq ∧ ∀ a ∈ fq, a ∈ fp := by
  obtain ⟨fr, fq, r, p, S1⟩ := S.pop
  obtain ⟨fs, S2, h2⟩ := S1.forget i
  have nd := p.nodup_iff.mpr S.nd
  rw [List.nodup_append] at nd
  refine ⟨_, S2.into h r (fun a ha => S.free a (p.mem_iff.mp (List.mem_append_left _ ha))) nd.1 (fun a ha hb => nd.2.2 a ha a (h2 a hb) rfl), fun a ha => ?_⟩
  rcases List.mem_append.mp ha with z | z
  · exact p.mem_iff.mp (List.mem_append_left _ z)
  · exact p.mem_iff.mp (List.mem_append_right _ (h2 a z))
theorem Kp.set {i : Nat} {v : Option V} (h : i ∉ rf) (σ : St) : Kp rf σ (σ.set i v) := fun j hj => by
  have : i ≠ j := fun e => h (e ▸ hj)
  rw [List.getElem?_set_ne this]
def sSet (i : Nat) (fe : Rho → Out Vl) : Rho → Fl := fun ρ => match fe ρ with
  | .ok a ρ1 => match toVal a ρ1 with
    | some (m, ρ2) => if i < ρ2.length then .nx (ρ2.set i (some m)) else .bad
    | none => .bad
  | .exc x ρ1 => .exc x ρ1
  | .bad => .bad
theorem es_set {i : Nat} {te : TE} {fe : Rho → Out Vl} (h : EvE K W b te fe) (hi : i ∉ rf) : EvS K W rf (tAsg te (gName i)) (sSet i fe) := by
  intro σ ρ H G fp D S P
  refine h [] σ [] ρ H G fp _ rfl S ?_
  unfold sSet at P
  cases hf : fe ρ with
  | bad => rw [hf] at P; exact P
  | exc x ρ1 => rw [hf] at P; exact fun cls d H' G' fp' T' S' r => P cls d σ H' G' fp' T' S' (Kp.refl σ) r
  | ok a ρ1 =>
    rw [hf] at P
    intro v H1 G1 fp1 T1 e1 S1 p1
    simp only at P
    cases hv : toVal a ρ1 with
    | none => rw [hv] at P; exact P.elim
    | some q =>
      obtain ⟨m, ρ2⟩ := q
      rw [hv] at P
      simp only at P
      by_cases hl : i < ρ2.length
      · rw [if_pos hl] at P
        obtain ⟨G2, fp2, S2, T2⟩ := SA.toVal (τ := []) (τm := []) S1 rfl p1 hv
        obtain ⟨fq, S3, h3⟩ := SA.store (σ := σ) (ρ := ρ2) S2 hl
        exact P _ H1 G2 fq ((T1.trans T2).sub h3) S3 (Kp.set hi σ)
      · rw [if_neg hl] at P; exact P.elim
/-- return: a local tree is handed out -/
def retV (rf : List Nat) (a : Vl) (ρ : Rho) : Option (M × Rho) := match a with
  | .plc i [] => if i ∈ rf then toVal a ρ else match ρ[i]? with
    | some (some c) => some (c, ρ.set i none)
    | _ => none
  | a => toVal a ρ
theorem SA.retV {v : V} {a : Vl} {m : M} {ρ1 : Rho} (S : SA K (some v :: σ) (a.pm :: ρ) H G fp) (p : PF σ H v a) (h : DL.retV rf a ρ = some (m, ρ1)) :
    ∃ G' fp', SA K (some v :: σ) (some m :: ρ1) H G' fp' ∧ Tr H G fp H G' fp' := by
  have gen : DL.toVal a ρ = some (m, ρ1) → ∃ G' fp', SA K (some v :: σ) (some m :: ρ1) H G' fp' ∧ Tr H G fp H G' fp' := fun h => SA.toVal (τ := []) (τm := []) S rfl p h
  cases a with
  | val c => exact gen h
  | plc i π =>
    cases π with
    | cons s π => exact gen h
    | nil =>
      unfold DL.retV at h
      simp only at h
      by_cases hi : i ∈ rf
      · rw [if_pos hi] at h; exact gen h
      · rw [if_neg hi] at h
        cases q : ρ[i]? with
        | none => rw [q] at h; cases h
        | some oc =>
          cases oc with
          | none => rw [q] at h; cases h
          | some c =>
            rw [q] at h
            cases h
            obtain ⟨fr, S1, h1⟩ := SA.drop (v := some v) (m := none) (σ := σ) (ρ := ρ) S
            obtain ⟨v', fa, fb, z1, z2, z3, z4⟩ := S1.out q
            obtain ⟨v0, p1, p2⟩ := p
            rw [p1] at z1; cases z1
            cases p2
            have nd := z3.nodup_iff.mpr S1.nd
            rw [List.nodup_append] at nd
            refine ⟨G, _, z4.push z2 (fun a ha => S1.free a (z3.mem_iff.mp (List.mem_append_left _ ha))) nd.1 (fun a ha hb => nd.2.2 a ha a hb rfl), (Tr.refl H G fp).sub fun a ha => h1 a ?_⟩
            exact z3.mem_iff.mp ha
def sRet (rf : List Nat) (fe : Rho → Out Vl) : Rho → Fl := fun ρ => match fe ρ with
  | .ok a ρ1 => match retV rf a ρ1 with
    | some (m, ρ2) => .rt m ρ2
    | none => .bad
  | .exc x ρ1 => .exc x ρ1
  | .bad => .bad
theorem es_ret {te : TE} {fe : Rho → Out Vl} (h : EvE K W b te fe) : EvS K W rf (tRet te) (sRet rf fe) := by
  intro σ ρ H G fp D S P
  refine h [] σ [] ρ H G fp _ rfl S ?_
  unfold sRet at P
  cases hf : fe ρ with
  | bad => rw [hf] at P; exact P
  | exc x ρ1 => rw [hf] at P; exact fun cls d H' G' fp' T' S' r => P cls d σ H' G' fp' T' S' (Kp.refl σ) r
  | ok a ρ1 =>
    rw [hf] at P
    intro v H1 G1 fp1 T1 e1 S1 p1
    simp only at P
    cases hv : DL.retV rf a ρ1 with
    | none => rw [hv] at P; exact P.elim
    | some q =>
      obtain ⟨m, ρ2⟩ := q
      rw [hv] at P
      obtain ⟨G2, fp2, S2, T2⟩ := SA.retV (rf := rf) (σ := σ) (ρ := ρ1) S1 p1 hv
      exact P v σ H1 G2 fp2 (T1.trans T2) S2 (Kp.refl σ)
def sRetN : Rho → Fl := fun ρ => .rt (.dat .none) ρ
theorem es_retN : EvS K W rf tRetN sRetN := fun σ ρ H G fp D S P => P .non σ H G fp (Tr.refl H G fp) (S.pushD .non) (Kp.refl σ)

/-! ### targets of loops: data put into slots -/
def Agree (js : List Nat) (σ σ' : St) : Prop := σ'.length = σ.length ∧ ∀ i, i ∉ js → σ'[i]? = σ[i]?
theorem Agree.kp {js : List Nat} {σ σ' : St} (a : Agree js σ σ') (h : ∀ i ∈ rf, i ∉ js) : Kp rf σ σ' := fun i hi => a.2 i (h i hi)
theorem Agree.trans {js ks : List Nat} {σ σ1 σ2 : St} (a : Agree js σ σ1) (b : Agree ks σ1 σ2) : Agree (js ++ ks) σ σ2 :=
  ⟨b.1.trans a.1, fun i hi => (b.2 i fun z => hi (List.mem_append_right _ z)).trans (a.2 i fun z => hi (List.mem_append_left _ z))⟩
def EvG (K : PySem.W.Frag) (js : List Nat) (g : TG) (h : PyData → Rho → Option Rho) : Prop :=
  ∀ (τ σ : St) (τm ρ : Rho) (H G : Hp) (fp : List Addr) (v : V) (d : PyData) (ρ' : Rho) (Q : St → Hp → Prop), τ.length = τm.length → SA K (τ ++ σ) (τm ++ ρ) H G fp → Da K G v d → h d ρ = some ρ' →
    (∀ σ' fp', SA K (τ ++ σ') (τm ++ ρ') H G fp' → (∀ a ∈ fp', a ∈ fp) → Agree js σ σ' → Q σ' H) → g v σ H Q
def EvGs (K : PySem.W.Frag) (js : List Nat) (g : TGs) (h : List PyData → Rho → Option Rho) : Prop :=
  ∀ (τ σ : St) (τm ρ : Rho) (H G : Hp) (fp : List Addr) (vs : List V) (ds : List PyData) (ρ' : Rho) (Q : St → Hp → Prop), τ.length = τm.length → SA K (τ ++ σ) (τm ++ ρ) H G fp → DaAll K G vs ds → h ds ρ = some ρ' →
    (∀ σ' fp', SA K (τ ++ σ') (τm ++ ρ') H G fp' → (∀ a ∈ fp', a ∈ fp) → Agree js σ σ' → Q σ' H) → g vs σ H Q
def hName (i : Nat) (d : PyData) (ρ : Rho) : Option Rho := if i < ρ.length then some (ρ.set i (some (.dat d))) else none
theorem SA.storeAt {v : V} {m : M} {i : Nat} (hl : τ.length = τm.length) (S : SA K (some v :: (τ ++ σ)) (some m :: (τm ++ ρ)) H G fp) (h : i < ρ.length) : ∃ fq, SA K (τ ++ σ.set i (some v)) (τm ++ ρ.set i (some m)) H G fq ∧ ∀ a ∈ fq, a ∈ fp := by
  obtain ⟨fq, S1, h1⟩ := SA.store (i := τm.length + i) S (by rw [List.length_append]; omega)
  rw [List.set_append_right _ _ (Nat.le_add_right _ _), Nat.add_sub_cancel_left, ← hl, List.set_append_right _ _ (Nat.le_add_right _ _), Nat.add_sub_cancel_left] at S1
  exact ⟨fq, S1, h1⟩
theorem eg_name {i : Nat} : EvG K [i] (gName i) (hName i) := by
  intro τ σ τm ρ H G fp v d ρ' Q hl S dv h k
  unfold hName at h
  by_cases hi : i < ρ.length
  · rw [if_pos hi] at h
    cases h
    obtain ⟨fq, S1, h1⟩ := SA.storeAt (σ := σ) (ρ := ρ) (i := i) hl (S.pushD dv) hi
    exact k _ fq S1 h1 ⟨by rw [List.length_set], fun j hj => List.getElem?_set_ne (fun e => hj (by simp [e]))⟩
  · rw [if_neg hi] at h; cases h
def hNil : List PyData → Rho → Option Rho
  | [], ρ => some ρ
  | _ :: _, _ => none
def hCons (h : PyData → Rho → Option Rho) (hs : List PyData → Rho → Option Rho) : List PyData → Rho → Option Rho
  | d :: ds, ρ => match h d ρ with
    | some ρ1 => hs ds ρ1
    | none => none
  | [], _ => none
theorem egs_nil : EvGs K [] gNil hNil := by
  intro τ σ τm ρ H G fp vs ds ρ' Q hl S dv h k
  cases ds with
  | nil =>
    cases dv
    cases h
    exact ⟨rfl, k σ fp S (fun _ z => z) ⟨rfl, fun _ _ => rfl⟩⟩
  | cons d ds => cases h
theorem egs_cons {js ks : List Nat} {g : TG} {gs : TGs} {h : PyData → Rho → Option Rho} {hs : List PyData → Rho → Option Rho} (h1 : EvG K js g h) (h2 : EvGs K ks gs hs) : EvGs K (js ++ ks) (gCons g gs) (hCons h hs) := by
  intro τ σ τm ρ H G fp vs ds ρ' Q hl S dv hh k
  cases ds with
  | nil => cases hh
  | cons d ds =>
    cases dv with
    | cons d1 d2 =>
      unfold hCons at hh
      cases q : h d ρ with
      | none => simp only [q] at hh; cases hh
      | some ρ1 =>
        simp only [q] at hh
        refine ⟨_, _, rfl, h1 τ σ τm ρ H G fp _ d ρ1 _ hl S d1 q fun σ1 fp1 S1 s1 a1 => ?_⟩
        exact h2 τ σ1 τm ρ1 H G fp1 _ ds ρ' Q hl S1 d2 hh fun σ2 fp2 S2 s2 a2 => k σ2 fp2 S2 (fun a ha => s1 a (s2 a ha)) (a1.trans a2)
def hTup (n : Nat) (hs : List PyData → Rho → Option Rho) (d : PyData) (ρ : Rho) : Option Rho := match d with
  | .tuple ds => if ds.length = n then hs ds ρ else none
  | .dict [(.none, .tuple ds)] => if ds.length = n then hs ds ρ else none
  | _ => none
theorem DaAll.length' {vs : List V} {ds : List PyData} (h : DaAll K H vs ds) : vs.length = ds.length := DaAll.length h
theorem eg_tup {js : List Nat} {n : Nat} {gs : TGs} {hs : List PyData → Rho → Option Rho} (h2 : EvGs K js gs hs) : EvG K js (gTup K n gs) (hTup n hs) := by
  intro τ σ τm ρ H G fp v d ρ' Q hl S dv hh k
  have go : ∀ (a : Addr) (xs : List V) (ds : List PyData), SqT K G a xs → DaAll K G xs ds → (if ds.length = n then hs ds ρ else none) = some ρ' → gTup K n gs (.ref a) σ H Q := fun a xs ds hs' ha hh => by
    by_cases hn : ds.length = n
    · rw [if_pos hn] at hh
      exact ⟨_, _, rfl, Ext.t S.same hs', by rw [DaAll.length ha, hn], h2 τ σ τm ρ H G fp _ ds ρ' Q hl S ha hh k⟩
    · rw [if_neg hn] at hh; cases hh
  unfold hTup at hh
  split at hh
  · cases dv with
    | tup hs' ha => exact go _ _ _ hs'.sq ha hh
  · obtain ⟨a, xs, rfl, z1, z2⟩ := dv.wkinv
    exact go _ _ _ z1 z2 hh
  · cases hh

/-! ### what is walked -/
def Yields (K : PySem.W.Frag) (J : It) (ds : List PyData) (G : Hp) : Prop :=
  ∀ (i : Nat) (H G1 : Hp), Ext G G1 → Ext G1 H → (∀ d, ds[i]? = some d → J.go i H ∧ ∀ x H', J.yld i H x H' → ∃ G2, New H G1 H' G2 [] ∧ Da K G2 x d) ∧ (ds[i]? = none → J.stop i H)
def PostI (K : PySem.W.Frag) (W : WX) (b : Bool) (τ σ : St) (τm : Rho) (H G : Hp) (fp : List Addr) (R : It → Hp → Prop) : Out (List PyData) → Prop
  | .ok ds ρ' => ∀ J H' G' fp', Tr H G fp H' G' fp' → (b = true → Ext H H') → SA K (τ ++ σ) (τm ++ ρ') H' G' fp' → Yields K J ds G' → R J H'
  | .exc x ρ' => ∀ cls d H' G' fp', Tr H G fp H' G' fp' → SA K (τ ++ σ) (τm ++ ρ') H' G' fp' → RX K G' x cls d → W cls d σ H'
  | .bad => False
def EvI (K : PySem.W.Frag) (W : WX) (b : Bool) (wi : TI) (f : Rho → Out (List PyData)) : Prop :=
  ∀ (τ σ : St) (τm ρ : Rho) (H G : Hp) (fp : List Addr) (R : It → Hp → Prop), τ.length = τm.length → SA K (τ ++ σ) (τm ++ ρ) H G fp → PostI K W b τ σ τm H G fp R (f ρ) → wi σ H R
/-- the state behind a yield -/
theorem SA.known (S : SA K σ ρ H G fp) (N : New H G H1 G1 []) : SA K σ ρ H1 G1 fp ∧ Tr H G fp H1 G1 fp := by
  obtain ⟨S1, T1⟩ := S.new (v := .non) (c := .dat .none) N (.dat .non)
  obtain ⟨_, S2⟩ := SA.popD S1
  exact ⟨S2, T1⟩

/-! ### for -/
def forGo (h : PyData → Rho → Option Rho) (g : Rho → Fl) : List PyData → Rho → Fl
  | [], ρ => .nx ρ
  | d :: ds, ρ => match h d ρ with
    | none => .bad
    | some ρ1 => match g ρ1 with
      | .nx ρ2 => forGo h g ds ρ2
      | .ct ρ2 => forGo h g ds ρ2
      | .bk ρ2 => .nx ρ2
      | .rt m ρ2 => .rt m ρ2
      | .exc x ρ2 => .exc x ρ2
      | .bad => .bad
def sFor (fi : Rho → Out (List PyData)) (h : PyData → Rho → Option Rho) (g : Rho → Fl) : Rho → Fl := fun ρ => match fi ρ with
  | .ok ds ρ1 => forGo h g ds ρ1
  | .exc x ρ1 => .exc x ρ1
  | .bad => .bad
theorem drop_cons {α : Type} : ∀ {l : List α} {i : Nat} {x : α}, l[i]? = some x → l.drop i = x :: l.drop (i + 1)
  | [], _, _, h => by simp at h
  | a :: l, 0, x, h => by simp at h; subst h; rfl
  | a :: l, i + 1, x, h => by
    show l.drop i = x :: l.drop (i + 1)
    exact drop_cons (by simpa using h)
theorem es_for {js : List Nat} {wi : TI} {g : TG} {tb : TS} {fi : Rho → Out (List PyData)} {h : PyData → Rho → Option Rho} {gb : Rho → Fl} (hi : EvI K W b wi fi) (hg : EvG K js g h) (hb : EvS K W rf tb gb) (hj : ∀ i ∈ rf, i ∉ js) :
    EvS K W rf (tFor wi g tb) (sFor fi h gb) := by
  intro σ ρ H G fp D S P
  refine hi [] σ [] ρ H G fp _ rfl S ?_
  unfold sFor at P
  cases hf : fi ρ with
  | bad => rw [hf] at P; exact P
  | exc x ρ1 => rw [hf] at P; exact fun cls d H' G' fp' T' S' r => P cls d σ H' G' fp' T' S' (Kp.refl σ) r
  | ok ds ρ1 =>
    rw [hf] at P
    intro J H1 G1 fp1 T1 e1 S1 Y
    refine ⟨fun i m σ' H' => ∃ ρ' G' fp', SA K σ' ρ' H' G' fp' ∧ Tr H1 G1 fp1 H' G' fp' ∧ m = ds.length - i ∧ PostS K W rf σ' H' G' fp' D (forGo h gb (ds.drop i) ρ'), ⟨ds.length, ρ1, G1, fp1, S1, Tr.refl _ _ _, rfl, PostS.tr T1 (Kp.refl σ) P⟩, ?_⟩
    rintro i m σ2 H2 ⟨ρ2, G2, fp2, S2, T2, rfl, P2⟩
    obtain ⟨y1, y2⟩ := Y i H2 G2 T2.g S2.same
    cases hd : ds[i]? with
    | none =>
      refine .inl ⟨y2 hd, ?_⟩
      have e : ds.drop i = [] := List.drop_eq_nil_of_le (List.getElem?_eq_none_iff.mp hd)
      rw [e] at P2
      exact P2 σ2 H2 G2 fp2 (Tr.refl _ _ _) S2 (Kp.refl σ2)
    | some d =>
      obtain ⟨go, y3⟩ := y1 d hd
      have hlt : i < ds.length := (List.getElem?_eq_some_iff.mp hd).1
      rw [drop_cons hd] at P2
      refine .inr ⟨go, fun σ' H' => ∃ ρ' G' fp', SA K σ' ρ' H' G' fp' ∧ Tr H1 G1 fp1 H' G' fp' ∧ PostS K W rf σ' H' G' fp' D (forGo h gb (ds.drop (i + 1)) ρ'), fun σ' H' ⟨ρ', G', fp', a1, a2, a3⟩ => ⟨ds.length - (i + 1), by omega, ρ', G', fp', a1, a2, rfl, a3⟩, fun x H3 yl => ?_⟩
      obtain ⟨G3, N3, dx⟩ := y3 x H3 yl
      obtain ⟨S3, T3⟩ := S2.known N3
      unfold forGo at P2
      cases hh : h d ρ2 with
      | none => simp only [hh] at P2; exact P2.elim
      | some ρ3 =>
        simp only [hh] at P2
        refine hg [] σ2 [] ρ2 H3 G3 fp2 x d ρ3 _ rfl S3 dx hh fun σ4 fp4 S4 s4 a4 => ?_
        have k4 : Kp rf σ2 σ4 := a4.kp hj
        have T4 : Tr H2 G2 fp2 H3 G3 fp4 := T3.sub s4
        refine hb σ4 ρ3 H3 G3 fp4 _ S4 ?_
        cases hgb : gb ρ3 with
        | nx ρ5 =>
          simp only [hgb] at P2
          exact fun σ' H' G' fp' T' S' k' => ⟨ρ5, G', fp', S', T2.trans (T4.trans T'), PostS.tr (T4.trans T') (k4.trans k') P2⟩
        | ct ρ5 =>
          simp only [hgb] at P2
          exact fun σ' H' G' fp' T' S' k' => ⟨ρ5, G', fp', S', T2.trans (T4.trans T'), PostS.tr (T4.trans T') (k4.trans k') P2⟩
        | bk ρ5 =>
          simp only [hgb] at P2
          exact fun σ' H' G' fp' T' S' k' => P2 σ' H' G' fp' (T4.trans T') S' (k4.trans k')
        | rt m ρ5 =>
          simp only [hgb] at P2
          exact fun v σ' H' G' fp' T' S' k' => P2 v σ' H' G' fp' (T4.trans T') S' (k4.trans k')
        | exc x ρ5 =>
          simp only [hgb] at P2
          exact fun cls d σ' H' G' fp' T' S' k' r => P2 cls d σ' H' G' fp' (T4.trans T') S' (k4.trans k') r
        | bad => simp only [hgb] at P2; exact P2

/-! ### while -/
def whileGo (ft : Rho → Out Bool) (g : Rho → Fl) : Nat → Rho → Fl
  | 0, _ => .bad
  | n + 1, ρ => match ft ρ with
    | .bad => .bad
    | .exc x ρ1 => .exc x ρ1
    | .ok c ρ1 => if c = true then (match g ρ1 with
      | .nx ρ2 => whileGo ft g n ρ2
      | .ct ρ2 => whileGo ft g n ρ2
      | .bk ρ2 => .nx ρ2
      | .rt m ρ2 => .rt m ρ2
      | .exc x ρ2 => .exc x ρ2
      | .bad => .bad) else .nx ρ1
theorem es_while {tc : TT} {tb : TS} {ft : Rho → Out Bool} {gb : Rho → Fl} {n : Nat} (hc : EvT K W b tc ft) (hb : EvS K W rf tb gb) : EvS K W rf (tWhile tc tb) (whileGo ft gb n) := by
  intro σ ρ H G fp D S P
  refine ⟨fun m σ' H' => ∃ ρ' G' fp', SA K σ' ρ' H' G' fp' ∧ PostS K W rf σ' H' G' fp' D (whileGo ft gb m ρ'), ⟨n, ρ, G, fp, S, P⟩, ?_⟩
  rintro m σ1 H1 ⟨ρ1, G1, fp1, S1, P1⟩
  cases m with
  | zero => exact P1.elim
  | succ m =>
    refine hc [] σ1 [] ρ1 H1 G1 fp1 _ rfl S1 ?_
    unfold whileGo at P1
    cases hf : ft ρ1 with
    | bad => simp only [hf] at P1; exact P1
    | exc x ρ2 => simp only [hf] at P1; exact fun cls d H' G' fp' T' S' r => P1 cls d σ1 H' G' fp' T' S' (Kp.refl σ1) r
    | ok c ρ2 =>
      simp only [hf] at P1
      intro H2 G2 fp2 T2 e2 S2
      cases c with
      | false => exact P1 σ1 H2 G2 fp2 T2 S2 (Kp.refl σ1)
      | true =>
        refine ⟨fun σ' H' => ∃ ρ' G' fp', SA K σ' ρ' H' G' fp' ∧ PostS K W rf σ' H' G' fp' D (whileGo ft gb m ρ'), fun σ' H' q => ⟨m, Nat.lt_succ_self m, q⟩, ?_⟩
        refine hb σ1 ρ2 H2 G2 fp2 _ S2 ?_
        simp only [if_true] at P1
        cases hgb : gb ρ2 with
        | nx ρ5 =>
          simp only [hgb] at P1
          exact fun σ' H' G' fp' T' S' k' => ⟨ρ5, G', fp', S', PostS.tr (T2.trans T') k' P1⟩
        | ct ρ5 =>
          simp only [hgb] at P1
          exact fun σ' H' G' fp' T' S' k' => ⟨ρ5, G', fp', S', PostS.tr (T2.trans T') k' P1⟩
        | bk ρ5 =>
          simp only [hgb] at P1
          exact fun σ' H' G' fp' T' S' k' => P1 σ' H' G' fp' (T2.trans T') S' k'
        | rt m ρ5 =>
          simp only [hgb] at P1
          exact fun v σ' H' G' fp' T' S' k' => P1 v σ' H' G' fp' (T2.trans T') S' k'
        | exc x ρ5 =>
          simp only [hgb] at P1
          exact fun cls d σ' H' G' fp' T' S' k' r => P1 cls d σ' H' G' fp' (T2.trans T') S' k' r
        | bad => simp only [hgb] at P1; exact P1
end
end DL

set_option Elab.async false
set_option linter.all false
set_option maxRecDepth 100000
/-! DLd: lists changed in place, comprehensions, calls, a def by its body. -/
namespace DL
open PySem PySem.Spec PyProof.Rows L2

section
variable {K : PySem.W.Frag} {W : WX} {b : Bool} {τ σ : St} {τm ρ : Rho} {H G H1 G1 : Hp} {fp fp1 : List Addr} {rf : List Nat}
theorem RMs.append : ∀ {vs : List V} {xs : List M} {fp : List Addr} {ws : List V} {ys : List M} {fq : List Addr}, RMs K G H vs xs fp → RMs K G H ws ys fq → RMs K G H (vs ++ ws) (xs ++ ys) (fp ++ fq)
  | _, _, _, _, _, _, .nil, s => s
  | _, _, _, _, _, _, .cons r t, s => by rw [List.append_assoc]; exact .cons r (RMs.append t s)
theorem RMs.one {v : V} {m : M} {fr : List Addr} (r : RM K G H v m fr) : RMs K G H [v] [m] fr := by
  have := RMs.cons r .nil
  rwa [List.append_nil] at this
/-- the last one apart -/
theorem RMs.last : ∀ {xs : List M} {m : M} {vs : List V} {fp : List Addr}, RMs K G H vs (xs ++ [m]) fp → ∃ ws v fa fb, vs = ws ++ [v] ∧ RMs K G H ws xs fa ∧ RM K G H v m fb ∧ fp = fa ++ fb
  | [], m, vs, fp, h => by
    cases h with
    | cons r t =>
      cases t
      exact ⟨[], _, [], _, rfl, .nil, r, by simp⟩
  | x :: xs, m, vs, fp, h => by
    cases h with
    | cons r t =>
      obtain ⟨ws, v, fa, fb, e, h1, h2, e2⟩ := RMs.last (xs := xs) t
      subst e e2
      exact ⟨_ :: ws, v, _ ++ fa, fb, rfl, .cons r h1, h2, by rw [List.append_assoc]⟩
theorem RMs.dats : ∀ {ds : List PyData} {vs : List V} {fp : List Addr}, RMs K G H vs (ds.map M.dat) fp → DaAll K G vs ds ∧ fp = []
  | [], _, _, h => by cases h; exact ⟨.nil, rfl⟩
  | d :: ds, _, _, h => by
    cases h with
    | cons r t =>
      cases r with
      | dat r =>
        obtain ⟨h1, h2⟩ := RMs.dats (ds := ds) t
        exact ⟨.cons r h1, by rw [h2]; rfl⟩
theorem RMs.ofDats : ∀ {ds : List PyData} {vs : List V}, DaAll K G vs ds → RMs K G H vs (ds.map M.dat) []
  | [], _, h => by cases h; exact .nil
  | d :: ds, _, h => by cases h with | cons h1 h2 => exact .cons (.dat h1) (RMs.ofDats h2)

/-- an item moved to the end of a list -/
theorem SA.appendAt {i : Nat} {π : List Stp} {xs : List M} {m : M} {v : V} (S : SA K (some v :: σ) (some m :: ρ) H G fp) (e : rdP ρ i π = some (.lst xs)) :
    ∃ v0 l vs fp', σ[i]? = some (some v0) ∧ atP H v0 π = some (.ref l) ∧ H l = some (.lst vs) ∧ vs.length = xs.length ∧
      SA K σ (wrP ρ i π (.lst (xs ++ [m]))) (upd H l (.lst (vs ++ [v]))) G fp' ∧ Tr H G fp (upd H l (.lst (vs ++ [v]))) G fp' := by
  obtain ⟨fr, fq, r, p, S1⟩ := S.pop
  obtain ⟨v0, vc, fa, fb, h1, h2, h3, h4, h5⟩ := S1.focus e
  cases h3 with
  | lst q1 q2 =>
    rename_i l vs fx
    have nd := p.nodup_iff.mpr S.nd
    rw [List.nodup_append] at nd
    have nd4 := h4.nodup_iff.mpr S1.nd
    rw [List.nodup_append] at nd4
    have ndx := List.nodup_cons.mp nd4.1
    have lq : l ∈ fq := h4.mem_iff.mp (List.mem_append_left _ List.mem_cons_self)
    have gl0 : G l = none := S1.free l lq
    have same : ∀ a, a ≠ l → upd H l (.lst (vs ++ [v])) a = H a := fun a ha => upd_ne ha
    have lfr : l ∉ fr := fun z => nd.2.2 l z l lq rfl
    have es : Ext G (upd H l (.lst (vs ++ [v]))) := fun a o z => by
      rw [same a fun w => by rw [w, gl0] at z; cases z]
      exact S.same a o z
    have nx : RM K G (upd H l (.lst (vs ++ [v]))) (.ref l) (.lst (xs ++ [m])) (l :: (fx ++ fr)) :=
      .lst upd_same (RMs.append (q2.at (Ext.refl G) fun a ha => same a fun w => ndx.1 (w ▸ ha)) (RMs.one (r.at (Ext.refl G) fun a ha => same a fun w => lfr (w ▸ ha))))
    have S2 := h5 G (upd H l (.lst (vs ++ [v]))) (.lst (xs ++ [m])) (l :: (fx ++ fr)) (Ext.refl G) es (fun a ha => same a fun w => nd4.2.2 l List.mem_cons_self a ha w.symm)
      (fun a ha => S1.free a (h4.mem_iff.mp (List.mem_append_right _ ha))) nx
      (fun a ha => by
        rcases List.mem_cons.mp ha with rfl | ha
        · exact gl0
        rcases List.mem_append.mp ha with ha | ha
        · exact S1.free a (h4.mem_iff.mp (List.mem_append_left _ (List.mem_cons_of_mem _ ha)))
        · exact S.free a (p.mem_iff.mp (List.mem_append_left _ ha)))
      (by
        rw [List.nodup_cons, List.nodup_append]
        refine ⟨fun z => ?_, ndx.2, nd.1, fun a ha c hc w => ?_⟩
        · rcases List.mem_append.mp z with z | z
          · exact ndx.1 z
          · exact lfr z
        · exact nd.2.2 c hc a (h4.mem_iff.mp (List.mem_append_left _ (List.mem_cons_of_mem _ ha))) w.symm)
      (fun a ha hb => by
        rcases List.mem_cons.mp ha with rfl | ha
        · exact nd4.2.2 a List.mem_cons_self a hb rfl
        rcases List.mem_append.mp ha with ha | ha
        · exact nd4.2.2 a (List.mem_cons_of_mem _ ha) a hb rfl
        · exact nd.2.2 a ha a (h4.mem_iff.mp (List.mem_append_right _ hb)) rfl)
    refine ⟨v0, l, vs, _, h1, h2, q1, q2.length, S2, Ext.refl G, fun a o z n => ?_, fun a ha => .inl ?_, fun a o z => .inl z⟩
    · rw [same a fun w => n (by rw [w]; exact p.mem_iff.mp (List.mem_append_right _ lq))]; exact z
    · rcases List.mem_append.mp ha with ha | ha
      · rcases List.mem_cons.mp ha with rfl | ha
        · exact p.mem_iff.mp (List.mem_append_right _ lq)
        rcases List.mem_append.mp ha with ha | ha
        · exact p.mem_iff.mp (List.mem_append_right _ (h4.mem_iff.mp (List.mem_append_left _ (List.mem_cons_of_mem _ ha))))
        · exact p.mem_iff.mp (List.mem_append_left _ ha)
      · exact p.mem_iff.mp (List.mem_append_right _ (h4.mem_iff.mp (List.mem_append_right _ ha)))

/-! ### comprehensions -/
def wipeM (ρ : Rho) : List Nat → Rho
  | [] => ρ
  | v :: vs => (wipeM ρ vs).set v none
theorem wipeM_length (ρ : Rho) : ∀ vs : List Nat, (wipeM ρ vs).length = ρ.length
  | [] => rfl
  | v :: vs => by unfold wipeM; rw [List.length_set, wipeM_length ρ vs]
theorem SA.any (S : SA K σ ρ H G fp) (i : Nat) (v : Option V) (h : ρ[i]? = some none) : SA K (σ.set i v) ρ H G fp := ⟨S.same, S.free, S.nd, let ⟨f0, q, p⟩ := S.sl; ⟨f0, q.any i v h, p⟩⟩
theorem set_big {α : Type} : ∀ {l : List α} {i : Nat} {x : α}, l.length ≤ i → l.set i x = l
  | [], _, _, _ => rfl
  | a :: l, 0, x, h => by simp at h
  | a :: l, i + 1, x, h => by
    show a :: l.set i x = a :: l
    rw [set_big (by simpa using h)]
theorem SA.wipe (hl : τ.length = τm.length) (S : SA K (τ ++ σ) (τm ++ ρ) H G fp) : ∀ vs : List Nat, ∃ fq, SA K (τ ++ L2.wipe σ vs) (τm ++ wipeM ρ vs) H G fq ∧ ∀ a ∈ fq, a ∈ fp
  | [] => ⟨fp, S, fun _ h => h⟩
  | v :: vs => by
    obtain ⟨fq, S1, h1⟩ := SA.wipe hl S vs
    obtain ⟨fr, S2, h2⟩ := S1.forget (τm.length + v)
    rw [List.set_append_right _ _ (Nat.le_add_right _ _), Nat.add_sub_cancel_left] at S2
    have hlen := S.length
    simp only [List.length_append] at hlen
    refine ⟨fr, ?_, fun a ha => h1 a (h2 a ha)⟩
    show SA K (τ ++ (L2.wipe σ vs).set v none) (τm ++ (wipeM ρ vs).set v none) H G fr
    by_cases hv : v < ρ.length
    · have S3 := S2.any (τm.length + v) none (by
        rw [List.getElem?_append_right (Nat.le_add_right _ _), Nat.add_sub_cancel_left, List.getElem?_set_self (by rw [wipeM_length]; exact hv)])
      rw [← hl, List.set_append_right _ _ (Nat.le_add_right _ _), Nat.add_sub_cancel_left] at S3
      exact S3
    · have e1 : (L2.wipe σ vs).set v none = L2.wipe σ vs := set_big (by rw [L2.wipe_length]; omega)
      rw [e1]
      exact S2
theorem wipeM_none {ρ : Rho} : ∀ {vs : List Nat} {i : Nat}, i ∈ vs → i < ρ.length → (wipeM ρ vs)[i]? = some none
  | [], _, h, _ => nomatch h
  | v :: vs, i, h, hl => by
    show ((wipeM ρ vs).set v none)[i]? = some none
    by_cases e : v = i
    · subst e; rw [List.getElem?_set_self (by rw [wipeM_length]; exact hl)]
    · rw [List.getElem?_set_ne e]
      exact wipeM_none (List.mem_of_ne_of_mem (fun q => e q.symm) h) hl
theorem wipe_get {σ : St} : ∀ {vs : List Nat} {i : Nat}, i ∉ vs → (L2.wipe σ vs)[i]? = σ[i]?
  | [], _, _ => rfl
  | v :: vs, i, h => by
    show ((L2.wipe σ vs).set v none)[i]? = _
    rw [List.getElem?_set_ne (fun e => h (by rw [e]; exact List.mem_cons_self))]
    exact wipe_get fun q => h (List.mem_cons_of_mem _ q)
theorem wipe_none {σ : St} : ∀ {vs : List Nat} {i : Nat}, i ∈ vs → i < σ.length → (L2.wipe σ vs)[i]? = some none
  | [], _, h, _ => nomatch h
  | v :: vs, i, h, hl => by
    show ((L2.wipe σ vs).set v none)[i]? = some none
    by_cases e : v = i
    · subst e; rw [List.getElem?_set_self (by rw [L2.wipe_length]; exact hl)]
    · rw [List.getElem?_set_ne e]
      exact wipe_none (List.mem_of_ne_of_mem (fun q => e q.symm) h) hl
theorem wipe_agree {js vs : List Nat} {σ σ2 : St} (a : Agree js (L2.wipe σ vs) σ2) (h : ∀ i ∈ js, i ∈ vs) : L2.wipe σ2 vs = L2.wipe σ vs := by
  have hlen : σ2.length = σ.length := by rw [a.1, L2.wipe_length]
  apply List.ext_getElem?
  intro i
  by_cases hi : i ∈ vs
  · by_cases hl : i < σ.length
    · rw [wipe_none hi (by rw [hlen]; exact hl), wipe_none hi hl]
    · rw [List.getElem?_eq_none (by rw [L2.wipe_length]; omega), List.getElem?_eq_none (by rw [L2.wipe_length]; omega)]
  · rw [wipe_get hi, a.2 i (fun z => hi (h i z)), wipe_get hi]
/-- the block's own slots have their values again -/
theorem SA.unwipe (hl : τ.length = τm.length) (hn : σ.length = ρ.length) (S : SA K (τ ++ L2.wipe σ vs0) (τm ++ wipeM ρ vs0) H G fp) : SA K (τ ++ σ) (τm ++ wipeM ρ vs0) H G fp := by
  have gen : ∀ us : List Nat, (∀ i ∈ us, i ∈ vs0) → ∀ σ' : St, σ'.length = σ.length → (∀ i, i ∉ us → σ'[i]? = σ[i]?) → SA K (τ ++ σ') (τm ++ wipeM ρ vs0) H G fp → SA K (τ ++ σ) (τm ++ wipeM ρ vs0) H G fp := by
    intro us
    induction us with
    | nil =>
      intro _ σ' hlen ag S'
      have : σ' = σ := List.ext_getElem? fun i => ag i (by simp)
      rw [this] at S'; exact S'
    | cons u us ih =>
      intro hu σ' hlen ag S'
      by_cases hlu : u < σ.length
      · refine ih (fun i hi => hu i (List.mem_cons_of_mem _ hi)) (σ'.set u (σ.getD u none)) (by rw [List.length_set]; exact hlen) (fun i hi => ?_) ?_
        · by_cases e : u = i
          · subst e
            rw [List.getElem?_set_self (by rw [hlen]; exact hlu)]
            simp [hlu]
          · rw [List.getElem?_set_ne e]
            exact ag i (fun z => (List.mem_cons.mp z).elim (fun q => e q.symm) hi)
        · have S3 := S'.any (τm.length + u) (σ.getD u none) (by
            rw [List.getElem?_append_right (Nat.le_add_right _ _), Nat.add_sub_cancel_left]
            exact wipeM_none (hu u List.mem_cons_self) (by omega))
          rw [← hl, List.set_append_right _ _ (Nat.le_add_right _ _), Nat.add_sub_cancel_left] at S3
          exact S3
      · refine ih (fun i hi => hu i (List.mem_cons_of_mem _ hi)) σ' hlen (fun i hi => ?_) S'
        by_cases e : u = i
        · subst e
          rw [List.getElem?_eq_none (by omega), List.getElem?_eq_none (by omega)]
        · exact ag i (fun z => (List.mem_cons.mp z).elim (fun q => e q.symm) hi)
  exact gen vs0 (fun _ h => h) _ (L2.wipe_length _ _) (fun i hi => wipe_get hi) S
theorem SA.putD {i : Nat} {v : V} {d : PyData} (S : SA K σ ρ H G fp) (h : σ[i]? = some (some v)) (dv : Da K G v d) : ∃ fq, SA K σ (ρ.set i (some (.dat d))) H G fq ∧ ∀ a ∈ fq, a ∈ fp := by
  have hi : i < ρ.length := by rw [← S.length]; exact (List.getElem?_eq_some_iff.mp h).1
  obtain ⟨fq, S1, h1⟩ := S.forget i
  have S2 := S1.into (v := v) (m := .dat d) (fp1 := []) hi (.dat dv) (fun _ q => nomatch q) List.nodup_nil (fun _ q => nomatch q)
  rw [set_self h] at S2
  exact ⟨_, S2, fun a ha => h1 a (by simpa using ha)⟩
/-- what is known of the slots of another state -/
def restore (ρ1 : Rho) : List Nat → Rho → Rho
  | [], ρ2 => ρ2
  | i :: is, ρ2 => match ρ1[i]? with
    | some (some (.dat d)) => (restore ρ1 is ρ2).set i (some (.dat d))
    | _ => restore ρ1 is ρ2
theorem SA.restore {s : St} {m ρ1 : Rho} (e1 : s.length = m.length) (hl : τ.length = τm.length) (hd : ∀ (i : Nat) (d : PyData), ρ1[i]? = some (some (M.dat d)) → ∃ v, σ[i]? = some (some v) ∧ Da K G v d) (S : SA K (s ++ (τ ++ σ)) (m ++ (τm ++ ρ)) H G fp) :
    ∀ is : List Nat, ∃ fq, SA K (s ++ (τ ++ σ)) (m ++ (τm ++ DL.restore ρ1 is ρ)) H G fq ∧ ∀ a ∈ fq, a ∈ fp
  | [] => ⟨fp, S, fun _ h => h⟩
  | i :: is => by
    obtain ⟨fq, S1, h1⟩ := SA.restore e1 hl hd S is
    unfold DL.restore
    split
    · rename_i d hq
      obtain ⟨v, hv, dv⟩ := hd i d hq
      obtain ⟨fr, S2, h2⟩ := S1.putD (i := m.length + (τm.length + i)) (v := v) (d := d) (by
        rw [← e1, ← hl, List.getElem?_append_right (Nat.le_add_right _ _), Nat.add_sub_cancel_left, List.getElem?_append_right (Nat.le_add_right _ _), Nat.add_sub_cancel_left]
        exact hv) dv
      rw [List.set_append_right _ _ (Nat.le_add_right _ _), Nat.add_sub_cancel_left, List.set_append_right _ _ (Nat.le_add_right _ _), Nat.add_sub_cancel_left] at S2
      exact ⟨fr, S2, fun a ha => h1 a (h2 a ha)⟩
    · exact ⟨fq, S1, h1⟩
def compGo (own : List Nat) (h : PyData → Rho → Option Rho) (ft : Rho → Out Bool) (fe : Rho → Out Vl) : List PyData → List M → Rho → Out (List M)
  | [], acc, ρ => .ok acc ρ
  | d :: ds, acc, ρ => match h d ρ with
    | none => .bad
    | some ρ1 => match ft ρ1 with
      | .ok c ρ2 => if c = true then (match fe ρ2 with
        | .ok a ρ3 => match toVal a ρ3 with
          | some (m, ρ4) => compGo own h ft fe ds (acc ++ [m]) (wipeM ρ4 own)
          | none => .bad
        | _ => .bad) else compGo own h ft fe ds acc (wipeM ρ2 own)
      | _ => .bad
def cComp (own : List Nat) (fi : Rho → Out (List PyData)) (h : PyData → Rho → Option Rho) (ft : Rho → Out Bool) (fe : Rho → Out Vl) : Rho → Out Vl := fun ρ => match fi ρ with
  | .ok ds ρ1 => if ds.length ≤ sizeLine then (match compGo own h ft fe ds [] (wipeM ρ1 own) with
    | .ok ms ρ2 => .ok (.val (.lst ms)) (restore ρ1 own ρ2)
    | _ => .bad) else .bad
  | .exc x ρ1 => .exc x ρ1
  | .bad => .bad
abbrev W0 : WX := fun _ _ _ _ => False
theorem wipeM_idem (ρ : Rho) (vs : List Nat) : wipeM (wipeM ρ vs) vs = wipeM ρ vs := by
  have get : ∀ (ρ : Rho) {us : List Nat} {i : Nat}, i ∉ us → (wipeM ρ us)[i]? = ρ[i]? := by
    intro ρ us
    induction us with
    | nil => intro i _; rfl
    | cons v us ih =>
      intro i h
      show ((wipeM ρ us).set v none)[i]? = _
      rw [List.getElem?_set_ne (fun e => h (by rw [e]; exact List.mem_cons_self))]
      exact ih fun q => h (List.mem_cons_of_mem _ q)
  apply List.ext_getElem?
  intro i
  by_cases hi : i ∈ vs
  · by_cases hl : i < ρ.length
    · rw [wipeM_none hi (by rw [wipeM_length]; exact hl), wipeM_none hi hl]
    · rw [List.getElem?_eq_none (by rw [wipeM_length, wipeM_length]; omega), List.getElem?_eq_none (by rw [wipeM_length]; omega)]
  · rw [get _ hi]
theorem ev_comp {bt be : Bool} {js own : List Nat} {wi : TI} {g : TG} {tt : TT} {te : TE} {fi : Rho → Out (List PyData)} {h : PyData → Rho → Option Rho} {ft : Rho → Out Bool} {fe : Rho → Out Vl}
    (hi : EvI K W b wi fi) (hg : EvG K js g h) (ht : EvT K W0 bt tt ft) (he : EvE K W0 be te fe) (hj : ∀ i ∈ js, i ∈ own) : EvE K W false (tLc wi g tt te own) (cComp own fi h ft fe) := by
  intro τ σ τm ρ H G fp Q hl S P
  refine hi τ σ τm ρ H G fp _ hl S ?_
  unfold cComp at P
  cases hf : fi ρ with
  | bad => rw [hf] at P; exact P
  | exc x ρ1 => rw [hf] at P; exact fun cls d H' G' fp' T' S' r => P cls d H' G' fp' T' S' r
  | ok ds ρ1 =>
    rw [hf] at P
    simp only at P
    by_cases hsz : ds.length ≤ sizeLine
    · rw [if_pos hsz] at P
      intro J H1 G1 fp1 T1 e1 S1 Y D hD
      obtain ⟨fw, Sw, hw⟩ := SA.wipe hl S1 own
      obtain ⟨S2, T2⟩ := Sw.new (v := .ref D) (c := .lst []) (New.obj S1.same (o := .lst []) hD) (.lst upd_same .nil)
      have T12 : Tr H1 G1 fp1 (upd H1 D (.lst [])) G1 ([D] ++ fw) := (Tr.sub (Tr.refl H1 G1 fp1) hw).trans T2
      cases hc : compGo own h ft fe ds [] (wipeM ρ1 own) with
      | bad => rw [hc] at P; exact P.elim
      | exc x ρ2 => rw [hc] at P; exact P.elim
      | ok ms ρe =>
        rw [hc] at P
        have hlen := S1.length
        simp only [List.length_append] at hlen
        have hσρ : σ.length = ρ1.length := by omega
        refine ⟨fun i m H' => ∃ acc ρ' G' fp', SA K (some (.ref D) :: (τ ++ L2.wipe σ own)) (some (.lst acc) :: (τm ++ wipeM ρ' own)) H' G' fp' ∧ Tr H1 G1 fp1 H' G' fp' ∧ m = ds.length - i ∧ acc.length ≤ i ∧ ρ'.length = ρ1.length ∧
          compGo own h ft fe (ds.drop i) acc (wipeM ρ' own) = .ok ms ρe, ⟨ds.length, [], ρ1, G1, _, S2, T12, rfl, Nat.le_refl _, rfl, hc⟩, ?_⟩
        rintro i m H2 ⟨acc, ρ2, G2, fp2, S3, T3, rfl, hacc, hρ, hgo⟩
        obtain ⟨y1, y2⟩ := Y i H2 G2 T3.g S3.same
        cases hd : ds[i]? with
        | none =>
          refine .inl ⟨y2 hd, ?_⟩
          have e : ds.drop i = [] := List.drop_eq_nil_of_le (List.getElem?_eq_none_iff.mp hd)
          rw [e] at hgo
          unfold compGo at hgo
          injection hgo with q1 q2
          rw [← q1, ← q2] at P
          have S4 : SA K ((some (.ref D) :: τ) ++ L2.wipe σ own) ((some (.lst acc) :: τm) ++ wipeM ρ2 own) H2 G2 fp2 := S3
          have S5 := SA.unwipe (τ := some (.ref D) :: τ) (τm := some (.lst acc) :: τm) (by simp [hl]) (by omega) S4
          obtain ⟨fq, S6, h6⟩ := SA.restore (s := [some (.ref D)]) (m := [some (.lst acc)]) (ρ1 := ρ1) rfl hl (fun j d hjd => by
            obtain ⟨v, hv, dv⟩ := S1.dat (i := τm.length + j) (d := d) (by rw [List.getElem?_append_right (Nat.le_add_right _ _), Nat.add_sub_cancel_left]; exact hjd)
            rw [← hl, List.getElem?_append_right (Nat.le_add_right _ _), Nat.add_sub_cancel_left] at hv
            exact ⟨v, hv, Ext.dp T3.g d dv⟩) S5 own
          exact P (.ref D) H2 G2 fq ((T1.trans T3).sub h6) (fun z => nomatch z) S6 trivial
        | some d =>
          obtain ⟨go, y3⟩ := y1 d hd
          have hlt : i < ds.length := (List.getElem?_eq_some_iff.mp hd).1
          rw [drop_cons hd] at hgo
          refine .inr ⟨go, fun H' => ∃ acc ρ' G' fp', SA K (some (.ref D) :: (τ ++ L2.wipe σ own)) (some (.lst acc) :: (τm ++ wipeM ρ' own)) H' G' fp' ∧ Tr H1 G1 fp1 H' G' fp' ∧ acc.length ≤ i + 1 ∧ ρ'.length = ρ1.length ∧
            compGo own h ft fe (ds.drop (i + 1)) acc (wipeM ρ' own) = .ok ms ρe, fun H' ⟨a1, a2, a3, a4, a5, a6, a7, a8, a9⟩ => ⟨ds.length - (i + 1), by omega, a1, a2, a3, a4, a5, a6, rfl, a7, a8, a9⟩, fun x H3 yl => ?_⟩
          obtain ⟨G3, N3, dx⟩ := y3 x H3 yl
          obtain ⟨S4, T4⟩ := S3.known N3
          unfold compGo at hgo
          cases hh : h d (wipeM ρ2 own) with
          | none => simp only [hh] at hgo; cases hgo
          | some ρ3 =>
            simp only [hh] at hgo
            refine hg (some (.ref D) :: τ) (L2.wipe σ own) (some (.lst acc) :: τm) (wipeM ρ2 own) H3 G3 fp2 x d ρ3 _ (by simp [hl]) S4 dx hh fun σ5 fp5 S5 s5 a5 => ?_
            have hw5 : L2.wipe σ5 own = L2.wipe σ own := wipe_agree a5 hj
            refine ⟨hw5, ht (some (.ref D) :: τ) σ5 (some (.lst acc) :: τm) ρ3 H3 G3 fp5 _ (by simp [hl]) S5 ?_⟩
            have T5 : Tr H1 G1 fp1 H3 G3 fp5 := T3.trans (T4.sub s5)
            have back : ∀ {H' G' : Hp} {fp' : List Addr} {acc' : List M} {ρ' : Rho}, SA K (some (.ref D) :: (τ ++ σ5)) (some (.lst acc') :: (τm ++ ρ')) H' G' fp' → ∃ fq, SA K (some (.ref D) :: (τ ++ L2.wipe σ own)) (some (.lst acc') :: (τm ++ wipeM ρ' own)) H' G' fq ∧ ∀ a ∈ fq, a ∈ fp' := fun {H' G' fp' acc' ρ'} Sx => by
              obtain ⟨fq, Sy, hy⟩ := SA.wipe (τ := some (.ref D) :: τ) (τm := some (.lst acc') :: τm) (by simp [hl]) Sx own
              rw [hw5] at Sy
              exact ⟨fq, Sy, hy⟩
            have len5 : ∀ {H' G' : Hp} {fp' : List Addr} {acc' : List M} {ρ' : Rho}, SA K (some (.ref D) :: (τ ++ σ5)) (some (.lst acc') :: (τm ++ ρ')) H' G' fp' → ρ'.length = ρ1.length := fun {H' G' fp' acc' ρ'} Sx => by
              have z := Sx.length
              have z5 := a5.1
              rw [L2.wipe_length] at z5
              simp only [List.length_cons, List.length_append] at z
              omega
            cases hft : ft ρ3 with
            | bad => simp only [hft] at hgo; cases hgo
            | exc x ρ4 => simp only [hft] at hgo; cases hgo
            | ok c ρ4 =>
              simp only [hft] at hgo
              intro H6 G6 fp6 T6 e6 S6
              cases c with
              | false =>
                show ∃ acc ρ' G' fp', _
                obtain ⟨fq, S7, h7⟩ := back (acc' := acc) (ρ' := ρ4) S6
                exact ⟨acc, ρ4, G6, fq, S7, (T5.trans T6).sub h7, by omega, len5 (acc' := acc) S6, hgo⟩
              | true =>
                simp only [if_true] at hgo
                show te σ5 H6 _
                refine he (some (.ref D) :: τ) σ5 (some (.lst acc) :: τm) ρ4 H6 G6 fp6 _ (by simp [hl]) S6 ?_
                cases hfe : fe ρ4 with
                | bad => simp only [hfe] at hgo; cases hgo
                | exc x ρ5 => simp only [hfe] at hgo; cases hgo
                | ok a ρ5 =>
                  simp only [hfe] at hgo
                  intro v H7 G7 fp7 T7 e7 S7 p7
                  cases hv : toVal a ρ5 with
                  | none => simp only [hv] at hgo; cases hgo
                  | some q =>
                    obtain ⟨m, ρ6⟩ := q
                    simp only [hv] at hgo
                    obtain ⟨G8, fp8, S8, T8⟩ := SA.toVal (τ := some (.ref D) :: τ) (τm := some (.lst acc) :: τm) S7 (by simp [hl]) p7 hv
                    obtain ⟨v0, l, vs, fp9, z1, z2, z3, z4, S9, T9⟩ := SA.appendAt (i := 0) (π := []) (xs := acc) S8 rfl
                    cases z1
                    cases z2
                    refine ⟨vs, z3, by omega, ?_⟩
                    have S9 : SA K (some (.ref D) :: (τ ++ σ5)) (some (.lst (acc ++ [m])) :: (τm ++ ρ6)) (upd H7 D (.lst (vs ++ [v]))) G8 fp9 := S9
                    obtain ⟨fq, S10, h10⟩ := back (acc' := acc ++ [m]) (ρ' := ρ6) S9
                    exact ⟨acc ++ [m], ρ6, G8, fq, S10, ((((T5.trans T6).trans T7).trans T8).trans T9).sub h10, by rw [List.length_append]; simp; omega, len5 (acc' := acc ++ [m]) S9, hgo⟩
    · rw [if_neg hsz] at P; exact P.elim
end
end DL

set_option Elab.async false
set_option linter.all false
set_option maxRecDepth 100000
/-! DLf: calls of defs, a def by its body. -/
namespace DL
open PySem PySem.Spec PyProof.Rows L2

inductive FOut where
  | ok (r : M) (fin : List M) | exc (x : Xv) (fin : List M) | bad
section
variable {K : PySem.W.Frag} {W : WX} {b : Bool} {τ σ : St} {τm ρ : Rho} {H G H1 G1 : Hp} {fp fp1 : List Addr} {rf : List Nat}
def PostF (K : PySem.W.Frag) (vs : List V) (H G : Hp) (fp : List Addr) (Q : VK) (E : XK) : FOut → Prop
  | .ok r fin => ∀ v H' G' fp', Tr H G fp H' G' fp' → SA K (some v :: vs.map some) (some r :: fin.map some) H' G' fp' → Q v H'
  | .exc x fin => ∀ cls d H' G' fp', Tr H G fp H' G' fp' → SA K (vs.map some) (fin.map some) H' G' fp' → RX K G' x cls d → E cls d H'
  | .bad => False
/-- a def's promise by its mirror -/
def SpD (K : PySem.W.Frag) (n : Nat) (F : List M → FOut) : Sp := fun vs H Q E => ∃ ms G fp, vs.length = n ∧ SA K (vs.map some) (ms.map some) H G fp ∧ PostF K vs H G fp Q E (F ms)

def prep1 (md : Bool) (a : Vl) (ρ : Rho) : Option (M × Rho) := if md = true then (match a with
    | .val m => some (m, ρ)
    | .plc i [] => (match ρ[i]? with
      | some (some c) => some (c, ρ.set i none)
      | _ => none)
    | .plc _ (_ :: _) => none)
  else (match rdVl ρ a with
    | some (.scr ns) => some (.scr ns, ρ)
    | _ => match toDat a ρ with
      | some (d, ρ1) => some (.dat d, ρ1)
      | none => none)
def prep : List Bool → List Vl → Rho → Option (List M × Rho)
  | [], [], ρ => some ([], ρ)
  | md :: mds, a :: as, ρ => match prep mds as ρ with
    | none => none
    | some (ms, ρ1) => match prep1 md a ρ1 with
      | none => none
      | some (m, ρ2) => some (m :: ms, ρ2)
  | _, _, _ => none
def putB : List Bool → List Vl → List M → Rho → Rho
  | true :: mds, .plc i [] :: as, m :: fin, ρ => putB mds as fin (ρ.set i (some m))
  | _ :: mds, _ :: as, _ :: fin, ρ => putB mds as fin ρ
  | _, _, _, ρ => ρ
theorem SA.push' {v : V} {m : M} {fr fc : List Addr} {σ1 : St} {ρ1 : Rho} (S : SA K σ ρ H G fp) (r : RM K G H v m fr) (f : ∀ a ∈ fr, G a = none) (n : fr.Nodup) (d : ∀ a ∈ fr, a ∉ fp) : SA K (some v :: σ) (some m :: ρ) H G (fr ++ fp) := S.push r f n d
theorem SA.grow {fq : List Addr} {σ1 : St} {ρ1 : Rho} (C : SA K σ1 ρ1 H G fq) (T : Tr H G fp H G1 fp1) (hd : ∀ a ∈ fq, a ∉ fp) (es : Ext G1 H) : SA K σ1 ρ1 H G1 fq :=
  C.at T.g es (fun a ha => by
    cases q : G1 a with
    | none => rfl
    | some o =>
      rcases T.n a o q with z | z | z
      · rw [C.free a ha] at z; cases z
      · exact (hd a ha z).elim
      · obtain ⟨o', e⟩ := C.tracked a ha
        rw [e] at z; cases z) fun _ _ => rfl
theorem prep1_ok {s : St} {m : Rho} {v : V} {a : Vl} {md : Bool} {c : M} {ρ1 : Rho} {cs : List V} {ms : List M} {fA : List Addr} (e1 : s.length = m.length) (hl : τ.length = τm.length) (C : SA K (cs.map some) (ms.map some) H G fA)
    (S : SA K (some v :: (s ++ (τ ++ σ))) (a.pm :: (m ++ (τm ++ ρ))) H G fp) (hd : ∀ x ∈ fA, x ∉ fp) (p : PF σ H v a) (h : prep1 md a ρ = some (c, ρ1)) :
    ∃ G' fA' fB', SA K ((v :: cs).map some) ((c :: ms).map some) H G' fA' ∧ SA K (s ++ (τ ++ σ)) (m ++ (τm ++ ρ1)) H G' fB' ∧ (∀ x ∈ fA', x ∉ fB') ∧ Tr H G (fA ++ fp) H G' (fA' ++ fB') := by
  have sub1 : ∀ {f1 f2 g1 g2 : List Addr}, (∀ x ∈ g1, x ∈ f1 ∨ x ∈ f2) → (∀ x ∈ g2, x ∈ f2) → Tr H G (f1 ++ f2) H G (g1 ++ g2) := fun {f1 f2 g1 g2} h1 h2 => (Tr.refl H G (f1 ++ f2)).sub fun x hx => by
    rcases List.mem_append.mp hx with z | z
    · exact List.mem_append.mpr (h1 x z)
    · exact List.mem_append.mpr (.inr (h2 x z))
  unfold prep1 at h
  by_cases hmd : md = true
  · rw [if_pos hmd] at h
    cases a with
    | val m1 =>
      cases h
      obtain ⟨fr, fq, r, q, S1⟩ := S.pop
      have nd := q.nodup_iff.mpr S.nd
      rw [List.nodup_append] at nd
      have inp : ∀ x ∈ fr, x ∈ fp := fun x hx => q.mem_iff.mp (List.mem_append_left _ hx)
      refine ⟨G, fr ++ fA, fq, C.push r (fun x hx => S.free x (inp x hx)) nd.1 (fun x hx hy => hd x hy (inp x hx)), S1, fun x hx hy => ?_, sub1 (fun x hx => ?_) (fun x hx => q.mem_iff.mp (List.mem_append_right _ hx))⟩
      · rcases List.mem_append.mp hx with z | z
        · exact nd.2.2 x z x hy rfl
        · exact hd x z (q.mem_iff.mp (List.mem_append_right _ hy))
      · rcases List.mem_append.mp hx with z | z
        · exact .inr (inp x z)
        · exact .inl z
    | plc i π =>
      cases π with
      | cons s π => cases h
      | nil =>
        simp only at h
        cases hq : ρ[i]? with
        | none => rw [hq] at h; cases h
        | some oc =>
          cases oc with
          | none => rw [hq] at h; cases h
          | some c1 =>
            rw [hq] at h
            cases h
            obtain ⟨f1, S1, h1⟩ := SA.drop (v := some v) (m := none) S
            have hi : (m ++ (τm ++ ρ))[m.length + (τm.length + i)]? = some (some c) := by
              rw [List.getElem?_append_right (Nat.le_add_right _ _), Nat.add_sub_cancel_left, List.getElem?_append_right (Nat.le_add_right _ _), Nat.add_sub_cancel_left]; exact hq
            obtain ⟨v', fa, fb, z1, z2, z3, z4⟩ := S1.out hi
            obtain ⟨v0, p1, p2⟩ := p
            cases p2
            rw [← e1, ← hl, List.getElem?_append_right (Nat.le_add_right _ _), Nat.add_sub_cancel_left, List.getElem?_append_right (Nat.le_add_right _ _), Nat.add_sub_cancel_left, p1] at z1
            cases z1
            rw [List.set_append_right _ _ (Nat.le_add_right _ _), Nat.add_sub_cancel_left, List.set_append_right _ _ (Nat.le_add_right _ _), Nat.add_sub_cancel_left] at z4
            have nd := z3.nodup_iff.mpr S1.nd
            rw [List.nodup_append] at nd
            have inp : ∀ x ∈ fa, x ∈ fp := fun x hx => h1 x (z3.mem_iff.mp (List.mem_append_left _ hx))
            refine ⟨G, fa ++ fA, fb, C.push z2 (fun x hx => S.free x (inp x hx)) nd.1 (fun x hx hy => hd x hy (inp x hx)), z4, fun x hx hy => ?_, sub1 (fun x hx => ?_) (fun x hx => h1 x (z3.mem_iff.mp (List.mem_append_right _ hx)))⟩
            · rcases List.mem_append.mp hx with z | z
              · exact nd.2.2 x z x hy rfl
              · exact hd x z (h1 x (z3.mem_iff.mp (List.mem_append_right _ hy)))
            · rcases List.mem_append.mp hx with z | z
              · exact .inr (inp x z)
              · exact .inl z
  · rw [if_neg hmd] at h
    have dat : ∀ {d : PyData}, toDat a ρ = some (d, ρ1) → c = .dat d → ∃ G' fA' fB', SA K ((v :: cs).map some) ((c :: ms).map some) H G' fA' ∧ SA K (s ++ (τ ++ σ)) (m ++ (τm ++ ρ1)) H G' fB' ∧ (∀ x ∈ fA', x ∉ fB') ∧ Tr H G (fA ++ fp) H G' (fA' ++ fB') := by
      intro d hv hc
      subst hc
      obtain ⟨G', fB, S1, T1⟩ := SA.toDat (τ := s ++ τ) (τm := m ++ τm) (v := v) (a := a) (by rw [List.append_assoc, List.append_assoc]; exact S) (by simp [e1, hl]) p hv
      rw [List.append_assoc, List.append_assoc] at S1
      obtain ⟨dv, S2⟩ := SA.popD S1
      have C1 := C.grow T1 hd S1.same
      refine ⟨G', fA, fB, C1.pushD dv, S2, fun x hx hy => ?_, T1.wide (fc := fA) (fun x => ?_) (fun x hx => ?_)⟩
      · rcases T1.f x hy with z | z
        · exact hd x hx z
        · obtain ⟨o, e⟩ := C.tracked x hx
          rw [e] at z; cases z
      · rw [List.mem_append]; exact Or.comm
      · rcases List.mem_append.mp hx with z | z
        · exact .inr z
        · exact .inl z
    have gen : (match toDat a ρ with | some (d, ρ1) => some (M.dat d, ρ1) | none => none) = some (c, ρ1) → ∃ G' fA' fB', SA K ((v :: cs).map some) ((c :: ms).map some) H G' fA' ∧ SA K (s ++ (τ ++ σ)) (m ++ (τm ++ ρ1)) H G' fB' ∧ (∀ x ∈ fA', x ∉ fB') ∧ Tr H G (fA ++ fp) H G' (fA' ++ fB') := by
      intro h
      cases hv : toDat a ρ with
      | none => rw [hv] at h; cases h
      | some q =>
        obtain ⟨d, ρ2⟩ := q
        rw [hv] at h
        cases h
        exact dat hv rfl
    cases hr : rdVl ρ a with
    | none => simp only [hr] at h; exact gen h
    | some c1 =>
      cases c1 with
      | scr ns =>
        simp only [hr] at h
        cases h
        obtain ⟨fx, r⟩ := SA.rd (s := some v :: s) (m := a.pm :: m) (j := 0) S (by simp [e1]) hl rfl rfl p hr
        obtain ⟨f1, S1, h1⟩ := SA.drop (v := some v) (m := a.pm) S
        cases r with
        | scr hs =>
          refine ⟨G, fA, f1, C.push (.scr hs) (fun _ q => nomatch q) List.nodup_nil (fun _ q => nomatch q), S1, fun x hx hy => hd x hx (h1 x hy), sub1 (fun x hx => .inl hx) h1⟩
      | _ => simp only [hr] at h; exact gen h
theorem prep_ok (hl : τ.length = τm.length) : ∀ {mds : List Bool} {as : List Vl} {vs : List V} {ms : List M} {ρ1 : Rho} {s : St} {m : Rho}, s.length = m.length → PFs σ H vs as →
    SA K (vs.reverse.map some ++ (s ++ (τ ++ σ))) (as.reverse.map Vl.pm ++ (m ++ (τm ++ ρ))) H G fp → prep mds as ρ = some (ms, ρ1) →
    ∃ G' fA fB, SA K (vs.map some) (ms.map some) H G' fA ∧ SA K (s ++ (τ ++ σ)) (m ++ (τm ++ ρ1)) H G' fB ∧ (∀ x ∈ fA, x ∉ fB) ∧ Tr H G fp H G' (fA ++ fB)
  | [], [], _, ms, ρ1, s, m, e, .nil, S, h => by
    unfold prep at h
    cases h
    exact ⟨G, [], fp, SA.mk S.same (fun _ q => nomatch q) List.nodup_nil ⟨[], ROs.nil, List.Perm.refl _⟩, S, (fun _ q => nomatch q), Tr.refl H G fp⟩
  | [], a :: as, _, _, _, _, _, _, .cons _ _, _, h => by unfold prep at h; cases h
  | md :: mds, [], _, _, _, _, _, _, .nil, _, h => by unfold prep at h; cases h
  | md :: mds, a :: as, v :: vs, ms, ρ1, s, m, e, .cons p ps, S, h => by
    unfold prep at h
    cases h1 : prep mds as ρ with
    | none => rw [h1] at h; cases h
    | some q =>
      obtain ⟨ms', ρ2⟩ := q
      rw [h1] at h
      simp only at h
      cases h2 : prep1 md a ρ2 with
      | none => rw [h2] at h; cases h
      | some q =>
        obtain ⟨c, ρ3⟩ := q
        rw [h2] at h
        cases h
        have S' : SA K (vs.reverse.map some ++ ((some v :: s) ++ (τ ++ σ))) (as.reverse.map Vl.pm ++ ((a.pm :: m) ++ (τm ++ ρ))) H G fp := by
          simpa only [List.reverse_cons, List.map_append, List.map_cons, List.map_nil, List.append_assoc, List.cons_append, List.nil_append] using S
        obtain ⟨G1, fA, fB, C1, S1, d1, T1⟩ := prep_ok hl (s := some v :: s) (m := a.pm :: m) (by simp [e]) ps S' h1
        obtain ⟨G2, fA2, fB2, C2, S2, d2, T2⟩ := prep1_ok e hl C1 S1 d1 p h2
        exact ⟨G2, fA2, fB2, C2, S2, d2, T1.trans T2⟩
theorem SA.swap2 {x y : Option V} {m n : Option M} (S : SA K (x :: y :: σ) (m :: n :: ρ) H G fp) : SA K (y :: x :: σ) (n :: m :: ρ) H G fp := by
  obtain ⟨f0, h, p⟩ := S.sl
  refine ⟨S.same, S.free, S.nd, ?_⟩
  cases h with
  | no h =>
    cases h with
    | no h => exact ⟨_, .no (.no h), p⟩
    | so r h => exact ⟨_, .so r (.no h), p⟩
  | so r1 h =>
    cases h with
    | no h => exact ⟨_, .no (.so r1 h), p⟩
    | so r2 h =>
      rename_i fa fb fc
      refine ⟨_, .so r2 (.so r1 h), List.Perm.trans ?_ p⟩
      rw [← List.append_assoc, ← List.append_assoc]
      exact List.Perm.append_right _ List.perm_append_comm
theorem put_ok {v : V} {r : M} (hl : τ.length = τm.length) : ∀ {mds : List Bool} {as : List Vl} {vs : List V} {fin : List M} {ρ : Rho} {fp : List Addr}, PFs σ H1 vs as → vs.length = fin.length →
    SA K (some v :: (vs.map some ++ (τ ++ σ))) (some r :: (fin.map some ++ (τm ++ ρ))) H G fp → mds.length = as.length →
    ∃ fq, SA K (some v :: (τ ++ σ)) (some r :: (τm ++ putB mds as fin ρ)) H G fq ∧ ∀ a ∈ fq, a ∈ fp
  | _, [], _, [], ρ, fp, .nil, _, S, _ => by
    refine ⟨fp, ?_, fun _ h => h⟩
    have e : ∀ mds, putB mds [] [] ρ = ρ := fun mds => by
      cases mds with
      | nil => rfl
      | cons md mds => cases md <;> rfl
    rw [e]
    exact S
  | _, a :: as, _, [], _, _, .cons _ _, e, _, _ => by simp at e
  | _, [], _, m :: fin, _, _, .nil, e, _, _ => by simp at e
  | [], a :: as, _, _, _, _, .cons _ _, _, _, e => by simp at e
  | md :: mds, a :: as, v1 :: vs, m1 :: fin, ρ, fp, .cons p ps, e, S, e2 => by
    have S1 : SA K (some v1 :: some v :: (vs.map some ++ (τ ++ σ))) (some m1 :: some r :: (fin.map some ++ (τm ++ ρ))) H G fp := SA.swap2 S
    have skip : putB (md :: mds) (a :: as) (m1 :: fin) ρ = putB mds as fin ρ → ∃ fq, SA K (some v :: (τ ++ σ)) (some r :: (τm ++ putB (md :: mds) (a :: as) (m1 :: fin) ρ)) H G fq ∧ ∀ a ∈ fq, a ∈ fp := by
      intro hp
      obtain ⟨fq, S2, h2⟩ := SA.drop (v := some v1) (m := some m1) S1
      obtain ⟨fr, S3, h3⟩ := put_ok hl ps (by simpa using e) S2 (by simpa using e2)
      rw [hp]
      exact ⟨fr, S3, fun x hx => h2 x (h3 x hx)⟩
    cases md with
    | false => exact skip (by cases a <;> rfl)
    | true =>
      cases a with
      | val m => exact skip rfl
      | plc i π =>
        cases π with
        | cons s π => exact skip rfl
        | nil =>
          obtain ⟨v0, p1, p2⟩ := p
          cases p2
          have hlen := S.length
          simp only [List.length_cons, List.length_append, List.length_map] at hlen
          have hvf : vs.length = fin.length := by simpa using e
          have hi : i < σ.length := (List.getElem?_eq_some_iff.mp p1).1
          have hiρ : i < ρ.length := by simp only [List.length_cons] at e; omega
          have hf : ∀ (x : Rho), (fin.map some ++ (τm ++ x)) = fin.map some ++ (τm ++ x) := fun _ => rfl
          obtain ⟨fq, S2, h2⟩ := SA.store (i := 1 + ((fin.map some).length + (τm.length + i))) (σ := some v :: (vs.map some ++ (τ ++ σ))) (ρ := some r :: (fin.map some ++ (τm ++ ρ))) S1 (by
            simp only [List.length_cons, List.length_append]; omega)
          have g1 : (some r :: (fin.map some ++ (τm ++ ρ))).set (1 + ((fin.map some).length + (τm.length + i))) (some m1) = some r :: (fin.map some ++ (τm ++ ρ.set i (some m1))) := by
            rw [Nat.add_comm 1]
            show some r :: (fin.map some ++ (τm ++ ρ)).set ((fin.map some).length + (τm.length + i)) (some m1) = _
            rw [List.set_append_right _ _ (Nat.le_add_right _ _), Nat.add_sub_cancel_left, List.set_append_right _ _ (Nat.le_add_right _ _), Nat.add_sub_cancel_left]
          have g2 : (some v :: (vs.map some ++ (τ ++ σ))).set (1 + ((fin.map some).length + (τm.length + i))) (some v1) = some v :: (vs.map some ++ (τ ++ σ)) := by
            have e3 : (fin.map some).length = (vs.map some).length := by rw [List.length_map, List.length_map, hvf]
            rw [Nat.add_comm 1, e3, ← hl]
            show some v :: (vs.map some ++ (τ ++ σ)).set ((vs.map some).length + (τ.length + i)) (some v1) = _
            rw [List.set_append_right _ _ (Nat.le_add_right _ _), Nat.add_sub_cancel_left, List.set_append_right _ _ (Nat.le_add_right _ _), Nat.add_sub_cancel_left, set_self p1]
          rw [g1, g2] at S2
          obtain ⟨fr, S3, h3⟩ := put_ok hl ps hvf S2 (by simpa using e2)
          exact ⟨fr, S3, fun x hx => h2 x (h3 x hx)⟩
theorem ROs.append : ∀ {σ1 : St} {ρ1 : Rho} {f1 : List Addr} {σ2 : St} {ρ2 : Rho} {f2 : List Addr}, ROs K G H σ1 ρ1 f1 → ROs K G H σ2 ρ2 f2 → ROs K G H (σ1 ++ σ2) (ρ1 ++ ρ2) (f1 ++ f2)
  | _, _, _, _, _, _, .nil, h => h
  | _, _, _, _, _, _, .no t, h => .no (ROs.append t h)
  | _, _, _, _, _, _, .so r t, h => by rw [List.append_assoc]; exact .so r (ROs.append t h)
theorem SA.append {σ1 σ2 : St} {ρ1 ρ2 : Rho} {f1 f2 : List Addr} (S1 : SA K σ1 ρ1 H G f1) (S2 : SA K σ2 ρ2 H G f2) (d : ∀ a ∈ f1, a ∉ f2) : SA K (σ1 ++ σ2) (ρ1 ++ ρ2) H G (f1 ++ f2) := by
  obtain ⟨g1, h1, p1⟩ := S1.sl
  obtain ⟨g2, h2, p2⟩ := S2.sl
  refine ⟨S1.same, fun a ha => (List.mem_append.mp ha).elim (S1.free a) (S2.free a), ?_, _, h1.append h2, List.Perm.append p1 p2⟩
  rw [List.nodup_append]
  exact ⟨S1.nd, S2.nd, fun a ha b hb e => d a ha (e ▸ hb)⟩
def cCall (F : List M → FOut) (mds : List Bool) (fr : Rho → Out (List Vl)) : Rho → Out Vl := fun ρ => match fr ρ with
  | .ok as ρ1 => if mds.length = as.length then (match prep mds as ρ1 with
    | some (ms, ρ2) => match F ms with
      | .ok r fin => if fin.length = as.length then .ok (.val r) (putB mds as fin ρ2) else .bad
      | .exc x fin => if fin.length = as.length then .exc x (putB mds as fin ρ2) else .bad
      | .bad => .bad
    | none => .bad) else .bad
  | .exc x ρ1 => .exc x ρ1
  | .bad => .bad
theorem ROs.dats : ∀ {vs : List V} {ms : List M} {f : List Addr}, ROs K G H (vs.map some) (ms.map some) f → (∀ m ∈ ms, ∃ d, m = .dat d ∨ ∃ ns, m = .scr ns) → f = []
  | [], [], _, .nil, _ => rfl
  | v :: vs, m :: ms, _, .so r t, h => by
    obtain ⟨d, e⟩ := h m List.mem_cons_self
    have := ROs.dats t fun m hm => h m (List.mem_cons_of_mem _ hm)
    rcases e with rfl | ⟨ns, rfl⟩
    · cases r; rw [this]; rfl
    · cases r; rw [this]; rfl
theorem prep_flat : ∀ {mds : List Bool} {as : List Vl} {ρ ρ1 : Rho} {ms : List M}, mds.all (!·) = true → prep mds as ρ = some (ms, ρ1) → ∀ m ∈ ms, ∃ d, m = .dat d ∨ ∃ ns, m = .scr ns
  | [], [], _, _, ms, _, h, m, hm => by unfold prep at h; cases h; cases hm
  | [], _ :: _, _, _, _, _, h, _, _ => by unfold prep at h; cases h
  | _ :: _, [], _, _, _, _, h, _, _ => by unfold prep at h; cases h
  | md :: mds, a :: as, ρ, ρ1, ms, hm, h, m, hmem => by
    simp only [List.all_cons, Bool.and_eq_true] at hm
    unfold prep at h
    cases h1 : prep mds as ρ with
    | none => rw [h1] at h; cases h
    | some q =>
      obtain ⟨ms', ρ2⟩ := q
      rw [h1] at h
      simp only at h
      cases h2 : prep1 md a ρ2 with
      | none => rw [h2] at h; cases h
      | some q =>
        obtain ⟨c, ρ3⟩ := q
        rw [h2] at h
        cases h
        rcases List.mem_cons.mp hmem with rfl | hmem
        · unfold prep1 at h2
          have hmd : md = false := by simpa using hm.1
          subst hmd
          simp only [Bool.false_eq_true, if_false] at h2
          cases hr : rdVl ρ2 a with
          | none =>
            simp only [hr] at h2
            cases hv : toDat a ρ2 with
            | none => rw [hv] at h2; cases h2
            | some q => rw [hv] at h2; cases h2; exact ⟨_, .inl rfl⟩
          | some c1 =>
            cases c1 with
            | scr ns => simp only [hr] at h2; cases h2; exact ⟨.none, .inr ⟨ns, rfl⟩⟩
            | _ =>
              simp only [hr] at h2
              cases hv : toDat a ρ2 with
              | none => rw [hv] at h2; cases h2
              | some q => rw [hv] at h2; cases h2; exact ⟨_, .inl rfl⟩
        · exact prep_flat hm.2 h1 m hmem
theorem ev_call {ta : TA} {te : TE} {fr : Rho → Out (List Vl)} {F : List M → FOut} {n : Nat} {mds : List Bool} (ha : EvA K W b ta fr) (hn : mds.length = n)
    (ht : ∀ σ H Q, ta σ H (fun vs H1 => SpD K n F vs H1 Q fun c d H' => W c d σ H') → te σ H Q) : EvE K W (b && mds.all (!·)) te (cCall F mds fr) := by
  intro τ σ τm ρ H G fp Q hl S P
  refine ht σ H Q (ha τ σ τm ρ H G fp _ hl S ?_)
  unfold cCall at P
  cases hf : fr ρ with
  | bad => rw [hf] at P; exact P
  | exc x ρ1 => rw [hf] at P; exact fun cls d H' G' fp' T' S' r => P cls d H' G' fp' T' S' r
  | ok as ρ1 =>
    rw [hf] at P
    simp only at P
    intro vs H1 G1 fp1 T1 e1 S1 ps
    by_cases hm : mds.length = as.length
    · rw [if_pos hm] at P
      cases hp : prep mds as ρ1 with
      | none => rw [hp] at P; exact P.elim
      | some q =>
        obtain ⟨ms, ρ2⟩ := q
        rw [hp] at P
        simp only at P
        obtain ⟨G2, fA, fB, C, SB, dis, T2⟩ := prep_ok (s := []) (m := []) hl rfl ps S1 hp
        refine ⟨ms, G2, fA, by rw [ps.length, ← hm, hn], C, ?_⟩
        have mainAt : ∀ {H' G' : Hp} {fA' : List Addr}, Tr H1 G2 fA H' G' fA' → Ext G' H' → SA K (τ ++ σ) (τm ++ ρ2) H' G' fB := fun {H' G' fA'} T es => by
          refine SB.at T.g es (fun a ha => ?_) (fun a ha => ?_)
          · cases q : G' a with
            | none => rfl
            | some o =>
              rcases T.n a o q with z | z | z
              · rw [SB.free a ha] at z; cases z
              · exact (dis a z ha).elim
              · obtain ⟨o', e⟩ := SB.tracked a ha
                rw [e] at z; cases z
          · obtain ⟨o, e⟩ := SB.tracked a ha
            rw [e, T.k a o e fun z => dis a z ha]
        have disj : ∀ {H' G' : Hp} {fA' : List Addr}, Tr H1 G2 fA H' G' fA' → ∀ a ∈ fA', a ∉ fB := fun {H' G' fA'} T a ha hb => by
          rcases T.f a ha with z | z
          · exact dis a z hb
          · obtain ⟨o, e⟩ := SB.tracked a hb
            rw [e] at z; cases z
        have wid : ∀ {H' G' : Hp} {fA' fq : List Addr}, Tr H1 G2 fA H' G' fA' → (∀ a ∈ fq, a ∈ fA' ++ fB) → Tr H G fp H' G' fq := fun {H' G' fA' fq} T hq => by
          have T3 : Tr H1 G2 (fA ++ fB) H' G' fq := T.wide (fc := fB) (fun x => List.mem_append) (fun x hx => List.mem_append.mp (hq x hx))
          exact (T1.trans T2).trans T3
        cases hF : F ms with
        | bad => rw [hF] at P; exact P
        | ok r fin =>
          rw [hF] at P
          simp only at P
          by_cases hfl : fin.length = as.length
          · rw [if_pos hfl] at P
            intro v H' G' fA' T3 S3
            have SM := mainAt T3 S3.same
            have SX : SA K (some v :: (vs.map some ++ (τ ++ σ))) (some r :: (fin.map some ++ (τm ++ ρ2))) H' G' (fA' ++ fB) := S3.append SM (disj T3)
            obtain ⟨fq, S4, h4⟩ := put_ok hl ps (by rw [ps.length, hfl]) SX hm
            refine P v H' G' fq (wid T3 h4) (fun z => ?_) S4 trivial
            simp only [Bool.and_eq_true] at z
            have fe : fA = [] := by
              obtain ⟨f0, q0, p0⟩ := C.sl
              have := ROs.dats q0 (prep_flat z.2 hp)
              subst this
              exact List.eq_nil_of_length_eq_zero (by rw [← p0.length_eq]; rfl)
            refine (e1 z.1).trans fun a o q => T3.k a o q ?_
            rw [fe]; exact fun w => nomatch w
          · rw [if_neg hfl] at P; exact P.elim
        | exc x fin =>
          rw [hF] at P
          simp only at P
          by_cases hfl : fin.length = as.length
          · rw [if_pos hfl] at P
            intro cls d H' G' fA' T3 S3 rx
            have SM := mainAt T3 S3.same
            have SX : SA K (some .non :: (vs.map some ++ (τ ++ σ))) (some (.dat .none) :: (fin.map some ++ (τm ++ ρ2))) H' G' (fA' ++ fB) := (S3.append SM (disj T3)).pushD .non
            obtain ⟨fq, S4, h4⟩ := put_ok hl ps (by rw [ps.length, hfl]) SX hm
            obtain ⟨_, S5⟩ := SA.popD S4
            exact P cls d H' G' fq (wid T3 h4) S5 rx
          · rw [if_neg hfl] at P; exact P.elim
    · rw [if_neg hm] at P; exact P.elim

/-! ### a def by its body -/
def flat : M → Bool
  | .dat _ => true
  | .scr _ => true
  | _ => false
def okArgs (rf : List Nat) (ms : List M) : Bool := (List.range ms.length).all fun i => decide (i ∈ rf) || (match ms[i]? with
  | some m => flat m
  | none => false)
def fins (rf : List Nat) (ρ : Rho) : Nat → List M → Option (List M)
  | _, [] => some []
  | i, m :: ms => match fins rf ρ (i + 1) ms with
    | none => none
    | some r => if i ∈ rf then (match ρ[i]? with
      | some (some c) => some (c :: r)
      | _ => none) else some (m :: r)
def fnOut (N n : Nat) (rf : List Nat) (g : Rho → Fl) (ms : List M) : FOut := if ms.length = n ∧ okArgs rf ms = true then (match g (ms.map some ++ List.replicate (N - n) none) with
    | .nx ρ => match fins rf ρ 0 ms with
      | some fin => .ok (.dat .none) fin
      | none => .bad
    | .rt r ρ => match fins rf ρ 0 ms with
      | some fin => .ok r fin
      | none => .bad
    | .exc x ρ => match fins rf ρ 0 ms with
      | some fin => .exc x fin
      | none => .bad
    | _ => .bad) else .bad
theorem ROs.nones : ∀ n : Nat, ROs K G H (List.replicate n none) (List.replicate n none) []
  | 0 => .nil
  | n + 1 => .no (ROs.nones n)
/-- the parameters gathered from the slots -/
theorem gather {ms0 : List M} {G0 H0 : Hp} {f0 : List Addr} {vs0 : List V} (C : SA K (vs0.map some) (ms0.map some) H0 G0 f0) (ag : ∀ i ∈ rf, ∀ v, vs0[i]? = some v → σ[i]? = some (some v)) (eg : Ext G0 G) (fl : ∀ i m, ms0[i]? = some m → i ∉ rf → flat m = true) :
    ∀ (ms : List M) (vs : List V) (i : Nat) (fin : List M) (v : V) (r : M) (fp : List Addr), ms0.drop i = ms → vs0.drop i = vs → fins rf ρ i ms = some fin → SA K (some v :: σ) (some r :: ρ) H G fp →
      ∃ fq ρ', SA K (some v :: (vs.map some ++ σ)) (some r :: (fin.map some ++ ρ')) H G fq ∧ (∀ a ∈ fq, a ∈ fp) ∧ fin.length = vs.length ∧ (∀ j, j < i → ρ'[j]? = ρ[j]?) ∧ ρ'.length = ρ.length
  | [], vs, i, fin, v, r, fp, e1, e2, h, S => by
    unfold fins at h
    cases h
    have hl := C.length
    simp only [List.length_map] at hl
    have : vs = [] := by
      rw [← e2]
      exact List.drop_eq_nil_of_le (by rw [hl]; exact List.drop_eq_nil_iff.mp e1)
    subst this
    exact ⟨fp, ρ, S, fun _ h => h, rfl, fun _ _ => rfl, rfl⟩
  | m :: ms, vs, i, fin, v, r, fp, e1, e2, h, S => by
    have hl := C.length
    simp only [List.length_map] at hl
    have hi : i < ms0.length := by
      by_cases z : i < ms0.length
      · exact z
      · rw [List.drop_eq_nil_of_le (by omega)] at e1; cases e1
    have hv : i < vs0.length := by omega
    have em : ms0[i]? = some m := by
      rw [← List.head?_drop, e1]; rfl
    have e1' : ms0.drop (i + 1) = ms := by rw [← List.tail_drop, e1]; rfl
    have ev : vs0[i]? = some vs0[i] := List.getElem?_eq_getElem hv
    have e2v : vs = vs0[i] :: vs0.drop (i + 1) := by rw [← e2]; exact List.drop_eq_getElem_cons hv
    unfold fins at h
    cases hf : fins rf ρ (i + 1) ms with
    | none => rw [hf] at h; cases h
    | some fin' =>
      rw [hf] at h
      simp only at h
      obtain ⟨fq, ρ', S1, h1, l1, k1, l2⟩ := gather C ag eg fl ms (vs0.drop (i + 1)) (i + 1) fin' v r fp e1' rfl hf S
      subst e2v
      by_cases hr : i ∈ rf
      · rw [if_pos hr] at h
        cases hq : ρ[i]? with
        | none => rw [hq] at h; cases h
        | some oc =>
          cases oc with
          | none => rw [hq] at h; cases h
          | some c =>
            rw [hq] at h
            cases h
            have hq' : ρ'[i]? = some (some c) := by rw [k1 i (Nat.lt_succ_self i)]; exact hq
            have hj : (some r :: (fin'.map some ++ ρ'))[1 + ((fin'.map some).length + i)]? = some (some c) := by
              rw [Nat.add_comm 1]
              show (fin'.map some ++ ρ')[(fin'.map some).length + i]? = _
              rw [List.getElem?_append_right (Nat.le_add_right _ _), Nat.add_sub_cancel_left]; exact hq'
            obtain ⟨v', fa, fb, z1, z2, z3, z4⟩ := S1.out hj
            have lfv : (fin'.map some).length = ((vs0.drop (i + 1)).map some).length := by rw [List.length_map, List.length_map, l1]
            have z1' : v' = vs0[i] := by
              rw [Nat.add_comm 1, lfv] at z1
              have z1 : ((vs0.drop (i + 1)).map some ++ σ)[((vs0.drop (i + 1)).map some).length + i]? = some (some v') := z1
              rw [List.getElem?_append_right (Nat.le_add_right _ _), Nat.add_sub_cancel_left, ag i hr _ ev] at z1
              cases z1; rfl
            subst z1'
            have nd := z3.nodup_iff.mpr S1.nd
            rw [List.nodup_append] at nd
            have S2 := z4.push z2 (fun a ha => S1.free a (z3.mem_iff.mp (List.mem_append_left _ ha))) nd.1 (fun a ha hb => nd.2.2 a ha a hb rfl)
            have g1 : (some r :: (fin'.map some ++ ρ')).set (1 + ((fin'.map some).length + i)) none = some r :: (fin'.map some ++ ρ'.set i none) := by
              rw [Nat.add_comm 1]
              show some r :: (fin'.map some ++ ρ').set ((fin'.map some).length + i) none = _
              rw [List.set_append_right _ _ (Nat.le_add_right _ _), Nat.add_sub_cancel_left]
            rw [g1] at S2
            refine ⟨_, ρ'.set i none, SA.swap2 S2, fun a ha => h1 a (z3.mem_iff.mp ha), by rw [List.length_cons, List.length_cons, l1], fun j hj => ?_, by rw [List.length_set]; exact l2⟩
            rw [List.getElem?_set_ne (by omega)]
            exact k1 j (by omega)
      · rw [if_neg hr] at h
        cases h
        have fm := fl i m em hr
        obtain ⟨f00, q0, p0⟩ := C.sl
        obtain ⟨v', fa, fb, z1, z2, _, _⟩ := q0.out (i := i) (m := m) (by rw [List.getElem?_map, em]; rfl)
        rw [List.getElem?_map, ev] at z1
        cases z1
        have rm : RM K G H vs0[i] m [] := by
          generalize vs0[i] = w at z2
          cases m with
          | dat d => cases z2 with | dat z2 => exact .dat (Ext.dp eg d z2)
          | scr ns =>
            cases z2 with
            | scr z2 => exact .scr (Ext.l eg z2)
          | _ => cases fm
        refine ⟨fq, ρ', SA.swap2 (S1.push rm (fun _ q => nomatch q) List.nodup_nil (fun _ q => nomatch q)), h1, by rw [List.length_cons, List.length_cons, l1], fun j hj => k1 j (by omega), l2⟩
theorem fn_body {t : TS} {g : Rho → Fl} {N : List Str} {n : Nat} {ms : List M} {vs : List V} {Q : VK} {E : XK} (hg : EvS K (fun c d _ H' => E c d H') rf t g) (hn : vs.length = n) (hrf : ∀ i ∈ rf, i < n)
    (C : SA K (vs.map some) (ms.map some) H G fp) (P : PostF K vs H G fp Q E (fnOut N.length n rf g ms)) : t { nx := fun _ H' => Q .non H', rt := Q } (L2.start N vs) H := by
  have hl := C.length
  simp only [List.length_map] at hl
  unfold fnOut at P
  by_cases hok : ms.length = n ∧ okArgs rf ms = true
  · rw [if_pos hok] at P
    have S0 : SA K (L2.start N vs) (ms.map some ++ List.replicate (N.length - n) none) H G fp := by
      obtain ⟨f0, q0, p0⟩ := C.sl
      unfold L2.start
      rw [hn]
      refine ⟨C.same, C.free, C.nd, f0, ?_, p0⟩
      have := q0.append (ROs.nones (K := K) (G := G) (H := H) (N.length - n))
      rwa [List.append_nil] at this
    have fl : ∀ i m, ms[i]? = some m → i ∉ rf → flat m = true := fun i m em hi => by
      have hlt : i < ms.length := (List.getElem?_eq_some_iff.mp em).1
      have := List.all_eq_true.mp hok.2 i (List.mem_range.mpr hlt)
      rw [em] at this
      simpa [hi] using this
    have fin : ∀ {σ' : St} {ρ' : Rho} {H' G' : Hp} {fp' : List Addr} {v : V} {r : M} {fin : List M}, Tr H G fp H' G' fp' → SA K (some v :: σ') (some r :: ρ') H' G' fp' → Kp rf (L2.start N vs) σ' → fins rf ρ' 0 ms = some fin →
        ∃ fq, SA K (some v :: vs.map some) (some r :: fin.map some) H' G' fq ∧ Tr H G fp H' G' fq := fun {σ' ρ' H' G' fp' v r fin} T S k hf => by
      have ag : ∀ i ∈ rf, ∀ v, vs[i]? = some v → σ'[i]? = some (some v) := fun i hi v hv => by
        rw [k i hi]
        unfold L2.start
        have hlt : i < vs.length := (List.getElem?_eq_some_iff.mp hv).1
        rw [List.getElem?_append_left (by rw [List.length_map]; exact hlt), List.getElem?_map, hv]
        rfl
      obtain ⟨fq, ρ2, S1, h1, l1, _, l2⟩ := gather C ag T.g fl ms vs 0 fin v r fp' rfl rfl hf S
      have e1 : ∀ {x y : List Addr}, True := fun {_ _} => trivial
      obtain ⟨fr, fs, rm, p, S2⟩ := S1.pop
      -- the slots are forgotten
      have S3 : ∃ fq2, SA K (vs.map some) (fin.map some) H' G' fq2 ∧ ∀ a ∈ fq2, a ∈ fs := by
        obtain ⟨g0, q0, p0⟩ := S2.sl
        have cut : ∀ {us : List V} {ns : List M} {σ0 : St} {ρ0 : Rho} {f : List Addr}, us.length = ns.length → ROs K G' H' (us.map some ++ σ0) (ns.map some ++ ρ0) f → ∃ fa fb, ROs K G' H' (us.map some) (ns.map some) fa ∧ f = fa ++ fb := by
          intro us
          induction us with
          | nil =>
            intro ns σ0 ρ0 f e h
            cases ns with
            | nil => exact ⟨[], f, .nil, rfl⟩
            | cons _ _ => simp at e
          | cons u us ih =>
            intro ns σ0 ρ0 f e h
            cases ns with
            | nil => simp at e
            | cons m ns =>
              have h : ROs K G' H' (some u :: (us.map some ++ σ0)) (some m :: (ns.map some ++ ρ0)) f := h
              cases h with
              | so r t =>
                obtain ⟨fa, fb, h1, h2⟩ := ih (by simpa using e) t
                exact ⟨_, fb, .so r h1, by rw [h2, List.append_assoc]⟩
        obtain ⟨fa, fb, h2, h3⟩ := cut l1.symm q0
        have nd : (fa ++ fb).Nodup := by rw [← h3]; exact p0.nodup_iff.mpr S2.nd
        rw [List.nodup_append] at nd
        refine ⟨fa, ⟨S2.same, fun a ha => S2.free a (p0.mem_iff.mp (by rw [h3]; exact List.mem_append_left _ ha)), nd.1, fa, h2, List.Perm.refl _⟩, fun a ha => p0.mem_iff.mp (by rw [h3]; exact List.mem_append_left _ ha)⟩
      obtain ⟨fq2, S4, h4⟩ := S3
      have nd := p.nodup_iff.mpr S1.nd
      rw [List.nodup_append] at nd
      exact ⟨_, S4.push rm (fun a ha => S1.free a (p.mem_iff.mp (List.mem_append_left _ ha))) nd.1 (fun a ha hb => nd.2.2 a ha a (h4 a hb) rfl), T.sub fun a ha => by
        rcases List.mem_append.mp ha with z | z
        · exact h1 a (p.mem_iff.mp (List.mem_append_left _ z))
        · exact h1 a (p.mem_iff.mp (List.mem_append_right _ (h4 a z)))⟩
    refine hg (L2.start N vs) _ H G fp _ S0 ?_
    cases hgo : g (ms.map some ++ List.replicate (N.length - n) none) with
    | bad => rw [hgo] at P; exact P
    | bk ρ' => rw [hgo] at P; exact P.elim
    | ct ρ' => rw [hgo] at P; exact P.elim
    | nx ρ' =>
      rw [hgo] at P
      simp only at P
      cases hf : fins rf ρ' 0 ms with
      | none => rw [hf] at P; exact P.elim
      | some fn =>
        rw [hf] at P
        intro σ' H' G' fp' T S k
        obtain ⟨fq, S1, T1⟩ := fin T (S.pushD (v := .non) (d := .none) .non) k hf
        exact P .non H' G' fq T1 S1
    | rt r ρ' =>
      rw [hgo] at P
      simp only at P
      cases hf : fins rf ρ' 0 ms with
      | none => rw [hf] at P; exact P.elim
      | some fn =>
        rw [hf] at P
        intro v σ' H' G' fp' T S k
        obtain ⟨fq, S1, T1⟩ := fin T S k hf
        exact P v H' G' fq T1 S1
    | exc x ρ' =>
      rw [hgo] at P
      simp only at P
      cases hf : fins rf ρ' 0 ms with
      | none => rw [hf] at P; exact P.elim
      | some fn =>
        rw [hf] at P
        intro cls d σ' H' G' fp' T S k rx
        obtain ⟨fq, S1, T1⟩ := fin T (S.pushD (v := .non) (d := .none) .non) k hf
        obtain ⟨_, S2⟩ := SA.popD S1
        exact P cls d H' G' fq T1 S2 rx
  · rw [if_neg hok] at P; exact P.elim
end
end DL

set_option Elab.async false
set_option linter.all false
set_option maxRecDepth 100000
/-! DLg: the pure operations on values. -/
namespace DL
open PySem PySem.Spec PyProof.Rows L2

section
variable {K : PySem.W.Frag} {W : WX} {b : Bool} {G H : Hp}
def datsOf : List M → Option (List PyData)
  | [] => some []
  | .dat d :: xs => match datsOf xs with
    | some ds => some (d :: ds)
    | none => none
  | _ :: _ => none
theorem RMs.flatFp : ∀ {xs : List M} {vs : List V} {fp : List Addr} {ds : List PyData}, RMs K G H vs xs fp → DL.datsOf xs = some ds → fp = []
  | [], _, _, _, h, _ => by cases h; rfl
  | x :: xs, _, _, ds, h, e => by
    cases h with
    | cons r t =>
      cases x with
      | dat d =>
        unfold DL.datsOf at e
        cases q : DL.datsOf xs with
        | none => rw [q] at e; cases e
        | some ds' =>
          cases r with
          | dat r => rw [RMs.flatFp t q]; rfl
      | _ => cases e
/-- a list of data, looked at -/
def M.asList : M → Option (List PyData)
  | .lst xs => datsOf xs
  | .dat (.list ds) => some ds
  | _ => none
theorem RMs.datsOf : ∀ {xs : List M} {vs : List V} {fp : List Addr} {ds : List PyData}, RMs K G H vs xs fp → DL.datsOf xs = some ds → DaAll K G vs ds
  | [], _, _, _, h, e => by cases h; cases e; exact .nil
  | x :: xs, _, _, ds, h, e => by
    cases h with
    | cons r t =>
      cases x with
      | dat d =>
        unfold DL.datsOf at e
        cases q : DL.datsOf xs with
        | none => rw [q] at e; cases e
        | some ds' =>
          rw [q] at e
          cases e
          cases r with
          | dat r => exact .cons r (RMs.datsOf t q)
      | _ => cases e
theorem RM.asList {m : M} {v : V} {fp : List Addr} {ds : List PyData} (e : Ext G H) (r : RM K G H v m fp) (h : m.asList = some ds) : ∃ a vs, v = .ref a ∧ Rd H a (.lst vs) ∧ DaAll K G vs ds := by
  cases m with
  | lst xs =>
    cases r with
    | lst h1 h2 => exact ⟨_, _, rfl, .inl h1, h2.datsOf h⟩
  | dat d =>
    cases d with
    | list ds' =>
      cases h
      cases r with
      | dat r =>
        cases r with
        | lst h1 h2 => exact ⟨_, _, rfl, e.rd h1, h2⟩
    | _ => cases h
  | _ => cases h
/-- the data of a tree that has some, under the heap -/
theorem RM.data {m : M} {v : V} {fp : List Addr} {d : PyData} (e : Ext G H) (r : RM K G H v m fp) (h : m.frz = some d) : Da K H v d := r.freeze e (fun _ _ => rfl) h
theorem RM.dat' {v : V} {fp : List Addr} {d : PyData} (r : RM K G H v (.dat d) fp) : Da K G v d := by cases r with | dat r => exact r

def int2 (f : Int → Int → Option PyData) : M → M → Option M
  | .dat (.int i), .dat (.int j) => match f i j with
    | some d => some (.dat d)
    | none => none
  | _, _ => none
/-- an answer that is a plain value -/
def flatD : PyData → Option V
  | .none => some .non
  | .bool b => some (.bl b)
  | .int i => some (.int i)
  | .str x => some (.str x)
  | _ => none
theorem da_flat {d : PyData} {v : V} (h : flatD d = some v) : Da K G v d := by
  cases d with
  | none => cases h; exact .non
  | bool b => cases h; exact .bl b
  | int i => cases h; exact .int i
  | str x => cases h; exact .str x
  | _ => cases h
theorem op_int2 {r : R2} {f : Int → Int → Option PyData} (h : ∀ i j d H Q, f i j = some d → ∃ v, flatD d = some v ∧ (Q v H → r (.int i) (.int j) H Q)) : Op2 K r (int2 f) := by
  intro v1 v2 m1 m2 m H G fx fy Q e r1 r2 ho hq
  unfold int2 at ho
  split at ho
  · rename_i i j
    cases q : f i j with
    | none => rw [q] at ho; cases ho
    | some d =>
      rw [q] at ho
      cases ho
      cases r1 with
      | dat r1 =>
        cases r1
        cases r2 with
        | dat r2 =>
          cases r2
          obtain ⟨v, hv, k⟩ := h i j d H Q q
          exact k (hq v H G [] (New.refl e) (.dat (da_flat hv)))
  · cases ho
theorem Op2.or {r r' : R2} {o o' : M → M → Option M} (h : Op2 K r o) (h' : Op2 K r' o') : Op2 K (fun x y H Q => r x y H Q ∨ r' x y H Q) (fun a b => match o a b with
    | some m => some m
    | none => o' a b) := by
  intro v1 v2 m1 m2 m H G fx fy Q e r1 r2 ho hq
  cases q : o m1 m2 with
  | some m' =>
    simp only [q] at ho
    exact .inl (h v1 v2 m1 m2 m H G fx fy Q e r1 r2 (by rw [q]; exact ho) hq)
  | none =>
    simp only [q] at ho
    exact .inr (h' v1 v2 m1 m2 m H G fx fy Q e r1 r2 ho hq)
/-! ### + -/
def str2 (f : Str → Str → Option PyData) : M → M → Option M
  | .dat (.str i), .dat (.str j) => match f i j with
    | some d => some (.dat d)
    | none => none
  | _, _ => none
theorem op_str2 {r : R2} {f : Str → Str → Option PyData} (h : ∀ i j d H Q, f i j = some d → ∃ v, flatD d = some v ∧ (Q v H → r (.str i) (.str j) H Q)) : Op2 K r (str2 f) := by
  intro v1 v2 m1 m2 m H G fx fy Q e r1 r2 ho hq
  unfold str2 at ho
  split at ho
  · rename_i i j
    cases q : f i j with
    | none => rw [q] at ho; cases ho
    | some d =>
      rw [q] at ho
      cases ho
      cases r1 with
      | dat r1 =>
        cases r1
        cases r2 with
        | dat r2 =>
          cases r2
          obtain ⟨v, hv, k⟩ := h i j d H Q q
          exact k (hq v H G [] (New.refl e) (.dat (da_flat hv)))
  · cases ho
def rAddI : R2 := rI0 fun i j => .int (i + j)
def rAddS : R2 := fun x y H Q => ∃ i j, x = .str i ∧ y = .str j ∧ i.length + j.length ≤ sizeLine ∧ Q (.str (i ++ j)) H
def rCatR : R2 := fun x y H Q => ∃ l b xs zs, x = .ref l ∧ y = .ref b ∧ Rd H l (.lst xs) ∧ Rd H b (.lst zs) ∧ xs.length + zs.length ≤ sizeLine ∧ ∀ p, H p = none → Q (.ref p) (upd H p (.lst (xs ++ zs)))
theorem _root_.L2.Inv.rdM {X : Cx} {pins : List (Addr × Obj)} {σ : L2.St} {H : Hp} {s : Shared} {l : Addr} {xs : List V} (I : Inv X pins σ H s) (hH : Rd H l (.lst xs)) : xs.length ≤ sizeLine ∧ ∃ (its : List Value) (n : Nat), Vals xs its ∧ xs.length = its.length ∧ s.heap.get? l = some { cls := .type "list", data := .seq its.toArray n } := by
  obtain ⟨z, its, n, r, e⟩ := hH.ok I.hok
  exact ⟨z, its, n, r, r.length, e⟩
theorem op_catR {X : Cx} : OpR X (binaryOp .Add) rCatR := by
  intro pins s σ H x y v u Q I rx ry h
  obtain ⟨l, b, xs, zs, rfl, rfl, hH, hB, hz, q⟩ := h
  cases rx
  cases ry
  obtain ⟨z, its, n, r, hl, e⟩ := I.rdM hH
  obtain ⟨z2, its2, n2, r2, hl2, e2⟩ := I.rdM hB
  refine PySem.P.add_list e e2 ?_ (by rw [List.size_toArray, List.size_toArray]; omega)
  have ea : its.toArray ++ its2.toArray = (its ++ its2).toArray := by simp
  rw [ea]
  exact ⟨.ref _, _, I.lnew (t' := s.toks) (r.append r2) (by rw [List.length_append]; omega), rfl, q _ I.fresh⟩
def addL (a b : M) : Option M := match a.asList, b.asList with
  | some xs, some ys => if xs.length + ys.length ≤ sizeLine then some (.lst ((xs ++ ys).map M.dat)) else none
  | _, _ => none
theorem op_addL : Op2 K rCatR addL := by
  intro v1 v2 m1 m2 m H G fx fy Q e r1 r2 ho hq
  unfold addL at ho
  cases q1 : m1.asList with
  | none => rw [q1] at ho; cases ho
  | some xs =>
    cases q2 : m2.asList with
    | none => rw [q1, q2] at ho; cases ho
    | some ys =>
      rw [q1, q2] at ho
      simp only at ho
      by_cases hz : xs.length + ys.length ≤ sizeLine
      · rw [if_pos hz] at ho
        cases ho
        obtain ⟨a, us, rfl, h1, h2⟩ := r1.asList e q1
        obtain ⟨c, ws, rfl, h3, h4⟩ := r2.asList e q2
        refine ⟨a, c, us, ws, rfl, rfl, h1, h3, by rw [DaAll.length h2, DaAll.length h4]; exact hz, fun p hp => ?_⟩
        refine hq (.ref p) _ G [p] (New.obj e hp) (.lst upd_same ?_)
        exact RMs.ofDats (DaAll.append h2 h4)
      · rw [if_neg hz] at ho; cases ho
def addT (a b : M) : Option M := match a, b with
  | .dat (.tuple xs), .dat (.tuple ys) => if xs.length + ys.length ≤ sizeLine then some (.dat (.tuple (xs ++ ys))) else none
  | _, _ => none
theorem op_addT : Op2 K (rCatN K) addT := by
  intro v1 v2 m1 m2 m H G fx fy Q e r1 r2 ho hq
  unfold addT at ho
  split at ho
  · rename_i xs ys
    by_cases hz : xs.length + ys.length ≤ sizeLine
    · rw [if_pos hz] at ho
      cases ho
      cases r1 with
      | dat r1 =>
        cases r1 with
        | tup h1 h2 =>
          cases r2 with
          | dat r2 =>
            cases r2 with
            | tup h3 h4 =>
              refine ⟨_, _, _, _, rfl, rfl, e.t h1.sq, e.t h3.sq, by rw [DaAll.length h2, DaAll.length h4]; exact hz, fun en => ?_, fun en => ?_, fun p ho hp nt => ?_⟩
              · have xe : xs = [] := List.eq_nil_of_length_eq_zero (by rw [← DaAll.length h2, en]; rfl)
                subst xe
                exact hq _ H G [] (New.refl e) (.dat (.tup h3 h4))
              · have ye : ys = [] := List.eq_nil_of_length_eq_zero (by rw [← DaAll.length h4, en]; rfl)
                subst ye
                rw [List.append_nil] at hq
                exact hq _ H G [] (New.refl e) (.dat (.tup h1 h2))
              · exact hq (.ref p) _ (upd G p ho) [] (New.known e hp) (.dat (.tup (PlT.of nt) (Ext.dps (ext_upd (none_of e hp)) _ (DaAll.append h2 h4))))
    · rw [if_neg hz] at ho; cases ho
  · cases ho
def rAdd (K : PySem.W.Frag) : R2 := fun x y H Q => rAddI x y H Q ∨ (rAddS x y H Q ∨ (rCatR x y H Q ∨ rCatN K x y H Q))
def opAdd (a b : M) : Option M := match int2 (fun i j => some (.int (i + j))) a b with
  | some m => some m
  | none => match str2 (fun i j => if i.length + j.length ≤ sizeLine then some (.str (i ++ j)) else none) a b with
    | some m => some m
    | none => match addL a b with
      | some m => some m
      | none => addT a b
theorem or_add {X : Cx} : OpR X (binaryOp .Add) (rAdd X.K) := OpR.or op_add (OpR.or op_add_str (OpR.or op_catR op_catN))
theorem os_add : Op2 K (rAdd K) opAdd := Op2.or (op_int2 fun i j d H Q h => by cases h; exact ⟨_, rfl, fun q => ⟨i, j, rfl, rfl, q⟩⟩)
  (Op2.or (op_str2 fun i j d H Q h => by
    by_cases hz : i.length + j.length ≤ sizeLine
    · rw [if_pos hz] at h; cases h
      exact ⟨_, rfl, fun q => ⟨i, j, rfl, rfl, hz, q⟩⟩
    · rw [if_neg hz] at h; cases h) (Op2.or op_addL op_addT))
/-! ### other operators -/
def opSub : M → M → Option M := int2 fun i j => some (.int (i - j))
theorem os_sub : Op2 K (rI0 fun i j => .int (i - j)) opSub := op_int2 fun i j d H Q h => by cases h; exact ⟨_, rfl, fun q => ⟨i, j, rfl, rfl, q⟩⟩
/-- both within so many bits -/
def fitsMul (i j : Int) : Bool := decide (i.natAbs.log2 + j.natAbs.log2 ≤ 900000)
def opMul : M → M → Option M := int2 fun i j => if fitsMul i j = true then some (.int (i * j)) else none
theorem lt_pow_log (n : Nat) : n < 2 ^ (n.log2 + 1) := Nat.lt_log2_self
theorem fitsMul_ok {i j : Int} (h : fitsMul i j = true) : CMulW i j := by
  have h : i.natAbs.log2 + j.natAbs.log2 ≤ 900000 := of_decide_eq_true h
  exact wide_mul (lt_pow_log _) (lt_pow_log _) (Nat.succ_pos _) (Nat.succ_pos _) (by omega)
theorem os_mul : Op2 K (rI CMulW fun i j => .int (i * j)) opMul := op_int2 fun i j d H Q h => by
  by_cases hz : fitsMul i j = true
  · rw [if_pos hz] at h; cases h
    exact ⟨_, rfl, fun q => ⟨i, j, rfl, rfl, fitsMul_ok hz, q⟩⟩
  · rw [if_neg hz] at h; cases h
def fitsDiv (j : Int) : Bool := decide (0 < j) && decide (j.natAbs.log2 ≤ 8000)
def opDiv : M → M → Option M := int2 fun i j => if fitsDiv j = true then some (.int (i / j)) else none
theorem os_div : Op2 K (rI CDivW fun i j => .int (i / j)) opDiv := op_int2 fun i j d H Q h => by
  by_cases hz : fitsDiv j = true
  · rw [if_pos hz] at h; cases h
    unfold fitsDiv at hz
    rw [Bool.and_eq_true, decide_eq_true_eq, decide_eq_true_eq] at hz
    exact ⟨_, rfl, fun q => ⟨i, j, rfl, rfl, wide_div hz.1 (lt_pow_log _) (Nat.succ_pos _) (by omega), q⟩⟩
  · rw [if_neg hz] at h; cases h
def opMod : M → M → Option M := int2 fun i j => if 0 < j then some (.int (i % j)) else none
theorem os_mod : Op2 K (rI (fun _ j => 0 < j) fun i j => .int (i % j)) opMod := op_int2 fun i j d H Q h => by
  by_cases hz : 0 < j
  · rw [if_pos hz] at h; cases h
    exact ⟨_, rfl, fun q => ⟨i, j, rfl, rfl, hz, q⟩⟩
  · rw [if_neg hz] at h; cases h
def opPow : M → M → Option M := int2 fun i j => if 0 ≤ j ∧ j ≤ 1000000 ∧ i.natAbs < 2 ^ 64 then some (.int (i ^ j.toNat)) else none
theorem os_pow : Op2 K (rI CPow fun i j => .int (i ^ j.toNat)) opPow := op_int2 fun i j d H Q h => by
  by_cases hz : 0 ≤ j ∧ j ≤ 1000000 ∧ i.natAbs < 2 ^ 64
  · rw [if_pos hz] at h; cases h
    exact ⟨_, rfl, fun q => ⟨i, j, rfl, rfl, hz, q⟩⟩
  · rw [if_neg hz] at h; cases h
def cmpI (p : Int → Int → Bool) : M → M → Option M := int2 fun i j => some (.bool (p i j))
theorem os_cmpI {p : Int → Int → Bool} : Op2 K (rI0 fun i j => .bl (p i j)) (cmpI p) := op_int2 fun i j d H Q h => by cases h; exact ⟨_, rfl, fun q => ⟨i, j, rfl, rfl, q⟩⟩
/-! ### ==, is, in -/
/-- good for equality -/
def shp (d : PyData) : Bool := d.canLay0 && decide (d.depth ≤ 190)
theorem shp_lay {d : PyData} (h : shp d = true) : d.canLay0 = true := (Bool.and_eq_true_iff.mp h).1
theorem shp_depth {d : PyData} (h : shp d = true) : d.depth ≤ 190 := of_decide_eq_true (Bool.and_eq_true_iff.mp h).2
def rEqW (K : PySem.W.Frag) : R2 := fun x y H Q => ∃ d e, Dp K H x d ∧ Dp K H y e ∧ shp d = true ∧ shp e = true ∧ Q (.bl (PyData.eqv d e)) H
def rNeW (K : PySem.W.Frag) : R2 := fun x y H Q => ∃ d e, Dp K H x d ∧ Dp K H y e ∧ shp d = true ∧ shp e = true ∧ Q (.bl (!PyData.eqv d e)) H
theorem op_eqW {X : Cx} (hu : X.A.units + 190 < cLine) : OpR X (compareOp .Eq) (rEqW X.K) := by
  intro pins s σ H x y v u Q I rx ry hyp
  obtain ⟨d, e, hd, he, sd, se, q⟩ := hyp
  obtain ⟨as, ra⟩ := Dp.reads I d x v hd rx
  obtain ⟨bs, rb⟩ := Dp.reads I e y u he ry
  have h1 := shp_depth sd
  have h2 := Nat.min_le_left d.depth e.depth
  exact SeqAt.compareEq_reads ra rb (shp_lay sd) (shp_lay se) (by omega) ⟨.bl _, H, I, rfl, q⟩
theorem op_neW {X : Cx} (hu : X.A.units + 190 < cLine) : OpR X (compareOp .NotEq) (rNeW X.K) := by
  intro pins s σ H x y v u Q I rx ry hyp
  obtain ⟨d, e, hd, he, sd, se, q⟩ := hyp
  obtain ⟨as, ra⟩ := Dp.reads I d x v hd rx
  obtain ⟨bs, rb⟩ := Dp.reads I e y u he ry
  have h1 := shp_depth sd
  have h2 := Nat.min_le_left d.depth e.depth
  exact SeqAt.compareNe_reads ra rb (shp_lay sd) (shp_lay se) (by omega) ⟨.bl _, H, I, rfl, q⟩
def opEq (a b : M) : Option M := match a.frz, b.frz with
  | some d, some e => if shp d = true ∧ shp e = true then some (.dat (.bool (PyData.eqv d e))) else none
  | _, _ => none
def opNe (a b : M) : Option M := match a.frz, b.frz with
  | some d, some e => if shp d = true ∧ shp e = true then some (.dat (.bool (!PyData.eqv d e))) else none
  | _, _ => none
theorem os_eq : Op2 K (rEqW K) opEq := by
  intro v1 v2 m1 m2 m H G fx fy Q e r1 r2 ho hq
  unfold opEq at ho
  cases q1 : m1.frz with
  | none => rw [q1] at ho; cases ho
  | some d =>
    cases q2 : m2.frz with
    | none => rw [q1, q2] at ho; cases ho
    | some d2 =>
      rw [q1, q2] at ho
      simp only at ho
      by_cases hz : shp d = true ∧ shp d2 = true
      · rw [if_pos hz] at ho
        cases ho
        exact ⟨d, d2, (r1.data e q1).dp (shp_lay hz.1), (r2.data e q2).dp (shp_lay hz.2), hz.1, hz.2, hq _ H G [] (New.refl e) (.dat (.bl _))⟩
      · rw [if_neg hz] at ho; cases ho
theorem os_ne : Op2 K (rNeW K) opNe := by
  intro v1 v2 m1 m2 m H G fx fy Q e r1 r2 ho hq
  unfold opNe at ho
  cases q1 : m1.frz with
  | none => rw [q1] at ho; cases ho
  | some d =>
    cases q2 : m2.frz with
    | none => rw [q1, q2] at ho; cases ho
    | some d2 =>
      rw [q1, q2] at ho
      simp only at ho
      by_cases hz : shp d = true ∧ shp d2 = true
      · rw [if_pos hz] at ho
        cases ho
        exact ⟨d, d2, (r1.data e q1).dp (shp_lay hz.1), (r2.data e q2).dp (shp_lay hz.2), hz.1, hz.2, hq _ H G [] (New.refl e) (.dat (.bl _))⟩
      · rw [if_neg hz] at ho; cases ho
/-- is None: a tree of one's own never is -/
def opIsN (neg : Bool) (a b : M) : Option M := match a, b with
  | .dat .none, .dat .none => some (.dat (.bool (!neg)))
  | .scr _, .dat .none => none
  | _, .dat .none => some (.dat (.bool neg))
  | _, _ => none
theorem isN_val {m : M} {v : V} {fx : List Addr} {neg : Bool} {c : M} (r : RM K G H v m fx) {w : V} {fy : List Addr} {m2 : M} (r2 : RM K G H w m2 fy) (h : opIsN neg m m2 = some c) : w = .non ∧ c = .dat (.bool (if neg = true then !decide (v = .non) else decide (v = .non))) := by
  have key : m2 = .dat .none := by
    unfold opIsN at h
    split at h <;> first | rfl | cases h
  subst key
  cases r2 with
  | dat r2 =>
    cases r2
    refine ⟨rfl, ?_⟩
    unfold opIsN at h
    cases r with
    | dat r =>
      cases r <;> (simp at h; subst h; cases neg <;> simp)
    | scr r => simp at h
    | lst _ _ => simp at h; subst h; cases neg <;> simp
    | dk _ _ _ => simp at h; subst h; cases neg <;> simp
    | dt _ _ _ => simp at h; subst h; cases neg <;> simp
    | ins _ _ _ _ => simp at h; subst h; cases neg <;> simp
theorem os_isN : Op2 K (fun x y H Q => y = .non ∧ Q (.bl (decide (x = .non))) H) (opIsN false) := by
  intro v1 v2 m1 m2 m H G fx fy Q e r1 r2 ho hq
  obtain ⟨h1, h2⟩ := isN_val r1 r2 ho
  subst h1 h2
  exact ⟨rfl, hq _ H G [] (New.refl e) (.dat (.bl _))⟩
theorem os_isnN : Op2 K (fun x y H Q => y = .non ∧ Q (.bl (!decide (x = .non))) H) (opIsN true) := by
  intro v1 v2 m1 m2 m H G fx fy Q e r1 r2 ho hq
  obtain ⟨h1, h2⟩ := isN_val r1 r2 ho
  subst h1 h2
  exact ⟨rfl, hq _ H G [] (New.refl e) (.dat (.bl _))⟩
/-- x is True -/
def opIsB (neg : Bool) (a b : M) : Option M := match a, b with
  | .dat (.bool x), .dat (.bool y) => some (.dat (.bool (if neg = true then !decide (x = y) else decide (x = y))))
  | _, _ => none
theorem os_isB : Op2 K (fun x y H Q => ∃ a b, x = .bl a ∧ y = .bl b ∧ Q (.bl (decide (a = b))) H) (opIsB false) := by
  intro v1 v2 m1 m2 m H G fx fy Q e r1 r2 ho hq
  unfold opIsB at ho
  split at ho
  · cases ho
    cases r1.dat'; cases r2.dat'
    exact ⟨_, _, rfl, rfl, hq _ H G [] (New.refl e) (.dat (.bl _))⟩
  · cases ho
theorem os_notB : Op2 K (fun x y H Q => ∃ a b, x = .bl a ∧ y = .bl b ∧ Q (.bl (!decide (a = b))) H) (opIsB true) := by
  intro v1 v2 m1 m2 m H G fx fy Q e r1 r2 ho hq
  unfold opIsB at ho
  split at ho
  · cases ho
    cases r1.dat'; cases r2.dat'
    exact ⟨_, _, rfl, rfl, hq _ H G [] (New.refl e) (.dat (.bl _))⟩
  · cases ho
def isFlat : PyData → Bool
  | .none => true
  | .bool _ => true
  | .int _ => true
  | .str _ => true
  | _ => false
theorem da_flatV {v : V} {d : PyData} (h : Da K G v d) (f : isFlat d = true) : flatV v = true := by
  cases h <;> first | rfl | cases f
theorem da_flatVs : ∀ {vs : List V} {ds : List PyData}, DaAll K G vs ds → ds.all isFlat = true → vs.all flatV = true
  | _, _, .nil, _ => rfl
  | _, _, .cons r t, f => by
    rw [List.all_cons, Bool.and_eq_true] at f
    rw [List.all_cons, da_flatV r f.1, da_flatVs t f.2]
    rfl
theorem eqV_eqv {v w : V} {d e : PyData} (h1 : Da K G v d) (h2 : Da K G w e) (f1 : isFlat d = true) (f2 : isFlat e = true) : eqV v w = PyData.eqv d e := by
  cases h1 <;> cases h2 <;> first | (cases f1; done) | (cases f2; done) | (simp [eqV, PyData.eqv]; done) | skip
theorem inV_eqv {v : V} {d : PyData} (h : Da K G v d) (f : isFlat d = true) : ∀ {vs : List V} {ds : List PyData}, DaAll K G vs ds → ds.all isFlat = true → inV v vs = ds.any fun z => PyData.eqv z d
  | _, _, .nil, _ => rfl
  | w :: vs, e :: ds, .cons r t, g => by
    rw [List.all_cons, Bool.and_eq_true] at g
    show (eqV w v || inV v vs) = (PyData.eqv e d || ds.any fun z => PyData.eqv z d)
    rw [eqV_eqv r h g.1 f, inV_eqv h f t g.2]
/-- x in a list, a tuple -/
def M.asSeq : M → Option (List PyData)
  | .lst xs => datsOf xs
  | .dat (.list ds) => some ds
  | .dat (.tuple ds) => some ds
  | .dat (.dict [(.none, .tuple ds)]) => some ds
  | _ => none
theorem RM.asSeq {m : M} {v : V} {fp : List Addr} {ds : List PyData} (e : Ext G H) (r : RM K G H v m fp) (h : m.asSeq = some ds) : ∃ a vs, v = .ref a ∧ (SqL K H a vs ∨ SqT K H a vs) ∧ DaAll K G vs ds := by
  unfold M.asSeq at h
  split at h
  · obtain ⟨a, vs, h1, h2, h3⟩ := r.asList (ds := ds) e h
    exact ⟨a, vs, h1, .inl (.inl h2), h3⟩
  · obtain ⟨a, vs, h1, h2, h3⟩ := r.asList (ds := ds) e h
    exact ⟨a, vs, h1, .inl (.inl h2), h3⟩
  · cases h
    cases r with
    | dat r =>
      cases r with
      | tup h1 h2 => exact ⟨_, _, rfl, .inr (e.t h1.sq), h2⟩
  · cases h
    obtain ⟨a, xs, rfl, z1, z2⟩ := r.dat'.wkinv
    exact ⟨_, _, rfl, .inr (e.t z1), z2⟩
  · cases h
def inSeq (neg : Bool) (a b : M) : Option M := match a, b.asSeq with
  | .dat d, some ds => if isFlat d = true ∧ ds.all isFlat = true then some (.dat (.bool (if neg = true then !(ds.any fun z => PyData.eqv z d) else ds.any fun z => PyData.eqv z d))) else none
  | _, _ => none
theorem os_inSeq {neg : Bool} : Op2 K (rIn K neg) (inSeq neg) := by
  intro v1 v2 m1 m2 m H G fx fy Q e r1 r2 ho hq
  cases m1 with
  | dat d =>
    unfold inSeq at ho
    cases q2 : m2.asSeq with
    | none => simp only [q2] at ho; cases ho
    | some ds =>
      simp only [q2] at ho
      by_cases hz : isFlat d = true ∧ ds.all isFlat = true
      · rw [if_pos hz] at ho
        cases ho
        obtain ⟨a, vs, rfl, h1, h2⟩ := r2.asSeq e q2
        refine ⟨a, vs, rfl, h1, da_flatV r1.dat' hz.1, da_flatVs h2 hz.2, ?_⟩
        rw [inV_eqv r1.dat' hz.1 h2 hz.2]
        exact hq _ H G [] (New.refl e) (.dat (.bl _))
      · rw [if_neg hz] at ho; cases ho
  | _ => cases ho
def inStr (neg : Bool) : M → M → Option M := str2 fun i j => some (.bool (if neg = true then !(!(Builtin.Str.occurrences j i 0 j.length 1).isEmpty) else !(Builtin.Str.occurrences j i 0 j.length 1).isEmpty))
/-- k in a dict -/
def keyOf : PyData → Option Key
  | .int i => some (.inl i)
  | .str x => some (.inr x)
  | _ => none
theorem da_key {v : V} {d : PyData} {k : Key} (h : Da K G v d) (e : keyOf d = some k) : v = kV k := by
  cases h <;> cases e <;> rfl
def keysOf : List PyData → Option (List Key)
  | [] => some []
  | d :: ds => match keyOf d, keysOf ds with
    | some k, some ks => some (k :: ks)
    | _, _ => none
theorem da_keys : ∀ {ds : List PyData} {vs : List V} {ks : List Key}, DaAll K G vs ds → keysOf ds = some ks → vs = ks.map kV
  | [], _, _, h, e => by cases h; cases e; rfl
  | d :: ds, _, ks, h, e => by
    cases h with
    | cons h1 h2 =>
      unfold keysOf at e
      cases q1 : keyOf d with
      | none => rw [q1] at e; cases e
      | some k =>
        cases q2 : keysOf ds with
        | none => rw [q1, q2] at e; cases e
        | some ks' =>
          rw [q1, q2] at e
          cases e
          rw [da_key h1 q1, da_keys h2 q2]
          rfl
def keyTOf : PyData → Option (List Key)
  | .tuple ds => match keysOf ds with
    | some [] => none
    | r => r
  | _ => none
theorem keyTOf_inv {d : PyData} {k : List Key} (h : keyTOf d = some k) : ∃ ds, d = .tuple ds ∧ keysOf ds = some k ∧ k ≠ [] := by
  unfold keyTOf at h
  split at h
  · rename_i ds
    cases q : keysOf ds with
    | none => rw [q] at h; cases h
    | some r =>
      rw [q] at h
      cases r with
      | nil => cases h
      | cons x xs => cases h; exact ⟨ds, rfl, q, fun e => nomatch e⟩
  · cases h
theorem all_keyV : ∀ {k : List Key}, (k.map kV).all keyV = true
  | [] => rfl
  | .inl i :: k => by rw [List.map_cons, List.all_cons, all_keyV]; rfl
  | .inr x :: k => by rw [List.map_cons, List.all_cons, all_keyV]; rfl
theorem da_keyT {v : V} {d : PyData} {k : List Key} (h : Da K G v d) (e : keyTOf d = some k) : ∃ b, v = .ref b ∧ G b = some (.tup (k.map kV)) := by
  obtain ⟨ds, rfl, e1, e2⟩ := keyTOf_inv e
  cases h with
  | tup h1 h2 =>
    obtain ⟨ho, n, hg⟩ := h1
    have := da_keys h2 e1
    subst this
    rw [n.1 ⟨all_keyV, fun z => e2 (List.map_eq_nil_iff.mp z)⟩] at hg
    exact ⟨_, rfl, hg⟩
def keyEq (a d : PyData) : Bool := match keyOf a, keyOf d with
  | some x, some y => decide (x = y)
  | _, _ => match keyTOf a, keyTOf d with
    | some x, some y => decide (x = y)
    | _, _ => false
def lkD (kvs : List (PyData × PyData)) (d : PyData) : Option PyData := (kvs.find? fun p => keyEq p.1 d).map (·.2)
theorem keyOf_keyD {k : Key} : keyOf (keyD k) = some k := by cases k <;> rfl
theorem keyTOf_keyD {k : Key} : keyTOf (keyD k) = none := by cases k <;> rfl
theorem keysOf_keyD : ∀ {k : List Key}, keysOf (k.map keyD) = some k
  | [] => rfl
  | x :: k => by rw [List.map_cons, keysOf, keyOf_keyD, keysOf_keyD]
theorem keyOf_keyTD {k : List Key} : keyOf (keyTD k) = none := rfl
theorem keyTOf_keyTD {k : List Key} : keyTOf (keyTD k) = if k = [] then none else some k := by
  unfold keyTD keyTOf
  simp only
  rw [keysOf_keyD]
  cases k <;> simp
theorem keyEq_D {k : Key} {d : PyData} : keyEq (keyD k) d = true ↔ keyOf d = some k := by
  unfold keyEq
  rw [keyOf_keyD, keyTOf_keyD]
  cases keyOf d with
  | none => simp
  | some y => simp [eq_comm]
theorem keyEq_TD {k : List Key} {d : PyData} : keyEq (keyTD k) d = true ↔ keyTOf d = some k := by
  unfold keyEq
  rw [keyOf_keyTD, keyTOf_keyTD]
  simp only
  by_cases hk : k = []
  · rw [if_pos hk]
    simp only [Bool.false_eq_true, false_iff]
    intro h
    exact (keyTOf_inv h).choose_spec.2.2 hk
  · rw [if_neg hk]
    cases keyTOf d with
    | none => simp
    | some y => simp [eq_comm]
/-- what stands under a key -/
theorem lk_dk {d e : PyData} : ∀ {ks : List Key} {vs : List V} {ds : List PyData}, ks.length = vs.length → DaAll K G vs ds → lkD ((ks.map keyD).zip ds) d = some e → ∃ k v, keyOf d = some k ∧ valV (ks.zip vs) k = some v ∧ Da K G v e
  | [], _, _, _, _, h => by cases h
  | k :: ks, [], _, hl, _, _ => by simp at hl
  | k :: ks, v :: vs, _, hl, .cons (d := d1) (ds := ds) r t, h => by
    unfold lkD at h
    rw [List.map_cons, List.zip_cons_cons, List.find?_cons] at h
    cases q : keyEq (keyD k) d with
    | true =>
      simp only [q] at h
      cases h
      exact ⟨k, v, keyEq_D.mp q, valV_pos rfl, r⟩
    | false =>
      simp only [q] at h
      obtain ⟨k', v', h1, h2, h3⟩ := lk_dk (ks := ks) (by simpa using hl) t h
      refine ⟨k', v', h1, ?_, h3⟩
      show valV ((k, v) :: ks.zip vs) k' = _
      rw [valV_neg (fun e => by rw [← e] at h1; rw [keyEq_D.mpr h1] at q; cases q)]
      exact h2
theorem lk_dt {d e : PyData} : ∀ {ks : List (List Key)} {vs : List V} {ds : List PyData}, ks.length = vs.length → DaAll K G vs ds → lkD ((ks.map keyTD).zip ds) d = some e → ∃ k v, keyTOf d = some k ∧ valV (ks.zip vs) k = some v ∧ Da K G v e
  | [], _, _, _, _, h => by cases h
  | k :: ks, [], _, hl, _, _ => by simp at hl
  | k :: ks, v :: vs, _, hl, .cons (d := d1) (ds := ds) r t, h => by
    unfold lkD at h
    rw [List.map_cons, List.zip_cons_cons, List.find?_cons] at h
    cases q : keyEq (keyTD k) d with
    | true =>
      simp only [q] at h
      cases h
      exact ⟨k, v, keyEq_TD.mp q, valV_pos rfl, r⟩
    | false =>
      simp only [q] at h
      obtain ⟨k', v', h1, h2, h3⟩ := lk_dt (ks := ks) (by simpa using hl) t h
      refine ⟨k', v', h1, ?_, h3⟩
      show valV ((k, v) :: ks.zip vs) k' = _
      rw [valV_neg (fun e => by rw [← e] at h1; rw [keyEq_TD.mpr h1] at q; cases q)]
      exact h2
/-- a key of a frozen dict, read -/
theorem dget_frz {v w : V} {d e : PyData} {kvs : List (PyData × PyData)} (ex : Ext G H) (h : Da K G v (.dict kvs)) (hd : Da K G w d) (hl : lkD kvs d = some e) : ∃ a u, v = .ref a ∧ DGet H a w (some u) ∧ Da K G u e := by
  cases h with
  | wk h1 h2 h3 =>
    subst h3
    unfold lkD at hl
    simp only [List.find?_cons, List.find?_nil] at hl
    have : keyEq .none d = false := rfl
    rw [this] at hl
    cases hl
  | dk h1 h2 h3 h4 h5 =>
    subst h5
    obtain ⟨k, u, q1, q2, q3⟩ := lk_dk h2 h4 hl
    refine ⟨_, u, rfl, ?_, q3⟩
    rw [da_key hd q1]
    exact .inl ⟨_, k, .inr ⟨_, ex _ _ h1⟩, rfl, q2.symm⟩
  | dt h1 h2 h3 h4 h5 =>
    subst h5
    have hl : lkD ((List.map keyTD _).zip _) d = some e := hl
    obtain ⟨k, u, q1, q2, q3⟩ := lk_dt h2 h4 hl
    obtain ⟨b, rfl, hb⟩ := da_keyT hd q1
    exact ⟨_, u, rfl, .inr ⟨_, k, b, .inr ⟨_, ex _ _ h1⟩, rfl, ex b _ hb, q2.symm⟩, q3⟩
theorem lkD_none {k : Key} {d : PyData} (hk : keyOf d = some k) : ∀ {ks : List Key} {vs : List V} {ds : List PyData}, ks.length = vs.length → DaAll K G vs ds → lkD ((ks.map keyD).zip ds) d = none → valV (ks.zip vs) k = none
  | [], _, _, _, _, _ => rfl
  | x :: ks, [], _, hl, _, _ => by simp at hl
  | x :: ks, v :: vs, _, hl, .cons (d := d1) (ds := ds) r t, h => by
    unfold lkD at h
    rw [List.map_cons, List.zip_cons_cons, List.find?_cons] at h
    cases q : keyEq (keyD x) d with
    | true => simp only [q] at h; cases h
    | false =>
      simp only [q] at h
      show valV ((x, v) :: ks.zip vs) k = _
      rw [valV_neg (fun (e : x = k) => by rw [keyEq_D.mpr (e ▸ hk)] at q; cases q)]
      exact lkD_none hk (by simpa using hl) t h
/-- a key looked for in a frozen dict -/
theorem dget_any {v w : V} {d : PyData} {k : Key} {kvs : List (PyData × PyData)} (ex : Ext G H) (h : Da K G v (.dict kvs)) (hd : Da K G w d) (hk : keyOf d = some k) (hp : kvs.all (fun p => (keyOf p.1).isSome) = true) :
    ∃ a o, v = .ref a ∧ DGet H a w o ∧ o.isSome = (lkD kvs d).isSome := by
  cases h with
  | wk h1 h2 h3 => subst h3; cases hp
  | dk h1 h2 h3 h4 h5 =>
    subst h5
    cases hl : lkD _ d with
    | none =>
      refine ⟨_, none, rfl, ?_, rfl⟩
      rw [da_key hd hk]
      exact .inl ⟨_, k, .inr ⟨_, ex _ _ h1⟩, rfl, (lkD_none hk h2 h4 hl).symm⟩
    | some e =>
      obtain ⟨k', u, q1, q2, q3⟩ := lk_dk h2 h4 hl
      refine ⟨_, some u, rfl, ?_, rfl⟩
      rw [da_key hd q1]
      exact .inl ⟨_, k', .inr ⟨_, ex _ _ h1⟩, rfl, q2.symm⟩
  | dt h1 h2 h3 h4 h5 => subst h5; cases hp
/-- no tuple of unknown make, no tuple keys -/
def plainD (kvs : List (PyData × PyData)) : Bool := kvs.all fun p => (keyOf p.1).isSome
def inDk (neg : Bool) (a b : M) : Option M := match a, b with
  | .dat d, .dat (.dict kvs) => match keyOf d with
    | some _ => if plainD kvs = true then some (.dat (.bool (if neg = true then !(lkD kvs d).isSome else (lkD kvs d).isSome))) else none
    | none => none
  | .dat d, .dk ks _ => match keyOf d with
    | some k => some (.dat (.bool (if neg = true then !(fnd k ks).isSome else (fnd k ks).isSome)))
    | none => none
  | _, _ => none
theorem fnd_isSome {k : Key} : ∀ {ks : List Key} {vs : List V}, ks.length = vs.length → (valV (ks.zip vs) k).isSome = (fnd k ks).isSome
  | [], [], _ => rfl
  | [], _ :: _, e => by simp at e
  | _ :: _, [], e => by simp at e
  | x :: ks, v :: vs, e => by
    unfold fnd
    show (valV ((x, v) :: ks.zip vs) k).isSome = _
    by_cases hx : x = k
    · rw [if_pos hx, valV_pos hx]; rfl
    · rw [if_neg hx, valV_neg hx, fnd_isSome (by simpa using e)]
      cases fnd k ks <;> rfl
def rInDk (neg : Bool) : R2 := fun x y H Q => ∃ a o, y = .ref a ∧ DGet H a x o ∧ Q (.bl (if neg = true then !o.isSome else o.isSome)) H
theorem or_inDk {X : Cx} (hu : X.A.units + 1 < cLine) : OpR X (compareOp .In) (rInDk false) := by
  intro pins s σ H x y v u Q I rx ry h
  obtain ⟨a, o, rfl, g, q⟩ := h
  cases ry
  exact d_in hu I g rx fun s' I' => ⟨.bl o.isSome, H, I', rfl, q⟩
theorem or_ninDk {X : Cx} (hu : X.A.units + 1 < cLine) : OpR X (compareOp .NotIn) (rInDk true) := by
  intro pins s σ H x y v u Q I rx ry h
  obtain ⟨a, o, rfl, g, q⟩ := h
  cases ry
  exact d_notIn hu I g rx fun s' I' => ⟨.bl (!o.isSome), H, I', rfl, q⟩
theorem os_inDk {neg : Bool} : Op2 K (rInDk neg) (inDk neg) := by
  intro v1 v2 m1 m2 m H G fx fy Q e r1 r2 ho hq
  unfold inDk at ho
  split at ho
  · rename_i d kvs
    cases qk : keyOf d with
    | none => rw [qk] at ho; cases ho
    | some k =>
      rw [qk] at ho
      simp only at ho
      by_cases hp : plainD kvs = true
      · rw [if_pos hp] at ho
        cases ho
        obtain ⟨a, o, rfl, z1, z2⟩ := dget_any e r2.dat' r1.dat' qk hp
        refine ⟨_, _, rfl, z1, ?_⟩
        rw [z2]
        exact hq _ H G [] (New.refl e) (.dat (.bl _))
      · rw [if_neg hp] at ho; cases ho
  · rename_i d ks xs
    cases qk : keyOf d with
    | none => rw [qk] at ho; cases ho
    | some k =>
      rw [qk] at ho
      cases ho
      cases r2 with
      | dk h1 h2 h3 =>
        have := da_key r1.dat' qk
        subst this
        refine ⟨_, _, rfl, DGet.k h1, ?_⟩
        rw [fnd_isSome h2]
        exact hq _ H G [] (New.refl e) (.dat (.bl _))
  · cases ho
def opIn (neg : Bool) (a b : M) : Option M := match inStr neg a b with
  | some m => some m
  | none => match inSeq neg a b with
    | some m => some m
    | none => inDk neg a b
def rInS (neg : Bool) : R2 := fun x y H Q => ∃ i j, x = .str i ∧ y = .str j ∧ Q (.bl (if neg = true then !(!(Builtin.Str.occurrences j i 0 j.length 1).isEmpty) else !(Builtin.Str.occurrences j i 0 j.length 1).isEmpty)) H
def rInA (K : PySem.W.Frag) (neg : Bool) : R2 := fun x y H Q => rInS neg x y H Q ∨ (rIn K neg x y H Q ∨ rInDk neg x y H Q)
theorem or_in {X : Cx} (hu : X.A.units + 1 < cLine) : OpR X (compareOp .In) (rInA X.K false) := OpR.or op_in_str (OpR.or op_in_seq (or_inDk hu))
theorem or_nin {X : Cx} (hu : X.A.units + 1 < cLine) : OpR X (compareOp .NotIn) (rInA X.K true) := OpR.or op_notin_str (OpR.or op_notIn_seq (or_ninDk hu))
theorem os_in {neg : Bool} : Op2 K (rInA K neg) (opIn neg) := Op2.or (op_str2 fun i j d H Q h => by cases h; exact ⟨_, rfl, fun q => ⟨i, j, rfl, rfl, q⟩⟩) (Op2.or os_inSeq os_inDk)
/-! ### one operand -/
def opNeg : M → Option M
  | .dat (.int i) => some (.dat (.int (-i)))
  | _ => none
theorem os_neg : Op1 K (rU fun i => .int (-i)) opNeg := by
  intro v1 m1 m H G fx Q e r1 ho hq
  unfold opNeg at ho
  split at ho
  · cases ho
    cases r1 with
    | dat r1 => cases r1; exact ⟨_, rfl, hq _ H G [] (New.refl e) (.dat (.int _))⟩
  · cases ho
/-! ### built-in functions -/
theorem RBs.cases1 {vs : List V} {m : M} (h : RBs K G H vs [m]) : ∃ v fx, vs = [v] ∧ RM K G H v m fx := by
  cases h with
  | cons r t => cases t; exact ⟨_, _, rfl, r⟩
theorem RBs.cases2 {vs : List V} {m n : M} (h : RBs K G H vs [m, n]) : ∃ v w fx fy, vs = [v, w] ∧ RM K G H v m fx ∧ RM K G H w n fy := by
  cases h with
  | cons r t =>
    cases t with
    | cons r' t => cases t; exact ⟨_, _, _, _, rfl, r, r'⟩
def opLen : List M → Option M
  | [.dat (.str x)] => if x.length ≤ sizeLine then some (.dat (.int x.length)) else none
  | [.dat (.list ds)] => some (.dat (.int ds.length))
  | [.dat (.tuple ds)] => some (.dat (.int ds.length))
  | [.lst xs] => some (.dat (.int xs.length))
  | [.scr ns] => some (.dat (.int ns.length))
  | _ => none
theorem os_len : OpN K (fun xs H Q => ∃ x n, xs = [x] ∧ LenV K x H n ∧ Q (.int n) H) opLen := by
  intro vs ms m H G Q e rs ho hq
  unfold opLen at ho
  split at ho
  · rename_i x
    by_cases hz : x.length ≤ sizeLine
    · rw [if_pos hz] at ho
      cases ho
      obtain ⟨v, fx, rfl, r⟩ := rs.cases1
      cases r with
      | dat r => cases r; exact ⟨_, _, rfl, ⟨hz, rfl⟩, hq _ H G [] (New.refl e) (.dat (.int _))⟩
    · rw [if_neg hz] at ho; cases ho
  · cases ho
    obtain ⟨v, fx, rfl, r⟩ := rs.cases1
    cases r with
    | dat r =>
      cases r with
      | lst h1 h2 => exact ⟨_, _, rfl, .inl ⟨_, .inl (e.rd h1), (DaAll.length h2).symm⟩, hq _ H G [] (New.refl e) (.dat (.int _))⟩
  · cases ho
    obtain ⟨v, fx, rfl, r⟩ := rs.cases1
    cases r with
    | dat r =>
      cases r with
      | tup h1 h2 => exact ⟨_, _, rfl, .inr ⟨_, e.t h1.sq, (DaAll.length h2).symm⟩, hq _ H G [] (New.refl e) (.dat (.int _))⟩
  · cases ho
    obtain ⟨v, fx, rfl, r⟩ := rs.cases1
    cases r with
    | lst h1 h2 => exact ⟨_, _, rfl, .inl ⟨_, SqL.of h1, h2.length.symm⟩, hq _ H G [] (New.refl e) (.dat (.int _))⟩
  · cases ho
    obtain ⟨v, fx, rfl, r⟩ := rs.cases1
    cases r with
    | scr h1 => exact ⟨_, _, rfl, .inl ⟨_, e.l h1, by simp⟩, hq _ H G [] (New.refl e) (.dat (.int _))⟩
  · cases ho
def opMax2 : List M → Option M
  | [.dat (.int i), .dat (.int j)] => some (.dat (.int (if j > i then j else i)))
  | _ => none
theorem os_max2 : OpN K (fun xs H Q => ∃ i j, xs = [.int i, .int j] ∧ Q (.int (if j > i then j else i)) H) opMax2 := by
  intro vs ms m H G Q e rs ho hq
  unfold opMax2 at ho
  split at ho
  · cases ho
    obtain ⟨v, w, fx, fy, rfl, r, r'⟩ := rs.cases2
    cases r with
    | dat r => cases r; cases r' with
      | dat r' => cases r'; exact ⟨_, _, rfl, hq _ H G [] (New.refl e) (.dat (.int _))⟩
  · cases ho
def opMin2 : List M → Option M
  | [.dat (.int i), .dat (.int j)] => some (.dat (.int (if j < i then j else i)))
  | _ => none
theorem os_min2 : OpN K (fun xs H Q => ∃ i j, xs = [.int i, .int j] ∧ Q (.int (if j < i then j else i)) H) opMin2 := by
  intro vs ms m H G Q e rs ho hq
  unfold opMin2 at ho
  split at ho
  · cases ho
    obtain ⟨v, w, fx, fy, rfl, r, r'⟩ := rs.cases2
    cases r with
    | dat r => cases r; cases r' with
      | dat r' => cases r'; exact ⟨_, _, rfl, hq _ H G [] (New.refl e) (.dat (.int _))⟩
  · cases ho
def opStr : List M → Option M
  | [.dat (.int i)] => if i.natAbs.log2 < 1920 then some (.dat (.str (toString i))) else none
  | _ => none
theorem os_str : OpN K (fun xs H Q => ∃ i, xs = [.int i] ∧ i.natAbs.log2 < 1920 ∧ Q (.str (toString i)) H) opStr := by
  intro vs ms m H G Q e rs ho hq
  unfold opStr at ho
  split at ho
  · rename_i i
    by_cases hz : i.natAbs.log2 < 1920
    · rw [if_pos hz] at ho
      cases ho
      obtain ⟨v, fx, rfl, r⟩ := rs.cases1
      cases r with
      | dat r => cases r; exact ⟨_, rfl, hz, hq _ H G [] (New.refl e) (.dat (.str _))⟩
    · rw [if_neg hz] at ho; cases ho
  · cases ho
def opInt : List M → Option M
  | [.dat (.int i)] => some (.dat (.int i))
  | [.dat (.bool k)] => some (.dat (.int (if k then 1 else 0)))
  | _ => none
theorem os_intc : OpN K (fun xs H Q => (∃ i, xs = [.int i] ∧ Q (.int i) H) ∨ ∃ k, xs = [.bl k] ∧ Q (.int (if k then 1 else 0)) H) opInt := by
  intro vs ms m H G Q e rs ho hq
  unfold opInt at ho
  split at ho
  · cases ho
    obtain ⟨v, fx, rfl, r⟩ := rs.cases1
    cases r with
    | dat r => cases r; exact .inl ⟨_, rfl, hq _ H G [] (New.refl e) (.dat (.int _))⟩
  · cases ho
    obtain ⟨v, fx, rfl, r⟩ := rs.cases1
    cases r with
    | dat r => cases r; exact .inr ⟨_, rfl, hq _ H G [] (New.refl e) (.dat (.int _))⟩
  · cases ho
def boolsOf : List PyData → Option (List Bool)
  | [] => some []
  | .bool b :: ds => match boolsOf ds with
    | some bs => some (b :: bs)
    | none => none
  | _ :: _ => none
theorem boolsOf_map : ∀ {ds : List PyData} {bs : List Bool}, boolsOf ds = some bs → ds = bs.map .bool
  | [], _, h => by cases h; rfl
  | d :: ds, bs, h => by
    cases d with
    | bool b =>
      unfold boolsOf at h
      cases q : boolsOf ds with
      | none => rw [q] at h; cases h
      | some bs' => rw [q] at h; cases h; rw [boolsOf_map q]; rfl
    | _ => cases h
def intsOf : List PyData → Option (List Int)
  | [] => some []
  | .int b :: ds => match intsOf ds with
    | some bs => some (b :: bs)
    | none => none
  | _ :: _ => none
theorem intsOf_map : ∀ {ds : List PyData} {bs : List Int}, intsOf ds = some bs → ds = bs.map .int
  | [], _, h => by cases h; rfl
  | d :: ds, bs, h => by
    cases d with
    | int b =>
      unfold intsOf at h
      cases q : intsOf ds with
      | none => rw [q] at h; cases h
      | some bs' => rw [q] at h; cases h; rw [intsOf_map q]; rfl
    | _ => cases h
def strsOf : List PyData → Option (List Str)
  | [] => some []
  | .str b :: ds => match strsOf ds with
    | some bs => some (b :: bs)
    | none => none
  | _ :: _ => none
theorem strsOf_map : ∀ {ds : List PyData} {bs : List Str}, strsOf ds = some bs → ds = bs.map .str
  | [], _, h => by cases h; rfl
  | d :: ds, bs, h => by
    cases d with
    | str b =>
      unfold strsOf at h
      cases q : strsOf ds with
      | none => rw [q] at h; cases h
      | some bs' => rw [q] at h; cases h; rw [strsOf_map q]; rfl
    | _ => cases h
def list1 {α : Type} (conv : List PyData → Option α) (f : α → Option PyData) : List M → Option M
  | [m] => match m.asList with
    | some ds => match conv ds with
      | some a => match f a with
        | some d => some (.dat d)
        | none => none
      | none => none
    | none => none
  | _ => none
theorem list1_inv {α : Type} {conv : List PyData → Option α} {f : α → Option PyData} {ms : List M} {m : M} (h : list1 conv f ms = some m) : ∃ x ds a d, ms = [x] ∧ x.asList = some ds ∧ conv ds = some a ∧ f a = some d ∧ m = .dat d := by
  unfold list1 at h
  split at h
  · rename_i x
    cases q1 : x.asList with
    | none => rw [q1] at h; cases h
    | some ds =>
      rw [q1] at h
      simp only at h
      cases q2 : conv ds with
      | none => rw [q2] at h; cases h
      | some a =>
        rw [q2] at h
        simp only at h
        cases q3 : f a with
        | none => rw [q3] at h; cases h
        | some d => rw [q3] at h; cases h; exact ⟨x, ds, a, d, rfl, q1, q2, q3, rfl⟩
  · cases h
def opAll : List M → Option M := list1 boolsOf fun bs => some (.bool (bs.all id))
def opAny : List M → Option M := list1 boolsOf fun bs => some (.bool (bs.any id))
def opSum : List M → Option M := list1 intsOf fun ns => some (.int ns.sum)
theorem os_all : OpN K (rAll K) opAll := by
  intro vs ms m H G Q e rs ho hq
  obtain ⟨x, ds, bs, d, rfl, h1, h2, h3, rfl⟩ := list1_inv ho
  cases h3
  obtain ⟨v, fx, rfl, r⟩ := rs.cases1
  obtain ⟨a, ws, rfl, h4, h5⟩ := r.asList e h1
  have := boolsOf_map h2
  subst this
  have := dp_bls h5
  subst this
  exact ⟨a, bs, rfl, .inl h4, hq _ H G [] (New.refl e) (.dat (.bl _))⟩
theorem os_any : OpN K (rAny K) opAny := by
  intro vs ms m H G Q e rs ho hq
  obtain ⟨x, ds, bs, d, rfl, h1, h2, h3, rfl⟩ := list1_inv ho
  cases h3
  obtain ⟨v, fx, rfl, r⟩ := rs.cases1
  obtain ⟨a, ws, rfl, h4, h5⟩ := r.asList e h1
  have := boolsOf_map h2
  subst this
  have := dp_bls h5
  subst this
  exact ⟨a, bs, rfl, .inl h4, hq _ H G [] (New.refl e) (.dat (.bl _))⟩
theorem os_sum : OpN K (rSum K) opSum := by
  intro vs ms m H G Q e rs ho hq
  obtain ⟨x, ds, bs, d, rfl, h1, h2, h3, rfl⟩ := list1_inv ho
  cases h3
  obtain ⟨v, fx, rfl, r⟩ := rs.cases1
  obtain ⟨a, ws, rfl, h4, h5⟩ := r.asList e h1
  have := intsOf_map h2
  subst this
  have := dp_ints h5
  subst this
  exact ⟨a, bs, rfl, .inl h4, hq _ H G [] (New.refl e) (.dat (.int _))⟩
/-- list(xs), tuple(xs) of data -/
def opList : List M → Option M
  | [m] => match m.asSeq with
    | some ds => some (.lst (ds.map M.dat))
    | none => none
  | _ => none
theorem os_list : OpN K (fun xs H Q => ∃ p ys, xs = [.ref p] ∧ (SqL K H p ys ∨ SqT K H p ys) ∧ ∀ l, H l = none → Q (.ref l) (upd H l (.lst ys))) opList := by
  intro vs ms m H G Q e rs ho hq
  unfold opList at ho
  split at ho
  · rename_i x
    cases q1 : x.asSeq with
    | none => rw [q1] at ho; cases ho
    | some ds =>
      rw [q1] at ho
      cases ho
      obtain ⟨v, fx, rfl, r⟩ := rs.cases1
      obtain ⟨a, ws, rfl, h4, h5⟩ := r.asSeq e q1
      exact ⟨a, ws, rfl, h4, fun l hl => hq (.ref l) _ G [l] (New.obj e hl) (.lst upd_same (RMs.ofDats h5))⟩
  · cases ho
def opTuple : List M → Option M
  | [.dat (.tuple ds)] => some (.dat (.tuple ds))
  | [m] => match m.asList with
    | some ds => some (.dat (.tuple ds))
    | none => none
  | _ => none
theorem os_tuple : OpN K (fun xs H Q => ∃ p ys, xs = [.ref p] ∧ ((SqL K H p ys ∧ ∀ l ho, H l = none → NewT ys ho → Q (.ref l) (upd H l ho)) ∨ (SqT K H p ys ∧ Q (.ref p) H))) opTuple := by
  intro vs ms m H G Q e rs ho hq
  unfold opTuple at ho
  split at ho
  · cases ho
    obtain ⟨v, fx, rfl, r⟩ := rs.cases1
    cases r with
    | dat r =>
      cases r with
      | tup h1 h2 => exact ⟨_, _, rfl, .inr ⟨e.t h1.sq, hq _ H G [] (New.refl e) (.dat (.tup h1 h2))⟩⟩
  · rename_i x _
    cases q1 : x.asList with
    | none => rw [q1] at ho; cases ho
    | some ds =>
      rw [q1] at ho
      cases ho
      obtain ⟨v, fx, rfl, r⟩ := rs.cases1
      obtain ⟨a, ws, rfl, h4, h5⟩ := r.asList e q1
      exact ⟨a, ws, rfl, .inl ⟨.inl h4, fun l ho hl nt => hq (.ref l) _ (upd G l ho) [] (New.known e hl) (.dat (.tup (PlT.of nt) (Ext.dps (ext_upd (none_of e hl)) _ h5)))⟩⟩
  · cases ho
/-! ### methods of texts (the receiver first) -/
def opJoin : List M → Option M
  | [.dat (.str a), m] => match m.asSeq with
    | some ds => match strsOf ds with
      | some ys => if (ys.map (·.length)).sum + ys.length * a.length ≤ 16777216 then some (.dat (.str (Txt.join a ys))) else none
      | none => none
    | none => none
  | _ => none
end
end DL

set_option Elab.async false
set_option linter.all false
set_option maxRecDepth 100000
/-! DLh: displays, subscripts, slices, what is walked, lists changed in place. -/
namespace DL
open PySem PySem.Spec PyProof.Rows L2

section
variable {K : PySem.W.Frag} {W : WX} {b : Bool} {τ σ : St} {τm ρ : Rho} {H G H1 G1 : Hp} {fp fp1 : List Addr} {rf : List Nat}
/-! ### displays -/
theorem ROs.toRMs : ∀ {vs : List V} {ms : List M} {f : List Addr}, ROs K G H (vs.map some) (ms.map some) f → RMs K G H vs ms f
  | [], [], _, .nil => .nil
  | v :: vs, m :: ms, _, .so r t => .cons r (ROs.toRMs t)
theorem RMs.perm_free {vs : List V} {ms : List M} {f : List Addr} (C : SA K (vs.map some) (ms.map some) H G f) : ∃ f', RMs K G H vs ms f' ∧ f'.Perm f := by
  obtain ⟨f0, h, p⟩ := C.sl
  exact ⟨f0, h.toRMs, p⟩
def noM (as : List Vl) : List Bool := as.map fun _ => false
def ownM (as : List Vl) : List Bool := as.map fun a => match a with
  | .val _ => true
  | .plc _ _ => false
def cTup (fr : Rho → Out (List Vl)) : Rho → Out Vl := fun ρ => match fr ρ with
  | .ok as ρ1 => match prep (noM as) as ρ1 with
    | some (ms, ρ2) => match datsOf ms with
      | some ds => if ds.length ≤ sizeLine then .ok (.val (.dat (.tuple ds))) ρ2 else .bad
      | none => .bad
    | none => .bad
  | .exc x ρ1 => .exc x ρ1
  | .bad => .bad
theorem ev_tup {ta : TA} {fr : Rho → Out (List Vl)} (ha : EvA K W b ta fr) : EvE K W b (tTupN ta) (cTup fr) := by
  intro τ σ τm ρ H G fp Q hl S P
  refine ha τ σ τm ρ H G fp _ hl S ?_
  unfold cTup at P
  cases hf : fr ρ with
  | bad => rw [hf] at P; exact P
  | exc x ρ1 => rw [hf] at P; exact fun cls d H' G' fp' T' S' r => P cls d H' G' fp' T' S' r
  | ok as ρ1 =>
    rw [hf] at P
    simp only at P
    intro vs H1 G1 fp1 T1 e1 S1 ps
    cases hp : prep (noM as) as ρ1 with
    | none => rw [hp] at P; exact P.elim
    | some q =>
      obtain ⟨ms, ρ2⟩ := q
      rw [hp] at P
      simp only at P
      cases hd : datsOf ms with
      | none => rw [hd] at P; exact P.elim
      | some ds =>
        rw [hd] at P
        simp only at P
        by_cases hz : ds.length ≤ sizeLine
        · rw [if_pos hz] at P
          obtain ⟨G2, fA, fB, C, SB, dis, T2⟩ := prep_ok (s := []) (m := []) hl rfl ps S1 hp
          obtain ⟨fc, rm, _⟩ := RMs.perm_free C
          have da := rm.datsOf hd
          refine ⟨by rw [DaAll.length da]; exact hz, fun p ho hp' nt => ?_⟩
          have SB : SA K ([] ++ (τ ++ σ)) ([] ++ (τm ++ ρ2)) H1 G2 fB := SB
          have T12 : Tr H G fp H1 G2 fB := (T1.trans T2).sub fun a ha => List.mem_append_right _ ha
          exact fin_new (s := []) (m := []) P T12 e1 SB rfl (New.known SB.same hp') (.dat (.tup (PlT.of nt) (Ext.dps (ext_upd (none_of SB.same hp')) _ da)))
        · rw [if_neg hz] at P; exact P.elim
def cLst (fr : Rho → Out (List Vl)) : Rho → Out Vl := fun ρ => match fr ρ with
  | .ok as ρ1 => match prep (ownM as) as ρ1 with
    | some (ms, ρ2) => if ms.length ≤ sizeLine then .ok (.val (.lst ms)) ρ2 else .bad
    | none => .bad
  | .exc x ρ1 => .exc x ρ1
  | .bad => .bad
theorem ev_lst {ta : TA} {fr : Rho → Out (List Vl)} (ha : EvA K W b ta fr) : EvE K W b (tLst ta) (cLst fr) := by
  intro τ σ τm ρ H G fp Q hl S P
  refine ha τ σ τm ρ H G fp _ hl S ?_
  unfold cLst at P
  cases hf : fr ρ with
  | bad => rw [hf] at P; exact P
  | exc x ρ1 => rw [hf] at P; exact fun cls d H' G' fp' T' S' r => P cls d H' G' fp' T' S' r
  | ok as ρ1 =>
    rw [hf] at P
    simp only at P
    intro vs H1 G1 fp1 T1 e1 S1 ps
    cases hp : prep (ownM as) as ρ1 with
    | none => rw [hp] at P; exact P.elim
    | some q =>
      obtain ⟨ms, ρ2⟩ := q
      rw [hp] at P
      simp only at P
      by_cases hz : ms.length ≤ sizeLine
      · rw [if_pos hz] at P
        obtain ⟨G2, fA, fB, C, SB, dis, T2⟩ := prep_ok (s := []) (m := []) hl rfl ps S1 hp
        obtain ⟨fc, rm, pc⟩ := RMs.perm_free C
        refine ⟨by rw [RMs.length rm]; exact hz, fun p hp' => ?_⟩
        have SB : SA K (τ ++ σ) (τm ++ ρ2) H1 G2 fB := SB
        have ex : Ext H1 (upd H1 p (.lst vs)) := ext_upd hp'
        have pA : p ∉ fA := fun z => by
          obtain ⟨o, e⟩ := C.tracked p z
          rw [hp'] at e; cases e
        have pB : p ∉ fB := fun z => by
          obtain ⟨o, e⟩ := SB.tracked p z
          rw [hp'] at e; cases e
        have rm' : RM K G2 (upd H1 p (.lst vs)) (.ref p) (.lst ms) (p :: fc) := .lst upd_same (rm.at (Ext.refl G2) fun a ha => upd_ne fun z => pA (by rw [← z]; exact pc.mem_iff.mp ha))
        have SB2 : SA K (τ ++ σ) (τm ++ ρ2) (upd H1 p (.lst vs)) G2 fB := SB.at (Ext.refl G2) (SB.same.trans ex) SB.free fun a ha => upd_ne fun z => pB (by rw [← z]; exact ha)
        have ndc : fc.Nodup := pc.nodup_iff.mpr C.nd
        have S3 := SB2.push rm' (fun a ha => by
            rcases List.mem_cons.mp ha with rfl | ha
            · exact none_of SB.same hp'
            · exact C.free a (pc.mem_iff.mp ha)) (List.nodup_cons.mpr ⟨fun z => pA (pc.mem_iff.mp z), ndc⟩) (fun a ha hb => by
            rcases List.mem_cons.mp ha with rfl | ha
            · exact pB hb
            · exact dis a (pc.mem_iff.mp ha) hb)
        have T12 := T1.trans T2
        refine P (.ref p) _ G2 _ ⟨T12.g, fun a o q n => ex a o (T12.k a o q n), fun a ha => ?_, T12.n⟩ (fun z => (e1 z).trans ex) S3 trivial
        rcases List.mem_append.mp ha with ha | ha
        · rcases List.mem_cons.mp ha with rfl | ha
          · by_cases hfp : a ∈ fp
            · exact .inl hfp
            · cases q : H a with
              | none => exact .inr rfl
              | some o => rw [T12.k a o q hfp] at hp'; cases hp'
          · exact T12.f a (List.mem_append_left _ (pc.mem_iff.mp ha))
        · exact T12.f a (List.mem_append_right _ ha)
      · rw [if_neg hz] at P; exact P.elim
/-! ### subscripts that read -/
theorem DaAll.atI {vs : List V} {ds : List PyData} {i : Int} {d : PyData} (h : DaAll K G vs ds) (e : L2.atI ds i = some d) : ∃ v, L2.atI vs i = some v ∧ Da K G v d := by
  unfold L2.atI at e ⊢
  rw [DaAll.length h]
  cases q : ixN ds.length i with
  | none => rw [q] at e; cases e
  | some j =>
    rw [q] at e
    exact DaAll.get h e
/-- an item: data, or where it stands -/
def itemOf (x : Vl) (c : M) (s : Stp) (ρ : Rho) : Out Vl := match c with
  | .dat d => .ok (.val (.dat d)) ρ
  | _ => match x with
    | .plc i π => .ok (.plc i (π ++ [s])) ρ
    | .val _ => .bad
def ixK (m : M) (i : PyData) : Option (M × Stp) := match m, i with
  | .dat (.list ds), .int i => match L2.atI ds i with
    | some d => some (.dat d, .ix 0)
    | none => none
  | .dat (.tuple ds), .int i => match L2.atI ds i with
    | some d => some (.dat d, .ix 0)
    | none => none
  | .dat (.str x), .int i => match L2.atI x.cps.toList i with
    | some c => if x.length ≤ sizeLine then some (.dat (.str ⟨#[c]⟩), .ix 0) else none
    | none => none
  | .lst xs, .int i => match ixN xs.length i with
    | some j => match xs[j]? with
      | some c => some (c, .ix j)
      | none => none
    | none => none
  | .dk ks xs, d => match keyOf d with
    | some k => match fnd k ks with
      | some j => match xs[j]? with
        | some c => some (c, .key k)
        | none => none
      | none => none
    | none => none
  | .dt ks xs, d => match keyTOf d with
    | some k => match fnd k ks with
      | some j => match xs[j]? with
        | some c => some (c, .keyt k)
        | none => none
      | none => none
    | none => none
  | .dat (.dict kvs), d => match lkD kvs d with
    | some e => some (.dat e, .ix 0)
    | none => none
  | _, _ => none
def finIx (x y : Vl) (ρ : Rho) : Out Vl := match rdVl ρ x, y with
  | some m, .val (.dat i) => match ixK m i with
    | some (c, s) => itemOf x c s ρ
    | none => .bad
  | _, _ => .bad
def cIx (bb : Bool) (fa fb : Rho → Out Vl) : Rho → Out Vl := cTwo bb fa fb finIx
/-- the item is read -/
def rIxA (K : PySem.W.Frag) : R2 := fun x y H Q => rIx K x y H Q ∨ ∃ a v, x = .ref a ∧ DGet H a y (some v) ∧ Q v H
theorem ix_read {m c : M} {v w : V} {i : PyData} {s : Stp} {fx : List Addr} (e : Ext G H) (r : RM K G H v m fx) (hi : Da K G w i) (h : ixK m i = some (c, s)) :
    ∃ u fy, RM K G H u c fy ∧ (∀ Q : VK, Q u H → rIxA K v w H Q) ∧ ((∃ d, c = .dat d) ∨ vstep H v s = some u) := by
  unfold ixK at h
  split at h
  · rename_i ds j
    cases q : L2.atI ds j with
    | none => rw [q] at h; cases h
    | some d =>
      rw [q] at h; cases h
      cases hi
      cases r with
      | dat r =>
        cases r with
        | lst h1 h2 =>
          obtain ⟨u, h3, h4⟩ := DaAll.atI h2 q
          exact ⟨u, [], .dat h4, fun Q k => .inl (.inl ⟨_, _, _, _, rfl, rfl, .inl (e.rd h1), h3, k⟩), .inl ⟨_, rfl⟩⟩
  · rename_i ds j
    cases q : L2.atI ds j with
    | none => rw [q] at h; cases h
    | some d =>
      rw [q] at h; cases h
      cases hi
      cases r with
      | dat r =>
        cases r with
        | tup h1 h2 =>
          obtain ⟨u, h3, h4⟩ := DaAll.atI h2 q
          exact ⟨u, [], .dat h4, fun Q k => .inl (.inr (.inl ⟨_, _, _, _, rfl, rfl, e.t h1.sq, h3, k⟩)), .inl ⟨_, rfl⟩⟩
  · rename_i x j
    cases q : L2.atI x.cps.toList j with
    | none => rw [q] at h; cases h
    | some d =>
      rw [q] at h
      simp only at h
      by_cases hz : x.length ≤ sizeLine
      · rw [if_pos hz] at h
        cases h
        cases hi
        cases r with
        | dat r =>
          cases r
          exact ⟨_, [], .dat (.str _), fun Q k => .inl (.inr (.inr ⟨_, _, _, rfl, rfl, hz, q, k⟩)), .inl ⟨_, rfl⟩⟩
      · rw [if_neg hz] at h; cases h
  · rename_i xs j
    cases q : ixN xs.length j with
    | none => rw [q] at h; cases h
    | some n =>
      rw [q] at h
      simp only at h
      cases q2 : xs[n]? with
      | none => rw [q2] at h; cases h
      | some c' =>
        rw [q2] at h; cases h
        cases hi
        cases r with
        | lst h1 h2 =>
          obtain ⟨vc, fp1, fq, z1, z2, _, _⟩ := h2.out q2
          refine ⟨vc, fp1, z2, fun Q k => .inl (.inl ⟨_, _, _, _, rfl, rfl, SqL.of h1, ?_, k⟩), .inr ?_⟩
          · unfold L2.atI
            rw [h2.length, q]
            exact z1
          · show (match H _ with | some (HO.lst vs) => vs[n]? | _ => none) = _
            rw [h1]; exact z1
  · rename_i ks xs
    cases qk : keyOf i with
    | none => rw [qk] at h; cases h
    | some k =>
      rw [qk] at h
      simp only at h
      cases q : fnd k ks with
      | none => rw [q] at h; cases h
      | some n =>
        rw [q] at h
        simp only at h
        cases q2 : xs[n]? with
        | none => rw [q2] at h; cases h
        | some c' =>
          rw [q2] at h; cases h
          cases r with
          | dk h1 h2 h3 =>
            obtain ⟨vc, fp1, fq, z1, z2, _, _⟩ := h3.out q2
            have := da_key hi qk
            subst this
            have hv := (fnd_val h2 q).trans z1
            refine ⟨vc, fp1, z2, fun Q k' => .inr ⟨_, _, rfl, ?_, k'⟩, .inr ?_⟩
            · rw [← hv]; exact DGet.k h1
            · show (match H _ with | some (HO.dK kvs) => valV kvs k | _ => none) = _
              rw [h1]; exact hv
  · rename_i ks xs
    cases qk : keyTOf i with
    | none => rw [qk] at h; cases h
    | some k =>
      rw [qk] at h
      simp only at h
      cases q : fnd k ks with
      | none => rw [q] at h; cases h
      | some n =>
        rw [q] at h
        simp only at h
        cases q2 : xs[n]? with
        | none => rw [q2] at h; cases h
        | some c' =>
          rw [q2] at h; cases h
          cases r with
          | dt h1 h2 h3 =>
            obtain ⟨vc, fp1, fq, z1, z2, _, _⟩ := h3.out q2
            obtain ⟨b, rfl, hb⟩ := da_keyT hi qk
            have hv := (fnd_val h2 q).trans z1
            refine ⟨vc, fp1, z2, fun Q k' => .inr ⟨_, _, rfl, ?_, k'⟩, .inr ?_⟩
            · rw [← hv]; exact DGet.t h1 (e b _ hb)
            · show (match H _ with | some (HO.dT kvs) => valV kvs k | _ => none) = _
              rw [h1]; exact hv
  · rename_i kvs
    cases q : lkD kvs i with
    | none => rw [q] at h; cases h
    | some d =>
      rw [q] at h
      cases h
      obtain ⟨a, u, rfl, z1, z2⟩ := dget_frz e r.dat' hi q
      exact ⟨u, [], .dat z2, fun Q k' => .inr ⟨_, _, rfl, z1, k'⟩, .inl ⟨_, rfl⟩⟩
  · cases h
theorem atP_snoc {H : Hp} : ∀ {π : List Stp} {v c u : V} {s : Stp}, atP H v π = some c → vstep H c s = some u → atP H v (π ++ [s]) = some u
  | [], v, c, u, s, h, h' => by
    cases h
    show (match vstep H v s with | none => none | some c => atP H c []) = _
    rw [h']; rfl
  | t :: π, v, c, u, s, h, h' => by
    unfold atP at h
    cases q : vstep H v t with
    | none => rw [q] at h; cases h
    | some c1 =>
      rw [q] at h
      show (match vstep H v t with | none => none | some c => atP H c (π ++ [s])) = _
      rw [q]
      exact atP_snoc h h'
theorem ev_ix {ba bb : Bool} {ta tb : TE} {fa fb : Rho → Out Vl} (ha : EvE K W ba ta fa) (hb : EvE K W bb tb fb) : EvE K W (ba && bb) (tOp (rIxA K) ta tb) (cIx bb fa fb) := by
  intro τ σ τm ρ H G fp Q hl S P
  refine two (b := ba && bb) (R := fun x y H2 => rIxA K x y H2 Q) ha hb hl S P (fun z => by simpa using z) fun x y ρ2 v1 v2 H2 G2 fp2 P2 T2 e2 S2 p1 p2 => ?_
  unfold finIx at P2
  cases h1 : rdVl ρ2 x with
  | none => simp only [h1] at P2; exact P2.elim
  | some m =>
    cases y with
    | plc j π => simp only [h1] at P2; exact P2.elim
    | val c =>
      cases c with
      | dat i =>
        simp only [h1] at P2
        cases h2 : ixK m i with
        | none => simp only [h2] at P2; exact P2.elim
        | some q =>
          obtain ⟨c, s⟩ := q
          simp only [h2] at P2
          obtain ⟨fx, r1⟩ := S2.rd (s := [some v2, some v1]) (m := [some (.dat i), x.pm]) (j := 1) rfl hl rfl rfl p1 h1
          obtain ⟨di, S3⟩ := SA.popD S2
          obtain ⟨u, fy, ru, k, z⟩ := ix_read S2.same r1 di h2
          refine k Q ?_
          obtain ⟨fq, S4, h4⟩ := SA.drop (v := some v1) (m := x.pm) S3
          unfold itemOf at P2
          cases c with
          | dat d => exact P2 u H2 G2 fq (T2.sub h4) e2 (S4.pushD ru.dat') trivial
          | _ =>
            cases x with
            | val m' => exact P2.elim
            | plc i' π =>
              obtain ⟨v0, q1, q2⟩ := p1
              rcases z with ⟨d, z⟩ | z
              · cases z
              · exact P2 u H2 G2 fq (T2.sub h4) e2 S4.noneFront ⟨v0, q1, atP_snoc q2 z⟩
      | _ => simp only [h1] at P2; exact P2.elim
/-! ### slices -/
def EvO (K : PySem.W.Frag) (W : WX) (to : TO) (f : Rho → Option (Option Int)) : Prop :=
  ∀ (τ σ : St) (τm ρ : Rho) (H G : Hp) (fp : List Addr) (o : Option Int) (Q : Option Int → Hp → Prop), τ.length = τm.length → SA K (τ ++ σ) (τm ++ ρ) H G fp → f ρ = some o → Q o H → to σ H Q
/-- an int reckoned without change -/
def EvNi (K : PySem.W.Frag) (te : TE) (f : Rho → Option PyData) : Prop :=
  ∀ (τ σ : St) (τm ρ : Rho) (H G : Hp) (fp : List Addr) (d : PyData) (Q : VK), τ.length = τm.length → SA K (τ ++ σ) (τm ++ ρ) H G fp → f ρ = some d → (∀ v, Da K G v d → Q v H) → te σ H Q
def nVar (i : Nat) : Rho → Option PyData := fun ρ => match ρ[i]? with
  | some (some (.dat d)) => some d
  | _ => none
theorem en_var {i : Nat} : EvNi K (tVar i) (nVar i) := by
  intro τ σ τm ρ H G fp d Q hl S h k
  unfold nVar at h
  split at h
  · rename_i d' hm
    cases h
    obtain ⟨v, hv, dv⟩ := S.dat (i := τm.length + i) (d := d) (by rw [List.getElem?_append_right (Nat.le_add_right _ _), Nat.add_sub_cancel_left]; exact hm)
    rw [← hl, List.getElem?_append_right (Nat.le_add_right _ _), Nat.add_sub_cancel_left] at hv
    exact ⟨v, hv, k v dv⟩
  · cases h
def nC (d : PyData) : Rho → Option PyData := fun _ => some d
theorem en_int {i : Int} : EvNi K (tC (.int i)) (nC (.int i)) := fun τ σ τm ρ H G fp d Q hl S h k => by cases h; exact k _ (.int i)
def nNeg (f : Rho → Option PyData) : Rho → Option PyData := fun ρ => match f ρ with
  | some (.int i) => some (.int (-i))
  | _ => none
theorem en_neg {te : TE} {f : Rho → Option PyData} (h : EvNi K te f) : EvNi K (tUn (rU fun i => .int (-i)) te) (nNeg f) := by
  intro τ σ τm ρ H G fp d Q hl S e k
  unfold nNeg at e
  split at e
  · rename_i i q
    cases e
    exact h τ σ τm ρ H G fp _ _ hl S q fun v dv => by cases dv; exact ⟨i, rfl, k _ (.int _)⟩
  · cases e
def nI2 (g : Int → Int → Int) (f f' : Rho → Option PyData) : Rho → Option PyData := fun ρ => match f ρ, f' ρ with
  | some (.int i), some (.int j) => some (.int (g i j))
  | _, _ => none
theorem nI2_eq {g : Int → Int → Int} {f f' : Rho → Option PyData} {ρ : Rho} {d : PyData} (e : nI2 g f f' ρ = some d) : ∃ i j, f ρ = some (.int i) ∧ f' ρ = some (.int j) ∧ d = .int (g i j) := by
  unfold nI2 at e
  split at e
  · cases e; exact ⟨_, _, by assumption, by assumption, rfl⟩
  · cases e
theorem en_add {ta tb : TE} {f f' : Rho → Option PyData} (h : EvNi K ta f) (h' : EvNi K tb f') : EvNi K (tOp (rAdd K) ta tb) (nI2 (fun i j => i + j) f f') := by
  intro τ σ τm ρ H G fp d Q hl S e k
  obtain ⟨i, j, q1, q2, rfl⟩ := nI2_eq e
  exact h τ σ τm ρ H G fp _ _ hl S q1 fun v dv => h' τ σ τm ρ H G fp _ _ hl S q2 fun w dw => by
    cases dv; cases dw
    exact .inl ⟨i, j, rfl, rfl, k _ (.int _)⟩
theorem en_sub {ta tb : TE} {f f' : Rho → Option PyData} (h : EvNi K ta f) (h' : EvNi K tb f') : EvNi K (tOp (rI0 fun i j => .int (i - j)) ta tb) (nI2 (fun i j => i - j) f f') := by
  intro τ σ τm ρ H G fp d Q hl S e k
  obtain ⟨i, j, q1, q2, rfl⟩ := nI2_eq e
  exact h τ σ τm ρ H G fp _ _ hl S q1 fun v dv => h' τ σ τm ρ H G fp _ _ hl S q2 fun w dw => by
    cases dv; cases dw
    exact ⟨i, j, rfl, rfl, k _ (.int _)⟩
def oNone : Rho → Option (Option Int) := fun _ => some none
theorem eo_none : EvO K W tNoPart oNone := fun τ σ τm ρ H G fp o Q hl S h k => by cases h; exact k
def oSome (f : Rho → Option PyData) : Rho → Option (Option Int) := fun ρ => match f ρ with
  | some (.int i) => some (some i)
  | _ => none
theorem eo_some {te : TE} {f : Rho → Option PyData} (h : EvNi K te f) : EvO K W (tPart te) (oSome f) := by
  intro τ σ τm ρ H G fp o Q hl S e k
  unfold oSome at e
  split at e
  · rename_i i q
    cases e
    exact h τ σ τm ρ H G fp _ _ hl S q fun v dv => by cases dv; exact ⟨i, rfl, k⟩
  · cases e
def cutD (xs : List PyData) (lo hi : Option Int) : List PyData := (xs.drop (HT.sIx xs.length 0 lo)).take (HT.sIx xs.length xs.length hi - HT.sIx xs.length 0 lo)
theorem DaAll.cut {vs : List V} {ds : List PyData} (h : DaAll K G vs ds) (lo hi : Option Int) : DaAll K G (cutV vs lo hi) (cutD ds lo hi) := by
  unfold cutV cutD
  rw [DaAll.length h]
  exact DaAll.take _ (DaAll.drop _ h)
def opSl (m : M) (lo hi : Option Int) : Option M := match m with
  | .dat (.str x) => if x.length ≤ sizeLine then some (.dat (.str (cutS x lo hi))) else none
  | .scr ns => some (.lst ((cutD (ns.map .int) lo hi).map M.dat))
  | .dat (.tuple ds) => some (.dat (.tuple (cutD ds lo hi)))
  | m => match m.asList with
    | some ds => some (.lst ((cutD ds lo hi).map M.dat))
    | none => none
def rSlA (K : PySem.W.Frag) : V → Option Int → Option Int → Hp → VK → Prop := fun x lo hi H Q => rSlL K x lo hi H Q ∨ (rSlS x lo hi H Q ∨ rSlN K x lo hi H Q)
def cSl (fa : Rho → Out Vl) (fl fh : Rho → Option (Option Int)) : Rho → Out Vl := fun ρ => match fa ρ with
  | .ok x ρ1 => match rdVl ρ1 x, fl ρ1, fh ρ1 with
    | some m, some lo, some hi => match opSl m lo hi with
      | some c => .ok (.val c) ρ1
      | none => .bad
    | _, _, _ => .bad
  | .exc x ρ1 => .exc x ρ1
  | .bad => .bad
theorem sl_read {m c : M} {v : V} {lo hi : Option Int} {fx : List Addr} {Q : VK} (e : Ext G H) (r : RM K G H v m fx) (h : opSl m lo hi = some c) (hq : ∀ v H' G' fr, New H G H' G' fr → RM K G' H' v c fr → Q v H') : rSlA K v lo hi H Q := by
  have lst : ∀ ds, m.asList = some ds → c = .lst ((cutD ds lo hi).map M.dat) → rSlA K v lo hi H Q := fun ds h1 h2 => by
    obtain ⟨a, ws, rfl, h4, h5⟩ := r.asList e h1
    subst h2
    exact .inl ⟨a, ws, rfl, .inl h4, fun p hp => hq (.ref p) _ G [p] (New.obj e hp) (.lst upd_same (RMs.ofDats (h5.cut lo hi)))⟩
  have ls : (match m.asList with | some ds => some (M.lst ((cutD ds lo hi).map M.dat)) | none => none) = some c → rSlA K v lo hi H Q := fun h => by
    cases q : m.asList with
    | none => rw [q] at h; cases h
    | some ds => rw [q] at h; cases h; exact lst ds q rfl
  unfold opSl at h
  split at h
  · rename_i x
    by_cases hz : x.length ≤ sizeLine
    · rw [if_pos hz] at h
      cases h
      cases r with
      | dat r => cases r; exact .inr (.inl ⟨x, rfl, hz, hq _ H G [] (New.refl e) (.dat (.str _))⟩)
    · rw [if_neg hz] at h; cases h
  · rename_i ns
    cases h
    cases r with
    | scr h1 =>
      refine .inl ⟨_, _, rfl, e.l h1, fun p hp => hq (.ref p) _ G [p] (New.obj e hp) (.lst upd_same (RMs.ofDats ?_))⟩
      exact (ints_dp ns).cut lo hi
  · rename_i ds
    cases h
    cases r with
    | dat r =>
      cases r with
      | tup h1 h2 =>
        refine .inr (.inr ⟨_, _, rfl, e.t h1.sq, fun eq => ?_, fun p ho hp nt => ?_⟩)
        · have hc := h2.cut lo hi
          rw [eq] at hc
          exact hq _ H G [] (New.refl e) (.dat (.tup h1 hc))
        · exact hq (.ref p) _ (upd G p ho) [] (New.known e hp) (.dat (.tup (PlT.of nt) (Ext.dps (ext_upd (none_of e hp)) _ (h2.cut lo hi))))
  · exact ls h
theorem ev_sl {te : TE} {tl th : TO} {fa : Rho → Out Vl} {fl fh : Rho → Option (Option Int)} (ha : EvE K W b te fa) (h1 : EvO K W tl fl) (h2 : EvO K W th fh) : EvE K W b (tSl (rSlA K) te tl th) (cSl fa fl fh) := by
  intro τ σ τm ρ H G fp Q hl S P
  refine ha τ σ τm ρ H G fp _ hl S ?_
  unfold cSl at P
  cases hf : fa ρ with
  | bad => rw [hf] at P; exact P
  | exc x ρ1 => rw [hf] at P; exact fun cls d H' G' fp' T' S' r => P cls d H' G' fp' T' S' r
  | ok x ρ1 =>
    rw [hf] at P
    simp only at P
    intro v H1 G1 fp1 T1 e1 S1 p1
    cases q1 : rdVl ρ1 x with
    | none => rw [q1] at P; exact P.elim
    | some m =>
      cases q2 : fl ρ1 with
      | none => rw [q1, q2] at P; exact P.elim
      | some lo =>
        cases q3 : fh ρ1 with
        | none => rw [q1, q2, q3] at P; exact P.elim
        | some hi =>
          rw [q1, q2, q3] at P
          simp only at P
          cases q4 : opSl m lo hi with
          | none => rw [q4] at P; exact P.elim
          | some c =>
            rw [q4] at P
            have S1' : SA K ((some v :: τ) ++ σ) ((x.pm :: τm) ++ ρ1) H1 G1 fp1 := S1
            refine h1 (some v :: τ) σ (x.pm :: τm) ρ1 H1 G1 fp1 lo _ (by simp [hl]) S1' q2 (h2 (some v :: τ) σ (x.pm :: τm) ρ1 H1 G1 fp1 hi _ (by simp [hl]) S1' q3 ?_)
            obtain ⟨fx, r1⟩ := S1.rd (s := [some v]) (m := [x.pm]) (j := 0) rfl hl rfl rfl p1 q1
            exact sl_read S1.same r1 q4 fun v' H' G' fr N rr => fin_new (s := [some v]) (m := [x.pm]) P T1 e1 S1 rfl N rr
/-! ### what is walked -/
def itSeq (d : PyData) : Option (List PyData) := match d with
  | .list ds => some ds
  | .tuple ds => some ds
  | .dict [(.none, .tuple ds)] => some ds
  | .str x => some (x.cps.toList.map fun c => .str ⟨#[c]⟩)
  | _ => none
def iSeqR (K : PySem.W.Frag) (tl : TE) : TI := fun σ H R => tl σ H fun x H1 => (∃ a, x = .ref a ∧ (∃ xs, SqL K H1 a xs) ∧ R (Itl K a) H1) ∨ ((∃ a, x = .ref a ∧ (∃ xs, SqT K H1 a xs) ∧ R (Itt K a) H1) ∨ ∃ s, x = .str s ∧ R (Its s) H1)
def iSeq (fa : Rho → Out Vl) : Rho → Out (List PyData) := fun ρ => match fa ρ with
  | .ok x ρ1 => match toDat x ρ1 with
    | some (d, ρ2) => match itSeq d with
      | some ds => .ok ds ρ2
      | none => .bad
    | none => .bad
  | .exc x ρ1 => .exc x ρ1
  | .bad => .bad
theorem y_list {a : Addr} {xs : List V} {ds : List PyData} (h : Rd G a (.lst xs)) (d : DaAll K G xs ds) : Yields K (Itl K a) ds G := by
  intro i H G1 e1 e2
  have hq : SqL K H a xs := .inl ((e1.trans e2).rd h)
  refine ⟨fun d' hd => ?_, fun hd => ⟨xs, hq, ?_⟩⟩
  · obtain ⟨v, hv, dv⟩ := DaAll.get d hd
    refine ⟨⟨xs, v, hq, hv⟩, fun x H' y => ?_⟩
    obtain ⟨rfl, y⟩ := y
    have := y xs hq
    rw [hv] at this
    cases this
    exact ⟨G1, New.refl e2, Ext.dp e1 _ dv⟩
  · rw [DaAll.length d]; exact List.getElem?_eq_none_iff.mp hd
theorem y_tup {a : Addr} {xs : List V} {ds : List PyData} (h : SqT K G a xs) (d : DaAll K G xs ds) : Yields K (Itt K a) ds G := by
  intro i H G1 e1 e2
  have hq : SqT K H a xs := (e1.trans e2).t h
  refine ⟨fun d' hd => ?_, fun hd => ⟨xs, hq, ?_⟩⟩
  · obtain ⟨v, hv, dv⟩ := DaAll.get d hd
    refine ⟨⟨xs, v, hq, hv⟩, fun x H' y => ?_⟩
    obtain ⟨rfl, y⟩ := y
    have := y xs hq
    rw [hv] at this
    cases this
    exact ⟨G1, New.refl e2, Ext.dp e1 _ dv⟩
  · rw [DaAll.length d]; exact List.getElem?_eq_none_iff.mp hd
theorem y_str {x : Str} : Yields K (Its x) (x.cps.toList.map fun c => .str ⟨#[c]⟩) G := by
  intro i H G1 e1 e2
  refine ⟨fun d' hd => ?_, fun hd => ?_⟩
  · rw [List.getElem?_map] at hd
    cases q : x.cps.toList[i]? with
    | none => rw [q] at hd; cases hd
    | some c =>
      rw [q] at hd
      cases hd
      have hlt : i < x.cps.size := by
        have := (List.getElem?_eq_some_iff.mp q).1
        simpa using this
      refine ⟨hlt, fun v H' y => ?_⟩
      obtain ⟨rfl, c', hc, rfl⟩ := y
      rw [Array.getElem?_toList] at q
      rw [q] at hc
      cases hc
      exact ⟨G1, New.refl e2, .str _⟩
  · have := List.getElem?_eq_none_iff.mp hd
    show x.cps.size ≤ i
    simpa using this
theorem ei_seq {tl : TE} {fa : Rho → Out Vl} (ha : EvE K W b tl fa) : EvI K W b (iSeqR K tl) (iSeq fa) := by
  intro τ σ τm ρ H G fp R hl S P
  refine ha τ σ τm ρ H G fp _ hl S ?_
  unfold iSeq at P
  cases hf : fa ρ with
  | bad => rw [hf] at P; exact P
  | exc x ρ1 => rw [hf] at P; exact fun cls d H' G' fp' T' S' r => P cls d H' G' fp' T' S' r
  | ok x ρ1 =>
    rw [hf] at P
    simp only at P
    intro v H1 G1 fp1 T1 e1 S1 p1
    cases q1 : DL.toDat x ρ1 with
    | none => rw [q1] at P; exact P.elim
    | some q =>
      obtain ⟨d, ρ2⟩ := q
      rw [q1] at P
      simp only at P
      cases q2 : itSeq d with
      | none => rw [q2] at P; exact P.elim
      | some ds =>
        rw [q2] at P
        obtain ⟨G2, fp2, S2, T2⟩ := SA.toDat S1 hl p1 q1
        obtain ⟨dv, S3⟩ := SA.popD S2
        have go : ∀ J, Yields K J ds G2 → R J H1 := fun J y => P J H1 G2 fp2 (T1.trans T2) e1 S3 y
        unfold itSeq at q2
        split at q2
        · cases q2
          cases dv with
          | lst h1 h2 => exact .inl ⟨_, rfl, ⟨_, .inl (S3.same.rd h1)⟩, go _ (y_list h1 h2)⟩
        · cases q2
          cases dv with
          | tup h1 h2 => exact .inr (.inl ⟨_, rfl, ⟨_, S3.same.t h1.sq⟩, go _ (y_tup h1.sq h2)⟩)
        · cases q2
          obtain ⟨a, xs, rfl, z1, z2⟩ := dv.wkinv
          exact .inr (.inl ⟨_, rfl, ⟨_, S3.same.t z1⟩, go _ (y_tup z1 z2)⟩)
        · cases q2
          cases dv
          exact .inr (.inr ⟨_, rfl, go _ y_str⟩)
        · cases q2
def rngD (lo : Int) (n : Nat) : List PyData := (List.range n).map fun (i : Nat) => .int (lo + (i : Int))
theorem y_rng {lo : Int} {n : Nat} : Yields K (Itr lo n) (rngD lo n) G := by
  intro i H G1 e1 e2
  unfold rngD
  refine ⟨fun d' hd => ?_, fun hd => ?_⟩
  · rw [List.getElem?_map] at hd
    cases q : (List.range n)[i]? with
    | none => rw [q] at hd; cases hd
    | some c =>
      rw [q] at hd
      cases hd
      obtain ⟨hlt, hc⟩ := List.getElem?_eq_some_iff.mp q
      simp only [List.length_range] at hlt
      simp only [List.getElem_range] at hc
      subst hc
      refine ⟨hlt, fun v H' y => ?_⟩
      obtain ⟨rfl, rfl⟩ := y
      exact ⟨G1, New.refl e2, .int _⟩
  · have := List.getElem?_eq_none_iff.mp hd
    show n ≤ i
    simpa using this
def okR (i : Int) : Bool := decide (-(2 ^ 62) ≤ i) && decide (i < 2 ^ 62)
def iRg1 (fr : Rho → Out (List Vl)) : Rho → Out (List PyData) := fun ρ => match fr ρ with
  | .ok [.val (.dat (.int j))] ρ1 => if okR j = true then .ok (rngD 0 j.toNat) ρ1 else .bad
  | .exc x ρ1 => .exc x ρ1
  | _ => .bad
def iRg2 (fr : Rho → Out (List Vl)) : Rho → Out (List PyData) := fun ρ => match fr ρ with
  | .ok [.val (.dat (.int i)), .val (.dat (.int j))] ρ1 => if okR i = true ∧ okR j = true then .ok (rngD i (j - i).toNat) ρ1 else .bad
  | .exc x ρ1 => .exc x ρ1
  | _ => .bad
theorem ei_rg1 {ta : TA} {fr : Rho → Out (List Vl)} (ha : EvA K W b ta fr) : EvI K W b (iRng1 ta) (iRg1 fr) := by
  intro τ σ τm ρ H G fp R hl S P
  refine ha τ σ τm ρ H G fp _ hl S ?_
  unfold iRg1 at P
  split at P
  · rename_i j ρ1 hf
    rw [hf]
    intro vs H1 G1 fp1 T1 e1 S1 ps
    by_cases hz : okR j = true
    · rw [if_pos hz] at P
      unfold okR at hz
      simp only [Bool.and_eq_true, decide_eq_true_eq] at hz
      cases ps with
      | cons p1 ps =>
        cases ps
        obtain ⟨dv, S2⟩ := SA.popD (d := .int j) S1
        cases dv
        exact ⟨j, rfl, hz.1, hz.2, P _ H1 G1 fp1 T1 e1 S2 y_rng⟩
    · rw [if_neg hz] at P; exact P.elim
  · rename_i x ρ1 hf
    rw [hf]
    exact fun cls d H' G' fp' T' S' r => P cls d H' G' fp' T' S' r
  · exact P.elim
theorem ei_rg2 {ta : TA} {fr : Rho → Out (List Vl)} (ha : EvA K W b ta fr) : EvI K W b (iRng2 ta) (iRg2 fr) := by
  intro τ σ τm ρ H G fp R hl S P
  refine ha τ σ τm ρ H G fp _ hl S ?_
  unfold iRg2 at P
  split at P
  · rename_i i j ρ1 hf
    rw [hf]
    intro vs H1 G1 fp1 T1 e1 S1 ps
    by_cases hz : okR i = true ∧ okR j = true
    · rw [if_pos hz] at P
      unfold okR at hz
      simp only [Bool.and_eq_true, decide_eq_true_eq] at hz
      cases ps with
      | cons p1 ps =>
        cases ps with
        | cons p2 ps =>
          cases ps
          rename_i v1 v2
          have S1 : SA K (some v2 :: some v1 :: (τ ++ σ)) (some (.dat (.int j)) :: some (.dat (.int i)) :: (τm ++ ρ1)) H1 G1 fp1 := S1
          obtain ⟨dv, S2⟩ := SA.popD S1
          obtain ⟨dw, S3⟩ := SA.popD S2
          cases dv
          cases dw
          exact ⟨i, j, rfl, ⟨hz.1.1, hz.1.2, hz.2.1, hz.2.2⟩, P _ H1 G1 fp1 T1 e1 S3 y_rng⟩
    · rw [if_neg hz] at P; exact P.elim
  · rename_i x ρ1 hf
    rw [hf]
    exact fun cls d H' G' fp' T' S' r => P cls d H' G' fp' T' S' r
  · exact P.elim
end
end DL

set_option Elab.async false
set_option linter.all false
set_option maxRecDepth 100000
/-! DLi: objects changed in place, methods of built-in types, displays of dicts. -/
namespace DL
open PySem PySem.Spec PyProof.Rows L2

section
variable {K : PySem.W.Frag} {W : WX} {b : Bool} {τ σ : St} {τm ρ : Rho} {H G H1 G1 : Hp} {fp fp1 : List Addr} {rf : List Nat}
/-- an object at a place is written; the front value may go into it, another one may come out -/
theorem SA.mut {i : Nat} {π : List Stp} {c m : M} {v : V} (S : SA K (some v :: σ) (some m :: ρ) H G fp) (e : rdP ρ i π = some c) :
    ∃ v0 vc fr f1, σ[i]? = some (some v0) ∧ atP H v0 π = some vc ∧ RM K G H vc c f1 ∧ RM K G H v m fr ∧ (fr ++ f1).Nodup ∧
      ∀ a, vc = .ref a → a ∈ f1 → ∀ (o' : HO) (c' : M) (fn : List Addr) (u : V) (mu : M) (fu : List Addr), RM K G (upd H a o') (.ref a) c' fn → RM K G (upd H a o') u mu fu → (fu ++ fn).Nodup → (∀ x ∈ fu ++ fn, x ∈ fr ++ f1) →
        ∃ fp', SA K (some u :: σ) (some mu :: wrP ρ i π c') (upd H a o') G fp' ∧ Tr H G fp (upd H a o') G fp' := by
  obtain ⟨fr, fq, r, p, S1⟩ := S.pop
  obtain ⟨v0, vc, f1, fb, h1, h2, h3, h4, h5⟩ := S1.focus e
  have nd := p.nodup_iff.mpr S.nd
  rw [List.nodup_append] at nd
  have nd4 := h4.nodup_iff.mpr S1.nd
  rw [List.nodup_append] at nd4
  have in1 : ∀ x ∈ f1, x ∈ fq := fun x hx => h4.mem_iff.mp (List.mem_append_left _ hx)
  have inb : ∀ x ∈ fb, x ∈ fq := fun x hx => h4.mem_iff.mp (List.mem_append_right _ hx)
  have inp : ∀ x ∈ fr ++ f1, x ∈ fp := fun x hx => by
    rcases List.mem_append.mp hx with z | z
    · exact p.mem_iff.mp (List.mem_append_left _ z)
    · exact p.mem_iff.mp (List.mem_append_right _ (in1 x z))
  refine ⟨v0, vc, fr, f1, h1, h2, h3, r, ?_, fun a ha hin o' c' fn u mu fu rn ru ndn sub => ?_⟩
  · rw [List.nodup_append]
    exact ⟨nd.1, nd4.1, fun x hx y hy z => nd.2.2 x hx y (in1 y hy) z⟩
  · subst ha
    have apa : a ∈ fp := inp a (List.mem_append_right _ hin)
    have ga : G a = none := S.free a apa
    have same : ∀ x, x ≠ a → upd H a o' x = H x := fun x hx => upd_ne hx
    have es : Ext G (upd H a o') := fun x o z => by
      rw [same x fun w => by rw [w, ga] at z; cases z]
      exact S.same x o z
    have ndn' := ndn
    rw [List.nodup_append] at ndn'
    have disb : ∀ x ∈ fu ++ fn, x ∉ fb := fun x hx hb => by
      rcases List.mem_append.mp (sub x hx) with z | z
      · exact nd.2.2 x z x (inb x hb) rfl
      · exact nd4.2.2 x z x hb rfl
    have S2 := h5 G (upd H a o') c' fn (Ext.refl G) es (fun x hx => same x fun w => nd4.2.2 a hin x hx w.symm) (fun x hx => S1.free x (inb x hx)) rn
      (fun x hx => S.free x (inp x (sub x (List.mem_append_right _ hx)))) ndn'.2.1 (fun x hx => disb x (List.mem_append_right _ hx))
    have S3 := S2.push ru (fun x hx => S.free x (inp x (sub x (List.mem_append_left _ hx)))) ndn'.1 (fun x hx hy => by
      rcases List.mem_append.mp hy with z | z
      · exact ndn'.2.2 x hx x z rfl
      · exact disb x (List.mem_append_left _ hx) z)
    refine ⟨_, S3, Ext.refl G, fun x o z n => ?_, fun x hx => .inl ?_, fun x o z => .inl z⟩
    · rw [same x fun w => n (by rw [w]; exact apa)]; exact z
    · rcases List.mem_append.mp hx with z | z
      · exact inp x (sub x (List.mem_append_left _ z))
      · rcases List.mem_append.mp z with z | z
        · exact inp x (sub x (List.mem_append_right _ z))
        · exact p.mem_iff.mp (List.mem_append_right _ (inb x z))
/-- the target of a store read: a place -/
theorem plc_at {s : St} {m : Rho} {v : V} {i : Nat} {π : List Stp} (e1 : s.length = m.length) (hl : τ.length = τm.length) (p : PF σ H v (.plc i π)) {v0 vc : V} (h1 : (s ++ (τ ++ σ))[m.length + (τm.length + i)]? = some (some v0)) (h2 : atP H v0 π = some vc) : vc = v := by
  obtain ⟨w, q1, q2⟩ := p
  rw [← e1, ← hl, List.getElem?_append_right (Nat.le_add_right _ _), Nat.add_sub_cancel_left, List.getElem?_append_right (Nat.le_add_right _ _), Nat.add_sub_cancel_left, q1] at h1
  cases h1
  rw [q2] at h2
  cases h2
  rfl
/-! ### o[i] = e -/
def rSetD : V → V → V → Hp → (Hp → Prop) → Prop := fun o i v H Q => ∃ a H', o = .ref a ∧ DPut H a i v H' ∧ Q H'
def rSetA : V → V → V → Hp → (Hp → Prop) → Prop := fun o i v H Q => rSetL o i v H Q ∨ rSetD o i v H Q
/-- the content behind a store -/
def putAt (c : M) (i : PyData) (m : M) : Option M := match c, i with
  | .lst xs, .int k => match ixN xs.length k with
    | some j => some (.lst (xs.set j m))
    | none => none
  | .dk ks xs, d => match keyOf d with
    | some k => if ks.length < sizeLine then (match fnd k ks with
      | some j => some (.dk ks (xs.set j m))
      | none => some (.dk (ks ++ [k]) (xs ++ [m]))) else none
    | none => none
  | _, _ => none
theorem fnd_lt {α : Type} [DecidableEq α] {k : α} : ∀ {ks : List α} {n : Nat}, fnd k ks = some n → n < ks.length
  | [], _, h => by cases h
  | x :: ks, n, h => by
    unfold fnd at h
    by_cases hx : x = k
    · rw [if_pos hx] at h; cases h; simp
    · rw [if_neg hx] at h
      cases q : fnd k ks with
      | none => rw [q] at h; cases h
      | some j => rw [q] at h; cases h; simpa using fnd_lt q
theorem fnd_none {α : Type} [DecidableEq α] {k : α} : ∀ {ks : List α}, fnd k ks = none → k ∉ ks
  | [], _ => by simp
  | x :: ks, h => by
    unfold fnd at h
    by_cases hx : x = k
    · rw [if_pos hx] at h; cases h
    · rw [if_neg hx] at h
      have := fnd_none (k := k) (ks := ks) (by cases q : fnd k ks with | none => rfl | some j => rw [q] at h; cases h)
      simp only [List.mem_cons, not_or]
      exact ⟨fun e => hx e.symm, this⟩
theorem putK_at {k : Key} {v : V} : ∀ {ks : List Key} {vs : List V} {n : Nat}, ks.length = vs.length → ks.Nodup → fnd k ks = some n → putK (ks.zip vs) k v = ks.zip (vs.set n v) := by
  intro ks vs n hl hn h
  have hs : (valV (ks.zip vs) k).isSome = true := by rw [fnd_isSome hl, h]; rfl
  unfold putK
  rw [if_pos (by rw [valV_any]; exact hs)]
  have gen : ∀ {ks : List Key} {vs : List V} {n : Nat}, ks.length = vs.length → ks.Nodup → fnd k ks = some n → (ks.zip vs).map (fun kv => if kv.1 = k then (kv.1, v) else kv) = ks.zip (vs.set n v) := by
    intro ks
    induction ks with
    | nil => intro vs n _ _ h; cases h
    | cons x ks ih =>
      intro vs n hl hn h
      cases vs with
      | nil => simp at hl
      | cons w vs =>
        obtain ⟨h1, h2⟩ := List.nodup_cons.mp hn
        unfold fnd at h
        by_cases hx : x = k
        · rw [if_pos hx] at h; cases h
          subst hx
          show ((x, w) :: ks.zip vs).map (fun kv => if kv.1 = x then (kv.1, v) else kv) = (x, v) :: ks.zip vs
          have this : ∀ p ∈ ks.zip vs, (if p.1 = x then (p.1, v) else p) = id p := fun p hp => by
            rw [if_neg fun e => h1 (by rw [← e]; exact (List.of_mem_zip hp).1)]
            rfl
          rw [List.map_cons, List.map_congr_left this, List.map_id, if_pos rfl]
        · rw [if_neg hx] at h
          cases q : fnd k ks with
          | none => rw [q] at h; cases h
          | some j =>
            rw [q] at h; cases h
            show ((x, w) :: ks.zip vs).map (fun kv => if kv.1 = k then (kv.1, v) else kv) = (x, w) :: ks.zip (vs.set j v)
            rw [List.map_cons, if_neg hx, ih (by simpa using hl) h2 q]
  exact gen hl hn h
theorem putK_add {k : Key} {v : V} {ks : List Key} {vs : List V} (hl : ks.length = vs.length) (h : fnd k ks = none) : putK (ks.zip vs) k v = (ks ++ [k]).zip (vs ++ [v]) := by
  have hs : valV (ks.zip vs) k = none := by
    have := fnd_isSome (k := k) hl
    rw [h] at this
    cases q : valV (ks.zip vs) k with
    | none => rfl
    | some x => rw [q] at this; cases this
  rw [putK_new v hs, List.zip_append hl]
  rfl
theorem zip_length {ks : List Key} {vs : List V} (h : ks.length = vs.length) : (ks.zip vs).length = ks.length := by
  rw [List.length_zip, ← h, Nat.min_self]
/-- a store: the value on top goes into the object at the place -/
theorem SA.put {s : St} {ms : Rho} {v o iv : V} {m c c' : M} {i : Nat} {π : List Stp} {d : PyData} (S : SA K (some v :: (s ++ (τ ++ σ))) (some m :: (ms ++ (τm ++ ρ))) H G fp) (e1 : s.length = ms.length) (hl : τ.length = τm.length)
    (p : PF σ H o (.plc i π)) (hc : rdP ρ i π = some c) (di : Da K G iv d) (h : putAt c d m = some c') :
    ∀ Q : Hp → Prop, (∀ H' fp', SA K (s ++ (τ ++ σ)) (ms ++ (τm ++ wrP ρ i π c')) H' G fp' → Tr H G fp H' G fp' → Q H') → rSetA o iv v H Q := by
  intro Q hq
  have q : rdP (ms ++ (τm ++ ρ)) (ms.length + (τm.length + i)) π = some c := by rw [rdP_pre, rdP_pre]; exact hc
  obtain ⟨v0, vc, fr, f1, z1, z2, z3, z4, z5, z6⟩ := S.mut q
  have := plc_at e1 hl p z1 z2
  subst this
  have fin : ∀ {a : Addr} {o' : HO} {fn : List Addr}, vc = .ref a → a ∈ f1 → RM K G (upd H a o') (.ref a) c' fn → fn.Nodup → (∀ x ∈ fn, x ∈ fr ++ f1) → Q (upd H a o') := fun {a o' fn} ha hin rn hnd sub => by
    obtain ⟨fp', S2, T2⟩ := z6 a ha hin o' c' fn .non (.dat .none) [] rn (.dat .non) (by simpa using hnd) (by simpa using sub)
    obtain ⟨_, S3⟩ := SA.popD S2
    rw [wrP_pre, wrP_pre] at S3
    exact hq _ fp' S3 T2
  unfold putAt at h
  split at h
  · rename_i xs k
    cases qj : ixN xs.length k with
    | none => rw [qj] at h; cases h
    | some j =>
      rw [qj] at h; cases h
      cases di
      cases z3 with
      | lst h1 h2 =>
        rename_i a vs fx
        obtain ⟨_, hj, _, _⟩ := ixN_seq qj
        have hjx : xs[j]? = some xs[j] := List.getElem?_eq_getElem hj
        obtain ⟨vj, g1, g2, y1, y2, y3, y4⟩ := h2.out hjx
        have ndx : (fr ++ (a :: fx)).Nodup := z5
        rw [List.nodup_append] at ndx
        obtain ⟨na, nfx⟩ := List.nodup_cons.mp ndx.2.1
        have ng := y3.nodup_iff.mpr nfx
        rw [List.nodup_append] at ng
        have same : ∀ x, x ≠ a → upd H a (.lst (vs.set j v)) x = H x := fun x hx => upd_ne hx
        have afr : a ∉ fr := fun z => ndx.2.2 a z a List.mem_cons_self rfl
        obtain ⟨fn, w1, w2⟩ := y4 G (upd H a (.lst (vs.set j v))) v m fr (Ext.refl G) (fun x hx => same x fun z => na (by rw [← z]; exact y3.mem_iff.mp (List.mem_append_right _ hx))) (z4.at (Ext.refl G) fun x hx => same x fun z => afr (by rw [← z]; exact hx))
        have sub : ∀ x ∈ fn, x ∈ fr ∨ x ∈ fx := fun x hx => (List.mem_append.mp (w2.mem_iff.mpr hx)).elim .inl fun z => .inr (y3.mem_iff.mp (List.mem_append_right _ z))
        refine .inl ⟨a, vs, k, j, rfl, rfl, h1, by rw [h2.length]; exact qj, fin rfl List.mem_cons_self (.lst upd_same w1) (List.nodup_cons.mpr ⟨fun z => (sub a z).elim afr na, w2.nodup_iff.mp ?_⟩) fun x hx => ?_⟩
        · rw [List.nodup_append]
          exact ⟨ndx.1, ng.2.1, fun x hx y hy z => ndx.2.2 x hx y (List.mem_cons_of_mem _ (y3.mem_iff.mp (List.mem_append_right _ hy))) z⟩
        · rcases List.mem_cons.mp hx with rfl | hx
          · exact List.mem_append_right _ List.mem_cons_self
          · exact (sub x hx).elim (fun z => List.mem_append_left _ z) fun z => List.mem_append_right _ (List.mem_cons_of_mem _ z)
  · rename_i ks xs
    cases qk : keyOf d with
    | none => rw [qk] at h; cases h
    | some k =>
      rw [qk] at h
      simp only at h
      by_cases hsz : ks.length < sizeLine
      rotate_left
      · rw [if_neg hsz] at h; cases h
      rw [if_pos hsz] at h
      cases z3 with
      | dk h1 h2 h3 hn =>
        rename_i a vs fx
        have dk := da_key di qk
        subst dk
        have ndx : (fr ++ (a :: fx)).Nodup := z5
        rw [List.nodup_append] at ndx
        obtain ⟨na, nfx⟩ := List.nodup_cons.mp ndx.2.1
        have afr : a ∉ fr := fun z => ndx.2.2 a z a List.mem_cons_self rfl
        cases qj : fnd k ks with
        | some j =>
          rw [qj] at h; cases h
          have hjl : j < xs.length := by rw [← h3.length, ← h2]; exact fnd_lt qj
          have hjx : xs[j]? = some xs[j] := List.getElem?_eq_getElem hjl
          obtain ⟨vj, g1, g2, y1, y2, y3, y4⟩ := h3.out hjx
          have ng := y3.nodup_iff.mpr nfx
          rw [List.nodup_append] at ng
          have same : ∀ x, x ≠ a → upd H a (.dK (ks.zip (vs.set j v))) x = H x := fun x hx => upd_ne hx
          obtain ⟨fn, w1, w2⟩ := y4 G (upd H a (.dK (ks.zip (vs.set j v)))) v m fr (Ext.refl G) (fun x hx => same x fun z => na (by rw [← z]; exact y3.mem_iff.mp (List.mem_append_right _ hx))) (z4.at (Ext.refl G) fun x hx => same x fun z => afr (by rw [← z]; exact hx))
          have sub : ∀ x ∈ fn, x ∈ fr ∨ x ∈ fx := fun x hx => (List.mem_append.mp (w2.mem_iff.mpr hx)).elim .inl fun z => .inr (y3.mem_iff.mp (List.mem_append_right _ z))
          refine .inr ⟨a, _, rfl, DPut.k h1 (by rw [zip_length h2]; exact hsz), ?_⟩
          rw [putK_at h2 hn qj]
          refine fin rfl List.mem_cons_self (.dk upd_same (by rw [List.length_set]; exact h2) w1 hn) (List.nodup_cons.mpr ⟨fun z => (sub a z).elim afr na, w2.nodup_iff.mp ?_⟩) fun x hx => ?_
          · rw [List.nodup_append]
            exact ⟨ndx.1, ng.2.1, fun x hx y hy z => ndx.2.2 x hx y (List.mem_cons_of_mem _ (y3.mem_iff.mp (List.mem_append_right _ hy))) z⟩
          · rcases List.mem_cons.mp hx with rfl | hx
            · exact List.mem_append_right _ List.mem_cons_self
            · exact (sub x hx).elim (fun z => List.mem_append_left _ z) fun z => List.mem_append_right _ (List.mem_cons_of_mem _ z)
        | none =>
          rw [qj] at h; cases h
          have same : ∀ x, x ≠ a → upd H a (.dK ((ks ++ [k]).zip (vs ++ [v]))) x = H x := fun x hx => upd_ne hx
          refine .inr ⟨a, _, rfl, DPut.k h1 (by rw [zip_length h2]; exact hsz), ?_⟩
          rw [putK_add h2 qj]
          have rn : RMs K G (upd H a (.dK ((ks ++ [k]).zip (vs ++ [v])))) (vs ++ [v]) (xs ++ [m]) (fx ++ fr) := RMs.append (h3.at (Ext.refl G) fun x hx => same x fun z => na (by rw [← z]; exact hx)) (RMs.one (z4.at (Ext.refl G) fun x hx => same x fun z => afr (by rw [← z]; exact hx)))
          refine fin rfl List.mem_cons_self (.dk upd_same (by rw [List.length_append, List.length_append, h2]; rfl) rn (nd_snoc hn (fnd_none qj))) (List.nodup_cons.mpr ⟨fun z => (List.mem_append.mp z).elim na afr, ?_⟩) fun x hx => ?_
          · rw [List.nodup_append]
            exact ⟨nfx, ndx.1, fun x hx y hy z => ndx.2.2 y hy x (List.mem_cons_of_mem _ hx) z.symm⟩
          · rcases List.mem_cons.mp hx with rfl | hx
            · exact List.mem_append_right _ List.mem_cons_self
            · rcases List.mem_append.mp hx with z | z
              · exact List.mem_append_right _ (List.mem_cons_of_mem _ z)
              · exact List.mem_append_left _ z
  · cases h
end
end DL

set_option Elab.async false
set_option linter.all false
set_option maxRecDepth 100000
/-! DLj: stores, methods of built-in types. -/
namespace DL
open PySem PySem.Spec PyProof.Rows L2

section
variable {K : PySem.W.Frag} {W : WX} {b : Bool} {τ σ : St} {τm ρ : Rho} {H G H1 G1 : Hp} {fp fp1 : List Addr} {rf : List Nat}
/-- two expressions in a row, told plainly -/
theorem two_core' {ba bb : Bool} {ta tb : TE} {fa fb : Rho → Out Vl} {R : V → V → Hp → Prop} {o : Out (Vl × Vl)} (ha : EvE K W ba ta fa) (hb : EvE K W bb tb fb) (hl : τ.length = τm.length) (S : SA K (τ ++ σ) (τm ++ ρ) H G fp)
    (ho : cTwo bb fa fb (fun x y ρ2 => .ok (x, y) ρ2) ρ = o)
    (hX : match o with
      | .ok (x, y) ρ2 => ∀ v1 v2 H2 G2 fp2, Tr H G fp H2 G2 fp2 → (ba = true → bb = true → Ext H H2) → SA K (some v2 :: some v1 :: (τ ++ σ)) (y.pm :: x.pm :: (τm ++ ρ2)) H2 G2 fp2 → PF σ H2 v1 x → PF σ H2 v2 y → R v1 v2 H2
      | .exc x ρ' => ∀ cls d H' G' fp', Tr H G fp H' G' fp' → SA K (τ ++ σ) (τm ++ ρ') H' G' fp' → RX K G' x cls d → W cls d σ H'
      | .bad => False) : ta σ H fun x H1 => tb σ H1 fun y H2 => R x y H2 := by
  refine ha τ σ τm ρ H G fp _ hl S ?_
  unfold cTwo at ho
  cases hfa : fa ρ with
  | bad => rw [hfa] at ho; subst ho; exact hX
  | exc x ρ1 =>
    rw [hfa] at ho
    subst ho
    exact fun cls d H' G' fp' T' S' r => hX cls d H' G' fp' T' S' r
  | ok x ρ1 =>
    rw [hfa] at ho
    have ho : (if bb || x.root then (fb ρ1).bind fun y ρ2 => .ok (x, y) ρ2 else .bad) = o := ho
    by_cases hr : (bb || x.root) = true
    · rw [if_pos hr] at ho
      intro v1 H1 G1 fp1 T1 e1 S1 p1
      refine hb (some v1 :: τ) σ (x.pm :: τm) ρ1 H1 G1 fp1 _ (by simp [hl]) S1 ?_
      cases hfb : fb ρ1 with
      | bad => rw [hfb] at ho; subst ho; exact hX
      | exc z ρ2 =>
        rw [hfb] at ho
        subst ho
        intro cls d H' G' fp' T' S' r
        obtain ⟨fq, S'', h2⟩ := SA.drop (v := some v1) (m := x.pm) (σ := τ ++ σ) (ρ := τm ++ ρ2) S'
        exact hX cls d H' G' fq ((T1.trans T').sub h2) S'' r
      | ok y ρ2 =>
        rw [hfb] at ho
        subst ho
        intro v2 H2 G2 fp2 T2 e2 S2 p2
        exact hX v1 v2 H2 G2 fp2 (T1.trans T2) (fun z1 z2 => (e1 z1).trans (e2 z2)) S2 (p1.keep e2 hr) p2
    · rw [if_neg hr] at ho
      subst ho
      exact hX.elim
theorem two_core {ba bb : Bool} {ta tb : TE} {fa fb : Rho → Out Vl} {R : V → V → Hp → Prop} (ha : EvE K W ba ta fa) (hb : EvE K W bb tb fb) (hl : τ.length = τm.length) (S : SA K (τ ++ σ) (τm ++ ρ) H G fp)
    (hok : ∀ x y ρ2, cTwo bb fa fb (fun x y ρ2 => .ok (x, y) ρ2) ρ = .ok (x, y) ρ2 → ∀ v1 v2 H2 G2 fp2, Tr H G fp H2 G2 fp2 → (ba = true → bb = true → Ext H H2) → SA K (some v2 :: some v1 :: (τ ++ σ)) (y.pm :: x.pm :: (τm ++ ρ2)) H2 G2 fp2 → PF σ H2 v1 x → PF σ H2 v2 y → R v1 v2 H2)
    (hexc : ∀ x ρ', cTwo bb fa fb (fun x y ρ2 => .ok (x, y) ρ2) ρ = .exc x ρ' → ∀ cls d H' G' fp', Tr H G fp H' G' fp' → SA K (τ ++ σ) (τm ++ ρ') H' G' fp' → RX K G' x cls d → W cls d σ H')
    (hbad : cTwo bb fa fb (fun x y ρ2 => .ok (x, y) ρ2) ρ = .bad → False) : ta σ H fun x H1 => tb σ H1 fun y H2 => R x y H2 := by
  cases hc : cTwo bb fa fb (fun x y ρ2 => .ok (x, y) ρ2) ρ with
  | ok q ρ2 => exact two_core' ha hb hl S hc (hok q.1 q.2 ρ2 hc)
  | exc x ρ' => exact two_core' ha hb hl S hc (hexc x ρ' hc)
  | bad => exact (hbad hc).elim
def sSetIx (bb : Bool) (fe fo fi : Rho → Out Vl) : Rho → Fl := fun ρ => match fe ρ with
  | .ok a ρ1 => match toVal a ρ1 with
    | some (m, ρ2) => match cTwo bb fo fi (fun x y ρ3 => .ok (x, y) ρ3) ρ2 with
      | .ok (.plc i π, .val (.dat d)) ρ3 => match rdP ρ3 i π with
        | some c => match putAt c d m with
          | some c' => .nx (wrP ρ3 i π c')
          | none => .bad
        | none => .bad
      | .ok _ _ => .bad
      | .exc x ρ3 => .exc x ρ3
      | .bad => .bad
    | none => .bad
  | .exc x ρ1 => .exc x ρ1
  | .bad => .bad
theorem es_setIx {be bo bi : Bool} {te to ti : TE} {fe fo fi : Rho → Out Vl} (he : EvE K W be te fe) (ho : EvE K W bo to fo) (hi : EvE K W bi ti fi) : EvS K W rf (tAsg te (gSub to ti rSetA)) (sSetIx bi fe fo fi) := by
  intro σ ρ H G fp D S P
  refine he [] σ [] ρ H G fp _ rfl S ?_
  unfold sSetIx at P
  cases hf : fe ρ with
  | bad => rw [hf] at P; exact P
  | exc x ρ1 => rw [hf] at P; exact fun cls d H' G' fp' T' S' r => P cls d σ H' G' fp' T' S' (Kp.refl σ) r
  | ok a ρ1 =>
    rw [hf] at P
    simp only at P
    intro v H1 G1 fp1 T1 e1 S1 p1
    cases hv : toVal a ρ1 with
    | none => rw [hv] at P; exact P.elim
    | some q =>
      obtain ⟨m, ρ2⟩ := q
      rw [hv] at P
      simp only at P
      obtain ⟨G2, fp2, S2, T2⟩ := SA.toVal (τ := []) (τm := []) S1 rfl p1 hv
      have S2 : SA K ([some v] ++ σ) ([some m] ++ ρ2) H1 G2 fp2 := S2
      refine two_core (R := fun o i H2 => rSetA o i v H2 fun H3 => D.nx σ H3) ho hi (τ := [some v]) (τm := [some m]) rfl S2 (fun x y ρ3 hc => ?_) (fun x ρ3 hc => ?_) (fun hc => ?_)
      · rw [hc] at P
        intro v1 v2 H3 G3 fp3 T3 _ S3 q1 q2
        cases x with
        | val _ => exact P.elim
        | plc i π =>
          cases y with
          | plc _ _ => exact P.elim
          | val cy =>
            cases cy with
            | dat d =>
              simp only at P
              cases hr : rdP ρ3 i π with
              | none => rw [hr] at P; exact P.elim
              | some c =>
                rw [hr] at P
                simp only at P
                cases hp : putAt c d m with
                | none => rw [hp] at P; exact P.elim
                | some c' =>
                  rw [hp] at P
                  obtain ⟨dv, S4⟩ := SA.popD (d := d) S3
                  have S5 : SA K (some v1 :: some v :: σ) (none :: some m :: ρ3) H3 G3 fp3 := S4
                  have S6 := SA.swap2 S5
                  refine SA.put (s := [some v1]) (ms := [none]) (τ := []) (τm := []) S6 rfl rfl q1 hr dv hp (fun H3 => D.nx σ H3) fun H' fp' S7 T7 => ?_
                  obtain ⟨fq, S8, h8⟩ := SA.drop (v := some v1) (m := none) S7
                  exact P σ H' G3 fq ((((T1.trans T2).trans T3).trans T7).sub h8) S8 (Kp.refl σ)
            | _ => exact P.elim
      · rw [hc] at P
        intro cls d H' G' fp' T' S' r
        obtain ⟨fq, S'', h2⟩ := SA.drop (v := some v) (m := some m) (σ := σ) (ρ := ρ3) S'
        exact P cls d σ H' G' fq (((T1.trans T2).trans T').sub h2) S'' (Kp.refl σ) r
      · rw [hc] at P; exact P
/-! ### methods of built-in types -/
def cRecv (gd : M → Bool) (br : Bool) (fo : Rho → Out Vl) (fr : Rho → Out (List Vl)) : Rho → Out (Vl × List Vl) := fun ρ => match fo ρ with
  | .ok x ρ1 => match rdVl ρ1 x with
    | some c => if gd c = true ∧ (br || x.root) = true then (match fr ρ1 with
      | .ok as ρ2 => .ok (x, as) ρ2
      | .exc x ρ2 => .exc x ρ2
      | .bad => .bad) else .bad
    | none => .bad
  | .exc x ρ1 => .exc x ρ1
  | .bad => .bad
theorem recv_core' {bo br : Bool} {to : TE} {ta : TA} {fo : Rho → Out Vl} {fr : Rho → Out (List Vl)} {T : String} {gd : M → Bool} {R : V → List V → Hp → Prop} {o : Out (Vl × List Vl)} (hgd : ∀ (v : V) (m : M) (H G : Hp) (fx : List Addr), Ext G H → RM K G H v m fx → gd m = true → tyV K T v H)
    (ho : EvE K W bo to fo) (ha : EvA K W br ta fr) (hl : τ.length = τm.length) (S : SA K (τ ++ σ) (τm ++ ρ) H G fp) (he : cRecv gd br fo fr ρ = o)
    (hX : match o with
      | .ok (x, as) ρ2 => ∀ v vs H2 G2 fp2, Tr H G fp H2 G2 fp2 → (bo = true → br = true → Ext H H2) → SA K (vs.reverse.map some ++ (some v :: (τ ++ σ))) (as.reverse.map Vl.pm ++ (x.pm :: (τm ++ ρ2))) H2 G2 fp2 → PF σ H2 v x → PFs σ H2 vs as → R v vs H2
      | .exc x ρ' => ∀ cls d H' G' fp', Tr H G fp H' G' fp' → SA K (τ ++ σ) (τm ++ ρ') H' G' fp' → RX K G' x cls d → W cls d σ H'
      | .bad => False) : to σ H fun x H1 => tyV K T x H1 ∧ ta σ H1 fun xs H2 => R x xs H2 := by
  refine ho τ σ τm ρ H G fp _ hl S ?_
  unfold cRecv at he
  cases hfa : fo ρ with
  | bad => rw [hfa] at he; subst he; exact hX
  | exc x ρ1 =>
    rw [hfa] at he
    subst he
    exact fun cls d H' G' fp' T' S' r => hX cls d H' G' fp' T' S' r
  | ok x ρ1 =>
    rw [hfa] at he
    simp only at he
    intro v1 H1 G1 fp1 T1 e1 S1 p1
    cases hr : rdVl ρ1 x with
    | none => rw [hr] at he; subst he; exact hX.elim
    | some c =>
      rw [hr] at he
      simp only at he
      by_cases hg : gd c = true ∧ (br || x.root) = true
      · rw [if_pos hg] at he
        obtain ⟨fx, r1⟩ := S1.rd (s := [some v1]) (m := [x.pm]) (j := 0) rfl hl rfl rfl p1 hr
        refine ⟨hgd v1 c H1 G1 fx S1.same r1 hg.1, ha (some v1 :: τ) σ (x.pm :: τm) ρ1 H1 G1 fp1 _ (by simp [hl]) S1 ?_⟩
        cases hfb : fr ρ1 with
        | bad => rw [hfb] at he; subst he; exact hX
        | exc z ρ2 =>
          rw [hfb] at he
          subst he
          intro cls d H' G' fp' T' S' r
          obtain ⟨fq, S'', h2⟩ := SA.drop (v := some v1) (m := x.pm) (σ := τ ++ σ) (ρ := τm ++ ρ2) S'
          exact hX cls d H' G' fq ((T1.trans T').sub h2) S'' r
        | ok as ρ2 =>
          rw [hfb] at he
          subst he
          intro vs H2 G2 fp2 T2 e2 S2 p2
          exact hX v1 vs H2 G2 fp2 (T1.trans T2) (fun z1 z2 => (e1 z1).trans (e2 z2)) S2 (p1.keep e2 hg.2) p2
      · rw [if_neg hg] at he; subst he; exact hX.elim
theorem recv_core {bo br : Bool} {to : TE} {ta : TA} {fo : Rho → Out Vl} {fr : Rho → Out (List Vl)} {T : String} {gd : M → Bool} {R : V → List V → Hp → Prop} (hgd : ∀ (v : V) (m : M) (H G : Hp) (fx : List Addr), Ext G H → RM K G H v m fx → gd m = true → tyV K T v H)
    (ho : EvE K W bo to fo) (ha : EvA K W br ta fr) (hl : τ.length = τm.length) (S : SA K (τ ++ σ) (τm ++ ρ) H G fp)
    (hok : ∀ x as ρ2, cRecv gd br fo fr ρ = .ok (x, as) ρ2 → ∀ v vs H2 G2 fp2, Tr H G fp H2 G2 fp2 → (bo = true → br = true → Ext H H2) → SA K (vs.reverse.map some ++ (some v :: (τ ++ σ))) (as.reverse.map Vl.pm ++ (x.pm :: (τm ++ ρ2))) H2 G2 fp2 → PF σ H2 v x → PFs σ H2 vs as → R v vs H2)
    (hexc : ∀ x ρ', cRecv gd br fo fr ρ = .exc x ρ' → ∀ cls d H' G' fp', Tr H G fp H' G' fp' → SA K (τ ++ σ) (τm ++ ρ') H' G' fp' → RX K G' x cls d → W cls d σ H')
    (hbad : cRecv gd br fo fr ρ = .bad → False) : to σ H fun x H1 => tyV K T x H1 ∧ ta σ H1 fun xs H2 => R x xs H2 := by
  cases hc : cRecv gd br fo fr ρ with
  | ok q ρ2 => exact recv_core' hgd ho ha hl S hc (hok q.1 q.2 ρ2 hc)
  | exc x ρ' => exact recv_core' hgd ho ha hl S hc (hexc x ρ' hc)
  | bad => exact (hbad hc).elim
def gdL : M → Bool
  | .lst _ => true
  | .dat (.list _) => true
  | .scr _ => true
  | _ => false
def gdS : M → Bool
  | .dat (.str _) => true
  | _ => false
def gdD : M → Bool
  | .dk _ _ => true
  | _ => false
theorem ty_list (v : V) (m : M) (H G : Hp) (fx : List Addr) (e : Ext G H) (r : RM K G H v m fx) (h : gdL m = true) : tyV K "list" v H := by
  cases r with
  | lst h1 _ => exact .inl ⟨rfl, _, SqL.of h1⟩
  | scr h1 => exact .inl ⟨rfl, _, e.l h1⟩
  | dat r =>
    cases r with
    | lst h1 _ => exact .inl ⟨rfl, _, .inl (e.rd h1)⟩
    | _ => cases h
  | _ => cases h
theorem ty_str (v : V) (m : M) (H G : Hp) (fx : List Addr) (e : Ext G H) (r : RM K G H v m fx) (h : gdS m = true) : tyV K "str" v H := by
  cases r with
  | dat r =>
    cases r with
    | str _ => exact rfl
    | _ => cases h
  | _ => cases h
theorem ty_dict (v : V) (m : M) (H G : Hp) (fx : List Addr) (e : Ext G H) (r : RM K G H v m fx) (h : gdD m = true) : tyV K "dict" v H := by
  cases r with
  | dk h1 _ _ _ => exact .inr (.inr (.inl ⟨rfl, .inl ⟨_, h1⟩⟩))
  | dat r => cases h
  | _ => cases h
/-- a method that changes nothing: the receiver and the arguments read -/
def cMeth (gd : M → Bool) (br : Bool) (o : List M → Option M) (fo : Rho → Out Vl) (fr : Rho → Out (List Vl)) : Rho → Out Vl := fun ρ => match cRecv gd br fo fr ρ with
  | .ok (x, as) ρ1 => finN o (x :: as) ρ1
  | .exc x ρ1 => .exc x ρ1
  | .bad => .bad
def OpMt (K : PySem.W.Frag) (r : V → List V → Hp → VK → Prop) (o : List M → Option M) : Prop := OpN K (fun vs H Q => match vs with
  | v :: ws => r v ws H Q
  | [] => False) o
theorem ev_meth {bo br : Bool} {to : TE} {ta : TA} {fo : Rho → Out Vl} {fr : Rho → Out (List Vl)} {T : String} {gd : M → Bool} {r : V → List V → Hp → VK → Prop} {o : List M → Option M} (hgd : ∀ (v : V) (m : M) (H G : Hp) (fx : List Addr), Ext G H → RM K G H v m fx → gd m = true → tyV K T v H)
    (hm : OpMt K r o) (ho : EvE K W bo to fo) (ha : EvA K W br ta fr) : EvE K W (bo && br) (tBM K T r to ta) (cMeth gd br o fo fr) := by
  intro τ σ τm ρ H G fp Q hl S P
  unfold cMeth at P
  refine recv_core (R := fun x xs H2 => r x xs H2 Q) hgd ho ha hl S (fun x as ρ1 hc => ?_) (fun x ρ1 hc => ?_) (fun hc => ?_)
  · rw [hc] at P
    simp only at P
    intro v vs H2 G2 fp2 T2 e2 S2 p1 ps
    unfold finN at P
    cases h1 : rdVls ρ1 (x :: as) with
    | none => rw [h1] at P; exact P.elim
    | some ms =>
      rw [h1] at P
      simp only at P
      cases h3 : o ms with
      | none => rw [h3] at P; exact P.elim
      | some m =>
        rw [h3] at P
        have S2' : SA K ((v :: vs).reverse.map some ++ [] ++ (τ ++ σ)) ((x :: as).reverse.map Vl.pm ++ [] ++ (τm ++ ρ1)) H2 G2 fp2 := by
          simpa only [List.reverse_cons, List.map_append, List.map_cons, List.map_nil, List.append_assoc, List.cons_append, List.nil_append, List.append_nil] using S2
        have rs : RBs K G2 H2 (v :: vs) ms := SA.rds (s := []) (m := []) hl rfl S2' (.cons p1 ps) h1
        have S3 : SA K ((v :: vs).reverse.map some ++ (τ ++ σ)) ((x :: as).reverse.map Vl.pm ++ (τm ++ ρ1)) H2 G2 fp2 := by
          simpa only [List.append_nil] using S2'
        exact hm (v :: vs) ms m H2 G2 Q S2.same rs h3 fun v' H' G' fr' N rr => fin_new (s := (v :: vs).reverse.map some) (m := (x :: as).reverse.map Vl.pm) P T2 (fun z => by simp only [Bool.and_eq_true] at z; exact e2 z.1 z.2) S3 (by simp [ps.length]) N rr
  · rw [hc] at P
    exact fun cls d H' G' fp' T' S' r => P cls d H' G' fp' T' S' r
  · rw [hc] at P; exact P
theorem ev_meth0 {bo : Bool} {to : TE} {fo : Rho → Out Vl} {T : String} {gd : M → Bool} {r : V → List V → Hp → VK → Prop} {o : List M → Option M} (hgd : ∀ (v : V) (m : M) (H G : Hp) (fx : List Addr), Ext G H → RM K G H v m fx → gd m = true → tyV K T v H)
    (hm : OpMt K r o) (ho : EvE K W bo to fo) : EvE K W (bo && true) (tBM0 K T r to) (cMeth gd true o fo aNil) := by
  intro τ σ τm ρ H G fp Q hl S P
  exact ev_meth hgd hm ho ea_nil τ σ τm ρ H G fp Q hl S P
/-- xs.append(x) -/
def cApp (br : Bool) (fo fa : Rho → Out Vl) : Rho → Out Vl := fun ρ => match cRecv gdL br fo (aCons true fa aNil) ρ with
  | .ok (.plc i π, [a]) ρ1 => match toVal a ρ1 with
    | some (m, ρ2) => match rdP ρ2 i π with
      | some (.lst xs) => if xs.length < sizeLine then .ok (.val (.dat .none)) (wrP ρ2 i π (.lst (xs ++ [m]))) else .bad
      | _ => .bad
    | none => .bad
  | .ok _ _ => .bad
  | .exc x ρ1 => .exc x ρ1
  | .bad => .bad
theorem toVal_frame {a : Vl} {m : M} {ρ ρ' : Rho} (h : toVal a ρ = some (m, ρ')) : ρ'.length = ρ.length := by
  cases a with
  | val c => cases h; rfl
  | plc i π =>
    unfold toVal at h
    simp only at h
    cases h1 : rdP ρ i π with
    | none => rw [h1] at h; cases h
    | some c =>
      rw [h1] at h
      simp only at h
      cases h2 : c.frz with
      | none => rw [h2] at h; cases h
      | some d => rw [h2] at h; cases h; exact wrP_length
theorem ev_app {bo ba : Bool} {to te : TE} {fo fa : Rho → Out Vl} (ho : EvE K W bo to fo) (ha : EvE K W ba te fa) : EvE K W false (tBM K "list" rAppend to (tCons te tNil)) (cApp (ba && true) fo fa) := by
  intro τ σ τm ρ H G fp Q hl S P
  unfold cApp at P
  refine recv_core (R := fun x xs H2 => rAppend x xs H2 Q) ty_list ho (ea_cons ha ea_nil) hl S (fun x as ρ1 hc => ?_) (fun x ρ1 hc => ?_) (fun hc => ?_)
  · rw [hc] at P
    intro v vs H2 G2 fp2 T2 e2 S2 p1 ps
    cases x with
    | val c => exact P.elim
    | plc i π =>
      cases ps with
      | nil => exact P.elim
      | cons pa ps =>
        cases ps with
        | cons _ _ => exact P.elim
        | nil =>
          rename_i v1 a
          simp only at P
          cases hv : toVal a ρ1 with
          | none => rw [hv] at P; exact P.elim
          | some q =>
            obtain ⟨m, ρ2⟩ := q
            rw [hv] at P
            simp only at P
            obtain ⟨G3, fp3, S3, T3⟩ := SA.toVal (τ := some v :: τ) (τm := none :: τm) (v := v1) (a := a) S2 (by simp [hl]) pa hv
            split at P
            · rename_i xs hr
              by_cases hz : xs.length < sizeLine
              · rw [if_pos hz] at P
                have hr' : rdP ((none :: τm) ++ ρ2) ((none :: τm).length + i) π = some (.lst xs) := by rw [rdP_pre]; exact hr
                obtain ⟨v0, l, ws, fp', z1, z2, z3, z4, z5, z6⟩ := SA.appendAt S3 hr'
                rw [wrP_pre] at z5
                have := plc_at (s := [some v]) (m := [none]) rfl hl p1 (by rw [show ([none] : Rho).length + (τm.length + i) = (none :: τm).length + i by simp [Nat.add_comm, Nat.add_left_comm, Nat.add_assoc]]; exact z1) z2
                subst this
                refine ⟨l, ws, v1, rfl, rfl, z3, by rw [z4]; exact hz, ?_⟩
                obtain ⟨fq, S6, h6⟩ := SA.drop (v := some (.ref l)) (m := none) z5
                exact P .non _ G3 fq (((T2.trans T3).trans z6).sub h6) (fun z => nomatch z) (S6.pushD .non) trivial
              · rw [if_neg hz] at P; exact P.elim
            · exact P.elim
  · rw [hc] at P
    exact fun cls d H' G' fp' T' S' r => P cls d H' G' fp' T' S' r
  · rw [hc] at P; exact P
/-- xs.pop() -/
def cPop (fo : Rho → Out Vl) : Rho → Out Vl := fun ρ => match cRecv gdL true fo aNil ρ with
  | .ok (.plc i π, _) ρ1 => match rdP ρ1 i π with
    | some (.lst xs) => match xs.getLast? with
      | some m => .ok (.val m) (wrP ρ1 i π (.lst xs.dropLast))
      | none => .bad
    | _ => .bad
  | .ok _ _ => .bad
  | .exc x ρ1 => .exc x ρ1
  | .bad => .bad
theorem ev_pop {bo : Bool} {to : TE} {fo : Rho → Out Vl} (ho : EvE K W bo to fo) : EvE K W false (tBM0 K "list" rPop to) (cPop fo) := by
  intro τ σ τm ρ H G fp Q hl S P
  unfold cPop at P
  refine recv_core (R := fun x xs H2 => rPop x xs H2 Q) (ta := tNil) (fr := aNil) ty_list ho ea_nil hl S (fun x as ρ1 hc => ?_) (fun x ρ1 hc => ?_) (fun hc => ?_)
  · rw [hc] at P
    intro v vs H2 G2 fp2 T2 e2 S2 p1 ps
    have has : as = [] := by
      unfold cRecv at hc
      cases h1 : fo ρ with
      | ok y ρ2 =>
        rw [h1] at hc
        simp only at hc
        cases h2 : rdVl ρ2 y with
        | none => rw [h2] at hc; cases hc
        | some c =>
          rw [h2] at hc
          simp only at hc
          split at hc
          · cases hc; rfl
          · cases hc
      | exc _ _ => rw [h1] at hc; cases hc
      | bad => rw [h1] at hc; cases hc
    subst has
    cases ps
    cases x with
    | val c => exact P.elim
    | plc i π =>
      simp only at P
      split at P
      · rename_i xs hr
        cases hg : xs.getLast? with
        | none => rw [hg] at P; exact P.elim
        | some m =>
          rw [hg] at P
          simp only at P
          have S2 : SA K (some v :: (τ ++ σ)) (none :: (τm ++ ρ1)) H2 G2 fp2 := S2
          have hr' : rdP ((none :: τm) ++ ρ1) ((none :: τm).length + i) π = some (.lst xs) := by rw [rdP_pre]; exact hr
          have S3 : SA K (some .non :: ((some v :: τ) ++ σ)) (some (.dat .none) :: ((none :: τm) ++ ρ1)) H2 G2 fp2 := S2.pushD .non
          obtain ⟨v0, vc, fr, f1, z1, z2, z3, z4, z5, z6⟩ := S3.mut hr'
          have := plc_at (s := [some v]) (m := [none]) rfl hl p1 (by rw [show ([none] : Rho).length + (τm.length + i) = (none :: τm).length + i by simp [Nat.add_comm, Nat.add_left_comm, Nat.add_assoc]]; exact z1) z2
          subst this
          cases z3 with
          | lst h1 h2 =>
            rename_i a ws fx sx
            have hx : xs = xs.dropLast ++ [m] := by
              obtain ⟨ys, rfl⟩ := List.getLast?_eq_some_iff.mp hg
              rw [List.dropLast_concat]
            rw [hx] at h2
            obtain ⟨us, u, fa, fb, rfl, g1, g2, rfl⟩ := h2.last
            have nd := z5
            rw [List.nodup_append] at nd
            obtain ⟨na, nfx⟩ := List.nodup_cons.mp nd.2.1
            have nfx' := nfx
            rw [List.nodup_append] at nfx'
            have same : ∀ x, x ≠ a → upd H2 a (.lst us) x = H2 x := fun x hx => upd_ne hx
            refine ⟨a, us ++ [u], u, rfl, rfl, h1, by simp, ?_⟩
            rw [List.dropLast_concat]
            obtain ⟨fp', S4, T4⟩ := z6 a rfl List.mem_cons_self (.lst us) (.lst xs.dropLast) (a :: fa) u m fb (.lst upd_same (g1.at (Ext.refl G2) fun x hx => same x fun z => na (by rw [← z]; exact List.mem_append_left _ hx)))
              (g2.at (Ext.refl G2) fun x hx => same x fun z => na (by rw [← z]; exact List.mem_append_right _ hx)) (by
                rw [List.nodup_append]
                refine ⟨nfx'.2.1, List.nodup_cons.mpr ⟨fun z => na (List.mem_append_left _ z), nfx'.1⟩, fun x hx y hy e => ?_⟩
                rcases List.mem_cons.mp hy with rfl | hy
                · exact na (by rw [← e]; exact List.mem_append_right _ hx)
                · exact nfx'.2.2 y hy x hx e.symm) (fun x hx => by
                refine List.mem_append_right _ ?_
                rcases List.mem_append.mp hx with hx | hx
                · exact List.mem_cons_of_mem _ (List.mem_append_right _ hx)
                · rcases List.mem_cons.mp hx with rfl | hx
                  · exact List.mem_cons_self
                  · exact List.mem_cons_of_mem _ (List.mem_append_left _ hx))
            rw [wrP_pre] at S4
            have S5 : SA K (some u :: some (V.ref a) :: (τ ++ σ)) (some m :: none :: (τm ++ wrP ρ1 i π (.lst xs.dropLast))) (upd H2 a (.lst us)) G2 fp' := S4
            obtain ⟨fq, S6, h6⟩ := SA.drop (v := some (.ref a)) (m := none) (SA.swap2 S5)
            exact P u _ G2 fq ((T2.trans T4).sub h6) (fun z => nomatch z) S6 trivial
      · exact P.elim
  · rw [hc] at P
    exact fun cls d H' G' fp' T' S' r => P cls d H' G' fp' T' S' r
  · rw [hc] at P; exact P
/-- a text's join, upper -/
theorem RBs.uncons {v : V} {vs : List V} {m : M} {ms : List M} (h : RBs K G H (v :: vs) (m :: ms)) : (∃ fx, RM K G H v m fx) ∧ RBs K G H vs ms := by
  cases h with
  | cons r t => exact ⟨⟨_, r⟩, t⟩
theorem os_join : OpMt K (fun x xs H Q => ∃ a p, ∃ ys : List Str, x = .str a ∧ xs = [.ref p] ∧ (SqL K H p (ys.map V.str) ∨ SqT K H p (ys.map V.str)) ∧ (ys.map (·.length)).sum + ys.length * a.length ≤ 16777216 ∧ Q (.str (Txt.join a ys)) H) opJoin := by
  intro vs ms m H G Q e rs ho hq
  unfold opJoin at ho
  split at ho
  · rename_i a mm
    cases q1 : mm.asSeq with
    | none => rw [q1] at ho; cases ho
    | some ds =>
      rw [q1] at ho
      simp only at ho
      cases q2 : strsOf ds with
      | none => rw [q2] at ho; cases ho
      | some ys =>
        rw [q2] at ho
        simp only at ho
        by_cases hz : (ys.map (·.length)).sum + ys.length * a.length ≤ 16777216
        · rw [if_pos hz] at ho
          cases ho
          obtain ⟨v, w, fx, fy, rfl, r1, r2⟩ := rs.cases2
          have := r1.dat'
          cases this
          obtain ⟨p, ws, rfl, h4, h5⟩ := r2.asSeq e q1
          have := strsOf_map q2
          subst this
          have := dp_strs h5
          subst this
          exact ⟨a, p, ys, rfl, rfl, h4, hz, hq _ H G [] (New.refl e) (.dat (.str _))⟩
        · rw [if_neg hz] at ho; cases ho
  · cases ho
def opUpper : List M → Option M
  | [.dat (.str a)] => if a.length ≤ 5592405 then some (.dat (.str (Txt.upper a))) else none
  | _ => none
theorem os_upper : OpMt K (fun x xs H Q => ∃ a, x = .str a ∧ xs = [] ∧ a.length ≤ 5592405 ∧ Q (.str (Txt.upper a)) H) opUpper := by
  intro vs ms m H G Q e rs ho hq
  unfold opUpper at ho
  split at ho
  · rename_i a
    by_cases hz : a.length ≤ 5592405
    · rw [if_pos hz] at ho
      cases ho
      obtain ⟨v, fx, rfl, r1⟩ := rs.cases1
      have := r1.dat'
      cases this
      exact ⟨a, rfl, rfl, hz, hq _ H G [] (New.refl e) (.dat (.str _))⟩
    · rw [if_neg hz] at ho; cases ho
  · cases ho
end
end DL

set_option Elab.async false
set_option linter.all false
set_option maxRecDepth 100000
set_option maxHeartbeats 1000000
/-! DLk: list(reversed(a list)), displays of dicts. -/
namespace RT
open PySem PySem.Spec PyProof.Rows L2
section
variable {prog : Program} {w : World} {A : Around} {E : Value → Shared → Prop} {s : Shared}
theorem extend_rev {R : Result → Shared → Prop} {it l S : Addr} {items : Array Value} {c₀ : Nat} {res : Value} (hh : A.handled = none) (hit : s.heap.IsRevIter it l ((items.size : Int) - 1)) (hl : s.heap.IsList l items) (hne : l ≠ it) (hn : items.size ≤ sizeLine) (hSi : S ≠ it) (hSl : S ≠ l)
    (hS : s.heap.get? S = some { cls := .type "list", data := .seq #[] c₀ })
    (hR : ∀ (h' : Heap) (tk : Nat) (acc' : Array Value) (c' : Nat), (∀ b o, b ≠ S → b ≠ it → s.heap.get? b = some o → h'.get? b = some o) → h'.get? S = some { cls := .type "list", dict := none, data := .seq acc' c', slots := #[] } →
      ItemsOf (fun i v => items[items.size - 1 - i]? = some v) acc' items.size → R (.ok (.ret res)) { s with heap := h', toks := tk }) :
    wpAny (model prog w) A.in1 (Builtin.List.listExtendWith (.ref S) (.ref it) res)
      (fun fin s' => match fin with | .done f => R (.ok f) s' | .again c' => c'.quiet = true ∧ codeAny (model prog w) A c' R s') (fun e s' => R (.error e) s') s := by
  have W := (Walks.listRev (prog := prog) (w := w) (A := A.in1) hh it l hne items).toS
  have hSf : S ∉ [it, l] := by simp only [List.mem_cons, List.not_mem_nil, or_false, not_or]; exact ⟨hSi, hSl⟩
  have hT : s.TypeIs (.ref it) "list_reverseiterator" := Heap.IsRevIter.typeIs (s := s) hit
  have h1 : Builtin.List.listSameRef (.ref S) (.ref it) = false := by simp [Builtin.List.listSameRef, hSi]
  unfold Builtin.List.listExtendWith
  refine wpAny_bind (wpAny_typeOf hT ?_)
  rw [if_neg (by rw [h1]; decide)]
  refine wpAny_bind (wpAny_pyIter_revIter (s := s) hit ?_)
  refine wpAny_bind (wpAny_holding ?_)
  unfold Builtin.List.listLengthHint
  refine wpAny_bind (wpAny_specialOf hT nolen_lri ?_)
  show wpAny _ A.in1 (specialOf (Value.ref it) (Str.ofString "__length_hint__") >>= _) _ _ _
  refine wpAny_bind (wpAny_specialOf hT hint_lri ?_)
  generalize hid : ("list_reverseiterator.__length_hint__" : String) = id0
  wp_delta
  rw [show splitId id0 = some ("list_reverseiterator", "__length_hint__") from by subst hid; decide +kernel]
  subst hid
  refine wpAny_bind (wpAny_isInstance (b := true) hT (by rw [isSubtype_type]; kernel_rfl) ?_)
  refine wpAny_pure ?_
  rw [if_neg (by decide)]
  have e0 : ((items.size : Nat) : Int) - 1 - ((0 : Nat) : Int) = (items.size : Int) - 1 := by omega
  refine wpAny_pure ⟨plainId_quiet F.plain_extend_loop _, codeAny_extend_loopS W hn _ hSf _ items.size 0 _ _ _ rfl (Nat.zero_le _) ⟨Nat.zero_le _, by rw [e0]; exact hit, hl⟩ hS (ItemsOf.nil _) fun s' acc' c' hm hS' hacc => ?_⟩
  rw [Moved.eq_with hm]
  refine hR s'.heap s'.toks acc' c' (fun b o hb hb' e => hm.heap b o (fun hmem => ?_) e) hS' hacc
  rcases List.mem_cons.mp hmem with e' | hmem
  · exact hb e'
  · exact hb' (List.mem_singleton.mp hmem)
theorem list_init_rev {R : Result → Shared → Prop} {it l S : Addr} {items : Array Value} (hh : A.handled = none) (hit : s.heap.IsRevIter it l ((items.size : Int) - 1)) (hl : s.heap.IsList l items) (hne : l ≠ it) (hn : items.size ≤ sizeLine) (hSi : S ≠ it) (hSl : S ≠ l)
    (hS : s.heap.get? S = some { cls := .type "list", data := .seq #[] })
    (hR : ∀ (h' : Heap) (tk : Nat) (acc' : Array Value) (c' : Nat), (∀ b o, b ≠ S → b ≠ it → s.heap.get? b = some o → h'.get? b = some o) → h'.get? S = some { cls := .type "list", dict := none, data := .seq acc' c', slots := #[] } →
      ItemsOf (fun i v => items[items.size - 1 - i]? = some v) acc' items.size → R (.ok (.ret .none)) { s with heap := h', toks := tk }) :
    wpAny (model prog w) A.in1 (Builtin.«list.__init__» ⟨[.ref S, .ref it], []⟩)
      (fun fin s' => match fin with | .done f => R (.ok f) s' | .again c' => c'.quiet = true ∧ codeAny (model prog w) A c' R s') (fun e s' => R (.error e) s') s := by
  show wpAny _ _ (do let old ← Builtin.List.listItems (.ref S); Builtin.List.listUpdate (.ref S) (fun _ => #[]); letGo old.toList.reverse; Builtin.List.listExtendWith (.ref S) (.ref it) .none) _ _ s
  refine wpAny_bind ?_
  unfold Builtin.List.listItems
  refine wpAny_bind (wpAny_seqItems hS rfl (wpAny_pure ?_))
  show wpAny _ _ (updateSeq S (fun _ => #[]) >>= fun _ => letGo (#[] : Array Value).toList.reverse >>= fun _ => Builtin.List.listExtendWith (.ref S) (.ref it) .none) _ _ s
  refine wpAny_bind (wpAny_updateSeq hS rfl ?_)
  have hS₂ := Heap.get?_update_self (Obj.mapSeq (fun _ => (#[] : Array Value))) hS rfl
  have oth : ∀ b o, b ≠ S → s.heap.get? b = some o → (s.heap.update S (Obj.mapSeq (fun _ => (#[] : Array Value)))).get? b = some o :=
    fun b o hb e => (Heap.get?_update_other _ _ (Ne.symm hb)).trans e
  refine wpAny_bind (wpAny_letGo ?_)
  have hit2 : (s.heap.update S (Obj.mapSeq (fun _ => (#[] : Array Value)))).IsRevIter it l ((items.size : Int) - 1) := hit.at fun o e => oth it o (Ne.symm hSi) e
  have hl2 : (s.heap.update S (Obj.mapSeq (fun _ => (#[] : Array Value)))).IsList l items := by
    obtain ⟨o, ho, r⟩ := hl
    exact ⟨o, oth l o (Ne.symm hSl) ho, r⟩
  refine extend_rev hh (s := { s with heap := s.heap.update S (Obj.mapSeq (fun _ => (#[] : Array Value))) }) hit2 hl2 hne hn hSi hSl hS₂ fun h' tk acc' c' hk hS' hacc => ?_
  exact hR h' tk acc' c' (fun b o hb hb' e => hk b o hb hb' (oth b o hb e)) hS' hacc
theorem call_list_rev {it l : Addr} {items : Array Value} {Q : Value → Shared → Prop} (hh : A.handled = none) (hit : s.heap.IsRevIter it l ((items.size : Int) - 1)) (hl : s.heap.IsList l items) (hne : l ≠ it) (hn : items.size ≤ sizeLine)
    (hQ : ∀ (h' : Heap) (tk : Nat) (acc' : Array Value) (c' : Nat), (∀ b o, b ≠ it → s.heap.get? b = some o → h'.get? b = some o) → h'.get? s.heap.objs.size = some { cls := .type "list", dict := none, data := .seq acc' c', slots := #[] } →
      ItemsOf (fun i v => items[items.size - 1 - i]? = some v) acc' items.size → Q (.ref s.heap.objs.size) { s with heap := h', toks := tk }) :
    wpAny (model prog w) A (call (.type "list") [.ref it]) Q E s := by
  refine callType_codes (Q₁ := fun obj s₁ => obj = .ref s.heap.objs.size ∧ s₁ = { s with heap := s.heap.push { cls := .type "list", data := .seq #[] } }) F.called_list (F.typeCall_list_1 _) F.entry_list_init
    (code_list_new _ ⟨rfl, rfl⟩) fun obj s₁ h₁ => ?_
  obtain ⟨rfl, rfl⟩ := h₁
  have hS : (s.heap.push { cls := .type "list", data := .seq #[] }).get? s.heap.objs.size = some { cls := .type "list", data := .seq #[] } := Heap.get?_push_size _ rfl
  obtain ⟨oi, hoi, _⟩ := id hit
  obtain ⟨ol, hol, _⟩ := id hl
  have hSi : s.heap.objs.size ≠ it := Nat.ne_of_gt (Heap.lt_size hoi)
  have hSl : s.heap.objs.size ≠ l := Nat.ne_of_gt (Heap.lt_size hol)
  have hit1 : (s.heap.push { cls := .type "list", data := .seq #[] }).IsRevIter it l ((items.size : Int) - 1) := hit.at fun o e => Heap.get?_push_of_some _ e
  refine ⟨⟨_, hS, rfl⟩, F.args_list_init_2 _ _, list_init_rev (A := A.in1) (s := { s with heap := s.heap.push { cls := .type "list", data := .seq #[] } }) hh hit1 (hl.push _) hne hn hSi hSl hS fun h' tk acc' c' hk hS' hacc => ?_⟩
  exact ⟨rfl, hQ h' tk acc' c' (fun b o hb e => hk b o (Nat.ne_of_lt (Heap.lt_size e)) hb (Heap.get?_push_of_some _ e)) hS' hacc⟩
end
section
variable {X : Cx}
def tListRev (K : PySem.W.Frag) (te : TE) : TE := fun σ H Q => te σ H fun v H1 => ∃ (a : Addr) (xs : List V), v = .ref a ∧ SqL K H1 a xs ∧ ∀ q, H1 q = none → Q (.ref q) (upd H1 q (.lst xs.reverse))
theorem pe_listRev {e : Expr} {te : TE} {p p2 pos pos2 : Pos} (hc : X.calm = true) (hg : Gl X "list") (hm : X.mg "list" = none) (hg2 : Gl X "reversed") (hm2 : X.mg "reversed" = none) (he : PE X e te)
    (hs : starEach [e] X.env = (false, eval e X.env) :: starEach [] X.env := by rfl)
    (hs2 : starEach [.Call (.Name "reversed" p2) [e] [] pos2] X.env = (false, eval (.Call (.Name "reversed" p2) [e] [] pos2) X.env) :: starEach [] X.env := by rfl) :
    PE X (.Call (.Name "list" p) [.Call (.Name "reversed" p2) [e] [] pos2] [] pos) (tListRev X.K te) := by
  refine ⟨fun pins s σ H Q I h => ?_⟩
  refine Call_ (ld_blt I hg hm boot_list (PyProof.Rows.callWith_type1 (args_cons (Call_ (ld_blt I hg2 hm2 PyProof.Rows.boot_reversed (PyProof.Rows.callWith_type1 (args_cons (thn (he.run pins s σ H _ I h) fun u s1 ⟨v, H1, I1, r1, q1⟩ => args_nil ?_) hs) hs rfl))) hs2) hs2 rfl))
  obtain ⟨a, xs, ev, hq, q⟩ := q1
  subst ev
  obtain rfl : u = Value.ref a := r1
  obtain ⟨its, rv, p', hz⟩ := I1.list hq
  refine call_reversed_list p'.isList (args_nil ?_)
  have k0 : ∀ b o, s1.heap.get? b = some o → (s1.heap.push (revObj a ((its.toArray.size : Int) - 1))).get? b = some o := fun b o e => Heap.get?_push_of_some _ e
  have I2 : Inv X pins σ H1 { s1 with heap := s1.heap.push (revObj a ((its.toArray.size : Int) - 1)) } := I1.kept (t' := s1.toks) k0
  obtain ⟨f0, f1, f2, f3, f4, f5⟩ := I1.fpOk (H' := H1) (b := s1.heap.objs.size) (Nat.le_refl _) (I1.hok.fresh (Nat.le_refl _))
  have hl := p'.isList
  obtain ⟨ol, hol, _⟩ := id hl
  have hne : a ≠ s1.heap.objs.size := Nat.ne_of_lt (Heap.lt_size hol)
  have hn : its.toArray.size ≤ sizeLine := by rw [List.size_toArray, ← rv.length]; exact hz
  refine call_list_rev (s := { s1 with heap := s1.heap.push (revObj a ((its.toArray.size : Int) - 1)) }) (I1.ok.hd hc) ⟨_, Heap.get?_push_size _ rfl, rfl, rfl⟩ (hl.push _) hne hn fun h' tk acc c' hk hS' hi => ?_
  have sz : (s1.heap.push (revObj a ((its.toArray.size : Int) - 1))).objs.size = s1.heap.objs.size + 1 := Heap.size_push _ _
  rw [sz] at hS' ⊢
  have hne2 : s1.heap.objs.size + 1 ≠ s1.heap.objs.size := Nat.succ_ne_self _
  -- first the iterator's own change, then the new list
  have I3 : Inv X pins σ (upd H1 (s1.heap.objs.size + 1) (.lst xs.reverse)) { s1 with heap := h', toks := tk } := by
    have I4 := I1.laid (a := s1.heap.objs.size + 1) (o := .lst xs.reverse) (h' := h') (t' := tk) (fun b o e => hk b o (Nat.ne_of_lt (Heap.lt_size e)) (k0 b o e)) (Nat.le_succ _) (show ObjOk X.prog X.w _ _ _ (.lst xs.reverse) from ⟨by rw [List.length_reverse]; exact hz, acc.toList, c', vals_rev rv hi, by rw [Array.toArray_toList]; exact hS'⟩)
    exact I4
  exact ⟨.ref (s1.heap.objs.size + 1), _, I3, rfl, q _ (I1.hok.fresh (Nat.le_succ _))⟩
end
end RT
namespace DL
open PySem PySem.Spec PyProof.Rows L2
section
variable {K : PySem.W.Frag} {W : WX} {b : Bool} {τ σ : St} {τm ρ : Rho} {H G H1 G1 : Hp} {fp fp1 : List Addr} {rf : List Nat}
def opRev : M → Option M := fun m => match m.asList with
  | some ds => some (.lst (ds.reverse.map M.dat))
  | none => none
def rRevL (K : PySem.W.Frag) : V → Hp → VK → Prop := fun v H Q => ∃ (a : Addr) (xs : List V), v = .ref a ∧ SqL K H a xs ∧ ∀ q, H q = none → Q (.ref q) (upd H q (.lst xs.reverse))
theorem os_rev : Op1 K (rRevL K) opRev := by
  intro v1 m1 m H G fx Q e r ho hq
  unfold opRev at ho
  cases q1 : m1.asList with
  | none => rw [q1] at ho; cases ho
  | some ds =>
    rw [q1] at ho
    cases ho
    obtain ⟨a, ws, rfl, h4, h5⟩ := r.asList e q1
    exact ⟨a, ws, rfl, .inl h4, fun p hp => hq (.ref p) _ G [p] (New.obj e hp) (.lst upd_same (RMs.ofDats (DaAll.reverse h5)))⟩
/-! ### a display of a dict -/
def cPs : List ((Rho → Out Vl) × (Rho → Out Vl) × Bool) → Rho → Out (List (PyData × Vl))
  | [], ρ => .ok [] ρ
  | (fk, fv, br) :: r, ρ => match fk ρ with
    | .ok (.val (.dat d)) ρ1 => match fv ρ1 with
      | .ok a ρ2 => if a.root = true then (match cPs r ρ2 with
        | .ok as ρ3 => .ok ((d, a) :: as) ρ3
        | .exc x ρ3 => .exc x ρ3
        | .bad => .bad) else .bad
      | .exc x ρ2 => .exc x ρ2
      | .bad => .bad
    | .ok _ _ => .bad
    | .exc x ρ1 => .exc x ρ1
    | .bad => .bad
inductive EvPs (K : PySem.W.Frag) (W : WX) : List (TE × TE) → List ((Rho → Out Vl) × (Rho → Out Vl) × Bool) → Prop
  | nil : EvPs K W [] []
  | cons {bk bv : Bool} {tk tv : TE} {fk fv : Rho → Out Vl} {trs : List (TE × TE)} {fs : List ((Rho → Out Vl) × (Rho → Out Vl) × Bool)} : EvE K W bk tk fk → EvE K W bv tv fv → EvPs K W trs fs → EvPs K W ((tk, tv) :: trs) ((fk, fv, true) :: fs)
theorem ps_run : ∀ {trs : List (TE × TE)} {fs : List ((Rho → Out Vl) × (Rho → Out Vl) × Bool)} {τ : St} {τm ρ : Rho} {H G : Hp} {fp : List Addr} {Q : List (V × V) → Hp → Prop}, EvPs K W trs fs → τ.length = τm.length → SA K (τ ++ σ) (τm ++ ρ) H G fp →
    (match cPs fs ρ with
      | .ok as ρ' => ∀ ps H' G' fp', Tr H G fp H' G' fp' → SA K ((ps.map (·.2)).reverse.map some ++ (τ ++ σ)) ((as.map (·.2)).reverse.map Vl.pm ++ (τm ++ ρ')) H' G' fp' → PFs σ H' (ps.map (·.2)) (as.map (·.2)) → DaAll K G' (ps.map (·.1)) (as.map (·.1)) → Q ps H'
      | .exc x ρ' => ∀ cls d H' G' fp', Tr H G fp H' G' fp' → SA K (τ ++ σ) (τm ++ ρ') H' G' fp' → RX K G' x cls d → W cls d σ H'
      | .bad => False) → tPairs trs σ H Q
  | _, _, τ, τm, ρ, H, G, fp, Q, .nil, hl, S, P => P [] H G fp (Tr.refl H G fp) S .nil .nil
  | _, _, τ, τm, ρ, H, G, fp, Q, .cons (fk := fk) (fv := fv) (fs := fs) hk hv hr, hl, S, P => by
    refine hk τ σ τm ρ H G fp _ hl S ?_
    unfold cPs at P
    cases h1 : fk ρ with
    | bad => rw [h1] at P; exact P
    | exc x ρ1 => rw [h1] at P; exact fun cls d H' G' fp' T' S' r => P cls d H' G' fp' T' S' r
    | ok x ρ1 =>
      rw [h1] at P
      intro v H1 G1 fp1 T1 e1 S1 p1
      cases x with
      | plc i π => exact P.elim
      | val m =>
        cases m with
        | dat d =>
          simp only at P
          obtain ⟨dv, S2⟩ := SA.popD (d := d) S1
          refine hv τ σ τm ρ1 H1 G1 fp1 _ hl S2 ?_
          cases h2 : fv ρ1 with
          | bad => rw [h2] at P; exact P
          | exc x ρ2 => rw [h2] at P; exact fun cls d H' G' fp' T' S' r => P cls d H' G' fp' (T1.trans T') S' r
          | ok a ρ2 =>
            rw [h2] at P
            simp only at P
            intro w H2 G2 fp2 T2 e2 S3 p2
            by_cases hroot : a.root = true
            · rw [if_pos hroot] at P
              refine ps_run (τ := some w :: τ) (τm := a.pm :: τm) (ρ := ρ2) (H := H2) (G := G2) (fp := fp2) hr (by simp [hl]) S3 ?_
              cases h3 : cPs fs ρ2 with
              | bad => rw [h3] at P; exact P
              | exc x ρ3 =>
                rw [h3] at P
                intro cls d H' G' fp' T' S' r
                obtain ⟨fq, S'', h4⟩ := SA.drop (v := some w) (m := a.pm) (σ := τ ++ σ) (ρ := τm ++ ρ3) S'
                exact P cls d H' G' fq (((T1.trans T2).trans T').sub h4) S'' r
              | ok as ρ3 =>
                rw [h3] at P
                intro ps H' G' fp' T' S' p' d'
                refine P ((v, w) :: ps) H' G' fp' ((T1.trans T2).trans T') ?_ (.cons (p2.keep (b := false) (fun z => nomatch z) (by simpa using hroot)) p') (.cons (Ext.dp (T2.g.trans T'.g) d dv) d')
                simp only [List.map_cons, List.reverse_cons, List.map_append, List.map_nil, List.append_assoc, List.cons_append, List.nil_append]
                simpa only [List.cons_append] using S'
            · rw [if_neg hroot] at P; exact P.elim
        | _ => exact P.elim
theorem merge_nodup : ∀ {ks : List Key} {vs : List V} {js : List Key} {us : List V}, ks.length = vs.length → js.length = us.length → (js ++ ks).Nodup → mergeK (js.zip us) (ks.zip vs) = (js ++ ks).zip (us ++ vs)
  | [], [], js, us, _, e2, _ => by simp [mergeK]
  | [], _ :: _, _, _, e, _, _ => by simp at e
  | _ :: _, [], _, _, e, _, _ => by simp at e
  | k :: ks, v :: vs, js, us, e1, e2, hn => by
    show mergeK (putK (js.zip us) k v) (ks.zip vs) = _
    have hk : k ∉ js := fun z => by
      rw [List.nodup_append] at hn
      exact hn.2.2 k z k List.mem_cons_self rfl
    have hf : fnd k js = none := by
      cases q : fnd k js with
      | none => rfl
      | some n =>
        exfalso
        apply hk
        have : ∀ {ls : List Key} {n : Nat}, fnd k ls = some n → k ∈ ls := by
          intro ls
          induction ls with
          | nil => intro n h; cases h
          | cons x ls ih =>
            intro n h
            unfold fnd at h
            by_cases hx : x = k
            · rw [hx]; exact List.mem_cons_self
            · rw [if_neg hx] at h
              cases q : fnd k ls with
              | none => rw [q] at h; cases h
              | some j => exact List.mem_cons_of_mem _ (ih q)
        exact this q
    rw [putK_add e2 hf, merge_nodup (by simpa using e1) (by simp [e2]) (by rw [List.append_assoc]; exact hn)]
    rw [List.append_assoc, List.append_assoc]
    rfl
def cDict (fs : List ((Rho → Out Vl) × (Rho → Out Vl) × Bool)) : Rho → Out Vl := fun ρ => match cPs fs ρ with
  | .ok as ρ1 => match keysOf (as.map (·.1)) with
    | some ks => if ks.Nodup ∧ ks.length ≤ 15 then (match prep (ownM (as.map (·.2))) (as.map (·.2)) ρ1 with
      | some (ms, ρ2) => .ok (.val (.dk ks ms)) ρ2
      | none => .bad) else .bad
    | none => .bad
  | .exc x ρ1 => .exc x ρ1
  | .bad => .bad
theorem zip_map_kV : ∀ {ks : List Key} {ps : List (V × V)}, ps.map (·.1) = ks.map kV → ps = (ks.zip (ps.map (·.2))).map fun kv => (kV kv.1, kv.2)
  | [], [], _ => rfl
  | [], _ :: _, h => by simp at h
  | _ :: _, [], h => by simp at h
  | k :: ks, (x, y) :: ps, h => by
    simp only [List.map_cons, List.cons.injEq] at h
    show (x, y) :: ps = (kV k, y) :: (ks.zip (ps.map (·.2))).map _
    rw [← zip_map_kV h.2, h.1]
theorem ev_dict {trs : List (TE × TE)} {fs : List ((Rho → Out Vl) × (Rho → Out Vl) × Bool)} (h : EvPs K W trs fs) : EvE K W false (tDisp trs) (cDict fs) := by
  intro τ σ τm ρ H G fp Q hl S P p hp
  obtain ⟨S1, T1⟩ := S.new (v := .ref p) (c := .dk [] []) (New.obj S.same (o := .dK []) hp) (.dk (vs := []) upd_same rfl .nil List.nodup_nil)
  refine ps_run (τ := some (.ref p) :: τ) (τm := some (.dk [] []) :: τm) h (by simp [hl]) S1 ?_
  unfold cDict at P
  cases hc : cPs fs ρ with
  | bad => rw [hc] at P; exact P
  | exc x ρ1 =>
    rw [hc] at P
    intro cls d H' G' fp' T' S' r
    obtain ⟨fq, S'', h4⟩ := SA.drop (v := some (.ref p)) (m := some (.dk [] [])) (σ := τ ++ σ) (ρ := τm ++ ρ1) S'
    exact P cls d H' G' fq ((T1.trans T').sub h4) S'' r
  | ok as ρ1 =>
    rw [hc] at P
    simp only at P
    intro ps H2 G2 fp2 T2 S2 pf dk
    cases hk : keysOf (as.map (·.1)) with
    | none => rw [hk] at P; exact P.elim
    | some ks =>
      rw [hk] at P
      simp only at P
      by_cases hn : ks.Nodup ∧ ks.length ≤ 15
      · rw [if_pos hn] at P
        cases hpr : prep (ownM (as.map (·.2))) (as.map (·.2)) ρ1 with
        | none => rw [hpr] at P; exact P.elim
        | some q =>
          obtain ⟨ms, ρ2⟩ := q
          rw [hpr] at P
          simp only at P
          obtain ⟨G3, fA, fB, C, SB, dis, T3⟩ := prep_ok (s := []) (m := []) (τ := some (.ref p) :: τ) (τm := some (.dk [] []) :: τm) (by simp [hl]) rfl pf S2 hpr
          obtain ⟨fc, rm, pc⟩ := RMs.perm_free C
          have SB : SA K (some (.ref p) :: (τ ++ σ)) (some (.dk [] []) :: (τm ++ ρ2)) H2 G3 fB := SB
          obtain ⟨fr, fq, rp, pp, S4⟩ := SB.pop
          cases rp with
          | dk g1 g2 g3 gn =>
            rename_i vs0 fx
            have hv0 : vs0 = [] := List.eq_nil_of_length_eq_zero g2.symm
            subst hv0
            cases g3
            have kv := da_keys dk hk
            have hlen : ks.length = (ps.map (·.2)).length := by
              have := congrArg List.length kv
              simp only [List.length_map] at this ⊢
              exact this.symm
            refine ⟨g1, ks.zip (ps.map (·.2)), zip_map_kV kv, by rw [zip_length hlen]; exact hn.2, ?_⟩
            have hm : mergeK [] (ks.zip (ps.map (·.2))) = ks.zip (ps.map (·.2)) := merge_nodup (js := []) (us := []) hlen rfl (by simpa using hn.1)
            rw [hm]
            have ndB := pp.nodup_iff.mpr SB.nd
            have ndB' : p ∉ fq ∧ fq.Nodup := List.nodup_cons.mp ndB
            have pB : p ∈ fB := pp.mem_iff.mp List.mem_cons_self
            have pA : p ∉ fA := fun z => dis p z pB
            have same : ∀ x, x ≠ p → upd H2 p (.dK (ks.zip (ps.map (·.2)))) x = H2 x := fun x hx => upd_ne hx
            have gp : G3 p = none := SB.free p pB
            have es : Ext G3 (upd H2 p (.dK (ks.zip (ps.map (·.2))))) := fun x o z => by
              rw [same x fun w => by rw [w, gp] at z; cases z]
              exact SB.same x o z
            have rn : RM K G3 (upd H2 p (.dK (ks.zip (ps.map (·.2))))) (.ref p) (.dk ks ms) (p :: fc) := .dk upd_same hlen (rm.at (Ext.refl G3) fun x hx => same x fun z => pA (by rw [← z]; exact pc.mem_iff.mp hx)) hn.1
            have S5 : SA K (τ ++ σ) (τm ++ ρ2) (upd H2 p (.dK (ks.zip (ps.map (·.2))))) G3 fq := S4.at (Ext.refl G3) es S4.free fun x hx => same x fun z => ndB'.1 (by rw [← z]; exact hx)
            have inB : ∀ x ∈ fq, x ∈ fB := fun x hx => pp.mem_iff.mp (List.mem_cons_of_mem _ hx)
            have S6 := S5.push rn (fun x hx => by
                rcases List.mem_cons.mp hx with rfl | hx
                · exact gp
                · exact C.free x (pc.mem_iff.mp hx)) (List.nodup_cons.mpr ⟨fun z => pA (pc.mem_iff.mp z), pc.nodup_iff.mpr C.nd⟩) (fun x hx hy => by
                rcases List.mem_cons.mp hx with rfl | hx
                · exact ndB'.1 hy
                · exact dis x (pc.mem_iff.mp hx) (inB x hy))
            have T13 := (T1.trans T2).trans T3
            refine P (.ref p) _ G3 _ ⟨T13.g, fun x o z n => ?_, fun x hx => ?_, T13.n⟩ (fun z => nomatch z) S6 trivial
            · rw [same x fun w => by rw [w, hp] at z; cases z]
              exact T13.k x o z n
            · rcases List.mem_append.mp hx with hx | hx
              · rcases List.mem_cons.mp hx with rfl | hx
                · exact .inr hp
                · exact T13.f x (List.mem_append_left _ (pc.mem_iff.mp hx))
              · exact T13.f x (List.mem_append_right _ (inB x hx))
      · rw [if_neg hn] at P; exact P.elim
end
end DL

set_option Elab.async false
set_option linter.all false
set_option maxRecDepth 100000
/-! DLs: the same by the syntax: families of contexts, expressions, tests, statements. -/
namespace DL
open PySem PySem.Spec PyProof.Rows L2

def visB (sc : Scope) (x : Str) : Bool := match sc.names.lookup x with
  | some .local => true
  | some .cell => true
  | some .free => true
  | _ => false
theorem visB_ok {sc : Scope} {x : Str} (h : visB sc x = true) : Vis sc x := by
  unfold visB at h
  split at h
  · exact .inl (by assumption)
  · exact .inr (.inl (by assumption))
  · exact .inr (.inr (by assumption))
  · cases h
def locB (sc : Scope) (fn : Bool) (x : Str) : Bool := match sc.names.lookup x with
  | some .local => true
  | some .cell => fn
  | _ => false
theorem locB_ok {sc : Scope} {fn : Bool} {x : Str} (h : locB sc fn x = true) : Loc sc x ∧ (fn = true ∨ sc.names.lookup x = some .local) := by
  unfold locB at h
  split at h
  · exact ⟨.inl (by assumption), .inr (by assumption)⟩
  · exact ⟨.inr (by assumption), .inl h⟩
  · cases h
structure RoomB (c : Bool) (k : Nat) (A : Around) : Prop where
  hd : c = true → A.handled = none
  dp : A.depth + 3 * k + 5 < recursionLimit
  un : A.units + 16 * k + 200 < cLine
theorem RoomB.of {c : Bool} {k : Nat} {A : Around} (r : Room k A) : RoomB c k A := ⟨fun _ => r.hd, r.dp, r.un⟩
theorem RoomB.full {c : Bool} {k : Nat} {A : Around} (r : RoomB c k A) (h : c = true) : Room k A := ⟨r.hd h, r.dp, r.un⟩
structure Fam (P : Program) (w : World) (K : PySem.W.Frag) (mg : Str → Option Value) (base : Heap) (k : Nat) where
  ι : Type
  cx : ι → Cx
  eP : ∀ i, (cx i).prog = P
  ew : ∀ i, (cx i).w = w
  eK : ∀ i, (cx i).K = K
  eM : ∀ i, (cx i).mg = mg
  eB : ∀ i, (cx i).base = base
  cm : Bool
  room : ∀ i, RoomB cm k (cx i).A
  nd : ∀ i, (cx i).N.Nodup
  own : ∀ i, PassesOwn (model (cx i).prog (cx i).w) (cx i).A (cx i).env (cx i).xe
section
variable {P : Program} {w : World} {K : PySem.W.Frag} {mg : Str → Option Value} {base : Heap} {k : Nat} {X : Fam P w K mg base k} {W : WX} {b : Bool} {rf : List Nat}
theorem Fam.hu (X : Fam P w K mg base k) (i : X.ι) : (X.cx i).A.units + 64 < cLine := by have := (X.room i).un; omega
theorem Fam.hu2 (X : Fam P w K mg base k) (i : X.ι) : (X.cx i).A.units + 190 < cLine := by have := (X.room i).un; omega
def blkF (X : Fam P w K mg base k) (scope : Scope) : Fam P w K mg base k where
  ι := X.ι × Shared × Hp × Addr × List (Str × Addr) × List Addr
  cx := fun q => (X.cx q.1).blk q.2.1 q.2.2.1 scope (compEnvC scope q.2.2.2.2.1 q.2.2.2.1 (X.cx q.1).env) q.2.2.2.2.2
  eP := fun q => X.eP q.1
  ew := fun q => X.ew q.1
  eK := fun q => X.eK q.1
  eM := fun q => X.eM q.1
  eB := fun q => X.eB q.1
  cm := X.cm
  room := fun q => X.room q.1
  nd := fun q => X.nd q.1
  own := fun q => PassesOwn.never
def DE (X : Fam P w K mg base k) (W : WX) (b : Bool) (e : Expr) (f : Rho → Out Vl) : Prop := ∃ te, (∀ i, PE (X.cx i) e te) ∧ EvE K W b te f
def DT (X : Fam P w K mg base k) (W : WX) (b : Bool) (e : Expr) (f : Rho → Out Bool) : Prop := ∃ tt, (∀ i, PT (X.cx i) e tt) ∧ EvT K W b tt f
def DW (X : Fam P w K mg base k) (W : WX) (b : Bool) (e : Expr) (f : Rho → Out Bool) : Prop := ∃ tt, (∀ i, PW (X.cx i) e tt) ∧ EvT K W b tt f
def DA (X : Fam P w K mg base k) (W : WX) (b : Bool) (es : List Expr) (f : Rho → Out (List Vl)) : Prop := ∃ ta, (∀ i, PA (X.cx i) es ta) ∧ EvA K W b ta f
def DS (X : Fam P w K mg base k) (W : WX) (rf : List Nat) (s : Stmt) (g : Rho → Fl) : Prop := ∃ t, (∀ i, PS (X.cx i) s t) ∧ EvS K W rf t g
def DSs (X : Fam P w K mg base k) (W : WX) (rf : List Nat) (s : List Stmt) (g : Rho → Fl) : Prop := ∃ t, (∀ i, PSs (X.cx i) s t) ∧ EvS K W rf t g
def DG (X : Fam P w K mg base k) (js : List Nat) (e : Expr) (h : PyData → Rho → Option Rho) : Prop := ∃ g, (∀ i, PG (X.cx i) e g) ∧ EvG K js g h
def DGs (X : Fam P w K mg base k) (js : List Nat) (es : List Expr) (h : List PyData → Rho → Option Rho) : Prop := ∃ g, (∀ i, PGs (X.cx i) es g) ∧ EvGs K js g h
def DI (X : Fam P w K mg base k) (W : WX) (b : Bool) (tg it : Expr) (f : Rho → Out (List PyData)) : Prop := ∃ wi, (∀ i, PI (X.cx i) tg it wi) ∧ EvI K W b wi f
def DO (X : Fam P w K mg base k) (W : WX) (e : Option Expr) (f : Rho → Option (Option Int)) : Prop := ∃ to, (∀ i, PO (X.cx i) e to) ∧ EvO K W to f
def DN (X : Fam P w K mg base k) (e : Expr) (f : Rho → Option PyData) : Prop := ∃ te, (∀ i, PE (X.cx i) e te) ∧ EvNi K te f
def DTs (X : Fam P w K mg base k) (W : WX) (b : Bool) (es : List Expr) (f : Rho → Out Bool) : Prop := ∃ tt, (∀ i, PTs (X.cx i) es tt) ∧ EvT K W b tt f
abbrev GlF (X : Fam P w K mg base k) (x : Str) : Prop := ∀ i, (X.cx i).env.kindOf x = some .globalImplicit

/-! ### names, constants -/
section
variable {e a c : Expr} {es : List Expr} {pos p pos' : Pos} {x : Str} {j : Nat}
theorem de_var (j : Nat) {x : Str} (hN : ∀ i, (X.cx i).N[j]? = some x := by intro _; kernel_rfl) (hv : ∀ i, visB (X.cx i).env.scope x = true := by intro _; kernel_rfl)
    (hd : (x == ("__debug__" : Str)) = false := by kernel_rfl) (hcd : (x == ("__classdict__" : Str)) = false := by kernel_rfl) : DE X W true (.Name x pos) (cVar j) := ⟨_, fun i => pe_var (hN i) (visB_ok (hv i)) hd hcd, ev_var⟩
theorem de_int {i : Int} {j pos} : DE X W true (.Constant (.int i) j pos) (cD (.int i)) := ⟨_, fun _ => pe_int, ev_int⟩
theorem de_str {i : Str} {j pos} : DE X W true (.Constant (.str i) j pos) (cD (.str i)) := ⟨_, fun _ => pe_str, ev_str⟩
theorem de_bl {i : Bool} {j pos} : DE X W true (.Constant (.bool i) j pos) (cD (.bool i)) := ⟨_, fun _ => pe_bl, ev_bl⟩
theorem de_non {j pos} : DE X W true (.Constant .none j pos) (cD .none) := ⟨_, fun _ => pe_non, ev_non⟩
theorem de_glob {x : Str} {v : V} {u : Value} {d : PyData} (hm : mg x = some u) (r : RelV v u) (hv : ∀ G, Da K G v d) (hg : GlF X x := by intro _; kernel_rfl) (hd : (x == ("__debug__" : Str)) = false := by kernel_rfl) : DE X W true (.Name x pos) (cD d) :=
  ⟨_, fun i => pe_glob (hg i) (by rw [X.eM i]; exact hm) r hd, ev_c hv⟩
/-! ### operators -/
theorem de_op {op : Operator} {r : R2} {o : M → M → Option M} {ba bb : Bool} {fa fb : Rho → Out Vl} (ho : ∀ i, OpR (X.cx i) (binaryOp op) r) (hs : Op2 K r o) (ha : DE X W ba a fa) (hb : DE X W bb c fb) : DE X W (ba && bb) (.BinOp a op c pos) (cOp2 bb o fa fb) := by
  obtain ⟨ta, h1, h2⟩ := ha
  obtain ⟨tb, h3, h4⟩ := hb
  exact ⟨_, fun i => pe_op (ho i) (h1 i) (h3 i), ev_op2 hs h2 h4⟩
theorem de_add {ba bb : Bool} {fa fb : Rho → Out Vl} (ha : DE X W ba a fa) (hb : DE X W bb c fb) : DE X W (ba && bb) (.BinOp a .Add c pos) (cOp2 bb opAdd fa fb) := de_op (fun i => by have h := or_add (X := X.cx i); rw [X.eK i] at h; exact h) os_add ha hb
theorem de_sub {ba bb : Bool} {fa fb : Rho → Out Vl} (ha : DE X W ba a fa) (hb : DE X W bb c fb) : DE X W (ba && bb) (.BinOp a .Sub c pos) (cOp2 bb opSub fa fb) := de_op (fun i => op_sub) os_sub ha hb
theorem de_mul {ba bb : Bool} {fa fb : Rho → Out Vl} (ha : DE X W ba a fa) (hb : DE X W bb c fb) : DE X W (ba && bb) (.BinOp a .Mult c pos) (cOp2 bb opMul fa fb) := de_op (fun i => op_mulW) os_mul ha hb
theorem de_div {ba bb : Bool} {fa fb : Rho → Out Vl} (ha : DE X W ba a fa) (hb : DE X W bb c fb) : DE X W (ba && bb) (.BinOp a .FloorDiv c pos) (cOp2 bb opDiv fa fb) := de_op (fun i => op_fdivW) os_div ha hb
theorem de_mod {ba bb : Bool} {fa fb : Rho → Out Vl} (ha : DE X W ba a fa) (hb : DE X W bb c fb) : DE X W (ba && bb) (.BinOp a .Mod c pos) (cOp2 bb opMod fa fb) := de_op (fun i => op_mod) os_mod ha hb
theorem de_pow {ba bb : Bool} {fa fb : Rho → Out Vl} (ha : DE X W ba a fa) (hb : DE X W bb c fb) : DE X W (ba && bb) (.BinOp a .Pow c pos) (cOp2 bb opPow fa fb) := de_op (fun i => op_pow) os_pow ha hb
theorem de_neg {ba : Bool} {fa : Rho → Out Vl} (ha : DE X W ba a fa) : DE X W ba (.UnaryOp .USub a pos) (cOp1 opNeg fa) := by
  obtain ⟨ta, h1, h2⟩ := ha
  exact ⟨_, fun i => pe_un un_neg (h1 i), ev_op1 os_neg h2⟩
/-- the rule of a comparison: its reading, what it does -/
structure CmpR (X : Fam P w K mg base k) (op : CmpOp) (o : M → M → Option M) : Prop where
  ex : ∃ r, (∀ i, OpR (X.cx i) (compareOp op) r) ∧ Op2 K r o
theorem cr_eq : CmpR X .Eq opEq := ⟨_, fun i => by have h := op_eqW (X := X.cx i) (X.hu2 i); rw [X.eK i] at h; exact h, os_eq⟩
theorem cr_ne : CmpR X .NotEq opNe := ⟨_, fun i => by have h := op_neW (X := X.cx i) (X.hu2 i); rw [X.eK i] at h; exact h, os_ne⟩
theorem cr_lt : CmpR X .Lt (cmpI fun i j => decide (i < j)) := ⟨_, fun i => op_lt, os_cmpI⟩
theorem cr_le : CmpR X .LtE (cmpI fun i j => decide (i ≤ j)) := ⟨_, fun i => op_le, os_cmpI⟩
theorem cr_gt : CmpR X .Gt (cmpI fun i j => decide (j < i)) := ⟨_, fun i => op_gt, os_cmpI⟩
theorem cr_ge : CmpR X .GtE (cmpI fun i j => decide (j ≤ i)) := ⟨_, fun i => op_ge, os_cmpI⟩
theorem cr_is : CmpR X .Is (opIsN false) := ⟨_, fun i => op_isN, os_isN⟩
theorem cr_isnot : CmpR X .IsNot (opIsN true) := ⟨_, fun i => op_notN, os_isnN⟩
theorem cr_isB : CmpR X .Is (opIsB false) := ⟨_, fun i => op_is_bl, os_isB⟩
theorem cr_notB : CmpR X .IsNot (opIsB true) := ⟨_, fun i => op_isnot_bl, os_notB⟩
theorem cr_in : CmpR X .In (opIn false) := ⟨_, fun i => by have h := or_in (X := X.cx i) (Nat.lt_of_le_of_lt (by omega) (X.hu i)); rw [X.eK i] at h; exact h, os_in⟩
theorem cr_nin : CmpR X .NotIn (opIn true) := ⟨_, fun i => by have h := or_nin (X := X.cx i) (Nat.lt_of_le_of_lt (by omega) (X.hu i)); rw [X.eK i] at h; exact h, os_in⟩
theorem de_cmp {op : CmpOp} {o : M → M → Option M} {ba bb : Bool} {fa fb : Rho → Out Vl} (hr : CmpR X op o) (ha : DE X W ba a fa) (hb : DE X W bb c fb) (hm : behindInMarks op c = false := by kernel_rfl) : DE X W (ba && bb) (.Compare a [op] [c] pos) (cOp2 bb o fa fb) := by
  obtain ⟨r, h5, h6⟩ := hr.ex
  obtain ⟨ta, h1, h2⟩ := ha
  obtain ⟨tb, h3, h4⟩ := hb
  exact ⟨_, fun i => pe_cmpR (h5 i) (h1 i) (h3 i) hm, ev_op2 h6 h2 h4⟩
theorem dt_cmp {op : CmpOp} {o : M → M → Option M} {ba bb : Bool} {fa fb : Rho → Out Vl} (hr : CmpR X op o) (ha : DE X W ba a fa) (hb : DE X W bb c fb) (hm : behindInMarks op c = false := by kernel_rfl) : DT X W (ba && bb) (.Compare a [op] [c] pos) (cB (cOp2 bb o fa fb)) := by
  obtain ⟨r, h5, h6⟩ := hr.ex
  obtain ⟨ta, h1, h2⟩ := ha
  obtain ⟨tb, h3, h4⟩ := hb
  exact ⟨_, fun i => pt_cmpR (h5 i) (h1 i) (h3 i) hm, et_B (ev_op2 h6 h2 h4) fun σ H Q q => q⟩
/-! ### tests -/
theorem dt_val {fa : Rho → Out Vl} (ha : DE X W b e fa) (he : ∀ i whole, isTrue e (X.cx i).env whole = (do let v ← whole; standAt e.pos; holding [v] (truthy v)) := by intro _ _; kernel_rfl) : DT X W b e (cB fa) := by
  obtain ⟨ta, h1, h2⟩ := ha
  exact ⟨_, fun i => pt_val (h1 i) (he i), et_B h2 fun σ H Q q => q⟩
theorem dt_not {f : Rho → Out Bool} (ha : DT X W b a f) : DT X W b (.UnaryOp .Not a pos) (cNot f) := by
  obtain ⟨ta, h1, h2⟩ := ha
  exact ⟨_, fun i => pt_not (h1 i), et_not h2⟩
theorem dt_w {f : Rho → Out Bool} (ha : DW X W b a f) : DT X W b a f := by
  obtain ⟨ta, h1, h2⟩ := ha
  exact ⟨_, fun i => (h1 i).pt, h2⟩
theorem dw_and1 {f : Rho → Out Bool} (ha : DT X W b a f) : DW X W b (.BoolOp .And [a] pos) f := by
  obtain ⟨ta, h1, h2⟩ := ha
  exact ⟨_, fun i => pw_and1 (h1 i), h2⟩
theorem dw_or1 {f : Rho → Out Bool} (ha : DT X W b a f) : DW X W b (.BoolOp .Or [a] pos) f := by
  obtain ⟨ta, h1, h2⟩ := ha
  exact ⟨_, fun i => pw_or1 (h1 i), h2⟩
theorem dw_and {bf bg : Bool} {f g : Rho → Out Bool} {rest : List Expr} (ha : DT X W bf a f) (hb : DW X W bg (.BoolOp .And (c :: rest) pos) g) : DW X W (bf && bg) (.BoolOp .And (a :: c :: rest) pos) (cAnd f g) := by
  obtain ⟨ta, h1, h2⟩ := ha
  obtain ⟨tb, h3, h4⟩ := hb
  exact ⟨_, fun i => pw_and (h1 i) (h3 i), et_and h2 h4⟩
theorem dw_or {bf bg : Bool} {f g : Rho → Out Bool} {rest : List Expr} (ha : DT X W bf a f) (hb : DW X W bg (.BoolOp .Or (c :: rest) pos) g) : DW X W (bf && bg) (.BoolOp .Or (a :: c :: rest) pos) (cOr f g) := by
  obtain ⟨ta, h1, h2⟩ := ha
  obtain ⟨tb, h3, h4⟩ := hb
  exact ⟨_, fun i => pw_or (h1 i) (h3 i), et_or h2 h4⟩
/-- and, or, not of truths as values -/
theorem de_one {op} {f : Rho → Out Vl} (ha : DE X W b a f) : DE X W b (.BoolOp op [a] pos) f := by
  obtain ⟨ta, h1, h2⟩ := ha
  exact ⟨_, fun i => pe_one (h1 i), h2⟩
theorem de_and {bf bg : Bool} {f g : Rho → Out Vl} {rest : List Expr} (ha : DE X W bf a f) (hb : DE X W bg (.BoolOp .And (c :: rest) pos) g) : DE X W (bf && (bg && true)) (.BoolOp .And (a :: c :: rest) pos) (cIte (cB f) g (cD (.bool false))) := by
  obtain ⟨ta, h1, h2⟩ := ha
  obtain ⟨tb, h3, h4⟩ := hb
  refine ⟨tAndV ta tb, fun i => pe_and (h1 i) (h3 i), ?_⟩
  have := ev_ite (et_B (tt := tB ta) h2 fun σ H Q q => q) h4 (ev_bl (x := false))
  intro τ σ τm ρ H G fp Q hl S P
  have z := this τ σ τm ρ H G fp Q hl S P
  exact z
theorem de_or {bf bg : Bool} {f g : Rho → Out Vl} {rest : List Expr} (ha : DE X W bf a f) (hb : DE X W bg (.BoolOp .Or (c :: rest) pos) g) : DE X W (bf && (true && bg)) (.BoolOp .Or (a :: c :: rest) pos) (cIte (cB f) (cD (.bool true)) g) := by
  obtain ⟨ta, h1, h2⟩ := ha
  obtain ⟨tb, h3, h4⟩ := hb
  refine ⟨tOrV ta tb, fun i => pe_or (h1 i) (h3 i), ?_⟩
  have := ev_ite (et_B (tt := tB ta) h2 fun σ H Q q => q) (ev_bl (x := true)) h4
  intro τ σ τm ρ H G fp Q hl S P
  have z := this τ σ τm ρ H G fp Q hl S P
  exact z
theorem de_not {f : Rho → Out Vl} (ha : DE X W b a f) : DE X W b (.UnaryOp .Not a pos) (cV (cNot (cB f))) := by
  obtain ⟨ta, h1, h2⟩ := ha
  refine ⟨tNotV ta, fun i => pe_not (h1 i), ev_V (tt := tNot (tB ta)) (et_not (et_B h2 fun σ H Q q => q)) fun σ H Q q => ?_⟩
  exact q
theorem de_if {bt ba bb : Bool} {t : Expr} {ft : Rho → Out Bool} {fa fb : Rho → Out Vl} (ht : DT X W bt t ft) (ha : DE X W ba a fa) (hb : DE X W bb c fb) : DE X W (bt && (ba && bb)) (.IfExp t a c pos) (cIte ft fa fb) := by
  obtain ⟨tt, h5, h6⟩ := ht
  obtain ⟨ta, h1, h2⟩ := ha
  obtain ⟨tb, h3, h4⟩ := hb
  exact ⟨_, fun i => pe_ifExp (h5 i) (h1 i) (h3 i), ev_ite h6 h2 h4⟩
/-! ### argument lists, displays -/
theorem da_nil : DA X W true [] aNil := ⟨_, fun _ => pa_nil, ea_nil⟩
theorem da_cons {ba br : Bool} {fa : Rho → Out Vl} {fr : Rho → Out (List Vl)} (ha : DE X W ba e fa) (hr : DA X W br es fr) (hs : ∀ i, starEach (e :: es) (X.cx i).env = (false, eval e (X.cx i).env) :: starEach es (X.cx i).env := by intro _; kernel_rfl) : DA X W (ba && br) (e :: es) (aCons br fa fr) := by
  obtain ⟨ta, h1, h2⟩ := ha
  obtain ⟨tb, h3, h4⟩ := hr
  exact ⟨_, fun i => pa_cons (h1 i) (h3 i) (hs i), ea_cons h2 h4⟩
theorem de_tup {x1} {fr : Rho → Out (List Vl)} (h : DA X W b es fr) : DE X W b (.Tuple es x1 pos) (cTup fr) := by
  obtain ⟨ta, h1, h2⟩ := h
  exact ⟨_, fun i => pe_tupN (h1 i), ev_tup h2⟩
theorem de_lst {fr : Rho → Out (List Vl)} (h : DA X W b es fr) : DE X W b (.List es pos) (cLst fr) := by
  obtain ⟨ta, h1, h2⟩ := h
  exact ⟨_, fun i => pe_lst (h1 i), ev_lst h2⟩
def DPs (X : Fam P w K mg base k) (W : WX) (pos : Pos) (ks : List (Option Expr)) (vs : List Expr) (fs : List ((Rho → Out Vl) × (Rho → Out Vl) × Bool)) : Prop := ∃ trs, (∀ i, PPs (X.cx i) pos ks vs trs) ∧ EvPs K W trs fs
theorem dps_nil : DPs X W pos [] [] [] := ⟨_, fun _ => pps_nil, .nil⟩
theorem dps_cons {ke ve : Expr} {ks : List (Option Expr)} {vs : List Expr} {bk bv : Bool} {fk fv : Rho → Out Vl} {fs : List ((Rho → Out Vl) × (Rho → Out Vl) × Bool)} (hk : DE X W bk ke fk) (hv : DE X W bv ve fv) (hr : DPs X W pos ks vs fs) :
    DPs X W pos (some ke :: ks) (ve :: vs) ((fk, fv, true) :: fs) := by
  obtain ⟨tk, h1, h2⟩ := hk
  obtain ⟨tv, h3, h4⟩ := hv
  obtain ⟨tr, h5, h6⟩ := hr
  exact ⟨_, fun i => pps_cons (h1 i) (h3 i) (h5 i), .cons h2 h4 h6⟩
theorem de_dict {keys : List (Option Expr)} {values : List Expr} {fs : List ((Rho → Out Vl) × (Rho → Out Vl) × Bool)} (h : DPs X W pos keys values fs) (hall : keys.all (·.isSome) = true := by kernel_rfl) (hl : keys.length = values.length := by kernel_rfl) (h0 : keys ≠ [] := by intro z; cases z)
    (h15 : keys.length ≤ 15 := by decide) : DE X W false (.Dict keys values pos) (cDict fs) := by
  obtain ⟨tr, h5, h6⟩ := h
  exact ⟨_, fun i => pe_disp (h5 i) hall hl h0 h15, ev_dict h6⟩
/-! ### subscripts -/
theorem ix_all {X : Cx} (hu : X.A.units + 1 < cLine) : IxR X (rIxA X.K) := IxR.or ix_seq (by
  intro value slice pins s σ H x y v u Q I rx ry q hs
  obtain ⟨a, z, rfl, g, q⟩ := q
  cases rx
  have hT : s.TypeIs (.ref a) "dict" := dict_typeIs I g
  unfold subscriptTail
  refine wpAny_bind ?_
  rw [getitemInPython_of_ne hT.not_modules]
  refine wpAny_bind (wpAny_specialOf hT PySem.F.slot_dict_getitem.lookup ?_)
  have fin : wpAny (model X.prog X.w) X.A (subscripted slice false (.ref a) u) (fun r s₃ => wpAny (model X.prog X.w) X.A (letTemporaryGo value (.ref a) r >>= fun _ => pure r) (EP X pins σ Q) X.xe s₃) X.xe s := by
    rw [hs]
    exact wpAny_operating (d_getItem hu I g ry fun w' s3 I3 rw' => wpAny_bind (wpAny_letTemporaryGo (wpAny_pure ⟨z, H, I3, rw', q⟩)))
  first
    | exact wpAny_pure (wpAny_bind fin)
    | exact wpAny_bind (wpAny_pure (wpAny_bind fin))
    | exact wpAny_bind fin)
theorem de_ix {ba bb : Bool} {fa fb : Rho → Out Vl} (ha : DE X W ba a fa) (hb : DE X W bb c fb) (hs : PlainIx c := by intro _ _; kernel_rfl) : DE X W (ba && bb) (.Subscript a c pos) (cIx bb fa fb) := by
  obtain ⟨ta, h1, h2⟩ := ha
  obtain ⟨tb, h3, h4⟩ := hb
  exact ⟨_, fun i => pe_ix (by have h := ix_all (X := X.cx i) (Nat.lt_of_le_of_lt (by omega) (X.hu i)); rw [X.eK i] at h; exact h) (h1 i) (h3 i) hs, ev_ix h2 h4⟩
theorem dn_var (j : Nat) {x : Str} (hN : ∀ i, (X.cx i).N[j]? = some x := by intro _; kernel_rfl) (hv : ∀ i, visB (X.cx i).env.scope x = true := by intro _; kernel_rfl)
    (hd : (x == ("__debug__" : Str)) = false := by kernel_rfl) (hcd : (x == ("__classdict__" : Str)) = false := by kernel_rfl) : DN X (.Name x pos) (nVar j) := ⟨_, fun i => pe_var (hN i) (visB_ok (hv i)) hd hcd, en_var⟩
theorem dn_int {i : Int} {j pos} : DN X (.Constant (.int i) j pos) (nC (.int i)) := ⟨_, fun _ => pe_int, en_int⟩
theorem dn_neg {f : Rho → Option PyData} (ha : DN X a f) : DN X (.UnaryOp .USub a pos) (nNeg f) := by
  obtain ⟨ta, h1, h2⟩ := ha
  exact ⟨_, fun i => pe_un un_neg (h1 i), en_neg h2⟩
theorem dn_add {f g : Rho → Option PyData} (ha : DN X a f) (hb : DN X c g) : DN X (.BinOp a .Add c pos) (nI2 (fun i j => i + j) f g) := by
  obtain ⟨ta, h1, h2⟩ := ha
  obtain ⟨tb, h3, h4⟩ := hb
  exact ⟨_, fun i => pe_op (by have h := or_add (X := X.cx i); rw [X.eK i] at h; exact h) (h1 i) (h3 i), en_add h2 h4⟩
theorem dn_sub {f g : Rho → Option PyData} (ha : DN X a f) (hb : DN X c g) : DN X (.BinOp a .Sub c pos) (nI2 (fun i j => i - j) f g) := by
  obtain ⟨ta, h1, h2⟩ := ha
  obtain ⟨tb, h3, h4⟩ := hb
  exact ⟨_, fun i => pe_op op_sub (h1 i) (h3 i), en_sub h2 h4⟩
theorem do_none : DO X W none oNone := ⟨_, fun i => po_none, eo_none⟩
theorem do_some {f : Rho → Option PyData} (h : DN X e f) : DO X W (some e) (oSome f) := by
  obtain ⟨te, h1, h2⟩ := h
  exact ⟨_, fun i => po_some (h1 i), eo_some h2⟩
end
end
end DL

set_option Elab.async false
set_option linter.all false
set_option maxRecDepth 100000
/-! DLt: more of the syntax: slices, chains, calls, comprehensions, targets, iterations, statements, defs. -/
namespace DL
open PySem PySem.Spec PyProof.Rows L2
section
variable {P : Program} {w : World} {K : PySem.W.Frag} {mg : Str → Option Value} {base : Heap} {k : Nat} {X : Fam P w K mg base k} {W : WX} {b : Bool} {rf : List Nat}
section
variable {e a c : Expr} {es : List Expr} {pos p pos' : Pos} {x : Str} {j : Nat}
/-! ### slices -/
theorem sl_all {X : Cx} : SlR X (rSlA X.K) := SlR.or sl_list (SlR.or sl_str sl_tupN)
theorem de_sl {lo hi : Option Expr} {p2 : Pos} {fa : Rho → Out Vl} {fl fh : Rho → Option (Option Int)} (ha : DE X W b e fa) (hl : DO X W lo fl) (hh : DO X W hi fh) : DE X W b (.Subscript e (.Slice lo hi none p2) pos) (cSl fa fl fh) := by
  obtain ⟨ta, h1, h2⟩ := ha
  obtain ⟨tl, h3, h4⟩ := hl
  obtain ⟨th, h5, h6⟩ := hh
  exact ⟨_, fun i => pe_slice (by have h := sl_all (X := X.cx i); rw [X.eK i] at h; exact h) (h1 i) (h3 i) (h5 i), ev_sl h2 h4 h6⟩
/-! ### chains of whole numbers -/
def cChain (p q : Int → Int → Bool) (fa fb fc : Rho → Out Vl) : Rho → Out Bool := fun ρ => match fa ρ with
  | .ok (.val (.dat (.int i))) ρ1 => match fb ρ1 with
    | .ok (.val (.dat (.int j))) ρ2 => if p i j = true then (match fc ρ2 with
      | .ok (.val (.dat (.int k))) ρ3 => .ok (q j k) ρ3
      | .exc x ρ3 => .exc x ρ3
      | _ => .bad) else .ok false ρ2
    | .exc x ρ2 => .exc x ρ2
    | _ => .bad
  | .exc x ρ1 => .exc x ρ1
  | _ => .bad
theorem chain_core {ba bb bc : Bool} {ta tb tc : TE} {fa fb fc : Rho → Out Vl} {p q : Int → Int → Bool} (ha : EvE K W ba ta fa) (hb : EvE K W bb tb fb) (hc : EvE K W bc tc fc) {τ σ : St} {τm ρ : Rho} {H G : Hp} {fp : List Addr} {Q : Bool → Hp → Prop} {Qv : VK}
    (hq : ∀ c H, Q c H → Qv (.bl c) H) (hl : τ.length = τm.length) (S : SA K (τ ++ σ) (τm ++ ρ) H G fp) (P : PostT K W (ba && (bb && bc)) τ σ τm H G fp Q (cChain p q fa fb fc ρ)) :
    tChain (rI0 fun i j => .bl (p i j)) (rI0 fun i j => .bl (q i j)) ta tb tc σ H Qv := by
  refine ha τ σ τm ρ H G fp _ hl S ?_
  unfold cChain at P
  split at P
  · rename_i i ρ1 hf
    rw [hf]
    intro v H1 G1 fp1 T1 e1 S1 p1
    obtain ⟨dv, S1'⟩ := SA.popD S1
    cases dv
    refine hb τ σ τm ρ1 H1 G1 fp1 _ hl S1' ?_
    split at P
    · rename_i j ρ2 hf2
      rw [hf2]
      intro v H2 G2 fp2 T2 e2 S2 p2
      obtain ⟨dv, S2'⟩ := SA.popD S2
      cases dv
      refine ⟨i, j, rfl, rfl, _, rfl, ?_⟩
      by_cases hp : p i j = true
      · rw [if_pos hp] at P
        rw [if_pos hp]
        refine hc τ σ τm ρ2 H2 G2 fp2 _ hl S2' ?_
        split at P
        · rename_i n ρ3 hf3
          rw [hf3]
          intro v H3 G3 fp3 T3 e3 S3 p3
          obtain ⟨dv, S3'⟩ := SA.popD S3
          cases dv
          refine ⟨j, n, rfl, rfl, ?_⟩
          refine hq _ _ (P H3 G3 fp3 ((T1.trans T2).trans T3) (fun h => ?_) S3')
          simp only [Bool.and_eq_true] at h
          exact ((e1 h.1).trans (e2 h.2.1)).trans (e3 h.2.2)
        · rename_i y ρ3 hf3
          rw [hf3]
          exact fun cls d H' G' fp' T' S' r => P cls d H' G' fp' ((T1.trans T2).trans T') S' r
        · exact P.elim
      · rw [if_neg hp] at P
        rw [if_neg hp]
        have hp : p i j = false := by simpa using hp
        refine hq _ _ (P H2 G2 fp2 (T1.trans T2) (fun h => ?_) S2')
        simp only [Bool.and_eq_true] at h
        exact (e1 h.1).trans (e2 h.2.1)
    · rename_i y ρ2 hf2
      rw [hf2]
      exact fun cls d H' G' fp' T' S' r => P cls d H' G' fp' (T1.trans T') S' r
    · exact P.elim
  · rename_i y ρ1 hf
    rw [hf]
    exact fun cls d H' G' fp' T' S' r => P cls d H' G' fp' T' S' r
  · exact P.elim
theorem et_chain {ba bb bc : Bool} {ta tb tc : TE} {fa fb fc : Rho → Out Vl} {p q : Int → Int → Bool} (ha : EvE K W ba ta fa) (hb : EvE K W bb tb fb) (hc : EvE K W bc tc fc) :
    EvT K W (ba && (bb && bc)) (tTest (tChain (rI0 fun i j => .bl (p i j)) (rI0 fun i j => .bl (q i j)) ta tb tc)) (cChain p q fa fb fc) :=
  fun τ σ τm ρ H G fp Q hl S P => chain_core ha hb hc (fun c H q => ⟨c, rfl, q⟩) hl S P
theorem PostE.ofV {τ σ : St} {τm : Rho} {H G : Hp} {fp : List Addr} {Q : VK} {o : Out Bool} (P : PostE K W b τ σ τm H G fp Q (o.bind fun x ρ1 => .ok (.val (.dat (.bool x))) ρ1)) : PostT K W b τ σ τm H G fp (fun c H => Q (.bl c) H) o := by
  cases o with
  | ok x ρ1 => exact fun H' G' fp' T e S => P (.bl x) H' G' fp' T e (S.pushD (.bl x)) trivial
  | exc x ρ1 => exact P
  | bad => exact P
theorem ev_chain {ba bb bc : Bool} {ta tb tc : TE} {fa fb fc : Rho → Out Vl} {p q : Int → Int → Bool} (ha : EvE K W ba ta fa) (hb : EvE K W bb tb fb) (hc : EvE K W bc tc fc) :
    EvE K W (ba && (bb && bc)) (tChain (rI0 fun i j => .bl (p i j)) (rI0 fun i j => .bl (q i j)) ta tb tc) (cV (cChain p q fa fb fc)) :=
  fun τ σ τm ρ H G fp Q hl S P => chain_core ha hb hc (fun c H q => q) hl S (PostE.ofV P)
/-- the rule of a comparison of whole numbers -/
structure CmpI (X : Fam P w K mg base k) (op : CmpOp) (p : Int → Int → Bool) : Prop where
  ex : ∀ i, OpR (X.cx i) (compareOp op) (rI0 fun i j => .bl (p i j))
theorem ci_lt : CmpI X .Lt (fun i j => decide (i < j)) := ⟨fun i => op_lt⟩
theorem ci_le : CmpI X .LtE (fun i j => decide (i ≤ j)) := ⟨fun i => op_le⟩
theorem ci_gt : CmpI X .Gt (fun i j => decide (j < i)) := ⟨fun i => op_gt⟩
theorem ci_ge : CmpI X .GtE (fun i j => decide (j ≤ i)) := ⟨fun i => op_ge⟩
theorem dt_chain {op op' : CmpOp} {p q : Int → Int → Bool} {d : Expr} {ba bb bc : Bool} {fa fb fc : Rho → Out Vl} (h1 : CmpI X op p) (h2 : CmpI X op' q) (ha : DE X W ba a fa) (hb : DE X W bb c fb) (hc : DE X W bc d fc)
    (hm : lastMarks [op, op'] [c, d] = false := by kernel_rfl) : DT X W (ba && (bb && bc)) (.Compare a [op, op'] [c, d] pos) (cChain p q fa fb fc) := by
  obtain ⟨ta, a1, a2⟩ := ha
  obtain ⟨tb, b1, b2⟩ := hb
  obtain ⟨tc, c1, c2⟩ := hc
  exact ⟨_, fun i => pt_chain (h1.ex i) (h2.ex i) (a1 i) (b1 i) (c1 i) hm, et_chain a2 b2 c2⟩
theorem de_chain {op op' : CmpOp} {p q : Int → Int → Bool} {d : Expr} {ba bb bc : Bool} {fa fb fc : Rho → Out Vl} (h1 : CmpI X op p) (h2 : CmpI X op' q) (ha : DE X W ba a fa) (hb : DE X W bb c fb) (hc : DE X W bc d fc)
    (hm : lastMarks [op, op'] [c, d] = false := by kernel_rfl) : DE X W (ba && (bb && bc)) (.Compare a [op, op'] [c, d] pos) (cV (cChain p q fa fb fc)) := by
  obtain ⟨ta, a1, a2⟩ := ha
  obtain ⟨tb, b1, b2⟩ := hb
  obtain ⟨tc, c1, c2⟩ := hc
  exact ⟨_, fun i => pe_chain (h1.ex i) (h2.ex i) (a1 i) (b1 i) (c1 i) hm, ev_chain a2 b2 c2⟩
/-! ### calls of built-ins -/
abbrev NSt (X : Fam P w K mg base k) (e : Expr) (es : List Expr) (pos : Pos) : Prop := ∀ i, starEach (e :: es) (X.cx i).env = (false, eval e (X.cx i).env) :: starEach es (X.cx i).env ∧ (backTo pos (starEach es (X.cx i).env)).any (·.1) = false
theorem de_cb {id : String} {r : List V → Hp → VK → Prop} {o : List M → Option M} {fr : Rho → Out (List Vl)} (hc : ∀ i, CallR (X.cx i) (.builtin id) r) (hs : OpN K r o) (hm : mg x = none) (hv : bootBuiltins x = some (.builtin id)) (ha : DA X W b (e :: es) fr) (hg : GlF X x := by intro _; kernel_rfl) (hn : x ≠ "__name__" := by decide) (hdb : (x == ("__debug__" : Str)) = false := by kernel_rfl)
    (he : NSt X e es pos := by intro _; exact ⟨by kernel_rfl, by kernel_rfl⟩) : DE X W b (.Call (.Name x p) (e :: es) [] pos) (cOpN o fr) := by
  obtain ⟨ta, h1, h2⟩ := ha
  exact ⟨_, fun i => pe_callB (hc i) (hg i) (by rw [X.eM i]; exact hm) hv (h1 i) hn hdb (he i).1 (he i).2, ev_opN hs h2 fun σ H Q q => q⟩
theorem de_cty {T : String} {r : List V → Hp → VK → Prop} {o : List M → Option M} {fr : Rho → Out (List Vl)} (hc : ∀ i, CallR (X.cx i) (.type T) r) (hs : OpN K r o) (hm : mg x = none) (hv : bootBuiltins x = some (.type T)) (ha : DA X W b (e :: es) fr) (hg : GlF X x := by intro _; kernel_rfl) (hn : x ≠ "__name__" := by decide) (hdb : (x == ("__debug__" : Str)) = false := by kernel_rfl)
    (he : NSt X e es pos := by intro _; exact ⟨by kernel_rfl, by kernel_rfl⟩) : DE X W b (.Call (.Name x p) (e :: es) [] pos) (cOpN o fr) := by
  obtain ⟨ta, h1, h2⟩ := ha
  exact ⟨_, fun i => pe_callTy (hc i) (hg i) (by rw [X.eM i]; exact hm) hv (h1 i) hn hdb (he i).1 (he i).2, ev_opN hs h2 fun σ H Q q => q⟩
theorem de_len {fr : Rho → Out (List Vl)} (hm : mg "len" = none) (ha : DA X W b [e] fr) (hg : GlF X "len" := by intro _; kernel_rfl) (he : NSt X e [] pos := by intro _; exact ⟨by kernel_rfl, by kernel_rfl⟩) : DE X W b (.Call (.Name "len" p) [e] [] pos) (cOpN opLen fr) := de_cb (fun i => by have h := call_len (X := X.cx i); rw [X.eK i] at h; exact h) os_len hm boot_len ha hg (he := he)
theorem de_max2 {fr : Rho → Out (List Vl)} (hm : mg "max" = none) (ha : DA X W b [e, a] fr) (hg : GlF X "max" := by intro _; kernel_rfl) (he : NSt X e [a] pos := by intro _; exact ⟨by kernel_rfl, by kernel_rfl⟩) (hcm : ∀ i, (X.cx i).calm = true := by intro _; kernel_rfl) : DE X W b (.Call (.Name "max" p) [e, a] [] pos) (cOpN opMax2 fr) := de_cb (fun i => call_max2 (hcm i)) os_max2 hm boot_max ha hg (he := he)
theorem de_min2 {fr : Rho → Out (List Vl)} (hm : mg "min" = none) (ha : DA X W b [e, a] fr) (hg : GlF X "min" := by intro _; kernel_rfl) (he : NSt X e [a] pos := by intro _; exact ⟨by kernel_rfl, by kernel_rfl⟩) (hcm : ∀ i, (X.cx i).calm = true := by intro _; kernel_rfl) : DE X W b (.Call (.Name "min" p) [e, a] [] pos) (cOpN opMin2 fr) := de_cb (fun i => call_min2 (hcm i)) os_min2 hm boot_min ha hg (he := he)
theorem de_all {fr : Rho → Out (List Vl)} (hm : mg "all" = none) (ha : DA X W b [e] fr) (hg : GlF X "all" := by intro _; kernel_rfl) (he : NSt X e [] pos := by intro _; exact ⟨by kernel_rfl, by kernel_rfl⟩) (hcm : ∀ i, (X.cx i).calm = true := by intro _; kernel_rfl) : DE X W b (.Call (.Name "all" p) [e] [] pos) (cOpN opAll fr) := de_cb (fun i => by have h := cr_all (X := X.cx i) (hcm i); rw [X.eK i] at h; exact h) os_all hm boot_all ha hg (he := he)
theorem de_any {fr : Rho → Out (List Vl)} (hm : mg "any" = none) (ha : DA X W b [e] fr) (hg : GlF X "any" := by intro _; kernel_rfl) (he : NSt X e [] pos := by intro _; exact ⟨by kernel_rfl, by kernel_rfl⟩) (hcm : ∀ i, (X.cx i).calm = true := by intro _; kernel_rfl) : DE X W b (.Call (.Name "any" p) [e] [] pos) (cOpN opAny fr) := de_cb (fun i => by have h := cr_any (X := X.cx i) (hcm i); rw [X.eK i] at h; exact h) os_any hm boot_any ha hg (he := he)
theorem de_sum {fr : Rho → Out (List Vl)} (hm : mg "sum" = none) (ha : DA X W b [e] fr) (hg : GlF X "sum" := by intro _; kernel_rfl) (he : NSt X e [] pos := by intro _; exact ⟨by kernel_rfl, by kernel_rfl⟩) (hcm : ∀ i, (X.cx i).calm = true := by intro _; kernel_rfl) : DE X W b (.Call (.Name "sum" p) [e] [] pos) (cOpN opSum fr) := de_cb (fun i => by have h := cr_sum (X := X.cx i) (hcm i); rw [X.eK i] at h; exact h) os_sum hm boot_sum ha hg (he := he)
theorem de_strc {fr : Rho → Out (List Vl)} (hm : mg "str" = none) (ha : DA X W b [e] fr) (hg : GlF X "str" := by intro _; kernel_rfl) (he : NSt X e [] pos := by intro _; exact ⟨by kernel_rfl, by kernel_rfl⟩) : DE X W b (.Call (.Name "str" p) [e] [] pos) (cOpN opStr fr) := de_cty (fun i => call_str_int) os_str hm boot_str ha hg (he := he)
theorem de_intc {fr : Rho → Out (List Vl)} (hm : mg "int" = none) (ha : DA X W b [e] fr) (hg : GlF X "int" := by intro _; kernel_rfl) (he : NSt X e [] pos := by intro _; exact ⟨by kernel_rfl, by kernel_rfl⟩) : DE X W b (.Call (.Name "int" p) [e] [] pos) (cOpN opInt fr) := de_cty (fun i => call_int1) os_intc hm boot_int ha hg (he := he)
theorem de_listc {fr : Rho → Out (List Vl)} (hm : mg "list" = none) (ha : DA X W b [e] fr) (hg : GlF X "list" := by intro _; kernel_rfl) (he : NSt X e [] pos := by intro _; exact ⟨by kernel_rfl, by kernel_rfl⟩) : DE X W b (.Call (.Name "list" p) [e] [] pos) (cOpN opList fr) := de_cty (fun i => by have h := call_list_of (X := X.cx i); rw [X.eK i] at h; exact h) os_list hm boot_list ha hg (he := he)
theorem de_tuplec {fr : Rho → Out (List Vl)} (hm : mg "tuple" = none) (ha : DA X W b [e] fr) (hg : GlF X "tuple" := by intro _; kernel_rfl) (he : NSt X e [] pos := by intro _; exact ⟨by kernel_rfl, by kernel_rfl⟩) : DE X W b (.Call (.Name "tuple" p) [e] [] pos) (cOpN opTuple fr) := de_cty (fun i => by have h := call_tupleN (X := X.cx i); rw [X.eK i] at h; exact h) os_tuple hm boot_tuple ha hg (he := he)
theorem de_listRev {fa : Rho → Out Vl} {p2 pos2 : Pos} (hm : mg "list" = none) (hm2 : mg "reversed" = none) (ha : DE X W b e fa) (hg : GlF X "list" := by intro _; kernel_rfl) (hg2 : GlF X "reversed" := by intro _; kernel_rfl)
    (hs : ∀ i, starEach [e] (X.cx i).env = (false, eval e (X.cx i).env) :: starEach [] (X.cx i).env := by intro _; kernel_rfl)
    (hs2 : ∀ i, starEach [.Call (.Name "reversed" p2) [e] [] pos2] (X.cx i).env = (false, eval (.Call (.Name "reversed" p2) [e] [] pos2) (X.cx i).env) :: starEach [] (X.cx i).env := by intro _; kernel_rfl) (hcm : ∀ i, (X.cx i).calm = true := by intro _; kernel_rfl) :
    DE X W b (.Call (.Name "list" p) [.Call (.Name "reversed" p2) [e] [] pos2] [] pos) (cOp1 opRev fa) := by
  obtain ⟨ta, h1, h2⟩ := ha
  exact ⟨_, fun i => by have h := RT.pe_listRev (X := X.cx i) (p := p) (p2 := p2) (pos := pos) (pos2 := pos2) (hcm i) (hg i) (by rw [X.eM i]; exact hm) (hg2 i) (by rw [X.eM i]; exact hm2) (h1 i) (hs i) (hs2 i); rw [X.eK i] at h; exact h, ev_op1 os_rev h2⟩
/-! ### methods -/
end
end
end DL

set_option Elab.async false
set_option linter.all false
set_option maxRecDepth 100000
/-! DLu: isinstance, methods, comprehensions, targets, iterations, statements, defs. -/
namespace DL
open PySem PySem.Spec PyProof.Rows L2
/-! ### isinstance -/
def M.tyN : M → Option String
  | .dat .none => some "NoneType"
  | .dat (.bool _) => some "bool"
  | .dat (.int _) => some "int"
  | .dat (.str _) => some "str"
  | .dat (.list _) => some "list"
  | .dat (.tuple _) => some "tuple"
  | .dat (.dict [(.none, .tuple _)]) => some "tuple"
  | .dat (.dict ((k, _) :: _)) => match keyOf k with
    | some _ => some "dict"
    | none => none
  | .lst _ => some "list"
  | .dk _ _ => some "dict"
  | .dt _ _ => some "dict"
  | _ => none
theorem sqT_ty {K : PySem.W.Frag} {H : Hp} {a : Addr} {xs : List V} (h : SqT K H a xs) : TyX K H (.ref a) (.type "tuple") := by
  rcases h with (q | ⟨o, q⟩) | ⟨o, its, n, h1, h2, _⟩
  · exact .base (.tup q)
  · exact .fTuple q
  · exact .kTuple h1 h2
theorem RM.tyX {K : PySem.W.Frag} {G H : Hp} {v : V} {m : M} {fx : List Addr} {t : String} (e : Ext G H) (r : RM K G H v m fx) (h : m.tyN = some t) : TyX K H v (.type t) := by
  unfold M.tyN at h
  split at h
  · cases h; cases r.dat'; exact .base .non
  · cases h; cases r.dat'; exact .base (.bl _)
  · cases h; cases r.dat'; exact .base (.int _)
  · cases h; cases r.dat'; exact .base (.str _)
  · cases h
    cases r.dat' with
    | lst hs _ =>
      rcases e.rd hs with q | ⟨o, q⟩
      · exact .base (.lst q)
      · exact .base (.frz q)
  · cases h
    cases r.dat' with
    | tup hs _ => exact sqT_ty (e.t hs.sq)
  · cases h
    obtain ⟨a, xs, rfl, z1, _⟩ := r.dat'.wkinv
    exact sqT_ty (e.t z1)
  · rename_i k0 d0 r0 hne
    cases hk : keyOf k0 with
    | none => rw [hk] at h; cases h
    | some q0 =>
      rw [hk] at h
      cases h
      have dd := r.dat'
      generalize he : (k0, d0) :: r0 = kvs at dd
      cases dd with
      | wk h1 h2 h3 => subst h3; cases he; cases hk
      | dk h1 _ _ _ _ => exact .fDict (e _ _ h1)
      | dt h1 h2 h3 h4 h5 => subst h5; cases he; cases hk
  · cases h; cases r with | lst q _ => exact .base (.lst q)
  · cases h; cases r with | dk q _ _ _ => exact .base (.dK q)
  · cases h; cases r with | dt q _ _ _ => exact .base (.dT q)
  · cases h
def isSub (t T : String) : Bool := t == T || (t == "bool" && T == "int")
def tyNs : List String := ["NoneType", "bool", "int", "str", "list", "tuple", "dict"]
theorem kit_tab (K : PySem.W.Frag) : ∀ t ∈ tyNs, ∀ T ∈ tyNs, PySem.W.kitOne K (.type t) (.type T) = some (isSub t T) := by
  intro t ht T hT
  simp only [tyNs, List.mem_cons, List.not_mem_nil, or_false] at ht hT
  rcases ht with rfl | rfl | rfl | rfl | rfl | rfl | rfl <;> rcases hT with rfl | rfl | rfl | rfl | rfl | rfl | rfl <;> rfl
theorem tyN_mem {m : M} {t : String} (h : m.tyN = some t) : t ∈ tyNs := by
  unfold M.tyN at h
  split at h <;> first | (cases h; decide) | (split at h <;> first | (cases h; decide) | cases h) | cases h
def cIsi (T : String) (fa : Rho → Out Vl) : Rho → Out Vl := fun ρ => match fa ρ with
  | .ok x ρ1 => match rdVl ρ1 x with
    | some m => match m.tyN with
      | some t => .ok (.val (.dat (.bool (isSub t T)))) ρ1
      | none => .bad
    | none => .bad
  | .exc x ρ1 => .exc x ρ1
  | .bad => .bad
section
variable {P : Program} {w : World} {K : PySem.W.Frag} {mg : Str → Option Value} {base : Heap} {k : Nat} {X : Fam P w K mg base k} {W : WX} {b : Bool} {rf : List Nat}
theorem ev_isi {ta : TE} {fa : Rho → Out Vl} {T : String} (hT : T ∈ tyNs) (ha : EvE K W b ta fa) : EvE K W b (tCB (rIsi K) (tCons ta (tCons (tC (.ty T)) tNil))) (cIsi T fa) := by
  intro τ σ τm ρ H G fp Q hl S P
  refine ha τ σ τm ρ H G fp _ hl S ?_
  unfold cIsi at P
  cases hf : fa ρ with
  | bad => rw [hf] at P; exact P
  | exc x ρ1 => rw [hf] at P; exact fun cls d H' G' fp' T' S' r => P cls d H' G' fp' T' S' r
  | ok x ρ1 =>
    rw [hf] at P
    simp only at P
    intro v H1 G1 fp1 T1 e1 S1 p1
    cases hr : rdVl ρ1 x with
    | none => rw [hr] at P; exact P.elim
    | some m =>
      rw [hr] at P
      simp only at P
      cases ht : m.tyN with
      | none => rw [ht] at P; exact P.elim
      | some t =>
        rw [ht] at P
        obtain ⟨fx, r⟩ := SA.rd (s := [some v]) (m := [x.pm]) (j := 0) S1 rfl hl (by rfl) (by rfl) p1 hr
        refine ⟨v, .ty T, .type t, .type T, isSub t T, rfl, .ty T, r.tyX S1.same ht, kit_tab K t (tyN_mem ht) T hT, ?_⟩
        obtain ⟨fq, S2, h2⟩ := SA.drop (v := some v) (m := x.pm) S1
        exact P (.bl _) H1 G1 fq (T1.sub h2) e1 (S2.pushD (.bl _)) trivial
section
variable {e a c : Expr} {es : List Expr} {pos p pos' : Pos} {x : Str} {j : Nat}
theorem de_isi {T : String} {TS : Str} {p2 : Pos} {fa : Rho → Out Vl} (hm : mg "isinstance" = none) (hm2 : mg TS = none) (ha : DE X W b e fa) (hv : bootBuiltins TS = some (.type T) := by first | exact PyProof.Rows.boot_int | exact PyProof.Rows.boot_str | exact PyProof.Rows.boot_list | exact PyProof.Rows.boot_tuple | kernel_rfl) (hT : T ∈ tyNs := by decide)
    (hg : GlF X "isinstance" := by intro _; kernel_rfl) (hg2 : GlF X TS := by intro _; kernel_rfl) (he : NSt X e [.Name TS p2] pos := by intro _; exact ⟨by kernel_rfl, by kernel_rfl⟩) (hs : ∀ i, starEach [.Name TS p2] (X.cx i).env = (false, eval (.Name TS p2) (X.cx i).env) :: starEach [] (X.cx i).env := by intro _; kernel_rfl)
    (hn : TS ≠ "__name__" := by decide) (hd : (TS == ("__debug__" : Str)) = false := by kernel_rfl) :
    DE X W b (.Call (.Name "isinstance" p) [e, .Name TS p2] [] pos) (cIsi T fa) := by
  obtain ⟨ta, h1, h2⟩ := ha
  exact ⟨_, fun i => pe_callB (by have h := call_isi (X := X.cx i); rw [X.eK i] at h; exact h) (hg i) (by rw [X.eM i]; exact hm) boot_isinstance (pa_cons (h1 i) (pa_cons (pe_bltn (v := .ty T) (hg2 i) (by rw [X.eM i]; exact hm2) hv rfl hn hd) pa_nil (hs i)) (he i).1) (by decide) (by decide) (he i).1 (he i).2, ev_isi hT h2⟩
/-! ### methods -/
abbrev MOk (X : Fam P w K mg base k) (o : Expr) (name : Str) (apos cpos : Pos) : Prop := ∀ i, attributeBase o name (X.cx i).env (eval o (X.cx i).env) = eval o (X.cx i).env ∧ (apos.endLine == cpos.line) = true
abbrev MFew (X : Fam P w K mg base k) (e : Expr) (es : List Expr) (cpos : Pos) : Prop := ∀ i, ((backTo cpos (starEach (e :: es) (X.cx i).env)).all (fun x => !x.1) && (backToKw cpos (keywordEach [] (X.cx i).env)).all (fun x => x.1.isSome)
      && decide ((e :: es).length + ([] : List Keyword).length + (if ([] : List Keyword).isEmpty then 0 else 1) < 30)) = true
theorem de_app {o : Expr} {apos cpos : Pos} {bo ba : Bool} {fo fa : Rho → Out Vl} (ho : DE X W bo o fo) (ha : DE X W ba e fa) (h1 : MOk X o "append" apos cpos := by intro _; exact ⟨by kernel_rfl, by kernel_rfl⟩) (h2 : MFew X e [] cpos := by intro _; kernel_rfl) (h3 : NSt X e [] cpos := by intro _; exact ⟨by kernel_rfl, by kernel_rfl⟩) :
    DE X W false (.Call (.Attribute o "append" apos) [e] [] cpos) (cApp (ba && true) fo fa) := by
  obtain ⟨to, a1, a2⟩ := ho
  obtain ⟨ta, b1, b2⟩ := ha
  refine ⟨tBM K "list" rAppend to (tCons ta tNil), fun i => ?_, ev_app a2 b2⟩
  have h := pe_bm (X := X.cx i) (apos := apos) (cpos := cpos) PySem.F.plainAttrs_list slot_list_append type_list_append (fun pins s σ H x xs v us Q => mt_append pins s σ H x xs v us Q) (a1 i) (pa_cons (b1 i) pa_nil (h3 i).1) (h1 i).1 (h2 i) (h1 i).2 (h3 i).1 (h3 i).2
  rw [X.eK i] at h
  exact h
theorem de_pop {o : Expr} {apos cpos : Pos} {bo : Bool} {fo : Rho → Out Vl} (ho : DE X W bo o fo) (h1 : MOk X o "pop" apos cpos := by intro _; exact ⟨by kernel_rfl, by kernel_rfl⟩) :
    DE X W false (.Call (.Attribute o "pop" apos) [] [] cpos) (cPop fo) := by
  obtain ⟨to, a1, a2⟩ := ho
  refine ⟨tBM0 K "list" rPop to, fun i => ?_, ev_pop a2⟩
  have h := pe_bm0 (X := X.cx i) (apos := apos) (cpos := cpos) PySem.F.plainAttrs_list PySem.F.slot_list_pop PySem.F.type_list_pop (fun pins s σ H x xs v us Q => mt_pop pins s σ H x xs v us Q) (a1 i) (h1 i).1 (h1 i).2
  rw [X.eK i] at h
  exact h
theorem de_join {o : Expr} {apos cpos : Pos} {bo ba : Bool} {fo : Rho → Out Vl} {fr : Rho → Out (List Vl)} (ho : DE X W bo o fo) (ha : DA X W ba [e] fr) (h1 : MOk X o "join" apos cpos := by intro _; exact ⟨by kernel_rfl, by kernel_rfl⟩) (h2 : MFew X e [] cpos := by intro _; kernel_rfl) (h3 : NSt X e [] cpos := by intro _; exact ⟨by kernel_rfl, by kernel_rfl⟩) :
    DE X W (bo && ba) (.Call (.Attribute o "join" apos) [e] [] cpos) (cMeth gdS ba opJoin fo fr) := by
  obtain ⟨to, a1, a2⟩ := ho
  obtain ⟨ta, b1, b2⟩ := ha
  refine ⟨tBM K "str" (fun x xs H Q => ∃ a p, ∃ ys : List Str, x = .str a ∧ xs = [.ref p] ∧ (SqL K H p (ys.map V.str) ∨ SqT K H p (ys.map V.str)) ∧ (ys.map (·.length)).sum + ys.length * a.length ≤ 16777216 ∧ Q (.str (Txt.join a ys)) H) to ta, fun i => ?_, ev_meth ty_str os_join a2 b2⟩
  have h := pe_bm (X := X.cx i) (apos := apos) (cpos := cpos) PySem.F.plainAttrs_str PySem.F.slot_str_join PySem.F.type_str_join mt_join (a1 i) (b1 i) (h1 i).1 (h2 i) (h1 i).2 (h3 i).1 (h3 i).2
  rw [X.eK i] at h
  exact h
theorem de_upper {o : Expr} {apos cpos : Pos} {bo : Bool} {fo : Rho → Out Vl} (ho : DE X W bo o fo) (h1 : MOk X o "upper" apos cpos := by intro _; exact ⟨by kernel_rfl, by kernel_rfl⟩) :
    DE X W (bo && true) (.Call (.Attribute o "upper" apos) [] [] cpos) (cMeth gdS true opUpper fo aNil) := by
  obtain ⟨to, a1, a2⟩ := ho
  refine ⟨tBM0 K "str" (fun x xs H Q => ∃ a, x = .str a ∧ xs = [] ∧ a.length ≤ 5592405 ∧ Q (.str (Txt.upper a)) H) to, fun i => ?_, ev_meth0 ty_str os_upper a2⟩
  have h := pe_bm0 (X := X.cx i) (apos := apos) (cpos := cpos) PySem.F.plainAttrs_str PySem.F.slot_str_upper PySem.F.type_str_upper mt_upper (a1 i) (h1 i).1 (h1 i).2
  rw [X.eK i] at h
  exact h
end
end
end DL

set_option Elab.async false
set_option linter.all false
set_option maxRecDepth 100000
/-! DLv: comprehensions, targets, iterations, statements, defs by the syntax. -/
namespace DL
open PySem PySem.Spec PyProof.Rows L2
/-! ### walking a list, a tuple or a text -/
theorem pi_seq {X : Cx} {tg l : Expr} {tl : TE} (hl : PE X l tl) : PI X tg l (iSeqR X.K tl) := by
  refine ⟨fun pins s σ H R I h => ?_⟩
  refine thn (hl.run pins s σ H _ I h) fun v s1 ⟨x, H1, I1, r1, q1⟩ => ?_
  rcases q1 with ⟨a, rfl, ⟨xs, hq⟩, q⟩ | ⟨a, rfl, ⟨xs, hq⟩, q⟩ | ⟨x, rfl, q⟩
  · obtain rfl : v = Value.ref a := r1
    obtain ⟨its, rv, p, hz⟩ := I1.list hq
    exact wpAny_pyIter_list p.isList (pi_one (tk := s1.toks) I1 _ (turn_list a _) ⟨_, Heap.get?_push_size _ rfl, rfl, rfl⟩ q)
  · obtain rfl : v = Value.ref a := r1
    obtain ⟨its, rv, p, hz⟩ := I1.tuple hq
    exact wpAny_pyIter_tuple (show s1.heap.IsTuple a its.toArray from p) (pi_one (tk := s1.toks) I1 _ (turn_tuple a _) ⟨_, Heap.get?_push_size _ rfl, rfl, rfl⟩ q)
  · obtain ⟨t, rfl⟩ := r1
    cases ha : x.cps.all (· < 128)
    · exact wpAny_pyIter_wide ha (pi_one (tk := s1.toks) I1 _ (turn_str _ x t "str_iterator" (.inr rfl)) ⟨_, Heap.get?_push_size _ rfl, rfl, rfl⟩ q)
    · exact wpAny_pyIter_ascii ha (pi_one (tk := s1.toks) I1 _ (turn_str _ x t "str_ascii_iterator" (.inl rfl)) ⟨_, Heap.get?_push_size _ rfl, rfl, rfl⟩ q)
/-- a block's scope, looked at -/
def blkC (N : List Str) (sc scope : Scope) (own : List (Str × Nat)) : Bool :=
  decide (scope.kind = .function) && scope.names.all (fun y => decide (scope.names.lookup y.1 = some y.2)) && own.all (fun p => decide (N[p.2]? = some p.1)) &&
  scope.names.all (fun y => !decide (y.2 = .free) || (decide (sc.names.lookup y.1 = some .cell) || decide (sc.names.lookup y.1 = some .free))) &&
  scope.names.all (fun y => !(decide (y.2 = .local) || decide (y.2 = .cell)) || (decide (y.1 ∈ own.map (·.1)) || decide (y.1 ∉ N)))
theorem blk_by {N : List Str} {sc scope : Scope} {own : List (Str × Nat)} (h : blkC N sc scope own = true) : BlkOk N sc scope own := by
  unfold blkC at h
  simp only [Bool.and_eq_true, Bool.or_eq_true, Bool.not_eq_true', decide_eq_true_eq, decide_eq_false_iff_not, List.all_eq_true, Bool.or_eq_false_iff] at h
  obtain ⟨⟨⟨⟨h1, h2⟩, h3⟩, h4⟩, h5⟩ := h
  exact ⟨h1, h2, h3, fun y hy e => (h4 y hy).resolve_left fun z => z e, fun y hy e => (h5 y hy).resolve_left fun z => e.elim z.1 z.2⟩
section
variable {P : Program} {w : World} {K : PySem.W.Frag} {mg : Str → Option Value} {base : Heap} {k : Nat} {X : Fam P w K mg base k} {W : WX} {b : Bool} {rf : List Nat}
section
variable {e a c tg : Expr} {es : List Expr} {pos p pos' : Pos} {x : Str} {j : Nat}
theorem di_seq {fa : Rho → Out Vl} (ha : DE X W b e fa) : DI X W b tg e (iSeq fa) := by
  obtain ⟨ta, h1, h2⟩ := ha
  exact ⟨_, fun i => by have h := pi_seq (tg := tg) (h1 i); rw [X.eK i] at h; exact h, ei_seq h2⟩
theorem di_rg1 {fr : Rho → Out (List Vl)} (hm : mg "range" = none) (ha : DA X W b [a] fr) (hg : GlF X "range" := by intro _; kernel_rfl) (hs : ∀ i, starEach [a] (X.cx i).env = [(false, eval a (X.cx i).env)] := by intro _; kernel_rfl) :
    DI X W b tg (.Call (.Name "range" p) [a] [] pos) (iRg1 fr) := by
  obtain ⟨ta, h1, h2⟩ := ha
  exact ⟨_, fun i => pi_range1 (hg i) (by rw [X.eM i]; exact hm) (h1 i) (hs i), ei_rg1 h2⟩
theorem di_rg2 {fr : Rho → Out (List Vl)} (hm : mg "range" = none) (ha : DA X W b [a, c] fr) (hg : GlF X "range" := by intro _; kernel_rfl) (hs : ∀ i, starEach [a, c] (X.cx i).env = [(false, eval a (X.cx i).env), (false, eval c (X.cx i).env)] := by intro _; kernel_rfl) (hs2 : ∀ i, starEach [c] (X.cx i).env = [(false, eval c (X.cx i).env)] := by intro _; kernel_rfl) :
    DI X W b tg (.Call (.Name "range" p) [a, c] [] pos) (iRg2 fr) := by
  obtain ⟨ta, h1, h2⟩ := ha
  exact ⟨_, fun i => pi_range2 (hg i) (by rw [X.eM i]; exact hm) (h1 i) (hs i) (hs2 i), ei_rg2 h2⟩
/-! ### targets -/
abbrev LocF (X : Fam P w K mg base k) (x : Str) : Prop := ∀ i, locB (X.cx i).env.scope ((X.cx i).fn x) x = true
theorem dg_name (j : Nat) {x : Str} (hN : ∀ i, (X.cx i).N[j]? = some x := by intro _; kernel_rfl) (hl : LocF X x := by intro _; kernel_rfl) : DG X [j] (.Name x pos) (hName j) :=
  ⟨_, fun i => pg_name (X.nd i) (hN i) (locB_ok (hl i)).1 (locB_ok (hl i)).2, eg_name⟩
theorem dgs_nil : DGs X [] [] hNil := ⟨_, fun _ => pgs_nil, egs_nil⟩
theorem dgs_cons {js ks : List Nat} {h : PyData → Rho → Option Rho} {hh : List PyData → Rho → Option Rho} (h1 : DG X js e h) (h2 : DGs X ks es hh)
    (hs : ∀ i, (assignEach (e :: es) (X.cx i).env).map (·.2) = assign e (X.cx i).env :: (assignEach es (X.cx i).env).map (·.2) := by intro _; kernel_rfl) : DGs X (js ++ ks) (e :: es) (hCons h hh) := by
  obtain ⟨g, a1, a2⟩ := h1
  obtain ⟨gs, b1, b2⟩ := h2
  exact ⟨_, fun i => pgs_cons (a1 i) (b1 i) (hs i), egs_cons a2 b2⟩
theorem dg_tup {js : List Nat} {kk n : Nat} {hs : List PyData → Rho → Option Rho} (h : DGs X js es hs) (hn : ∀ i, (assignEach es (X.cx i).env).length = n := by intro _; kernel_rfl) (hst : ∀ i, (assignEach es (X.cx i).env).findIdx? (·.1) = none := by intro _; kernel_rfl) (hcm : ∀ i, (X.cx i).calm = true := by intro _; kernel_rfl) : DG X js (.Tuple es kk pos) (hTup n hs) := by
  obtain ⟨gs, b1, b2⟩ := h
  exact ⟨_, fun i => by have q := pg_tup (pos := pos) (k := kk) (hcm i) (b1 i) (hn i) (hst i); rw [X.eK i] at q; exact q, eg_tup b2⟩
/-! ### tests of a comprehension -/
def cYes : Rho → Out Bool := fun ρ => .ok true ρ
theorem et_yes : EvT K W true tYes cYes := fun τ σ τm ρ H G fp Q hl S P => P H G fp (Tr.refl H G fp) (fun _ => Ext.refl H) S
theorem dts_nil : DTs X W true [] cYes := ⟨_, fun _ => pts_nil, et_yes⟩
theorem dts_one {f : Rho → Out Bool} (h : DT X W b e f) : DTs X W b [e] f := by
  obtain ⟨t, h1, h2⟩ := h
  exact ⟨_, fun i => pts_one (h1 i), h2⟩
/-! ### comprehensions -/
theorem de_lc {elt iter : Expr} {ifs : List Expr} {scope : Scope} (own : List (Str × Nat)) {js : List Nat} {bt be : Bool} {fi : Rho → Out (List PyData)} {h : PyData → Rho → Option Rho} {ft : Rho → Out Bool} {fe : Rho → Out Vl}
    (hi : DI X W b tg iter fi) (hg : DG (blkF X scope) js tg h) (ht : DTs (blkF X scope) W0 bt ifs ft) (he : DE (blkF X scope) W0 be elt fe) (ok : ∀ i, BlkOk (X.cx i).N (X.cx i).env.scope scope own := by intro _; exact blk_by (by kernel_rfl)) (hj : ∀ i ∈ js, i ∈ own.map (·.2) := by decide)
    (hs : ∀ i x, foldedSetIterable iter (X.cx i).env x = pure x := by intro _ _; kernel_rfl) (hcm : ∀ i, (X.cx i).calm = true := by intro _; kernel_rfl) : DE X W false (.ListComp elt [⟨tg, iter, ifs, 0⟩] scope pos) (cComp (own.map (·.2)) fi h ft fe) := by
  obtain ⟨wi, a1, a2⟩ := hi
  obtain ⟨g, b1, b2⟩ := hg
  obtain ⟨tt, c1, c2⟩ := ht
  obtain ⟨te, d1, d2⟩ := he
  exact ⟨_, fun i => pe_lc (hcm i) (X.nd i) (a1 i) (ok i) (fun s H C cl fp => b1 (i, s, H, C, cl, fp)) (fun s H C cl fp => c1 (i, s, H, C, cl, fp)) (fun s H C cl fp => d1 (i, s, H, C, cl, fp)) (hs i), ev_comp a2 b2 c2 d2 hj⟩
theorem ds_setLc (j : Nat) {y : Str} {py spos : Pos} {elt iter : Expr} {ifs : List Expr} {scope : Scope} (own : List (Str × Nat)) {js : List Nat} {bt be : Bool} {fi : Rho → Out (List PyData)} {h : PyData → Rho → Option Rho} {ft : Rho → Out Bool} {fe : Rho → Out Vl}
    (hi : DI X W b tg iter fi) (hg : DG (blkF X scope) js tg h) (ht : DTs (blkF X scope) W0 bt ifs ft) (he : DE (blkF X scope) W0 be elt fe) (hN : ∀ i, (X.cx i).N[j]? = some y := by intro _; kernel_rfl) (hyl : ∀ i, (X.cx i).env.scope.names.lookup y = some .local := by intro _; kernel_rfl)
    (hk : ∀ i, (X.cx i).env.scope.kind = .function := by intro _; kernel_rfl) (hln : (py.line == pos.line) = true := by kernel_rfl) (hna : (scope.names.any fun (n, k) => n == y && (k == .local || k == .cell)) = false := by kernel_rfl)
    (ok : ∀ i, BlkOk (X.cx i).N (X.cx i).env.scope scope own := by intro _; exact blk_by (by kernel_rfl)) (hj : ∀ i ∈ js, i ∈ own.map (·.2) := by decide)
    (hs : ∀ i x, foldedSetIterable iter (X.cx i).env x = pure x := by intro _ _; kernel_rfl) (hrf : j ∉ rf := by decide) (hcm : ∀ i, (X.cx i).calm = true := by intro _; kernel_rfl) :
    DS X W rf (.Assign [.Name y py] (.ListComp elt [⟨tg, iter, ifs, 0⟩] scope pos) spos) (sSet j (cComp (own.map (·.2)) fi h ft fe)) := by
  obtain ⟨wi, a1, a2⟩ := hi
  obtain ⟨g, b1, b2⟩ := hg
  obtain ⟨tt, c1, c2⟩ := ht
  obtain ⟨te, d1, d2⟩ := he
  exact ⟨_, fun i => ps_setLc (hcm i) (X.nd i) (hN i) (hyl i) (sw_true (hk i) (hyl i) hln hna) (a1 i) (ok i) (fun s H C cl fp => b1 (i, s, H, C, cl, fp)) (fun s H C cl fp => c1 (i, s, H, C, cl, fp)) (fun s H C cl fp => d1 (i, s, H, C, cl, fp)) (hs i), es_set (ev_comp a2 b2 c2 d2 hj) hrf⟩
/-! ### statements -/
theorem dss_nil : DSs X W rf [] sNx := ⟨_, fun _ => pss_nil, es_next⟩
theorem dss_cons {st : Stmt} {rest : List Stmt} {f g : Rho → Fl} (h1 : DS X W rf st f) (h2 : DSs X W rf rest g) : DSs X W rf (st :: rest) (sSeq f g) := by
  obtain ⟨t, a1, a2⟩ := h1
  obtain ⟨u, b1, b2⟩ := h2
  exact ⟨_, fun i => pss_cons (a1 i) (b1 i), es_seq a2 b2⟩
theorem dss_one {st : Stmt} {f : Rho → Fl} (h1 : DS X W rf st f) : DSs X W rf [st] f := by
  obtain ⟨t, a1, a2⟩ := h1
  exact ⟨_, fun i => pss_one (a1 i), a2⟩
theorem ds_pass : DS X W rf (.Pass pos) sNx := ⟨_, fun _ => ps_pass, es_next⟩
theorem ds_break : DS X W rf (.Break pos) sBrk := ⟨_, fun _ => ps_break, es_break⟩
theorem ds_continue : DS X W rf (.Continue pos) sCnt := ⟨_, fun _ => ps_continue, es_cont⟩
theorem ds_doc {s : Str} {j pos pos'} : DS X W rf (.Expr (.Constant (.str s) j pos) pos') sNx := ⟨_, fun _ => ps_doc, es_next⟩
theorem ds_never {st : Stmt} : DS X W rf st sNever := ⟨_, fun _ => ps_never, es_never⟩
theorem ds_expr {f : Rho → Out Vl} (h : DE X W b e f) (hs : ∀ i, swapsWith e none pos.line (X.cx i).env = pure false := by intro _; kernel_rfl) : DS X W rf (.Expr e pos) (sDrop f) := by
  obtain ⟨t, a1, a2⟩ := h
  exact ⟨_, fun i => ps_expr (a1 i) (hs i), es_drop a2⟩
theorem ds_ret {f : Rho → Out Vl} (h : DE X W b e f) : DS X W rf (.Return (some e) pos) (sRet rf f) := by
  obtain ⟨t, a1, a2⟩ := h
  exact ⟨_, fun i => ps_ret (a1 i), es_ret a2⟩
theorem ds_retN : DS X W rf (.Return none pos) sRetN := ⟨_, fun _ => ps_retN, es_retN⟩
theorem ds_if {ss ts : List Stmt} {ft : Rho → Out Bool} {f g : Rho → Fl} (hc : DT X W b c ft) (h1 : DSs X W rf ss f) (h2 : DSs X W rf ts g) : DS X W rf (.If c ss ts pos) (sIf ft f g) := by
  obtain ⟨t, a1, a2⟩ := hc
  obtain ⟨u, b1, b2⟩ := h1
  obtain ⟨v, c1, c2⟩ := h2
  exact ⟨_, fun i => ps_if (a1 i) (b1 i) (c1 i), es_if a2 b2 c2⟩
theorem ds_set (j : Nat) {x : Str} {f : Rho → Out Vl} (h : DE X W b e f) (hN : ∀ i, (X.cx i).N[j]? = some x := by intro _; kernel_rfl) (hl : LocF X x := by intro _; kernel_rfl)
    (hs : ∀ i, swapsWith e (some (.Name x pos')) pos.line (X.cx i).env = pure false := by intro _; kernel_rfl) (hrf : j ∉ rf := by decide) : DS X W rf (.Assign [.Name x pos'] e pos) (sSet j f) := by
  obtain ⟨t, a1, a2⟩ := h
  exact ⟨_, fun i => ps_set (X.nd i) (hN i) (locB_ok (hl i)).1 (a1 i) (hs i) (locB_ok (hl i)).2, es_set a2 hrf⟩
theorem pset_all {X : Cx} (hu : X.A.units + 1 < cLine) : PSet X rSetA := by
  intro pins s σ H o i v ov iv u Q I ro ri rv h
  rcases h with h | h
  · exact set_list pins s σ H o i v ov iv u Q I ro ri rv h
  · obtain ⟨a, H', rfl, h, q⟩ := h
    cases ro
    exact d_setItem hu I h ri rv fun s3 I3 => ⟨H', I3, q⟩
theorem ds_setIx {o i0 : Expr} {be bo bi : Bool} {fe fo fi : Rho → Out Vl} (he : DE X W be e fe) (ho : DE X W bo o fo) (hi : DE X W bi i0 fi)
    (hs : ∀ i, swapsWithSole [.Subscript o i0 pos'] e pos.line (X.cx i).env = pure false := by intro _; kernel_rfl) (hw : ∀ i, swappedStores [.Subscript o i0 pos'] e (X.cx i).env = pure none := by intro _; kernel_rfl)
    (h1 : ∀ i, (assignEach [.Subscript o i0 pos'] (X.cx i).env).map (·.2) = [assign (.Subscript o i0 pos') (X.cx i).env] := by intro _; kernel_rfl)
    (ha : ∀ i v, assign (.Subscript o i0 pos') (X.cx i).env v = (do
      let ov ← holding [v] (eval o (X.cx i).env)
      let iv ← holding [v, ov] (eval i0 (X.cx i).env)
      standAt pos'
      holding [v, ov, iv] (setItem ov iv v)
      release [v, ov, iv] []) := by intro _ _; kernel_rfl) : DS X W rf (.Assign [.Subscript o i0 pos'] e pos) (sSetIx bi fe fo fi) := by
  obtain ⟨te, a1, a2⟩ := he
  obtain ⟨to, b1, b2⟩ := ho
  obtain ⟨ti, c1, c2⟩ := hi
  exact ⟨_, fun i => ps_asg (a1 i) (pg_sub (b1 i) (c1 i) (pset_all (Nat.lt_of_le_of_lt (by omega) (X.hu i))) (ha i)) (hs i) (hw i) (h1 i), es_setIx a2 b2 c2⟩
end
end
end DL

set_option Elab.async false
set_option linter.all false
set_option maxRecDepth 100000
/-! DLw: loops, calls of defs, defs by their bodies. -/
namespace DL
open PySem PySem.Spec PyProof.Rows L2
section
variable {P : Program} {w : World} {K : PySem.W.Frag} {mg : Str → Option Value} {base : Heap} {k : Nat} {X : Fam P w K mg base k} {W : WX} {b : Bool} {rf : List Nat}
abbrev FT (X : Fam P w K mg base k) (W : WX) : Prop := ∀ i, Takes (X.cx i) W
theorem takes0 (X : Cx) : Takes X W0 := fun u s' ⟨_, _, _, _, _, _, _, _, _, _, _, _, _, _, _, _, z⟩ => z.elim
theorem ft_blk {scope : Scope} : FT (blkF X scope) W0 := fun _ => takes0 _
section
variable {e a c tg : Expr} {es : List Expr} {pos p pos' : Pos} {x : Str} {j : Nat}
theorem ds_for {iter : Expr} {body : List Stmt} {js : List Nat} {fi : Rho → Out (List PyData)} {h : PyData → Rho → Option Rho} {g : Rho → Fl} (hi : DI X W b tg iter fi) (hg : DG X js tg h) (hb : DSs X W rf body g) (hj : ∀ i ∈ rf, i ∉ js := by decide)
    (hs : ∀ i x, foldedSetIterable iter (X.cx i).env x = pure x := by intro _ _; kernel_rfl) (hcm : ∀ i, (X.cx i).calm = true := by intro _; kernel_rfl) : DS X W rf (.For tg iter body [] pos) (sFor fi h g) := by
  obtain ⟨wi, a1, a2⟩ := hi
  obtain ⟨gg, b1, b2⟩ := hg
  obtain ⟨t, c1, c2⟩ := hb
  exact ⟨_, fun i => ps_for (X.own i) (hcm i) (a1 i) (b1 i) (c1 i) (hs i), es_for a2 b2 c2 hj⟩
/-- how many turns a while loop is given -/
def fuel : Nat := 2 ^ 40
def sWhile (ft : Rho → Out Bool) (g : Rho → Fl) : Rho → Fl := fun ρ => whileGo ft g fuel ρ
theorem ds_while {body : List Stmt} {ft : Rho → Out Bool} {g : Rho → Fl} (hc : DT X W b c ft) (hb : DSs X W rf body g) : DS X W rf (.While c body [] pos) (sWhile ft g) := by
  obtain ⟨t, a1, a2⟩ := hc
  obtain ⟨u, c1, c2⟩ := hb
  exact ⟨_, fun i => ps_while (X.own i) (a1 i) (c1 i), es_while a2 c2⟩
/-! ### defs known by their names -/
structure DefK (P : Program) (w : World) (K : PySem.W.Frag) (mg : Str → Option Value) (base : Heap) (k : Nat) (x : Str) (n : Nat) (F : List M → FOut) : Prop where
  ex : ∃ (f : Addr) (fd : FuncData) (ps : List Str), FnOk P w K mg base (L2.CX P w) k f fd ps (SpD K n F) ∧ mg x = some (.ref f) ∧ PySem.W.keepIn K (.ref f) = true ∧ Binds K fd ps []
theorem DefK.mono {j n : Nat} {F : List M → FOut} (h : DefK P w K mg base j x n F) (l : j ≤ k) : DefK P w K mg base k x n F := by
  obtain ⟨f, fd, ps, h1, h2⟩ := h.ex
  exact ⟨f, fd, ps, h1.mono l, h2⟩
theorem pe_callD {Y : Cx} {n kk : Nat} {F : List M → FOut} {t : TA} (hP : Y.prog = P) (hw : Y.w = w) (hK : Y.K = K) (hM : Y.mg = mg) (hB : Y.base = base) (hd : DefK P w K mg base kk x n F) (hr : Room kk Y.A) (tk : Takes Y W) (hg : Gl Y x) (ha : PA Y (e :: es) t)
    (hdb : (x == ("__debug__" : Str)) = false) (he : starEach (e :: es) Y.env = (false, eval e Y.env) :: starEach es Y.env) (hpl : (backTo pos (starEach es Y.env)).any (·.1) = false) : PE Y (.Call (.Name x p) (e :: es) [] pos) (tCallS (SpD K n F) (WE W) t) := by
  subst hP hw hK hM hB
  obtain ⟨f, fd, ps, h1, h2, h3, h4⟩ := hd.ex
  exact pe_callS h1 hr hg h2 h3 h4 (passAt tk) ha hdb he hpl
/-- f(e, ..); mds: which arguments are handed on to be changed -/
theorem de_call (mds : List Bool) {n : Nat} {F : List M → FOut} {fr : Rho → Out (List Vl)} (hd : DefK P w K mg base k x n F) (tk : FT X W) (ha : DA X W b (e :: es) fr) (hn : mds.length = n := by kernel_rfl) (hg : GlF X x := by intro _; kernel_rfl) (hdb : (x == ("__debug__" : Str)) = false := by kernel_rfl) (he : NSt X e es pos := by intro _; exact ⟨by kernel_rfl, by kernel_rfl⟩) (hcr : X.cm = true := by kernel_rfl) :
    DE X W (b && mds.all (!·)) (.Call (.Name x p) (e :: es) [] pos) (cCall F mds fr) := by
  obtain ⟨ta, h1, h2⟩ := ha
  exact ⟨_, fun i => pe_callD (X.eP i) (X.ew i) (X.eK i) (X.eM i) (X.eB i) hd ((X.room i).full hcr) (tk i) (hg i) (h1 i) hdb (he i).1 (he i).2, ev_call h2 hn fun σ H Q q => q⟩
end
end
/-! ### a def by its body -/
section
variable {P : Program} {w : World} {K : PySem.W.Frag} {mg : Str → Option Value} {base : Heap} {k : Nat} {b : Bool} {rf : List Nat}
theorem passOwn_cx {N : List Str} {qual : Str} {scope : Scope} {f : Addr} {cd : Value} {A : Around} {outer : List Env} {s : Shared} {H : Hp} {E : XK} : PassesOwn (model P w) (cxOf (L2.CX P w) P w K mg base N qual scope f cd A outer s H E).A (cxOf (L2.CX P w) P w K mg base N qual scope f cd A outer s H E).env (cxOf (L2.CX P w) P w K mg base N qual scope f cd A outer s H E).xe :=
  passes_of (X := cxOf (L2.CX P w) P w K mg base N qual scope f cd A outer s H E) (K := fun e s'' => L2.CX P w outer H s E e s'') (E₁ := fun e' s'' => L2.CX P w outer H s E e' s'') rfl
/-- the contexts of a def's body -/
def famOf (P : Program) (w : World) (K : PySem.W.Frag) (mg : Str → Option Value) (base : Heap) (k : Nat) (N : List Str) (nd : N.Nodup) (qual : Str) (scope : Scope) (f : Addr) (E : XK) : Fam P w K mg base k where
  ι := { q : Value × Around × List Env × Shared × Hp // Room k (q.2.1.deeper (envOfC qual scope q.2.2.2.1.heap.objs.size f q.1)) }
  cx := fun q => cxOf (L2.CX P w) P w K mg base N qual scope f q.1.1 q.1.2.1 q.1.2.2.1 q.1.2.2.2.1 q.1.2.2.2.2 E
  eP := fun _ => rfl
  ew := fun _ => rfl
  eK := fun _ => rfl
  eM := fun _ => rfl
  eB := fun _ => rfl
  cm := true
  room := fun q => RoomB.of q.2
  nd := fun _ => nd
  own := fun _ => passOwn_cx
theorem ft_fam {N : List Str} {nd : N.Nodup} {qual : Str} {scope : Scope} {f : Addr} {E : XK} : FT (famOf P w K mg base k N nd qual scope f E) (fun c d _ H' => E c d H') := fun i =>
  takes_of (X := (famOf P w K mg base k N nd qual scope f E).cx i) (E := E) rfl rfl rfl (E₁ := fun e' s'' => L2.CX P w i.1.2.2.1 i.1.2.2.2.2 i.1.2.2.2.1 E e' s'') rfl
theorem def_ok {N ps : List Str} {n : Nat} {x qual : Str} {params : Arguments} {body : List Stmt} {scope : Scope} {f : Addr} {fd : FuncData} {g : Rho → Fl} (F : FunD K x qual params body scope [] [] f fd) (S : FnScope N ps scope) (hn : ps.length = n) (hrf : ∀ i ∈ rf, i < n)
    (hb : ∀ E, DSs (famOf P w K mg base k N S.nd qual scope f E) (fun c d _ H' => E c d H') rf body g) : FnOk P w K mg base (L2.CX P w) (k + 1) f fd ps (SpD K n (fnOut N.length n rf g)) := by
  refine F.ok S (fun vs H Q E h => ?_) fun cdv A outer s H vs Q E hr h => ?_
  · obtain ⟨ms, G, fp, h1, _⟩ := h
    rw [h1, hn]
  · obtain ⟨ms, G, fp, h1, C, P'⟩ := h
    obtain ⟨t, a1, a2⟩ := hb E
    exact ⟨t, a1 ⟨(cdv, A, outer, s, H), hr⟩, fn_body a2 h1 hrf C P'⟩
theorem def_k {N ps : List Str} {n : Nat} {x : Str} {params : Arguments} {body : List Stmt} {scope : Scope} {f : Addr} {fd : FuncData} {g : Rho → Fl} (F : FunD K x x params body scope [] [] f fd) (hm : mg x = some (.ref f)) (hb : Binds K fd ps []) (S : FnScope N ps scope) (hn : ps.length = n) (hrf : ∀ i ∈ rf, i < n)
    (h : ∀ E, DSs (famOf P w K mg base k N S.nd x scope f E) (fun c d _ H' => E c d H') rf body g) : DefK P w K mg base (k + 1) x n (fnOut N.length n rf g) :=
  ⟨f, fd, ps, def_ok F S hn hrf h, hm, F.kp, hb⟩
end
end DL

set_option Elab.async false
set_option linter.all false
set_option maxRecDepth 100000
/-! DLx: constants of the module, the end of a law. -/
namespace DL
open PySem PySem.Spec PyProof.Rows L2
/-- what stands under a name of the module -/
structure GK (K : PySem.W.Frag) (mg : Str → Option Value) (x : Str) (d : PyData) : Prop where
  ex : ∃ v u, mg x = some u ∧ RelV v u ∧ ∀ G, Da K G v d
section
variable {P : Program} {w : World} {K : PySem.W.Frag} {mg : Str → Option Value} {base : Heap} {k : Nat} {X : Fam P w K mg base k} {W : WX} {b : Bool} {rf : List Nat}
theorem de_gk {x : Str} {d : PyData} {pos : Pos} (h : GK K mg x d) (hg : GlF X x := by intro _; kernel_rfl) (hd : (x == ("__debug__" : Str)) = false := by kernel_rfl) : DE X W true (.Name x pos) (cD d) := by
  obtain ⟨v, u, h1, h2, h3⟩ := h.ex
  exact de_glob h1 h2 h3 hg hd
end
section
variable {K : PySem.W.Frag} {mg : Str → Option Value} {h : Heap}
theorem gk_str {x z : Str} (X : K.In h) (G : h.Ns mainGlobals mg) (c : (He.Fa.str x z).ok K = true) : GK K mg x (.str z) := by
  obtain ⟨t, e⟩ := He.str_ok X G c
  exact ⟨.str z, _, e, ⟨t, rfl⟩, fun _ => .str z⟩
theorem gk_int {x : Str} {z : Int} (X : K.In h) (G : h.Ns mainGlobals mg) (c : (He.Fa.int x z).ok K = true) : GK K mg x (.int z) := by
  obtain ⟨t, e⟩ := He.int_ok X G c
  exact ⟨.int z, _, e, ⟨t, rfl⟩, fun _ => .int z⟩
/-- a flat value of the text -/
def dvD : He.Dv → Option PyData
  | .non => some .none
  | .bl b => some (.bool b)
  | .int i => some (.int i)
  | .str x => some (.str x)
  | _ => none
def dvDs : List He.Dv → Option (List PyData)
  | [] => some []
  | v :: vs => match dvD v, dvDs vs with
    | some d, some ds => some (d :: ds)
    | _, _ => none
theorem dvDs_ok {G : Hp} : ∀ {vs : List He.Dv} {ds : List PyData}, dvDs vs = some ds → DaAll K G (vs.map (He.Dv.v K)) ds
  | [], _, h => by cases h; exact .nil
  | v :: vs, _, h => by
    unfold dvDs at h
    split at h
    · rename_i d ds e1 e2
      cases h
      refine .cons ?_ (dvDs_ok e2)
      cases v <;> cases e1
      · exact .non
      · exact .bl _
      · exact .int _
      · exact .str _
    · cases h
theorem gk_tup {x : Str} {vs : List He.Dv} {ds : List PyData} (X : K.In h) (G : h.Ns mainGlobals mg) (c : (He.Fa.glo x).ok K = true) (t : He.tupB K x vs = true) (e : dvDs vs = some ds) : GK K mg x (wkT ds) :=
  ⟨.ref (He.ga K x), _, He.glo_ok X G c, rfl, fun H => .wk (He.tupB_ok t H) (dvDs_ok e) rfl⟩
end
/-- a def's scope, looked at -/
def fnC (N ps : List Str) (sc : Scope) : Bool := decide (sc.kind = .function) && (!sc.isCoroutine && (!sc.isGenerator && (decide N.Nodup && (decide (N.take ps.length = ps) &&
  (ps.all (fun x => decide (sc.names.lookup x = some .local) || decide (sc.names.lookup x = some .cell)) && sc.names.all (fun y => decide (y.2 ≠ .free)))))))
theorem fnC_ok {N ps : List Str} {sc : Scope} (h : fnC N ps sc = true) : FnScope N ps sc := by
  unfold fnC at h
  simp only [Bool.and_eq_true, Bool.not_eq_true', decide_eq_true_eq, List.all_eq_true, Bool.or_eq_true] at h
  obtain ⟨h1, h2, h3, h4, h5, h6, h7⟩ := h
  exact ⟨h1, h2, h3, h4, h5, h6, h7⟩
theorem cx_none {P : Program} (w : World) (H : Hp) (s : Shared) (e : Value) (s' : Shared) (h : L2.CX P w [] H s (fun _ _ _ => False) e s') : False := by
  obtain ⟨_, _, _, _, _, _, _, _, _, _, _, _, z⟩ := h
  exact z
/-- what a law comes to -/
def LawT (F : List M → FOut) : Prop := ∀ ns : List Int, ns.length ≤ 63 → (∀ z ∈ ns, Builtin.Int.intBits z ≤ 1048576) → ∃ fin, F [.scr ns] = .ok (.dat (.bool true)) fin
theorem law_sp {K : PySem.W.Frag} {F : List M → FOut} (h : LawT F) {H : Hp} {a : Addr} {ns : List Int} (h1 : ns.length ≤ 63) (h2 : ∀ z ∈ ns, Builtin.Int.intBits z ≤ 1048576) (hS : SqL K H a (ns.map V.int)) :
    SpD K 1 F [.ref a] H (fun v _ => v = .bl true) fun _ _ _ => False := by
  obtain ⟨fin, e⟩ := h ns h1 h2
  refine ⟨[.scr ns], H, [], rfl, ⟨Ext.refl H, (fun _ q => nomatch q), List.nodup_nil, ⟨[], ROs.so (.scr hS) .nil, List.Perm.refl _⟩⟩, ?_⟩
  rw [e]
  intro v H' G' fp' T S
  obtain ⟨dv, _⟩ := SA.popD S
  cases dv
  rfl
theorem law_at {l : PySem.W.OpenLaw} {w : World} {K : PySem.W.Frag} {k : Nat} {x nm : Str} {mg : Str → Option Value} {fa : Addr} {hp : Heap} {fd : FuncData} {params : Arguments} {body : List Stmt} {scope : Scope} {F : List M → FOut} (h : LawT F)
    (Fu : FunD K nm nm params body scope [] [] fa fd) (hb : ∀ (s : Shared) (u : Value), BindsTo s fd ⟨[u], []⟩ [(x, u)]) (ok : ∀ base : Heap, K.In base → base.Ns mainGlobals mg → FnOk l.prog w K mg base (L2.CX l.prog w) k fa fd [x] (SpD K 1 F)) : LamX.LawAtS l w K (L2.CX l.prog w) k 63 x mg fa hp :=
  ⟨fd, [], SpD K 1 F, (fun _ q => nomatch q), (fun _ q => nomatch q), (fun _ q => nomatch q), hb, fun H a ns h1 h2 _ hS => law_sp h h1 h2 hS, fun base h1 h2 _ => ok base h1 h2⟩
end DL

set_option Elab.async false
set_option linter.all false
set_option maxRecDepth 100000
/-! DLy: tuple targets, zip, text times int, extend, defs that call themselves. -/
namespace DL
open PySem PySem.Spec PyProof.Rows L2
section
variable {K : PySem.W.Frag} {W : WX} {b : Bool} {τ σ : St} {τm ρ : Rho} {H G H1 G1 : Hp} {fp fp1 : List Addr} {rf : List Nat}
/-! ### a target of any form, from data -/
def sAsg (h : PyData → Rho → Option Rho) (fe : Rho → Out Vl) : Rho → Fl := fun ρ => match fe ρ with
  | .ok a ρ1 => match toDat a ρ1 with
    | some (d, ρ2) => match h d ρ2 with
      | some ρ3 => .nx ρ3
      | none => .bad
    | none => .bad
  | .exc x ρ1 => .exc x ρ1
  | .bad => .bad
theorem es_asg {js : List Nat} {te : TE} {g : TG} {fe : Rho → Out Vl} {h : PyData → Rho → Option Rho} (he : EvE K W b te fe) (hg : EvG K js g h) (hj : ∀ i ∈ rf, i ∉ js) : EvS K W rf (tAsg te g) (sAsg h fe) := by
  intro σ ρ H G fp D S P
  refine he [] σ [] ρ H G fp _ rfl S ?_
  unfold sAsg at P
  cases hf : fe ρ with
  | bad => rw [hf] at P; exact P
  | exc x ρ1 => rw [hf] at P; exact fun cls d H' G' fp' T' S' r => P cls d σ H' G' fp' T' S' (Kp.refl σ) r
  | ok a ρ1 =>
    rw [hf] at P
    intro v H1 G1 fp1 T1 e1 S1 p1
    simp only at P
    cases hv : toDat a ρ1 with
    | none => rw [hv] at P; exact P.elim
    | some q =>
      obtain ⟨d, ρ2⟩ := q
      rw [hv] at P
      simp only at P
      cases hh : h d ρ2 with
      | none => rw [hh] at P; exact P.elim
      | some ρ3 =>
        rw [hh] at P
        obtain ⟨G2, fp2, S2, T2⟩ := SA.toDat (τ := []) (τm := []) S1 rfl p1 hv
        obtain ⟨dv, S3⟩ := SA.popD S2
        exact hg [] σ [] ρ2 H1 G2 fp2 v d ρ3 _ rfl S3 dv hh fun σ' fp' S' s' a' => P σ' H1 G2 fp' ((T1.trans T2).sub s') S' (a'.kp hj)
/-! ### zip of two lists or of two tuples -/
def zipD : List PyData → List PyData → List PyData
  | d :: ds, e :: es => wkT [d, e] :: zipD ds es
  | _, _ => []
theorem zipD_get : ∀ {ds es : List PyData} {i : Nat} {t : PyData}, (zipD ds es)[i]? = some t → ∃ d e, ds[i]? = some d ∧ es[i]? = some e ∧ t = wkT [d, e]
  | [], _, _, _, h => by simp [zipD] at h
  | _ :: _, [], _, _, h => by simp [zipD] at h
  | d :: ds, e :: es, 0, t, h => by
    simp [zipD] at h
    exact ⟨d, e, rfl, rfl, h.symm⟩
  | d :: ds, e :: es, i + 1, t, h => by
    have h : (zipD ds es)[i]? = some t := by simpa [zipD] using h
    obtain ⟨d', e', h1, h2, h3⟩ := zipD_get h
    exact ⟨d', e', by simpa using h1, by simpa using h2, h3⟩
theorem zipD_none : ∀ {ds es : List PyData} {i : Nat}, (zipD ds es)[i]? = none → ds.length ≤ i ∨ es.length ≤ i
  | [], _, i, _ => .inl (Nat.zero_le _)
  | _ :: _, [], i, _ => .inr (Nat.zero_le _)
  | d :: ds, e :: es, 0, h => by simp [zipD] at h
  | d :: ds, e :: es, i + 1, h => by
    have h : (zipD ds es)[i]? = none := by simpa [zipD] using h
    rcases zipD_none h with z | z
    · exact .inl (by simpa using z)
    · exact .inr (by simpa using z)
theorem da_pair {v w : V} {d e : PyData} {p : Addr} {G H : Hp} (eg : Ext G H) (hp : H p = none) (h1 : Da K G v d) (h2 : Da K G w e) : Da K (upd G p (.tup [v, w])) (.ref p) (wkT [d, e]) :=
  .wk (SqT.of upd_same) (Ext.dps (ext_upd (none_of eg hp)) _ (.cons h1 (.cons h2 .nil))) rfl
theorem y_zipL {a c : Addr} {xs ys : List V} {ds es : List PyData} (h : Rd G a (.lst xs)) (h' : Rd G c (.lst ys)) (d : DaAll K G xs ds) (d' : DaAll K G ys es) : Yields K (Itz K a c) (zipD ds es) G := by
  intro i H G1 e1 e2
  have q1 : SqL K H a xs := .inl ((e1.trans e2).rd h)
  have q2 : SqL K H c ys := .inl ((e1.trans e2).rd h')
  refine ⟨fun t ht => ?_, fun ht => ⟨xs, ys, q1, q2, ?_⟩⟩
  · obtain ⟨dx, dy, h1, h2, rfl⟩ := zipD_get ht
    obtain ⟨x, hx, rx⟩ := DaAll.get d h1
    obtain ⟨y, hy, ry⟩ := DaAll.get d' h2
    refine ⟨⟨xs, ys, x, y, q1, q2, hx, hy⟩, fun u H' yl => ?_⟩
    obtain ⟨T, x', y', rfl, hT, rfl, k1, k2⟩ := yl
    have e3 := (k1 xs q1).symm.trans hx
    have e4 := (k2 ys q2).symm.trans hy
    cases e3
    cases e4
    exact ⟨_, New.known e2 hT, da_pair e2 hT (Ext.dp e1 _ rx) (Ext.dp e1 _ ry)⟩
  · rcases zipD_none ht with z | z
    · exact .inl (by rw [DaAll.length d]; exact z)
    · exact .inr (by rw [DaAll.length d']; exact z)
theorem y_zipT {a c : Addr} {xs ys : List V} {ds es : List PyData} (h : SqT K G a xs) (h' : SqT K G c ys) (d : DaAll K G xs ds) (d' : DaAll K G ys es) : Yields K (RZ.ItzT K a c) (zipD ds es) G := by
  intro i H G1 e1 e2
  have q1 : SqT K H a xs := (e1.trans e2).t h
  have q2 : SqT K H c ys := (e1.trans e2).t h'
  refine ⟨fun t ht => ?_, fun ht => ⟨xs, ys, q1, q2, ?_⟩⟩
  · obtain ⟨dx, dy, h1, h2, rfl⟩ := zipD_get ht
    obtain ⟨x, hx, rx⟩ := DaAll.get d h1
    obtain ⟨y, hy, ry⟩ := DaAll.get d' h2
    refine ⟨⟨xs, ys, x, y, q1, q2, hx, hy⟩, fun u H' yl => ?_⟩
    obtain ⟨T, x', y', rfl, hT, rfl, k1, k2⟩ := yl
    have e3 := (k1 xs q1).symm.trans hx
    have e4 := (k2 ys q2).symm.trans hy
    cases e3
    cases e4
    exact ⟨_, New.known e2 hT, da_pair e2 hT (Ext.dp e1 _ rx) (Ext.dp e1 _ ry)⟩
  · rcases zipD_none ht with z | z
    · exact .inl (by rw [DaAll.length d]; exact z)
    · exact .inr (by rw [DaAll.length d']; exact z)
def zipP : List PyData → Option (List PyData)
  | [.list ds, .list es] => some (zipD ds es)
  | [.tuple ds, .tuple es] => some (zipD ds es)
  | _ => none
def iZip (fr : Rho → Out (List Vl)) : Rho → Out (List PyData) := fun ρ => match fr ρ with
  | .ok as ρ1 => match prep (noM as) as ρ1 with
    | some (ms, ρ2) => match datsOf ms with
      | some ds => match zipP ds with
        | some zs => .ok zs ρ2
        | none => .bad
      | none => .bad
    | none => .bad
  | .exc x ρ1 => .exc x ρ1
  | .bad => .bad
theorem ei_zip {ta : TA} {fr : Rho → Out (List Vl)} (ha : EvA K W b ta fr) : EvI K W b (RZ.iZipA K ta) (iZip fr) := by
  intro τ σ τm ρ H G fp R hl S P
  refine ha τ σ τm ρ H G fp _ hl S ?_
  unfold iZip at P
  cases hf : fr ρ with
  | bad => rw [hf] at P; exact P
  | exc x ρ1 => rw [hf] at P; exact fun cls d H' G' fp' T' S' r => P cls d H' G' fp' T' S' r
  | ok as ρ1 =>
    rw [hf] at P
    simp only at P
    intro vs H1 G1 fp1 T1 e1 S1 ps
    cases hp : prep (noM as) as ρ1 with
    | none => rw [hp] at P; exact P.elim
    | some q =>
      obtain ⟨ms, ρ2⟩ := q
      rw [hp] at P
      simp only at P
      cases hd : datsOf ms with
      | none => rw [hd] at P; exact P.elim
      | some ds =>
        rw [hd] at P
        simp only at P
        obtain ⟨G2, fA, fB, C, SB, dis, T2⟩ := prep_ok (s := []) (m := []) hl rfl ps S1 hp
        obtain ⟨fc, rm, _⟩ := RMs.perm_free C
        have da := rm.datsOf hd
        have SB : SA K (τ ++ σ) (τm ++ ρ2) H1 G2 fB := SB
        have T12 : Tr H G fp H1 G2 fB := (T1.trans T2).sub fun a ha => List.mem_append_right _ ha
        cases hz : zipP ds with
        | none => rw [hz] at P; exact P.elim
        | some zs =>
          rw [hz] at P
          have go : ∀ J, Yields K J zs G2 → R J H1 := fun J y => P J H1 G2 fB T12 e1 SB y
          unfold zipP at hz
          split at hz
          · rename_i ds1 es1
            cases hz
            cases da with
            | cons r1 da =>
              cases da with
              | cons r2 da =>
                cases da
                cases r1 with
                | lst h1 h2 =>
                  cases r2 with
                  | lst h3 h4 => exact ⟨_, _, _, _, rfl, .inl ⟨.inl (SB.same.rd h1), .inl (SB.same.rd h3), go _ (y_zipL h1 h3 h2 h4)⟩⟩
          · rename_i ds1 es1
            cases hz
            cases da with
            | cons r1 da =>
              cases da with
              | cons r2 da =>
                cases da
                cases r1 with
                | tup h1 h2 =>
                  cases r2 with
                  | tup h3 h4 => exact ⟨_, _, _, _, rfl, .inr ⟨SB.same.t h1.sq, SB.same.t h3.sq, go _ (y_zipT h1.sq h3.sq h2 h4)⟩⟩
          · cases hz
end
/-! ### a text so many times -/
theorem rep_size (a : Array Nat) : ∀ (m : Nat) (acc : Array Nat), ((List.replicate m a).foldl (· ++ ·) acc).size = acc.size + m * a.size
  | 0, acc => by simp
  | m + 1, acc => by
    rw [List.replicate_succ, List.foldl_cons, rep_size a m, Array.size_append, Nat.add_mul]
    omega
def repS (x : Str) (n : Int) : Str := if n < 1 then Str.empty else if (n == 1 || x.length == 0) = true then x else ⟨(List.replicate n.toNat x.cps).foldl (· ++ ·) #[]⟩
def rMulS : R2 := fun x y H Q => ∃ i n, x = .str i ∧ y = .int n ∧ -1000 ≤ n ∧ n ≤ 1000000 ∧ i.length * n.toNat ≤ 1000000 ∧ Q (.str (repS i n)) H
theorem op_mulS {X : Cx} : OpR X (binaryOp .Mult) rMulS := by
  intro pins s σ H x y v u Q I rx ry h
  obtain ⟨i, n, rfl, rfl, h1, h2, hz, q⟩ := h
  obtain ⟨t, rfl⟩ := rx
  obtain ⟨t', rfl⟩ := ry
  have hsz : 1000000 ≤ sizeLine := by decide
  refine P.mul_str (by simp; omega) (fun h3 h4 h5 => ?_) (fun h3 h4 => ?_) ?_
  · have hn : 1 ≤ n.toNat := by omega
    have h6 : i.length ≤ i.length * n.toNat := Nat.le_mul_of_pos_right _ hn
    have h7 : (1000000 : Int) ≤ (2 ^ 63 - 1) / n := Int.le_ediv_of_mul_le (by omega) (by omega)
    omega
  · unfold Builtin.Str.tooLong
    exact decide_eq_false (by omega)
  · unfold repS at q
    split
    · rename_i h3
      rw [if_pos h3] at q
      exact ⟨by decide, .str _, H, I.tok _, ⟨_, rfl⟩, q⟩
    · rename_i h3
      rw [if_neg h3] at q
      split
      · rename_i h4
        rw [if_pos h4] at q
        exact ⟨.str _, H, I, ⟨_, rfl⟩, q⟩
      · rename_i h4
        rw [if_neg h4] at q
        refine ⟨?_, .str _, H, I.tok _, ⟨_, rfl⟩, q⟩
        have := rep_size i.cps n.toNat #[]
        have e : i.cps.size = i.length := rfl
        rw [e] at this
        show ((List.replicate n.toNat i.cps).foldl (· ++ ·) #[]).size ≤ sizeLine
        rw [this, Nat.mul_comm n.toNat]
        simp only [List.size_toArray, List.length_nil]
        omega
def rMulA : R2 := fun x y H Q => rI CMulW (fun i j => .int (i * j)) x y H Q ∨ rMulS x y H Q
def mulS (a b : M) : Option M := match a, b with
  | .dat (.str x), .dat (.int n) => if -1000 ≤ n ∧ n ≤ 1000000 ∧ x.length * n.toNat ≤ 1000000 then some (.dat (.str (repS x n))) else none
  | _, _ => none
def opMulA (a b : M) : Option M := match opMul a b with
  | some m => some m
  | none => mulS a b
theorem os_mulS {K : PySem.W.Frag} : Op2 K rMulS mulS := by
  intro v1 v2 m1 m2 m H G fx fy Q e r1 r2 ho hq
  unfold mulS at ho
  split at ho
  · rename_i x n
    by_cases hz : -1000 ≤ n ∧ n ≤ 1000000 ∧ x.length * n.toNat ≤ 1000000
    · rw [if_pos hz] at ho
      cases ho
      cases r1.dat'
      cases r2.dat'
      exact ⟨x, n, rfl, rfl, hz.1, hz.2.1, hz.2.2, hq _ H G [] (New.refl e) (.dat (.str _))⟩
    · rw [if_neg hz] at ho; cases ho
  · cases ho
theorem os_mulA {K : PySem.W.Frag} : Op2 K rMulA opMulA := Op2.or os_mul os_mulS
/-! ### by the syntax -/
section
variable {P : Program} {w : World} {K : PySem.W.Frag} {mg : Str → Option Value} {base : Heap} {k : Nat} {X : Fam P w K mg base k} {W : WX} {b : Bool} {rf : List Nat}
section
variable {e a c tg : Expr} {es : List Expr} {pos p pos' : Pos} {x : Str} {j : Nat}
theorem ds_asg {js : List Nat} {fe : Rho → Out Vl} {h : PyData → Rho → Option Rho} (he : DE X W b e fe) (hg : DG X js tg h) (hj : ∀ i ∈ rf, i ∉ js := by decide) (hs : ∀ i, swapsWithSole [tg] e pos.line (X.cx i).env = pure false := by intro _; kernel_rfl) (hw : ∀ i, swappedStores [tg] e (X.cx i).env = pure none := by intro _; kernel_rfl)
    (h1 : ∀ i, (assignEach [tg] (X.cx i).env).map (·.2) = [assign tg (X.cx i).env] := by intro _; kernel_rfl) : DS X W rf (.Assign [tg] e pos) (sAsg h fe) := by
  obtain ⟨te, a1, a2⟩ := he
  obtain ⟨g, b1, b2⟩ := hg
  exact ⟨_, fun i => ps_asg (a1 i) (b1 i) (hs i) (hw i) (h1 i), es_asg a2 b2 hj⟩
theorem de_mulA {ba bb : Bool} {fa fb : Rho → Out Vl} (ha : DE X W ba a fa) (hb : DE X W bb c fb) : DE X W (ba && bb) (.BinOp a .Mult c pos) (cOp2 bb opMulA fa fb) := de_op (fun i => OpR.or op_mulW op_mulS) os_mulA ha hb
theorem di_zip {elts : List Expr} {kk : Nat} {tpos : Pos} {fr : Rho → Out (List Vl)} (hm : mg "zip" = none) (ha : DA X W b [a, c] fr) (hg : GlF X "zip" := by intro _; kernel_rfl) (he : NSt X a [c] pos := by intro _; exact ⟨by kernel_rfl, by kernel_rfl⟩) :
    DI X W b (.Tuple elts kk tpos) (.Call (.Name "zip" p) [a, c] [] pos) (iZip fr) := by
  obtain ⟨ta, h1, h2⟩ := ha
  exact ⟨_, fun i => by have h := RZ.pi_zipA (elts := elts) (kk := kk) (tpos := tpos) (p := p) (pos := pos) (hg i) (by rw [X.eM i]; exact hm) (h1 i) (he i).1 (he i).2; rw [X.eK i] at h; exact h, ei_zip h2⟩
end
/-! ### a def that calls itself: at the bottom it does nothing good -/
theorem def_bad {N ps : List Str} {n : Nat} {x : Str} {params : Arguments} {body : List Stmt} {scope : Scope} {f : Addr} {fd : FuncData} (F : FunD K x x params body scope [] [] f fd) (hm : mg x = some (.ref f)) (hb : Binds K fd ps []) (hn : ps.length = n) : DefK P w K mg base k x n (fun _ => .bad) :=
  ⟨f, fd, ps, ⟨fun vs H Q E h => by obtain ⟨ms, G, fp, h1, _⟩ := h; rw [h1, hn], fun A outer s H args us vs Q E _ _ _ _ h => by obtain ⟨_, _, _, _, _, z⟩ := h; exact z.elim⟩, hm, F.kp, hb⟩
end
end DL
namespace PySem.RT
open PySem PySem.Spec PyProof.Rows
/-- a list made longer by a tuple, the tuple's object of any form -/
theorem extend_tup (l : Addr) (items : Array Value) (n : Nat) (b : Addr) (dd : Option Addr) (sl : Array (Option Value)) (ys : Array Value) (k : Nat)
    (h0 : ¬(!items.isEmpty && Builtin.List.listTooLong (items.size + ys.size)) = true) (h1 : items.size ≤ sizeLine) (h2 : items.size + ys.size ≤ sizeLine + 1) :
    Meets (Builtin.«list.extend» ⟨[.ref l, .ref b], []⟩) (fun _ R s => s.heap.get? l = some { cls := .type "list", dict := none, data := .seq items n, slots := #[] } ∧
      s.heap.get? b = some { cls := .type "tuple", dict := dd, data := .seq ys k, slots := sl } ∧ R (.ok (.ret Value.none)) { s with heap := s.heap.update l (Obj.mapSeq fun x => x ++ ys), toks := s.toks }) := by
  refine .of_wp fun prog w A R s h => ?_
  obtain ⟨hp, gs, dr, tk, os⟩ := s
  obtain ⟨hl, hb, h⟩ := h
  have g1 := AutoSeq1.idx_int
  have g2 := AutoSeq1.sub_tuple_tuple
  have g3 := AutoSeq1.sub_list_list
  have g4 := AutoSeq1.sub_tuple_list
  have g5 := AutoSeq1.sub_list_tuple
  have h3 : (items ++ ys).size ≤ sizeLine + 1 := by rw [Array.size_append]; exact h2
  wp_walk using (wpAny_updateSeq hl rfl (hz := h1) (_hz' := h3)), AutoSeq1.wpAny_loadPart' hl, AutoSeq1.wpAny_loadPart' hb
  exact ⟨_, rfl, h⟩
end PySem.RT
namespace DL
open PySem PySem.Spec PyProof.Rows L2
def rExtA (K : PySem.W.Frag) : V → List V → Hp → VK → Prop := fun x vs H Q => ∃ l b xs zs, x = .ref l ∧ vs = [.ref b] ∧ H l = some (.lst xs) ∧ (Rd H b (.lst zs) ∨ SqT K H b zs) ∧ xs.length + zs.length ≤ sizeLine ∧ Q .non (upd H l (.lst (xs ++ zs)))
theorem mt_extA {X : Cx} : MtM X "list.extend" (rExtA X.K) := by
  intro pins s σ H x vs v us Q I rx rv h
  obtain ⟨l, b, xs, zs, rfl, rfl, hH, hB, hz, q⟩ := h
  cases rx
  obtain ⟨u, rfl, ru⟩ := rv.one
  cases ru
  obtain ⟨z, its, n, r, hl, e⟩ := I.lstM hH
  rcases hB with hB | hB
  · obtain ⟨z2, its2, n2, r2, hl2, e2⟩ := I.rdM hB
    have hsz : its.toArray.size + its2.toArray.size ≤ sizeLine := by rw [List.size_toArray, List.size_toArray]; omega
    have hlong : ¬ (!its.toArray.isEmpty && Builtin.List.listTooLong (its.toArray.size + its2.toArray.size)) = true := by
      rw [notLongL hsz, Bool.and_false]
      exact Bool.false_ne_true
    refine call_meets F.slot_list_extend ⟨_, e, rfl⟩ F.entry_list_extend (F.args_list_extend_2 _ _) (AutoSeq1.list_extend_list_list_0 l its.toArray n b its2.toArray n2 hlong (by rw [List.size_toArray]; omega) (by omega)) ⟨e, e2, ?_⟩
    refine ⟨.non, _, I.lset (its' := its ++ its2) hH e (by simp) (r.append r2) ?_, rfl, q⟩
    rw [List.length_append]
    omega
  · obtain ⟨its2, r2, p2, z2⟩ := I.tuple hB
    obtain ⟨ob, e2, hc, n2, hd⟩ := p2
    obtain ⟨oc, od, dt, osl⟩ := ob
    dsimp only at hc hd
    subst hc hd
    have hl2 := r2.length
    have hsz : its.toArray.size + its2.toArray.size ≤ sizeLine := by rw [List.size_toArray, List.size_toArray]; omega
    have hlong : ¬ (!its.toArray.isEmpty && Builtin.List.listTooLong (its.toArray.size + its2.toArray.size)) = true := by
      rw [notLongL hsz, Bool.and_false]
      exact Bool.false_ne_true
    refine call_meets F.slot_list_extend ⟨_, e, rfl⟩ F.entry_list_extend (F.args_list_extend_2 _ _) (PySem.RT.extend_tup l its.toArray n b od osl its2.toArray n2 hlong (by rw [List.size_toArray]; omega) (by omega)) ⟨e, e2, ?_⟩
    refine ⟨.non, _, I.lset (its' := its ++ its2) hH e (by simp) (r.append r2) ?_, rfl, q⟩
    rw [List.length_append]
    omega
/-- a list or a tuple -/
def seqD : PyData → Option (List PyData)
  | .list ds => some ds
  | .tuple ds => some ds
  | _ => none
theorem seqD_da {K : PySem.W.Frag} {G H : Hp} {v : V} {d : PyData} {ds : List PyData} (e : Ext G H) (h : Da K G v d) (s : seqD d = some ds) : ∃ c zs, v = .ref c ∧ (Rd H c (.lst zs) ∨ SqT K H c zs) ∧ DaAll K G zs ds := by
  cases h with
  | lst h1 h2 => cases s; exact ⟨_, _, rfl, .inl (e.rd h1), h2⟩
  | tup h1 h2 => cases s; exact ⟨_, _, rfl, .inr (e.t h1.sq), h2⟩
  | _ => cases s
end DL
namespace DL
open PySem PySem.Spec PyProof.Rows L2
section
variable {K : PySem.W.Frag} {W : WX} {b : Bool} {τ σ : St} {τm ρ : Rho} {H G H1 G1 : Hp} {fp fp1 : List Addr} {rf : List Nat}
theorem SA.extendAt {i : Nat} {π : List Stp} {xs : List M} {ds : List PyData} {zs : List V} (S : SA K σ ρ H G fp) (dz : DaAll K G zs ds) (e : rdP ρ i π = some (.lst xs)) :
    ∃ v0 l vs fp', σ[i]? = some (some v0) ∧ atP H v0 π = some (.ref l) ∧ H l = some (.lst vs) ∧ vs.length = xs.length ∧
      SA K σ (wrP ρ i π (.lst (xs ++ ds.map M.dat))) (upd H l (.lst (vs ++ zs))) G fp' ∧ Tr H G fp (upd H l (.lst (vs ++ zs))) G fp' := by
  obtain ⟨v0, vc, fa, fb, h1, h2, h3, h4, h5⟩ := S.focus e
  cases h3 with
  | lst q1 q2 =>
    rename_i l vs fx
    have nd4 := h4.nodup_iff.mpr S.nd
    rw [List.nodup_append] at nd4
    have ndx := List.nodup_cons.mp nd4.1
    have lq : l ∈ fp := h4.mem_iff.mp (List.mem_append_left _ List.mem_cons_self)
    have gl0 : G l = none := S.free l lq
    have same : ∀ a, a ≠ l → upd H l (.lst (vs ++ zs)) a = H a := fun a ha => upd_ne ha
    have es : Ext G (upd H l (.lst (vs ++ zs))) := fun a o z => by
      rw [same a fun w => by rw [w, gl0] at z; cases z]
      exact S.same a o z
    have nx : RM K G (upd H l (.lst (vs ++ zs))) (.ref l) (.lst (xs ++ ds.map M.dat)) (l :: (fx ++ [])) :=
      .lst upd_same (RMs.append (q2.at (Ext.refl G) fun a ha => same a fun w => ndx.1 (w ▸ ha)) (RMs.ofDats dz))
    rw [List.append_nil] at nx
    have S2 := h5 G (upd H l (.lst (vs ++ zs))) (.lst (xs ++ ds.map M.dat)) (l :: fx) (Ext.refl G) es (fun a ha => same a fun w => nd4.2.2 l List.mem_cons_self a ha w.symm)
      (fun a ha => S.free a (h4.mem_iff.mp (List.mem_append_right _ ha))) nx (fun a ha => S.free a (h4.mem_iff.mp (List.mem_append_left _ ha))) nd4.1 (fun a ha hb => nd4.2.2 a ha a hb rfl)
    refine ⟨v0, l, vs, _, h1, h2, q1, q2.length, S2, Ext.refl G, fun a o z n => ?_, fun a ha => .inl (h4.mem_iff.mp ha), fun a o z => .inl z⟩
    rw [same a fun w => n (by rw [w]; exact lq)]
    exact z
/-- xs.extend(ys), ys a list or a tuple of data -/
def cExt (br : Bool) (fo fa : Rho → Out Vl) : Rho → Out Vl := fun ρ => match cRecv gdL br fo (aCons true fa aNil) ρ with
  | .ok (.plc i π, [a]) ρ1 => match toDat a ρ1 with
    | some (d, ρ2) => match seqD d, rdP ρ2 i π with
      | some ds, some (.lst xs) => if xs.length + ds.length ≤ sizeLine then .ok (.val (.dat .none)) (wrP ρ2 i π (.lst (xs ++ ds.map M.dat))) else .bad
      | _, _ => .bad
    | none => .bad
  | .ok _ _ => .bad
  | .exc x ρ1 => .exc x ρ1
  | .bad => .bad
theorem ev_ext {bo ba : Bool} {to te : TE} {fo fa : Rho → Out Vl} (ho : EvE K W bo to fo) (ha : EvE K W ba te fa) : EvE K W false (tBM K "list" (rExtA K) to (tCons te tNil)) (cExt (ba && true) fo fa) := by
  intro τ σ τm ρ H G fp Q hl S P
  unfold cExt at P
  refine recv_core (R := fun x xs H2 => rExtA K x xs H2 Q) ty_list ho (ea_cons ha ea_nil) hl S (fun x as ρ1 hc => ?_) (fun x ρ1 hc => ?_) (fun hc => ?_)
  · rw [hc] at P
    intro v vs H2 G2 fp2 T2 e2 S2 p1 ps
    cases x with
    | val c => exact P.elim
    | plc i π =>
      cases ps with
      | nil => exact P.elim
      | cons pa ps =>
        cases ps with
        | cons _ _ => exact P.elim
        | nil =>
          rename_i v1 a
          simp only at P
          cases hv : toDat a ρ1 with
          | none => rw [hv] at P; exact P.elim
          | some q =>
            obtain ⟨d, ρ2⟩ := q
            rw [hv] at P
            simp only at P
            obtain ⟨G3, fp3, S3, T3⟩ := SA.toDat (τ := some v :: τ) (τm := none :: τm) (v := v1) (a := a) S2 (by simp [hl]) pa hv
            obtain ⟨dv, S4⟩ := SA.popD S3
            split at P
            · rename_i ds xs hs hr
              by_cases hz : xs.length + ds.length ≤ sizeLine
              · rw [if_pos hz] at P
                have hr' : rdP ((none :: τm) ++ ρ2) ((none :: τm).length + i) π = some (.lst xs) := by rw [rdP_pre]; exact hr
                obtain ⟨c, zs, rfl, hc, dz⟩ := seqD_da S4.same dv hs
                obtain ⟨v0, l, ws, fp', z1, z2, z3, z4, z5, z6⟩ := SA.extendAt S4 dz hr'
                rw [wrP_pre] at z5
                have := plc_at (s := [some v]) (m := [none]) rfl hl p1 (by rw [show ([none] : Rho).length + (τm.length + i) = (none :: τm).length + i by simp [Nat.add_comm, Nat.add_left_comm, Nat.add_assoc]]; exact z1) z2
                subst this
                refine ⟨l, c, ws, zs, rfl, rfl, z3, hc, by rw [z4, DaAll.length dz]; exact hz, ?_⟩
                obtain ⟨fq, S6, h6⟩ := SA.drop (v := some (.ref l)) (m := none) z5
                exact P .non _ G3 fq (((T2.trans T3).trans z6).sub h6) (fun z => nomatch z) (S6.pushD .non) trivial
              · rw [if_neg hz] at P; exact P.elim
            · exact P.elim
  · rw [hc] at P
    exact fun cls d H' G' fp' T' S' r => P cls d H' G' fp' T' S' r
  · rw [hc] at P; exact P
end
end DL
namespace DL
open PySem PySem.Spec PyProof.Rows L2
section
variable {P : Program} {w : World} {K : PySem.W.Frag} {mg : Str → Option Value} {base : Heap} {k : Nat} {X : Fam P w K mg base k} {W : WX} {b : Bool} {rf : List Nat} {e : Expr}
theorem de_ext {o : Expr} {apos cpos : Pos} {bo ba : Bool} {fo fa : Rho → Out Vl} (ho : DE X W bo o fo) (ha : DE X W ba e fa) (h1 : MOk X o "extend" apos cpos := by intro _; exact ⟨by kernel_rfl, by kernel_rfl⟩) (h2 : MFew X e [] cpos := by intro _; kernel_rfl) (h3 : NSt X e [] cpos := by intro _; exact ⟨by kernel_rfl, by kernel_rfl⟩) :
    DE X W false (.Call (.Attribute o "extend" apos) [e] [] cpos) (cExt (ba && true) fo fa) := by
  obtain ⟨to, a1, a2⟩ := ho
  obtain ⟨ta, b1, b2⟩ := ha
  refine ⟨tBM K "list" (rExtA K) to (tCons ta tNil), fun i => ?_, ev_ext a2 b2⟩
  have h := pe_bm (X := X.cx i) (apos := apos) (cpos := cpos) PySem.F.plainAttrs_list PySem.F.slot_list_extend PySem.F.type_list_extend (fun pins s σ H x xs v us Q => mt_extA pins s σ H x xs v us Q) (a1 i) (pa_cons (b1 i) pa_nil (h3 i).1) (h1 i).1 (h2 i) (h1 i).2 (h3 i).1 (h3 i).2
  rw [X.eK i] at h
  exact h
end
end DL
/-! ### dicts: the empty one, get -/
namespace DL
open PySem PySem.Spec PyProof.Rows L2
section
variable {K : PySem.W.Frag} {W : WX} {b : Bool} {τ σ : St} {τm ρ : Rho} {H G H1 G1 : Hp} {fp fp1 : List Addr} {rf : List Nat}
def cDict0 : Rho → Out Vl := fun ρ => .ok (.val (.dk [] [])) ρ
theorem ev_dict0 : EvE K W true tDNewK cDict0 := by
  intro τ σ τm ρ H G fp Q hl S P p hp
  exact fin_new (s := []) (m := []) P (Tr.refl H G fp) (fun _ => Ext.refl H) S rfl (New.obj S.same hp) (.dk (ks := []) (vs := []) upd_same rfl .nil List.nodup_nil)
/-- d.get(k, z): what stands there is data -/
def opGet : List M → Option M
  | [.dk ks xs, .dat k, .dat z] => match keyOf k with
    | some q => match fnd q ks with
      | some n => match xs[n]? with
        | some (.dat d) => some (.dat d)
        | _ => none
      | none => some (.dat z)
    | none => none
  | _ => none
def rGet2 : V → List V → Hp → VK → Prop := fun x xs H Q => ∃ a y z o, x = .ref a ∧ xs = [y, z] ∧ DGet H a y o ∧ Q (o.getD z) H
theorem os_get : OpMt K rGet2 opGet := by
  intro vs ms m H G Q e hr ho hq
  unfold opGet at ho
  split at ho
  · rename_i ks xs k z
    cases vs with
    | nil => cases hr
    | cons v0 vs =>
      obtain ⟨⟨f0, r0⟩, hr⟩ := hr.uncons
      obtain ⟨v1, v2, f1, f2, rfl, r1, r2⟩ := RBs.cases2 hr
      cases qk : keyOf k with
      | none => rw [qk] at ho; cases ho
      | some q =>
        rw [qk] at ho
        simp only at ho
        cases r0 with
        | dk h1 h2 h3 =>
          rename_i a0 ws fp0 _
          have := da_key r1.dat' qk
          subst this
          cases hf : fnd q ks with
          | none =>
            rw [hf] at ho
            cases ho
            refine ⟨_, _, v2, none, rfl, rfl, ?_, hq v2 H G [] (New.refl e) (.dat r2.dat')⟩
            have := DGet.k (k := q) h1
            have hn : valV (ks.zip ws) q = none := by
              have := fnd_isSome (k := q) h2
              rw [hf] at this
              simpa using this
            rw [hn] at this
            exact this
          | some n =>
            rw [hf] at ho
            simp only at ho
            split at ho
            · rename_i d hx
              cases ho
              obtain ⟨vc, g1, g2, z1, z2, _, _⟩ := h3.out hx
              refine ⟨_, _, v2, some vc, rfl, rfl, ?_, hq vc H G [] (New.refl e) (.dat z2.dat')⟩
              have := DGet.k (k := q) h1
              rw [fnd_val h2 hf, z1] at this
              exact this
            · cases ho
  · cases ho
theorem mt_get2 {X : Cx} (hu : X.A.units + 1 < cLine) : MtR X "dict.get" rGet2 := by
  intro pins s σ H x xs v us Q I rx rv h
  obtain ⟨a, y, z, o, rfl, rfl, g, q⟩ := h
  cases rx
  obtain ⟨u1, u2, rfl, r1, r2⟩ := vals2 rv
  exact d_get2 hu I g r1 r2 fun w' s' I' r' => ⟨_, H, I', r', q⟩
end
section
variable {P : Program} {w : World} {K : PySem.W.Frag} {mg : Str → Option Value} {base : Heap} {k : Nat} {X : Fam P w K mg base k} {W : WX} {b : Bool} {rf : List Nat} {e f : Expr} {pos : Pos}
theorem de_dict0 : DE X W true (.Dict [] [] pos) cDict0 := ⟨_, fun _ => pe_dnewK, ev_dict0⟩
theorem de_get2 {o : Expr} {apos cpos : Pos} {bo ba : Bool} {fo : Rho → Out Vl} {fr : Rho → Out (List Vl)} (ho : DE X W bo o fo) (ha : DA X W ba [e, f] fr) (h1 : MOk X o "get" apos cpos := by intro _; exact ⟨by kernel_rfl, by kernel_rfl⟩) (h2 : MFew X e [f] cpos := by intro _; kernel_rfl) (h3 : NSt X e [f] cpos := by intro _; exact ⟨by kernel_rfl, by kernel_rfl⟩) :
    DE X W (bo && ba) (.Call (.Attribute o "get" apos) [e, f] [] cpos) (cMeth gdD ba opGet fo fr) := by
  obtain ⟨to, a1, a2⟩ := ho
  obtain ⟨ta, b1, b2⟩ := ha
  refine ⟨tBM K "dict" rGet2 to ta, fun i => ?_, ev_meth ty_dict os_get a2 b2⟩
  have h := pe_bm (X := X.cx i) (apos := apos) (cpos := cpos) PySem.F.plainAttrs_dict PySem.F.slot_dict_get PySem.F.type_dict_get (mt_get2 (Nat.lt_of_le_of_lt (by omega) (X.hu i))) (a1 i) (b1 i) (h1 i).1 (h2 i) (h1 i).2 (h3 i).1 (h3 i).2
  rw [X.eK i] at h
  exact h
end
end DL

set_option Elab.async false
set_option linter.all false
set_option maxRecDepth 100000
/-! DLz: list.index, .. -/
namespace DL
open PySem PySem.Spec PyProof.Rows L2
section
variable {K : PySem.W.Frag} {W : WX} {b : Bool} {τ σ : St} {τm ρ : Rho} {H G H1 G1 : Hp} {fp fp1 : List Addr} {rf : List Nat}
/-- the place of the first that is the same -/
def idxD (d : PyData) : List PyData → Option Nat
  | [] => none
  | x :: xs => if PyData.eqv x d = true then some 0 else (idxD d xs).map (· + 1)
theorem idxD_at {d : PyData} : ∀ {ds : List PyData} {j : Nat}, idxD d ds = some j → (∃ z, ds[j]? = some z ∧ PyData.eqv z d = true) ∧ ∀ m z, m < j → ds[m]? = some z → PyData.eqv z d = false
  | [], _, h => by cases h
  | x :: xs, j, h => by
    unfold idxD at h
    by_cases hx : PyData.eqv x d = true
    · rw [if_pos hx] at h
      cases h
      exact ⟨⟨x, rfl, hx⟩, fun m z hm _ => absurd hm (Nat.not_lt_zero m)⟩
    · rw [if_neg hx] at h
      cases q : idxD d xs with
      | none => rw [q] at h; cases h
      | some i =>
        rw [q] at h
        cases h
        obtain ⟨⟨z, hz, hzd⟩, hn⟩ := idxD_at q
        refine ⟨⟨z, by simpa using hz, hzd⟩, fun m z' hm hz' => ?_⟩
        cases m with
        | zero =>
          have : x = z' := by simpa using hz'
          subst this
          simpa using hx
        | succ m => exact hn m z' (Nat.lt_of_succ_lt_succ hm) (by simpa using hz')
def opIndex : List M → Option M
  | [m, .dat d] => match m.asList with
    | some ds => if isFlat d = true ∧ ds.all isFlat = true then (match idxD d ds with
      | some j => some (.dat (.int (j : Nat)))
      | none => none) else none
    | none => none
  | _ => none
theorem os_index : OpMt K (rIndex K) opIndex := by
  intro vs ms m H G Q e hr ho hq
  unfold opIndex at ho
  split at ho
  · rename_i m0 d
    obtain ⟨v0, v1, f0, f1, rfl, r0, r1⟩ := RBs.cases2 hr
    cases q1 : m0.asList with
    | none => rw [q1] at ho; cases ho
    | some ds =>
      rw [q1] at ho
      simp only at ho
      by_cases hz : isFlat d = true ∧ ds.all isFlat = true
      · rw [if_pos hz] at ho
        cases q2 : idxD d ds with
        | none => rw [q2] at ho; cases ho
        | some j =>
          rw [q2] at ho
          cases ho
          obtain ⟨a, ws, rfl, h1, h2⟩ := r0.asList e q1
          obtain ⟨⟨z, hz1, hz2⟩, hn⟩ := idxD_at q2
          obtain ⟨vz, hv, dz⟩ := DaAll.get h2 hz1
          have fl : ∀ {i : Nat} {y : PyData}, ds[i]? = some y → isFlat y = true := fun {i y} hy => List.all_eq_true.mp hz.2 y (List.mem_of_getElem? hy)
          have rd := r1.dat'
          refine ⟨a, ws, v1, j, vz, rfl, rfl, .inl h1, da_flatV rd hz.1, da_flatVs h2 hz.2, hv, ?_, fun m v' hm hv' => ?_, hq _ H G [] (New.refl e) (.dat (.int _))⟩
          · rw [eqV_eqv dz rd (fl hz1) hz.1]
            exact hz2
          · obtain ⟨y, hy, dy⟩ := DaAll.getV h2 hv'
            rw [eqV_eqv dy rd (fl hy) hz.1]
            exact hn m y hm hy
      · rw [if_neg hz] at ho; cases ho
  · cases ho
end
section
variable {P : Program} {w : World} {K : PySem.W.Frag} {mg : Str → Option Value} {base : Heap} {k : Nat} {X : Fam P w K mg base k} {W : WX} {b : Bool} {rf : List Nat} {e f : Expr} {pos : Pos}
theorem de_index {o : Expr} {apos cpos : Pos} {bo ba : Bool} {fo : Rho → Out Vl} {fr : Rho → Out (List Vl)} (ho : DE X W bo o fo) (ha : DA X W ba [e] fr) (h1 : MOk X o "index" apos cpos := by intro _; exact ⟨by kernel_rfl, by kernel_rfl⟩) (h2 : MFew X e [] cpos := by intro _; kernel_rfl) (h3 : NSt X e [] cpos := by intro _; exact ⟨by kernel_rfl, by kernel_rfl⟩) :
    DE X W (bo && ba) (.Call (.Attribute o "index" apos) [e] [] cpos) (cMeth gdL ba opIndex fo fr) := by
  obtain ⟨to, a1, a2⟩ := ho
  obtain ⟨ta, b1, b2⟩ := ha
  refine ⟨tBM K "list" (rIndex K) to ta, fun i => ?_, ev_meth ty_list os_index a2 b2⟩
  have h := pe_bm (X := X.cx i) (apos := apos) (cpos := cpos) PySem.F.plainAttrs_list PySem.F.slot_list_index PySem.F.type_list_index mt_index (a1 i) (b1 i) (h1 i).1 (h2 i) (h1 i).2 (h3 i).1 (h3 i).2
  rw [X.eK i] at h
  exact h
end
end DL
/-! ### d.update(e), dicts of data -/
namespace PySem.RT
open PySem PySem.Spec PyProof.Rows
theorem meets_update_self {prog : Program} {w : World} {K : Type} [DecidableEq K] (knd : KeyKind prog w K) (d : Addr) :
    MeetsIn prog w (Builtin.«dict.update» ⟨[.ref d, .ref d], []⟩) (fun _ R s => ∃ kvs, s.heap.DictOf knd d kvs ∧ R (.ok (.ret .none)) s) :=
  .of_wp fun A R s ⟨kvs, hd, h⟩ => by
    unfold Builtin.«dict.update»
    refine wpAny_bind ?_
    unfold Builtin.Dict.selfAndRest
    refine wpAny_bind (wpAny_notOrdered_dict hd.typeIs ?_)
    show wpAny _ _ (pure (d, [Value.ref d])) _ _ s
    refine wpAny_pure ?_
    show wpAny _ _ (Builtin.Dict.updateFrom "dict.update" d (.ref d) [] .none) _ _ s
    unfold Builtin.Dict.updateFrom
    refine wpAny_bind (wpAny_typeOf hd.typeIs ?_)
    rw [if_neg (by decide)]
    refine wpAny_bind ?_
    unfold Builtin.Dict.merge
    refine wpAny_bind ?_
    · unfold Builtin.Dict.readDirectly
      refine wpAny_bind (wpAny_isInstance hd.typeIs isSubtype_dict_dict ?_)
      simp only [Bool.not_true, Bool.false_eq_true, if_false]
      refine wpAny_bind (wpAny_specialOf hd.typeIs F.slot_dict_iter.lookup (wpAny_pure ?_))
      simp only [beq_self_eq_true, if_true]
      refine wpAny_bind (wpAny_pure ?_)
      unfold Builtin.Dict.mergeDict
      simp only [beq_self_eq_true, if_true]
      refine wpAny_bind (wpAny_rule ?_)
      refine wpAny_pure ?_
      show wpAny _ _ (Builtin.Dict.addKeywords d [] >>= _) _ _ _
      exact wpAny_bind (wpAny_pure (wpAny_pure ⟨.none, rfl, h⟩))
end PySem.RT
namespace DL
open PySem PySem.Spec PyProof.Rows L2
def rUpd : V → List V → Hp → VK → Prop := fun x xs H Q => ∃ a c kvs mor, x = .ref a ∧ xs = [.ref c] ∧ H a = some (.dK kvs) ∧ H c = some (.dK mor) ∧ kvs.length + mor.length ≤ sizeLine ∧ (a = c → Q .non H) ∧ (a ≠ c → Q .non (upd H a (.dK (mergeK kvs mor))))
theorem mt_upd {X : Cx} : MtR X "dict.update" rUpd := by
  intro pins s σ H x xs v us Q I rx rv h
  obtain ⟨a, c, kvs, mor, rfl, rfl, ea, ec, hz, q1, q2⟩ := h
  cases rx
  obtain ⟨u, rfl, ru⟩ := vals1 rv
  cases ru
  obtain ⟨z, hd, vs, rel, dd⟩ := dk_of I.hok ea
  by_cases hac : a = c
  · subst hac
    exact call_meetsIn PySem.F.slot_dict_update dd.typeIs PySem.F.entry_dict_update (PySem.F.args_dict_update_2 _ _) (PySem.RT.meets_update_self (mixKind X.prog X.w) a) ⟨vs, dd, .non, H, I, rfl, q1 rfl⟩
  · obtain ⟨z2, hd2, ws, rel2, dd2⟩ := dk_of I.hok ec
    refine call_meetsIn PySem.F.slot_dict_update dd.typeIs PySem.F.entry_dict_update (PySem.F.args_dict_update_2 _ _) (meets_dict_update (mixKind X.prog X.w) a c hac hd2) ⟨vs, ws, dd, dd2, by rw [← rel.length, ← rel2.length]; exact hz, fun h' h1 h2 h3 => ?_⟩
    have he : ∃ q, h'.get? a = some q := let ⟨q, _, _, hq, _⟩ := h1; ⟨q, hq⟩
    have hl : (mergeK kvs mor).length ≤ sizeLine := Nat.le_trans (length_mergeK mor kvs) hz
    exact ⟨.non, _, d_write I (by rw [ea]; exact True.intro) h3 he (dk_new hl hd (KV.merge rel2 rel) h1), rfl, q2 hac⟩
end DL
namespace DL
open PySem PySem.Spec PyProof.Rows L2
section
variable {K : PySem.W.Frag} {W : WX} {b : Bool} {τ σ : St} {τm ρ : Rho} {H G H1 G1 : Hp} {fp fp1 : List Addr} {rf : List Nat}
def mrgT : List Key → List PyData → List (Key × PyData) → List Key × List PyData
  | ks, ds, [] => (ks, ds)
  | ks, ds, (k, d) :: r => match fnd k ks with
    | some j => mrgT ks (ds.set j d) r
    | none => mrgT (ks ++ [k]) (ds ++ [d]) r
theorem DaAll.set {v : V} {d : PyData} : ∀ {j : Nat} {vs : List V} {ds : List PyData}, DaAll K G vs ds → Da K G v d → DaAll K G (vs.set j v) (ds.set j d)
  | _, _, _, .nil, _ => .nil
  | 0, _, _, .cons _ t, h => .cons h t
  | j + 1, _, _, .cons r t, h => .cons r (DaAll.set t h)
theorem mrg_da : ∀ {ks' : List Key} {vs' : List V} {ds' : List PyData} {ks : List Key} {vs : List V} {ds : List PyData}, ks'.length = vs'.length → DaAll K G vs' ds' → ks.length = vs.length → ks.Nodup → DaAll K G vs ds →
    ∃ vs2, mergeK (ks.zip vs) (ks'.zip vs') = (mrgT ks ds (ks'.zip ds')).1.zip vs2 ∧ (mrgT ks ds (ks'.zip ds')).1.length = vs2.length ∧ (mrgT ks ds (ks'.zip ds')).1.Nodup ∧ DaAll K G vs2 (mrgT ks ds (ks'.zip ds')).2
  | [], _, _, ks, vs, ds, _, _, h1, h2, h3 => ⟨vs, rfl, h1, h2, h3⟩
  | k :: ks', [], _, ks, vs, ds, h0, _, _, _, _ => by simp at h0
  | k :: ks', v :: vs', _, ks, vs, ds, h0, .cons (d := d) (ds := ds') r t, h1, h2, h3 => by
    show ∃ vs2, mergeK (putK (ks.zip vs) k v) (ks'.zip vs') = (mrgT ks ds ((k, d) :: ks'.zip ds')).1.zip vs2 ∧ (mrgT ks ds ((k, d) :: ks'.zip ds')).1.length = vs2.length ∧ (mrgT ks ds ((k, d) :: ks'.zip ds')).1.Nodup ∧ DaAll K G vs2 (mrgT ks ds ((k, d) :: ks'.zip ds')).2
    unfold mrgT
    cases q : fnd k ks with
    | some j =>
      simp only
      rw [putK_at h1 h2 q]
      exact mrg_da (by simpa using h0) t (by rw [List.length_set]; exact h1) h2 (DaAll.set (vs := vs) (ds := ds) h3 r)
    | none =>
      simp only
      rw [putK_add h1 q]
      exact mrg_da (by simpa using h0) t (by rw [List.length_append, List.length_append, h1]; rfl) (nd_snoc h2 (fnd_none q)) (DaAll.append h3 (.cons r .nil))
theorem fnd_zip {k : Key} {v : V} : ∀ {ks : List Key} {vs : List V}, ks.Nodup → (k, v) ∈ ks.zip vs → ∃ n, fnd k ks = some n ∧ vs[n]? = some v
  | [], _, _, h => by simp at h
  | x :: ks, [], _, h => by simp at h
  | x :: ks, y :: vs, hn, h => by
    rw [List.nodup_cons] at hn
    unfold fnd
    by_cases hx : x = k
    · rw [if_pos hx]
      rw [List.zip_cons_cons] at h
      rcases List.mem_cons.mp h with h | h
      · cases h; exact ⟨0, rfl, rfl⟩
      · exact absurd (List.of_mem_zip h).1 (hx ▸ hn.1)
    · rw [if_neg hx]
      rw [List.zip_cons_cons] at h
      rcases List.mem_cons.mp h with h | h
      · cases h; exact absurd rfl hx
      · obtain ⟨n, h1, h2⟩ := fnd_zip hn.2 h
        exact ⟨n + 1, by rw [h1]; rfl, by simpa using h2⟩
theorem merge_own {ks : List Key} {vs : List V} (hl : ks.length = vs.length) (hn : ks.Nodup) : ∀ {more : List (Key × V)}, (∀ p ∈ more, p ∈ ks.zip vs) → mergeK (ks.zip vs) more = ks.zip vs
  | [], _ => rfl
  | (k, v) :: r, h => by
    show mergeK (putK (ks.zip vs) k v) r = _
    obtain ⟨n, h1, h2⟩ := fnd_zip hn (h _ List.mem_cons_self)
    have e : vs.set n v = vs := by
      apply List.ext_getElem?
      intro i
      by_cases hi : n = i
      · subst hi
        rw [List.getElem?_set_self (List.getElem?_eq_some_iff.mp h2).1, h2]
      · rw [List.getElem?_set_ne hi]
    rw [putK_at hl hn h1, e]
    exact merge_own hl hn fun p hp => h p (List.mem_cons_of_mem _ hp)
theorem SA.dkAt {i : Nat} {π : List Stp} {ks : List Key} {xs : List M} {ds : List PyData} (S : SA K σ ρ H G fp) (e : rdP ρ i π = some (.dk ks xs)) (hd : datsOf xs = some ds) :
    ∃ v0 l vs, σ[i]? = some (some v0) ∧ atP H v0 π = some (.ref l) ∧ H l = some (.dK (ks.zip vs)) ∧ ks.length = vs.length ∧ ks.Nodup ∧ DaAll K G vs ds ∧
      ∀ ks2 vs2 ds2, ks2.length = vs2.length → ks2.Nodup → DaAll K G vs2 ds2 → ∃ fp', SA K σ (wrP ρ i π (.dk ks2 (ds2.map M.dat))) (upd H l (.dK (ks2.zip vs2))) G fp' ∧ Tr H G fp (upd H l (.dK (ks2.zip vs2))) G fp' := by
  obtain ⟨v0, vc, fa, fb, h1, h2, h3, h4, h5⟩ := S.focus e
  cases h3 with
  | dk q1 q2 q3 q4 =>
    rename_i l vs fx
    have nd4 := h4.nodup_iff.mpr S.nd
    rw [List.nodup_append] at nd4
    have lq : l ∈ fp := h4.mem_iff.mp (List.mem_append_left _ List.mem_cons_self)
    have gl0 : G l = none := S.free l lq
    refine ⟨v0, l, vs, h1, h2, q1, q2, q4, q3.datsOf hd, fun ks2 vs2 ds2 a1 a2 a3 => ?_⟩
    have same : ∀ a, a ≠ l → upd H l (.dK (ks2.zip vs2)) a = H a := fun a ha => upd_ne ha
    have es : Ext G (upd H l (.dK (ks2.zip vs2))) := fun a o z => by
      rw [same a fun w => by rw [w, gl0] at z; cases z]
      exact S.same a o z
    have nx : RM K G (upd H l (.dK (ks2.zip vs2))) (.ref l) (.dk ks2 (ds2.map M.dat)) (l :: []) := .dk upd_same a1 (RMs.ofDats a3) a2
    have S2 := h5 G (upd H l (.dK (ks2.zip vs2))) (.dk ks2 (ds2.map M.dat)) [l] (Ext.refl G) es (fun a ha => same a fun w => nd4.2.2 l List.mem_cons_self a ha w.symm)
      (fun a ha => S.free a (h4.mem_iff.mp (List.mem_append_right _ ha))) nx (fun a ha => by rw [List.mem_singleton.mp ha]; exact gl0) (by simp) (fun a ha hb => by rw [List.mem_singleton.mp ha] at hb; exact nd4.2.2 l List.mem_cons_self l hb rfl)
    refine ⟨_, S2, Ext.refl G, fun a o z n => ?_, fun a ha => .inl ?_, fun a o z => .inl z⟩
    · rw [same a fun w => n (by rw [w]; exact lq)]
      exact z
    · rcases List.mem_append.mp ha with ha | ha
      · rw [List.mem_singleton.mp ha]; exact lq
      · exact h4.mem_iff.mp (List.mem_append_right _ ha)
def cUpd (br : Bool) (fo fa : Rho → Out Vl) : Rho → Out Vl := fun ρ => match cRecv gdD br fo (aCons true fa aNil) ρ with
  | .ok (.plc i π, [.plc j π']) ρ1 => match rdP ρ1 i π, rdP ρ1 j π' with
    | some (.dk ks xs), some (.dk ks' xs') => match datsOf xs, datsOf xs' with
      | some ds, some ds' => if ks.length + ks'.length ≤ sizeLine then .ok (.val (.dat .none)) (wrP ρ1 i π (.dk (mrgT ks ds (ks'.zip ds')).1 ((mrgT ks ds (ks'.zip ds')).2.map M.dat))) else .bad
      | _, _ => .bad
    | _, _ => .bad
  | .ok _ _ => .bad
  | .exc x ρ1 => .exc x ρ1
  | .bad => .bad
theorem ev_upd {bo ba : Bool} {to te : TE} {fo fa : Rho → Out Vl} (ho : EvE K W bo to fo) (ha : EvE K W ba te fa) : EvE K W false (tBM K "dict" rUpd to (tCons te tNil)) (cUpd (ba && true) fo fa) := by
  intro τ σ τm ρ H G fp Q hl S P
  unfold cUpd at P
  refine recv_core (R := fun x xs H2 => rUpd x xs H2 Q) ty_dict ho (ea_cons ha ea_nil) hl S (fun x as ρ1 hc => ?_) (fun x ρ1 hc => ?_) (fun hc => ?_)
  · rw [hc] at P
    intro v vs H2 G2 fp2 T2 e2 S2 p1 ps
    split at P
    · rename_i i π j π' ρ2 heq
      cases heq
      cases ps with
      | cons pa ps =>
        rename_i v1 vr
        cases ps
        have S2 : SA K (some v1 :: some v :: (τ ++ σ)) (none :: none :: (τm ++ ρ1)) H2 G2 fp2 := S2
        split at P
        · rename_i ks xs ks' xs' r1 r2
          split at P
          · rename_i ds ds' d1 d2
            by_cases hz : ks.length + ks'.length ≤ sizeLine
            · rw [if_pos hz] at P
              obtain ⟨fx, ra⟩ := SA.rd (s := [some v1, some v]) (m := [none, none]) (j := 0) (v := v1) (a := .plc j π') S2 rfl hl rfl rfl pa r2
              cases ra with
              | dk a1 a2 a3 a4 =>
                rename_i c vs' fy _
                have da' := a3.datsOf d2
                have r1' : rdP ((none :: none :: τm) ++ ρ1) ((none :: none :: τm).length + i) π = some (.dk ks xs) := by rw [rdP_pre]; exact r1
                obtain ⟨v0, l, ws, z1, z2, z3, z4, z5, z6, z7⟩ := SA.dkAt (σ := some (.ref c) :: some v :: (τ ++ σ)) (ρ := (none :: none :: τm) ++ ρ1) S2 r1' d1
                have := plc_at (s := [some (.ref c), some v]) (m := [none, none]) rfl hl p1 (by rw [show ([none, none] : Rho).length + (τm.length + i) = (none :: none :: τm).length + i by simp; omega]; exact z1) z2
                subst this
                obtain ⟨vs2, m1, m2, m3, m4⟩ := mrg_da (G := G2) (ks' := ks') (vs' := vs') (ds' := ds') (ks := ks) (vs := ws) (ds := ds) a2 da' z4 z5 z6
                obtain ⟨fp', S3, T3⟩ := z7 _ vs2 _ m2 m3 m4
                rw [wrP_pre] at S3
                rw [← m1] at S3 T3
                have fin : Q .non (upd H2 l (.dK (mergeK (ks.zip ws) (ks'.zip vs')))) := by
                  obtain ⟨f1, S4, h4⟩ := SA.drop (v := some (.ref c)) (m := none) S3
                  obtain ⟨f2, S5, h5⟩ := SA.drop (v := some (.ref l)) (m := none) S4
                  exact P .non _ G2 f2 ((T2.trans T3).sub fun a ha => h4 a (h5 a ha)) (fun z => nomatch z) (S5.pushD .non) trivial
                refine ⟨l, c, ks.zip ws, ks'.zip vs', rfl, rfl, z3, a1, by rw [zip_length z4, zip_length a2]; exact hz, fun hlc => ?_, fun _ => fin⟩
                subst hlc
                have e := z3.symm.trans a1
                have e' : ks.zip ws = ks'.zip vs' := by injection e with e; injection e
                rw [← e', merge_own z4 z5 (fun p hp => hp)] at fin
                have eu : upd H2 l (.dK (ks.zip ws)) = H2 := by
                  funext a
                  by_cases ha : a = l
                  · rw [ha, upd_same, z3]
                  · rw [upd_ne ha]
                rw [eu] at fin
                exact fin
            · rw [if_neg hz] at P; exact P.elim
          · exact P.elim
        · exact P.elim
    · exact P.elim
    · rename_i heq; cases heq
    · rename_i heq; cases heq
  · rw [hc] at P
    exact fun cls d H' G' fp' T' S' r => P cls d H' G' fp' T' S' r
  · rw [hc] at P; exact P
end
section
variable {P : Program} {w : World} {K : PySem.W.Frag} {mg : Str → Option Value} {base : Heap} {k : Nat} {X : Fam P w K mg base k} {W : WX} {b : Bool} {rf : List Nat} {e f : Expr} {pos : Pos}
theorem de_upd {o : Expr} {apos cpos : Pos} {bo ba : Bool} {fo fa : Rho → Out Vl} (ho : DE X W bo o fo) (ha : DE X W ba e fa) (h1 : MOk X o "update" apos cpos := by intro _; exact ⟨by kernel_rfl, by kernel_rfl⟩) (h2 : MFew X e [] cpos := by intro _; kernel_rfl) (h3 : NSt X e [] cpos := by intro _; exact ⟨by kernel_rfl, by kernel_rfl⟩) :
    DE X W false (.Call (.Attribute o "update" apos) [e] [] cpos) (cUpd (ba && true) fo fa) := by
  obtain ⟨to, a1, a2⟩ := ho
  obtain ⟨ta, b1, b2⟩ := ha
  refine ⟨tBM K "dict" rUpd to (tCons ta tNil), fun i => ?_, ev_upd a2 b2⟩
  have h := pe_bm (X := X.cx i) (apos := apos) (cpos := cpos) PySem.F.plainAttrs_dict PySem.F.slot_dict_update PySem.F.type_dict_update mt_upd (a1 i) (pa_cons (b1 i) pa_nil (h3 i).1) (h1 i).1 (h2 i) (h1 i).2 (h3 i).1 (h3 i).2
  rw [X.eK i] at h
  exact h
end
end DL

set_option Elab.async false
set_option linter.all false
set_option maxRecDepth 100000
/-! DPa: raise, try. -/
namespace L2
open PySem PySem.Spec PyProof.Rows
/-- X(), X an own exception class without own __init__ -/
theorem pmk_own0 {X : Cx} {C : Addr} {bmB : List Value} {B newId initId : String} {x : Str} {p pos : Pos} (F : ExcBaseFacts B newId initId bmB) (q : PySem.W.excIn X.K C bmB newId = true) (gC : X.mg x = some (.ref C))
    (kC : PySem.W.keepIn X.K (.ref C) = true) (r : Raises X (.ref C)) (hg : Gl X x) (hdb : (x == ("__debug__" : Str)) = false) :
    PMk X (.Call (.Name x p) [] [] pos) (fun _ H Q => Q (.ref C) none H) := by
  intro pins s σ H Q I h
  refine wpAny_Call_Name_kw (ld_glob I hg gC ?_ hdb)
  refine PySem.W.callWith_K0 I.kIn kC ?_
  show wpAny _ _ (call (.ref C) []) _ _ _
  obtain ⟨bm, N, nm, qn, bs, hdct, sn, sub, ab, col, dd, k0, k1, k2, k3, k5, mN, hC, hN, hni, T⟩ := exc_obj I.kIn q
  refine wpAny_call_exc_subT F T hC hN hni (fun h' e hm => ?_) (Nat.zero_le _)
  exact mk_of I hm r h (I.hok.gone hm.new)
end L2
namespace DL
open PySem PySem.Spec PyProof.Rows L2
section
variable {P : Program} {w : World} {K : PySem.W.Frag} {mg : Str → Option Value} {base : Heap} {k : Nat} {X : Fam P w K mg base k} {W : WX} {b : Bool} {rf : List Nat}
def sRaise (x : Xv) : Rho → Fl := fun ρ => .exc x ρ
theorem ds_raise0 {x : Str} {p pos pos' : Pos} (q : (He.Fa.exc x).ok K = true) (gC : mg x = some (.ref (He.ga K x))) (tk : FT X W) (hg : GlF X x := by intro _; kernel_rfl) (hdb : (x == ("__debug__" : Str)) = false := by kernel_rfl)
    (hcm : ∀ i, (X.cx i).calm = true := by intro _; kernel_rfl) : DS X W rf (.Raise (some (.Call (.Name x p) [] [] pos)) none pos') (sRaise ⟨x, none⟩) := by
  obtain ⟨q1, q2⟩ := He.ba q
  obtain ⟨q2, q3⟩ := He.ba q2
  obtain ⟨q3, q4⟩ := He.ba q3
  refine ⟨_, fun i => ps_raise (hcm i) (tk i) (pmk_own0 PySem.F.excBase_ValueError (C := He.ga K x) (by rw [X.eK i]; exact q1) (by rw [X.eM i]; exact gC) (by rw [X.eK i]; exact q2) (raises_own (by rw [X.eK i]; exact of_decide_eq_true q3) (by rw [X.eK i]; exact of_decide_eq_true q4)) (hg i) hdb), ?_⟩
  intro σ ρ H G fp D S P
  exact P _ _ σ H G fp (Tr.refl H G fp) S (Kp.refl σ) ⟨rfl, rfl⟩
/-! ### try -/
def trF (X : Fam P w K mg base k) (W : WX) : Fam P w K mg base k where
  ι := { q : X.ι × List (Addr × Obj) × (Value → Shared → Prop) // Takes ((X.cx q.1).tr q.2.1 q.2.2) W ∧ PassesOwn (model (X.cx q.1).prog (X.cx q.1).w) (X.cx q.1).A (X.cx q.1).env q.2.2 }
  cx := fun q => (X.cx q.1.1).tr q.1.2.1 q.1.2.2
  eP := fun q => X.eP q.1.1
  ew := fun q => X.ew q.1.1
  eK := fun q => X.eK q.1.1
  eM := fun q => X.eM q.1.1
  eB := fun q => X.eB q.1.1
  cm := X.cm
  room := fun q => X.room q.1.1
  nd := fun q => X.nd q.1.1
  own := fun q => q.2.2
theorem ft_tr : FT (trF X W) W := fun q => q.2.1
theorem room_mark {c : Bool} {A : Around} {e : Option Value} (h : RoomB c k A) : RoomB false k (A.mark e) := ⟨fun z => Bool.noConfusion z, h.2, h.3⟩
def suF (X : Fam P w K mg base k) : Fam P w K mg base k where
  ι := { q : X.ι × Addr × Obj × List (Addr × Obj) × Value × Option Addr // Zc q.2.2.2.2.1 q.2.2.2.2.2 q.2.2.1 ∧ ∃ vs, q.2.2.1.data = .fields vs }
  cx := fun q => (X.cx q.1.1).suite q.1.2.1 ((q.1.2.1, q.1.2.2.1) :: q.1.2.2.2.1)
  eP := fun q => X.eP q.1.1
  ew := fun q => X.ew q.1.1
  eK := fun q => X.eK q.1.1
  eM := fun q => X.eM q.1.1
  eB := fun q => X.eB q.1.1
  cm := false
  room := fun q => room_mark (X.room q.1.1)
  nd := fun q => X.nd q.1.1
  own := fun q => PassesOwn.never
theorem ft_su : FT (suF X) W0 := fun q => takes0 _
def noX : Fl → Fl
  | .exc _ _ => .bad
  | o => o
def sTry (tab : List (Str × Bool)) (g gs : Rho → Fl) : Rho → Fl := fun ρ => match g ρ with
  | .exc x ρ1 => match tab.lookup x.C with
    | some true => noX (gs ρ1)
    | some false => .exc x ρ1
    | none => .bad
  | o => o
theorem mem_of_lookup {tab : List (Str × Bool)} {x : Str} {c : Bool} : tab.lookup x = some c → (x, c) ∈ tab := by
  induction tab with
  | nil => intro h; cases h
  | cons p r ih =>
    intro h
    rw [List.lookup_cons] at h
    split at h
    · rename_i e
      cases h
      have : x = p.1 := by simpa using e
      rw [this]
      exact List.mem_cons_self
    · exact List.mem_cons_of_mem _ (ih h)
theorem ds_try1 {x : Str} {c : Value} {body suite : List Stmt} {b₀ : Stmt} {np pos pos' : Pos} (tab : List (Str × Bool)) {g gs : Rho → Fl} (hb : ∀ W', DSs (trF X W') W' rf body g) (hsu : DSs (suF X) W0 rf (b₀ :: suite) gs) (tk : FT X W)
    (hm : mg x = some c) (htab : ∀ p ∈ tab, PySem.W.exmOne K (.ref (He.ga K p.1)) c = some p.2) (hg : GlF X x := by intro _; kernel_rfl) (hdb : (x == ("__debug__" : Str)) = false := by kernel_rfl)
    (hs : ∀ i, (X.cx i).stack = (X.cx i).env :: (X.cx i).outer := by intro _; kernel_rfl) (hf : ∀ i, (X.cx i).env.frame = some (X.cx i).env.locals := by intro _; kernel_rfl) :
    DS X W rf (.Try body [.ExceptHandler (some (.Name x np)) none (b₀ :: suite) pos'] [] [] pos) (sTry tab g gs) := by
  obtain ⟨ts, s1, s2⟩ := hsu
  let tb : WX → TS := fun W' => Classical.choose (hb W')
  have hb1 : ∀ W' i, PSs ((trF X W').cx i) body (tb W') := fun W' => (Classical.choose_spec (hb W')).1
  have hb2 : ∀ W', EvS K W' rf (tb W') g := fun W' => (Classical.choose_spec (hb W')).2
  refine ⟨fun D σ H => tb (wOnly K c (fun _ _ _ => ts) W D) D σ H, fun i => ?_, ?_⟩
  · have h := ps_try_only (X := X.cx i) (c := c) (tb := tb) (ts := fun _ _ _ => ts) (np := np) (pos := pos) (pos' := pos') (hs i) (hf i) ⟨hg i, hdb, .inl (by rw [X.eM i]; exact hm)⟩ (tk i)
      (fun W' pn xe tk' ow => hb1 W' ⟨(i, pn, xe), tk', ow⟩) (fun a oe cls d pn hz hv => s1 ⟨(i, a, oe, pn, cls, d), hz, hv⟩)
    rw [X.eK i] at h
    exact h
  · intro σ ρ H G fp D S P
    refine hb2 _ σ ρ H G fp D S ?_
    unfold sTry at P
    cases hgr : g ρ with
    | exc x1 ρ1 =>
      rw [hgr] at P
      simp only at P
      intro cls d σ' H' G' fp' T S' kp r
      cases hl : tab.lookup x1.C with
      | none => rw [hl] at P; exact P.elim
      | some b1 =>
        rw [hl] at P
        have he := htab _ (mem_of_lookup hl)
        refine ⟨b1, by rw [r.1]; exact he, fun e a ha => ?_, fun e => ?_⟩
        · subst e
          simp only at P
          have P2 := PostS.tr T kp P
          refine s2 σ' ρ1 H' G' fp' D S' ?_
          cases hq : gs ρ1 with
          | exc _ _ => rw [hq] at P2; exact P2.elim
          | nx _ => rw [hq] at P2; exact P2
          | rt _ _ => rw [hq] at P2; exact P2
          | bk _ => rw [hq] at P2; exact P2
          | ct _ => rw [hq] at P2; exact P2
          | bad => rw [hq] at P2; exact P2
        · subst e
          exact P cls d σ' H' G' fp' T S' kp r
    | nx _ => rw [hgr] at P; exact P
    | rt _ _ => rw [hgr] at P; exact P
    | bk _ => rw [hgr] at P; exact P
    | ct _ => rw [hgr] at P; exact P
    | bad => rw [hgr] at P; exact P
end
end DL

set_option Elab.async false
set_option linter.all false
set_option maxRecDepth 100000
/-! DPb: enumerate, over lists and tuples. -/
namespace RZ
open PySem
open PySem.Sem (wp)
open PySem.AutoSeq1 (wpAny_loadPart')
theorem draws_tuple {prog : Program} {w : World} {A : Around} (hh : A.handled = none) (it l : Addr) (hne : l ≠ it) (items : Array Value) :
    Draws prog w A it [it, l] items.size (fun i v => items[i]? = some v) (fun i h => h.IsTupleIter it l i ∧ h.IsTuple l items) where
  live := fun _ _ st => let ⟨o, ho, _⟩ := st.1; ⟨o, ho⟩
  frame := fun _ _ _ st hk => ⟨st.1.at fun o e => hk it (by simp) o e, st.2.at fun o e => hk l (by simp) o e⟩
  item := fun i s Q E hi st hQ => by
    refine nextOf_tuple_item st.1 st.2 (x := items[i]) (by simp [hi]) fun h' hit' hs' => ?_
    exact hQ _ h' s.toks (by simp [hi]) ⟨hit', st.2.extBut hs'.extBut hne⟩ hs'
  done := fun s Q E st hE => nextOf_tuple_end hh st.1 st.2 (by simp) hE
theorem draws_tupE {prog : Program} {w : World} {A : Around} (hh : A.handled = none) (it l : Addr) (items : Array Value) (n : Nat) (hn : items[n]? = none) :
    Draws prog w A it [it, l] n (fun _ _ => True) (fun i h => i = n ∧ h.IsTupleIter it l i ∧ h.IsTuple l items) where
  live := fun _ _ st => let ⟨o, ho, _⟩ := st.2.1; ⟨o, ho⟩
  frame := fun _ _ _ st hk => ⟨st.1, st.2.1.at fun o e => hk it (by simp) o e, st.2.2.at fun o e => hk l (by simp) o e⟩
  item := fun i s Q E hi st hQ => absurd st.1 (Nat.ne_of_lt hi)
  done := fun s Q E st hE => nextOf_tuple_end hh st.2.1 st.2.2 hn hE
theorem meets_enumT_new (l : Addr) (items : Array Value) (n : Nat) (dct : Option Addr) (sl : Array (Option Value)) :
    Meets (Builtin.«enumerate.__new__» ⟨[.type "enumerate", .ref l], []⟩) (fun _ R s => s.heap.get? l = some { cls := .type "tuple", dict := dct, data := .seq items n, slots := sl } ∧
      R (.ok (.ret (.ref (s.heap.push { cls := .type "tuple_iterator", data := .fields #[.ref l, .int 0 0] }).objs.size)))
        { s with heap := (s.heap.push { cls := .type "tuple_iterator", data := .fields #[.ref l, .int 0 0] }).push { cls := .type "enumerate", data := .fields #[.none, .bool false, .ref s.heap.objs.size, rawInt 0, .none, .none] } }) :=
  .of_wp fun prog w A R s h => by
    obtain ⟨hp, g, d, tk, os⟩ := s; obtain ⟨hl, h⟩ := h
    have hsub := sub_enumerate
    have hL : Heap.IsTuple (Shared.heap ⟨hp, g, d, tk, os⟩) l items := ⟨_, hl, rfl, n, rfl⟩
    wp_walk using wpAny_loadPart' hl
    refine wpAny_stack_any fun st => wpAny_pure ?_
    split
    · rename_i c _ _ _ _ _
      cases (c == Value.type "enumerate")
      · wp_walk using wpAny_loadPart' hl, wpAny_pyIter_tuple hL
        exact ⟨_, rfl, h⟩
      · wp_walk using wpAny_loadPart' hl, wpAny_pyIter_tuple hL
        exact ⟨_, rfl, h⟩
    · wp_walk using wpAny_loadPart' hl, wpAny_pyIter_tuple hL
      exact ⟨_, rfl, h⟩
section
variable {prog : Program} {w : World} {A : Around} {E : Value → Shared → Prop} {s : Shared}
theorem call_enumerate_tuple {l : Addr} {items : Array Value} {Q : Value → Shared → Prop} (hL : s.heap.IsTuple l items)
    (h : ∀ h', IsEnum h' (s.heap.objs.size + 1) s.heap.objs.size 0 .none → h'.IsTupleIter s.heap.objs.size l 0 → h'.objs.size = s.heap.objs.size + 2 →
      (∀ b o, s.heap.get? b = some o → h'.get? b = some o) → Q (.ref (s.heap.objs.size + 1)) { s with heap := h' }) :
    wpAny (model prog w) A (call (.type "enumerate") [.ref l]) Q E s := by
  obtain ⟨⟨c, dct, dt, sl⟩, hl, hc, n, hd⟩ := hL
  replace hc : c = .type "tuple" := hc
  replace hd : dt = .seq items n := hd
  subst hc hd
  refine callType_new F.called_enumerate (by decide) (F.typeCall_enumerate_1 _) (F.newCall_enumerate_1 _) (fun obj => F.args_object_init_2 obj _) F.entry_enumerate_new
    (meets_enumT_new l items n dct sl) ⟨hl, ?_⟩
  have hz : (s.heap.push { cls := .type "tuple_iterator", data := .fields #[.ref l, .int 0 0] }).objs.size = s.heap.objs.size + 1 := Heap.size_push ..
  show _ ∧ _
  rw [hz]
  have he : IsEnum ((s.heap.push { cls := .type "tuple_iterator", data := .fields #[.ref l, .int 0 0] }).push
      { cls := .type "enumerate", data := .fields #[.none, .bool false, .ref s.heap.objs.size, rawInt 0, .none, .none] }) (s.heap.objs.size + 1) s.heap.objs.size 0 .none := by
    have := Heap.get?_push_size (s.heap.push { cls := .type "tuple_iterator", data := .fields #[.ref l, .int 0 0] })
      (o := { cls := .type "enumerate", data := .fields #[.none, .bool false, .ref s.heap.objs.size, rawInt 0, .none, .none] }) rfl
    rw [hz] at this; exact this
  refine ⟨⟨_, he, rfl⟩, h _ he ⟨_, Heap.get?_push_of_some _ (Heap.get?_push_size _ rfl), rfl, rfl⟩ (by rw [Heap.size_push, hz]) fun b o x => Heap.get?_push_of_some _ (Heap.get?_push_of_some _ x)⟩
end
open PySem.Spec PyProof.Rows L2
/-- the tuple at a as it stands at each turn, its items numbered in new pairs -/
def IteT (K : PySem.W.Frag) (a : Addr) : It :=
  ⟨fun i H => ∃ (xs : List V) (x : V), SqT K H a xs ∧ xs[i]? = some x, fun i H v H' => ∃ T x, v = .ref T ∧ H T = none ∧ H' = upd H T (.tup [.int (i : Nat), x]) ∧ ∀ xs, SqT K H a xs → xs[i]? = some x, fun i H => ∃ xs : List V, SqT K H a xs ∧ xs.length ≤ i⟩
theorem turn_enumT {P : Program} {w : World} {K : PySem.W.Frag} {elts : List Expr} {kk : Nat} {tpos : Pos} (a e it : Addr) (hai : a ≠ it) (hae : a ≠ e) :
    Turn P w K (.Tuple elts kk tpos) (IteT K a) [e, it] e (fun i h => (∃ old, IsEnum h e it ((i : Nat) : Int) old) ∧ h.IsTupleIter it a i ∧ e ≠ it) where
  mem := by simp
  obj := fun i h st b hb => by
    obtain ⟨⟨old, he⟩, ⟨o, ho, hc, hd⟩, _⟩ := st
    have e' : b = e ∨ b = it := by simpa using hb
    rcases e' with z | z
    · rw [z]; exact ⟨_, he, fun v q => nomatch q⟩
    · rw [z]; exact ⟨o, ho, fun v q => by rw [hd] at q; cases q⟩
  keep := fun i h h' st k => let ⟨⟨old, he⟩, hi, hne⟩ := st; ⟨⟨old, k e (by simp) _ he⟩, hi.at fun o q => k it (by simp) o q, hne⟩
  item := by
    intro X hP hw hK hc i pins s σ H E I hf st hg
    subst hP hw hK
    obtain ⟨⟨old, he⟩, hit, hne⟩ := st
    obtain ⟨xs, x, hq, hx⟩ := hg
    obtain ⟨its, rv, p, hz⟩ := I.tuple hq
    obtain ⟨u, hu, ru⟩ := rv.get hx
    have hel : e < s.heap.objs.size := Heap.lt_size he
    have hil : it < s.heap.objs.size := by obtain ⟨_, q, _⟩ := hit; exact Heap.lt_size q
    have D := draws_tuple (prog := X.prog) (w := X.w) (A := X.A.in1) (I.ok.hd hc) it a hai its.toArray
    have hlt : i < its.toArray.size := by
      have := rv.length
      have := (List.getElem?_eq_some_iff.mp hx).1
      simp; omega
    refine wpAny_pyNext_enum_itemD D he ⟨hit, p⟩ hlt hne (by simp [hne, Ne.symm hae]) fun y h' tk hy ho hst' hT hsz hk => ?_
    have ey : u = y := by
      have : its[i]? = some y := by simpa using hy
      rw [hu] at this
      exact Option.some.inj this
    subst ey
    refine ⟨_, rfl, wpAny_letOwnedTupleGo_enum (s := { s with heap := h', toks := tk + 1 }) ho fun h'' he' sb => ?_⟩
    have hT2 : h''.get? s.heap.objs.size = some { cls := .type "tuple", data := .seq #[.int i tk, u] } := (sb.2 _ (Nat.ne_of_gt hel)).trans hT
    have new : ObjOk X.prog X.w (upd H s.heap.objs.size (.tup [.int (i : Nat), x])) h'' s.heap.objs.size (.tup [.int (i : Nat), x]) :=
      ⟨by show 2 ≤ sizeLine; decide, [.int i tk, u], .cons ⟨_, rfl⟩ (.cons ru .nil), ⟨_, hT2, rfl, _, rfl⟩⟩
    have I1 : Inv X pins σ (upd H s.heap.objs.size (.tup [.int (i : Nat), x])) { s with heap := h'', toks := tk + 1 } :=
      I.turnedNew (ch := [e, it]) (fun b ob hb q => (sb.2 b (fun z => hb (by simp [z]))).trans (hk b ob (fun z => hb (by simp [z])) (fun z => hb (by simp [z])) q)) hf (Nat.le_refl _) new
    refine ⟨.ref s.heap.objs.size, _, I1, rfl, ⟨_, x, rfl, I.hok.fresh (Nat.le_refl _), rfl, fun ys hy => by rw [I.tuple_inj hy hq]; exact hx⟩, ⟨⟨u, ?_⟩, hst'.1.at fun o q => (sb.2 it (Ne.symm hne)).trans q, hne⟩, fun b hb => ?_⟩
    · have e1 : ((i + 1 : Nat) : Int) = (i : Int) + 1 := by omega
      rw [e1]; exact he'
    · have hb' : b < s.heap.objs.size := by
        have e' : b = e ∨ b = it := by simpa using hb
        rcases e' with z | z
        · rw [z]; exact hel
        · rw [z]; exact hil
      rw [upd_ne (Nat.ne_of_lt hb')]
      exact (hf b hb).1
  done := by
    intro X hP hw hK hc i pins s σ H E I hf st hg
    subst hP hw hK
    obtain ⟨⟨old, he⟩, hit, hne⟩ := st
    obtain ⟨xs, hq, hx⟩ := hg
    obtain ⟨its, rv, p, hz⟩ := I.tuple hq
    obtain ⟨f0, f1, f2, f3, f4, f5⟩ := hf it (by simp)
    have hl := rv.length
    have D := draws_tupE (prog := X.prog) (w := X.w) (A := X.A.in1) (I.ok.hd hc) it a its.toArray i (by simp; omega)
    exact wpAny_pyNext_enum_endD D he ⟨rfl, hit, p⟩ fun h' eb => ⟨rfl, I.turned (t' := s.toks) (fun b o hb q => eb b o hb q) f0 f1 f3 f4 f5⟩
  self := fun A i s Q E st h => let ⟨⟨_, he⟩, _⟩ := st; wpAny_pyIter_enum he h
/-- enumerate of a list or a tuple -/
def iEnumA (K : PySem.W.Frag) (ta : TA) : TI := fun σ H R => ta σ H fun vs H1 => ∃ a xs, vs = [.ref a] ∧ ((SqL K H1 a xs ∧ R (Ite K a) H1) ∨ (SqT K H1 a xs ∧ R (IteT K a) H1))
theorem pi_enumA {X : Cx} {e : Expr} {ta : TA} {p pos tpos : Pos} {elts : List Expr} {kk : Nat} (hg : Gl X "enumerate") (hm : X.mg "enumerate" = none) (ha : PA X [e] ta) (hs : starEach [e] X.env = [(false, eval e X.env)] := by rfl) :
    PI X (.Tuple elts kk tpos) (.Call (.Name "enumerate" p) [e] [] pos) (iEnumA X.K ta) := by
  refine ⟨fun pins s σ H R I h => ?_⟩
  refine Call_ (ld_blt I hg hm boot_enumerate (PyProof.Rows.callWith_type1 (thn (ha.run pos pins s σ H _ I h) fun us s1 ⟨vs, H1, I1, r1, q1⟩ => ?_) hs rfl))
  obtain ⟨a, xs, ex, q⟩ := q1
  subst ex
  cases r1 with
  | cons r rr =>
    cases rr
    cases r
    have fresh : ∀ b, b ∈ [s1.heap.objs.size + 1, s1.heap.objs.size] → FpOk X pins H1 b := fun b hb => by
      have e' : b = s1.heap.objs.size + 1 ∨ b = s1.heap.objs.size := by simpa using hb
      have hle : s1.heap.objs.size ≤ b := by
        rcases e' with z | z
        · rw [z]; exact Nat.le_add_right _ _
        · rw [z]; exact Nat.le_refl _
      exact I1.fpOk hle (I1.hok.fresh hle)
    rcases q with ⟨hq, q⟩ | ⟨hq, q⟩
    · obtain ⟨its, rv, p', hz⟩ := I1.list hq
      refine call_enumerate_list p'.isList fun h' he hit hsz hk => wpAny_pyIter_enum he ?_
      have I2 : Inv X pins σ H1 { s1 with heap := h' } := I1.kept (t' := s1.toks) hk
      exact ⟨s1.heap.objs.size + 1, [s1.heap.objs.size + 1, s1.heap.objs.size], _, _, H1, rfl, I2, turn_enum a (s1.heap.objs.size + 1) s1.heap.objs.size, ⟨⟨.none, he⟩, hit, Nat.succ_ne_self _⟩, fresh, q⟩
    · obtain ⟨its, rv, p', hz⟩ := I1.tuple hq
      obtain ⟨o1, ho1, _⟩ := id p'
      have hlt := Heap.lt_size ho1
      refine call_enumerate_tuple (show s1.heap.IsTuple a its.toArray from p') fun h' he hit hsz hk => wpAny_pyIter_enum he ?_
      have I2 : Inv X pins σ H1 { s1 with heap := h' } := I1.kept (t' := s1.toks) hk
      exact ⟨s1.heap.objs.size + 1, [s1.heap.objs.size + 1, s1.heap.objs.size], _, _, H1, rfl, I2, turn_enumT a (s1.heap.objs.size + 1) s1.heap.objs.size (Nat.ne_of_lt hlt) (Nat.ne_of_lt (Nat.lt_succ_of_lt hlt)), ⟨⟨.none, he⟩, hit, Nat.succ_ne_self _⟩, fresh, q⟩
end RZ
namespace DL
open PySem PySem.Spec PyProof.Rows L2
section
variable {K : PySem.W.Frag} {W : WX} {b : Bool} {τ σ : St} {τm ρ : Rho} {H G H1 G1 : Hp} {fp fp1 : List Addr} {rf : List Nat}
/-! ### the mirror of enumerate -/
def enD : Nat → List PyData → List PyData
  | _, [] => []
  | n, d :: ds => wkT [.int (n : Nat), d] :: enD (n + 1) ds
theorem enD_get : ∀ {ds : List PyData} {n i : Nat}, (enD n ds)[i]? = ds[i]?.map fun d => wkT [.int ((n + i : Nat) : Nat), d]
  | [], _, _ => by simp [enD]
  | d :: ds, n, 0 => by simp [enD]
  | d :: ds, n, i + 1 => by
    have := enD_get (ds := ds) (n := n + 1) (i := i)
    rw [enD, List.getElem?_cons_succ, List.getElem?_cons_succ, this]
    congr 3
    have : n + 1 + i = n + (i + 1) := by omega
    rw [this]
theorem enD_some {ds : List PyData} {i : Nat} {t : PyData} (h : (enD 0 ds)[i]? = some t) : ∃ d, ds[i]? = some d ∧ t = wkT [.int (i : Nat), d] := by
  rw [enD_get, Nat.zero_add] at h
  cases e : ds[i]? with
  | none => rw [e] at h; cases h
  | some d => rw [e] at h; cases h; exact ⟨d, rfl, rfl⟩
theorem enD_none {ds : List PyData} {i : Nat} (h : (enD 0 ds)[i]? = none) : ds.length ≤ i := by
  rw [enD_get] at h
  cases e : ds[i]? with
  | none => exact List.getElem?_eq_none_iff.mp e
  | some d => rw [e] at h; cases h
theorem y_enL {a : Addr} {xs : List V} {ds : List PyData} (h : Rd G a (.lst xs)) (d : DaAll K G xs ds) : Yields K (Ite K a) (enD 0 ds) G := by
  intro i H G1 e1 e2
  have q1 : SqL K H a xs := .inl ((e1.trans e2).rd h)
  refine ⟨fun t ht => ?_, fun ht => ⟨xs, q1, ?_⟩⟩
  · obtain ⟨dx, h1, rfl⟩ := enD_some ht
    obtain ⟨x, hx, rx⟩ := DaAll.get d h1
    refine ⟨⟨xs, x, q1, hx⟩, fun u H' yl => ?_⟩
    obtain ⟨T, x', rfl, hT, rfl, k1⟩ := yl
    have e3 := (k1 xs q1).symm.trans hx
    cases e3
    exact ⟨_, New.known e2 hT, da_pair e2 hT (.int _) (Ext.dp e1 _ rx)⟩
  · rw [DaAll.length d]; exact enD_none ht
theorem y_enT {a : Addr} {xs : List V} {ds : List PyData} (h : SqT K G a xs) (d : DaAll K G xs ds) : Yields K (RZ.IteT K a) (enD 0 ds) G := by
  intro i H G1 e1 e2
  have q1 : SqT K H a xs := (e1.trans e2).t h
  refine ⟨fun t ht => ?_, fun ht => ⟨xs, q1, ?_⟩⟩
  · obtain ⟨dx, h1, rfl⟩ := enD_some ht
    obtain ⟨x, hx, rx⟩ := DaAll.get d h1
    refine ⟨⟨xs, x, q1, hx⟩, fun u H' yl => ?_⟩
    obtain ⟨T, x', rfl, hT, rfl, k1⟩ := yl
    have e3 := (k1 xs q1).symm.trans hx
    cases e3
    exact ⟨_, New.known e2 hT, da_pair e2 hT (.int _) (Ext.dp e1 _ rx)⟩
  · rw [DaAll.length d]; exact enD_none ht
def enP : List PyData → Option (List PyData)
  | [.list ds] => some (enD 0 ds)
  | [.tuple ds] => some (enD 0 ds)
  | _ => none
def iEnm (fr : Rho → Out (List Vl)) : Rho → Out (List PyData) := fun ρ => match fr ρ with
  | .ok as ρ1 => match prep (noM as) as ρ1 with
    | some (ms, ρ2) => match datsOf ms with
      | some ds => match enP ds with
        | some zs => .ok zs ρ2
        | none => .bad
      | none => .bad
    | none => .bad
  | .exc x ρ1 => .exc x ρ1
  | .bad => .bad
theorem ei_enum {ta : TA} {fr : Rho → Out (List Vl)} (ha : EvA K W b ta fr) : EvI K W b (RZ.iEnumA K ta) (iEnm fr) := by
  intro τ σ τm ρ H G fp R hl S P
  refine ha τ σ τm ρ H G fp _ hl S ?_
  unfold iEnm at P
  cases hf : fr ρ with
  | bad => rw [hf] at P; exact P
  | exc x ρ1 => rw [hf] at P; exact fun cls d H' G' fp' T' S' r => P cls d H' G' fp' T' S' r
  | ok as ρ1 =>
    rw [hf] at P
    simp only at P
    intro vs H1 G1 fp1 T1 e1 S1 ps
    cases hp : prep (noM as) as ρ1 with
    | none => rw [hp] at P; exact P.elim
    | some q =>
      obtain ⟨ms, ρ2⟩ := q
      rw [hp] at P
      simp only at P
      cases hd : datsOf ms with
      | none => rw [hd] at P; exact P.elim
      | some ds =>
        rw [hd] at P
        simp only at P
        obtain ⟨G2, fA, fB, C, SB, dis, T2⟩ := prep_ok (s := []) (m := []) hl rfl ps S1 hp
        obtain ⟨fc, rm, _⟩ := RMs.perm_free C
        have da := rm.datsOf hd
        have SB : SA K (τ ++ σ) (τm ++ ρ2) H1 G2 fB := SB
        have T12 : Tr H G fp H1 G2 fB := (T1.trans T2).sub fun a ha => List.mem_append_right _ ha
        cases hz : enP ds with
        | none => rw [hz] at P; exact P.elim
        | some zs =>
          rw [hz] at P
          have go : ∀ J, Yields K J zs G2 → R J H1 := fun J y => P J H1 G2 fB T12 e1 SB y
          unfold enP at hz
          split at hz
          · rename_i ds1
            cases hz
            cases da with
            | cons r1 da =>
              cases da
              cases r1 with
              | lst h1 h2 => exact ⟨_, _, rfl, .inl ⟨.inl (SB.same.rd h1), go _ (y_enL h1 h2)⟩⟩
          · rename_i ds1
            cases hz
            cases da with
            | cons r1 da =>
              cases da
              cases r1 with
              | tup h1 h2 => exact ⟨_, _, rfl, .inr ⟨SB.same.t h1.sq, go _ (y_enT h1.sq h2)⟩⟩
          · cases hz
end
section
variable {P : Program} {w : World} {K : PySem.W.Frag} {mg : Str → Option Value} {base : Heap} {k : Nat} {X : Fam P w K mg base k} {W : WX} {b : Bool} {rf : List Nat}
theorem di_enum {a : Expr} {p pos : Pos} {elts : List Expr} {kk : Nat} {tpos : Pos} {fr : Rho → Out (List Vl)} (hm : mg "enumerate" = none) (ha : DA X W b [a] fr) (hg : GlF X "enumerate" := by intro _; kernel_rfl) (hs : ∀ i, starEach [a] (X.cx i).env = [(false, eval a (X.cx i).env)] := by intro _; kernel_rfl) :
    DI X W b (.Tuple elts kk tpos) (.Call (.Name "enumerate" p) [a] [] pos) (iEnm fr) := by
  obtain ⟨ta, h1, h2⟩ := ha
  exact ⟨_, fun i => by have h := RZ.pi_enumA (elts := elts) (kk := kk) (tpos := tpos) (p := p) (pos := pos) (hg i) (by rw [X.eM i]; exact hm) (h1 i) (hs i); rw [X.eK i] at h; exact h, ei_enum h2⟩
end
end DL

set_option Elab.async false
set_option linter.all false
set_option maxRecDepth 100000
/-! DPc: fields of instances. -/
namespace DL
open PySem PySem.Spec PyProof.Rows L2
section
variable {K : PySem.W.Frag} {W : WX} {b : Bool} {τ σ : St} {τm ρ : Rho} {H G H1 G1 : Hp} {fp fp1 : List Addr} {rf : List Nat}
def cFld (Cn f : Str) (fo : Rho → Out Vl) : Rho → Out Vl := fun ρ => match fo ρ with
  | .ok x ρ1 => match rdVl ρ1 x with
    | some (.ins C ns xs) => if C = Cn then (match fnd f ns with
      | some n => match xs[n]? with
        | some c => itemOf x c (.fld f) ρ1
        | none => .bad
      | none => .bad) else .bad
    | _ => .bad
  | .exc x ρ1 => .exc x ρ1
  | .bad => .bad
theorem ev_fld {Cn f : Str} {te : TE} {fo : Rho → Out Vl} (cl : Cls K (He.ga K Cn)) (na : NoAttr K (He.ga K Cn) f) (ho : EvE K W b te fo) : EvE K W b (tFld K te f) (cFld Cn f fo) := by
  intro τ σ τm ρ H G fp Q hl S P
  refine ho τ σ τm ρ H G fp _ hl S ?_
  unfold cFld at P
  cases hf : fo ρ with
  | bad => rw [hf] at P; exact P
  | exc x ρ1 => rw [hf] at P; exact fun cls d H' G' fp' T' S' r => P cls d H' G' fp' T' S' r
  | ok x ρ1 =>
    rw [hf] at P
    simp only at P
    intro v H1 G1 fp1 T1 e1 S1 p1
    cases h1 : rdVl ρ1 x with
    | none => simp only [h1] at P; exact P.elim
    | some m =>
      cases m with
      | ins C ns xs =>
        simp only [h1] at P
        by_cases hC : C = Cn
        · subst hC
          rw [if_pos rfl] at P
          cases hn : fnd f ns with
          | none => simp only [hn] at P; exact P.elim
          | some n =>
            simp only [hn] at P
            cases hx : xs[n]? with
            | none => simp only [hx] at P; exact P.elim
            | some c =>
              simp only [hx] at P
              obtain ⟨fx, r1⟩ := S1.rd (s := [some v]) (m := [x.pm]) (j := 0) rfl hl rfl rfl p1 h1
              cases r1 with
              | ins q1 q2 q3 q4 =>
                rename_i a dx vs fx
                obtain ⟨vc, fa, fb, w1, w2, _, _⟩ := q4.out hx
                have lk : (ns.zip vs).lookup f = some vc := (fnd_lookup q3 hn).trans w1
                refine ⟨a, _, dx, _, vc, rfl, q1, cl, na, lk, ?_⟩
                obtain ⟨fq, S4, h4⟩ := SA.drop (v := some (V.ref a)) (m := x.pm) S1
                unfold itemOf at P
                cases c with
                | dat d => exact P vc H1 G1 fq (T1.sub h4) e1 (S4.pushD w2.dat') trivial
                | _ =>
                  cases x with
                  | val m' => exact P.elim
                  | plc i' π =>
                    obtain ⟨v0, z1, z2⟩ := p1
                    refine P vc H1 G1 fq (T1.sub h4) e1 S4.noneFront ⟨v0, z1, atP_snoc z2 ?_⟩
                    show (match H1 a with | some (HO.ins _ _ fs) => fs.lookup f | _ => none) = _
                    rw [q1]
                    exact lk
        · rw [if_neg hC] at P; exact P.elim
      | _ => simp only [h1] at P; exact P.elim
/-! ### a field is set -/
def putI (f : Str) (m : M) (C : Str) (ns : List Str) (xs : List M) : M := match fnd f ns with
  | some n => .ins C ns (xs.set n m)
  | none => .ins C (ns ++ [f]) (xs ++ [m])
theorem putF_some {f : Str} {v : V} : ∀ {ns : List Str} {vs : List V} {n : Nat}, ns.length = vs.length → fnd f ns = some n → putF f v (ns.zip vs) = ns.zip (vs.set n v)
  | [], _, _, _, h => by cases h
  | x :: ns, [], _, e, _ => by simp at e
  | x :: ns, w :: vs, n, e, h => by
    unfold fnd at h
    rw [List.zip_cons_cons, putF]
    by_cases hx : x = f
    · rw [if_pos hx] at h ⊢
      cases h
      simp
    · rw [if_neg hx] at h ⊢
      cases q : fnd f ns with
      | none => rw [q] at h; cases h
      | some j =>
        rw [q] at h; cases h
        have := putF_some (v := v) (ns := ns) (vs := vs) (by simpa using e) q
        rw [this]
        simp
theorem putF_none {f : Str} {v : V} : ∀ {ns : List Str} {vs : List V}, ns.length = vs.length → fnd f ns = none → putF f v (ns.zip vs) = (ns ++ [f]).zip (vs ++ [v])
  | [], [], _, _ => rfl
  | [], _ :: _, e, _ => by simp at e
  | x :: ns, [], e, _ => by simp at e
  | x :: ns, w :: vs, e, h => by
    unfold fnd at h
    rw [List.zip_cons_cons, putF]
    by_cases hx : x = f
    · rw [if_pos hx] at h; cases h
    · rw [if_neg hx] at h ⊢
      cases q : fnd f ns with
      | some j => rw [q] at h; cases h
      | none =>
        rw [putF_none (v := v) (ns := ns) (vs := vs) (by simpa using e) q]
        simp
theorem SA.putFld {s : St} {ms : Rho} {v o : V} {m : M} {i : Nat} {π : List Stp} {C f : Str} {ns : List Str} {xs : List M} (S : SA K (some v :: (s ++ (τ ++ σ))) (some m :: (ms ++ (τm ++ ρ))) H G fp) (e1 : s.length = ms.length) (hl : τ.length = τm.length)
    (p : PF σ H o (.plc i π)) (hc : rdP ρ i π = some (.ins C ns xs)) :
    ∃ a dx fs, o = .ref a ∧ H a = some (.ins (He.ga K C) dx fs) ∧ fs.length = ns.length ∧ ∃ fp', SA K (s ++ (τ ++ σ)) (ms ++ (τm ++ wrP ρ i π (putI f m C ns xs))) (upd H a (.ins (He.ga K C) dx (putF f v fs))) G fp' ∧ Tr H G fp (upd H a (.ins (He.ga K C) dx (putF f v fs))) G fp' := by
  have q : rdP (ms ++ (τm ++ ρ)) (ms.length + (τm.length + i)) π = some (.ins C ns xs) := by rw [rdP_pre, rdP_pre]; exact hc
  obtain ⟨v0, vc, fr, f1, z1, z2, z3, z4, z5, z6⟩ := S.mut q
  have := plc_at e1 hl p z1 z2
  subst this
  cases z3 with
  | ins h1 h2 h3 h4 =>
    rename_i a dx vs fx
    have ndx : (fr ++ (a :: dx :: fx)).Nodup := z5
    rw [List.nodup_append] at ndx
    obtain ⟨na, nd2⟩ := List.nodup_cons.mp ndx.2.1
    obtain ⟨nx, nfx⟩ := List.nodup_cons.mp nd2
    have hax : dx ≠ a := fun z => na (by rw [z]; exact List.mem_cons_self)
    have nax : a ∉ fx := fun z => na (List.mem_cons_of_mem _ z)
    have afr : a ∉ fr := fun z => ndx.2.2 a z a List.mem_cons_self rfl
    have dfr : dx ∉ fr := fun z => ndx.2.2 dx z dx (List.mem_cons_of_mem _ List.mem_cons_self) rfl
    refine ⟨a, dx, _, rfl, h1, by rw [List.length_zip, h3]; omega, ?_⟩
    have same : ∀ o' x, x ≠ a → upd H a o' x = H x := fun o' x hx => upd_ne hx
    have fin : ∀ {o' : HO} {fn : List Addr}, RM K G (upd H a o') (.ref a) (putI f m C ns xs) fn → fn.Nodup → (∀ x ∈ fn, x ∈ fr ++ (a :: dx :: fx)) → ∃ fp', SA K (s ++ (τ ++ σ)) (ms ++ (τm ++ wrP ρ i π (putI f m C ns xs))) (upd H a o') G fp' ∧ Tr H G fp (upd H a o') G fp' := fun {o' fn} rn hnd sub => by
      obtain ⟨fp', S2, T2⟩ := z6 a rfl List.mem_cons_self o' _ fn .non (.dat .none) [] rn (.dat .non) (by simpa using hnd) (by simpa using sub)
      obtain ⟨_, S3⟩ := SA.popD S2
      rw [wrP_pre, wrP_pre] at S3
      exact ⟨fp', S3, T2⟩
    cases qj : fnd f ns with
    | some j =>
      have hjl : j < xs.length := by rw [← h4.length, ← h3]; exact fnd_lt qj
      have hjx : xs[j]? = some xs[j] := List.getElem?_eq_getElem hjl
      obtain ⟨vj, g1, g2, y1, y2, y3, y4⟩ := h4.out hjx
      have ng := y3.nodup_iff.mpr nfx
      rw [List.nodup_append] at ng
      rw [putF_some h3 qj]
      have e2 : putI f m C ns xs = .ins C ns (xs.set j m) := by unfold putI; rw [qj]
      obtain ⟨fn, w1, w2⟩ := y4 G (upd H a (.ins (He.ga K C) dx (ns.zip (vs.set j v)))) v m fr (Ext.refl G) (fun x hx => same _ x fun z => nax (by rw [← z]; exact y3.mem_iff.mp (List.mem_append_right _ hx))) (z4.at (Ext.refl G) fun x hx => same _ x fun z => afr (by rw [← z]; exact hx))
      have sub : ∀ x ∈ fn, x ∈ fr ∨ x ∈ fx := fun x hx => (List.mem_append.mp (w2.mem_iff.mpr hx)).elim .inl fun z => .inr (y3.mem_iff.mp (List.mem_append_right _ z))
      refine fin (fn := a :: dx :: fn) (by rw [e2]; exact .ins upd_same ((same _ dx hax).trans h2) (by rw [List.length_set]; exact h3) w1) ?_ fun x hx => ?_
      · refine List.nodup_cons.mpr ⟨fun z => ?_, List.nodup_cons.mpr ⟨fun z => (sub dx z).elim dfr nx, w2.nodup_iff.mp ?_⟩⟩
        · rcases List.mem_cons.mp z with z | z
          · exact hax z.symm
          · exact (sub a z).elim afr nax
        · rw [List.nodup_append]
          exact ⟨ndx.1, ng.2.1, fun x hx y hy z => ndx.2.2 x hx y (List.mem_cons_of_mem _ (List.mem_cons_of_mem _ (y3.mem_iff.mp (List.mem_append_right _ hy)))) z⟩
      · rcases List.mem_cons.mp hx with rfl | hx
        · exact List.mem_append_right _ List.mem_cons_self
        · rcases List.mem_cons.mp hx with rfl | hx
          · exact List.mem_append_right _ (List.mem_cons_of_mem _ List.mem_cons_self)
          · exact (sub x hx).elim (fun z => List.mem_append_left _ z) fun z => List.mem_append_right _ (List.mem_cons_of_mem _ (List.mem_cons_of_mem _ z))
    | none =>
      rw [putF_none h3 qj]
      have e2 : putI f m C ns xs = .ins C (ns ++ [f]) (xs ++ [m]) := by unfold putI; rw [qj]
      have rn : RMs K G (upd H a (.ins (He.ga K C) dx ((ns ++ [f]).zip (vs ++ [v])))) (vs ++ [v]) (xs ++ [m]) (fx ++ fr) := RMs.append (h4.at (Ext.refl G) fun x hx => same _ x fun z => nax (by rw [← z]; exact hx)) (RMs.one (z4.at (Ext.refl G) fun x hx => same _ x fun z => afr (by rw [← z]; exact hx)))
      refine fin (fn := a :: dx :: (fx ++ fr)) (by rw [e2]; exact .ins upd_same ((same _ dx hax).trans h2) (by rw [List.length_append, List.length_append, h3]; rfl) rn) ?_ fun x hx => ?_
      · refine List.nodup_cons.mpr ⟨fun z => ?_, List.nodup_cons.mpr ⟨fun z => (List.mem_append.mp z).elim nx dfr, ?_⟩⟩
        · rcases List.mem_cons.mp z with z | z
          · exact hax z.symm
          · exact (List.mem_append.mp z).elim nax afr
        · rw [List.nodup_append]
          exact ⟨nfx, ndx.1, fun x hx y hy z => ndx.2.2 y hy x (List.mem_cons_of_mem _ (List.mem_cons_of_mem _ hx)) z.symm⟩
      · rcases List.mem_cons.mp hx with rfl | hx
        · exact List.mem_append_right _ List.mem_cons_self
        · rcases List.mem_cons.mp hx with rfl | hx
          · exact List.mem_append_right _ (List.mem_cons_of_mem _ List.mem_cons_self)
          · rcases List.mem_append.mp hx with z | z
            · exact List.mem_append_right _ (List.mem_cons_of_mem _ (List.mem_cons_of_mem _ z))
            · exact List.mem_append_left _ z
def sSetFld (Cn f : Str) (fe fo : Rho → Out Vl) : Rho → Fl := fun ρ => match fe ρ with
  | .ok a ρ1 => match toVal a ρ1 with
    | some (m, ρ2) => match fo ρ2 with
      | .ok (.plc i π) ρ3 => match rdP ρ3 i π with
        | some (.ins C ns xs) => if C = Cn ∧ ns.length < 1000 then .nx (wrP ρ3 i π (putI f m C ns xs)) else .bad
        | _ => .bad
      | .ok (.val _) _ => .bad
      | .exc x ρ3 => .exc x ρ3
      | .bad => .bad
    | none => .bad
  | .exc x ρ1 => .exc x ρ1
  | .bad => .bad
theorem es_setFld {Cn f : Str} {be bo : Bool} {te to : TE} {fe fo : Rho → Out Vl} (cl : Cls K (He.ga K Cn)) (na : NoAttr K (He.ga K Cn) f) (he : EvE K W be te fe) (ho : EvE K W bo to fo) : EvS K W rf (sFld K to te f) (sSetFld Cn f fe fo) := by
  intro σ ρ H G fp D S P
  refine he [] σ [] ρ H G fp _ rfl S ?_
  unfold sSetFld at P
  cases hf : fe ρ with
  | bad => rw [hf] at P; exact P
  | exc x ρ1 => rw [hf] at P; exact fun cls d H' G' fp' T' S' r => P cls d σ H' G' fp' T' S' (Kp.refl σ) r
  | ok a ρ1 =>
    rw [hf] at P
    simp only at P
    intro v H1 G1 fp1 T1 e1 S1 p1
    cases hv : toVal a ρ1 with
    | none => rw [hv] at P; exact P.elim
    | some q =>
      obtain ⟨m, ρ2⟩ := q
      rw [hv] at P
      simp only at P
      obtain ⟨G2, fp2, S2, T2⟩ := SA.toVal (τ := []) (τm := []) S1 rfl p1 hv
      have S2 : SA K ([some v] ++ σ) ([some m] ++ ρ2) H1 G2 fp2 := S2
      refine ho [some v] σ [some m] ρ2 H1 G2 fp2 _ rfl S2 ?_
      cases hg : fo ρ2 with
      | bad => rw [hg] at P; exact P
      | exc x ρ3 =>
        rw [hg] at P
        intro cls d H' G' fp' T' S' r
        obtain ⟨fq, S'', h2⟩ := SA.drop (v := some v) (m := some m) (σ := σ) (ρ := ρ3) S'
        exact P cls d σ H' G' fq (((T1.trans T2).trans T').sub h2) S'' (Kp.refl σ) r
      | ok x ρ3 =>
        rw [hg] at P
        cases x with
        | val _ => exact P.elim
        | plc i π =>
          simp only at P
          intro o H3 G3 fp3 T3 _ S3 q1
          cases hr : rdP ρ3 i π with
          | none => rw [hr] at P; exact P.elim
          | some c =>
            rw [hr] at P
            cases c with
            | ins C ns xs =>
              simp only at P
              by_cases hC : C = Cn ∧ ns.length < 1000
              · rw [if_pos hC] at P
                obtain ⟨rfl, hn⟩ := hC
                have S3 : SA K (some o :: some v :: σ) (none :: some m :: ρ3) H3 G3 fp3 := S3
                have S6 := SA.swap2 S3
                obtain ⟨a1, dx, fs, eo, ha, hlen, fp', S7, T7⟩ := SA.putFld (f := f) (s := [some o]) (ms := [none]) (τ := []) (τm := []) S6 rfl rfl q1 hr
                refine ⟨a1, _, dx, fs, eo, ha, cl, na, by rw [hlen]; exact hn, ?_⟩
                obtain ⟨fq, S8, h8⟩ := SA.drop (v := some o) (m := none) S7
                exact P σ _ G3 fq ((((T1.trans T2).trans T3).trans T7).sub h8) S8 (Kp.refl σ)
              · rw [if_neg hC] at P; exact P.elim
            | _ => exact P.elim
end
end DL

set_option Elab.async false
set_option linter.all false
set_option maxRecDepth 100000
/-! DPd: methods of classes of the program, instances made. -/
namespace DL
open PySem PySem.Spec PyProof.Rows L2
def tMA (C : Addr) (m : Str) (ta : TE) (t : TA) : TA := fun σ H Q => ta σ H fun x H1 => ∃ a dx fs, x = .ref a ∧ H1 a = some (.ins C dx fs) ∧ fs.lookup m = none ∧ t σ H1 fun vs H2 => Q (x :: vs) H2
section
variable {X : Cx} {CX : CXT} {k : Nat} {f C : Addr} {fd : FuncData} {ps : List Str} {sp : Sp} {E : St → XK} {x m : Str} {p pos apos : Pos} {e o : Expr} {es : List Expr} {ta : TE} {t : TA}
theorem pe_methE {pl : Sem Bool} (he : PE X o ta) (c : Cls X.K C) (hm : Meth X.K C m f) (F : FnOk X.prog X.w X.K X.mg X.base CX k f fd ps sp) (hr : Room k X.A) (hb : Binds X.K fd ps []) (hx : ∀ σ, PassesAt CX X σ (E σ)) (ha : PA X (e :: es) t)
    (hst : starEach (e :: es) X.env = (false, eval e X.env) :: starEach es X.env) (hpl : (backTo pos (starEach es X.env)).any (·.1) = false)
    (ht : eval (.Call (.Attribute o m apos) (e :: es) [] pos) X.env = (do
      let ov ← eval o X.env
      standAt apos.atName
      let (f, first) ← holding [ov] (getMethod ov m pl)
      callWith pos f first (backTo pos (starEach (e :: es) X.env)) (backToKw pos (keywordEach [] X.env)))) :
    PE X (.Call (.Attribute o m apos) (e :: es) [] pos) (fun σ H Q => tMA C m ta t σ H fun vs H1 => sp vs H1 Q (E σ)) := by
  refine ⟨fun pins s σ H Q I h => ?_⟩
  refine PySem.W.methodCall_KW (pl := pl) (thn (he.run pins s σ H _ I h) fun u s1 ⟨x, H1, I1, rx, a, dx, fs, ex, ea, l, q⟩ => ?_) ht
  subst ex
  obtain rfl : u = Value.ref a := rx
  refine getmeth_ok I1 ea c hm l ?_
  refine PySem.W.callWith_K (first := [.ref a]) (h₀ := X.base) I.ok.mod.kin hm.kp (thn (ha.run pos pins s1 σ H1 _ I1 q) fun us s2 ⟨vs, H2, I2, r, q2⟩ => ⟨I2.kIn, ?_⟩) hst hpl
  exact run_fnS (us := .ref a :: us) (vs := .ref a :: vs) F hr hb (hx σ) I2 (.cons rfl r) q2
theorem pe_methE0 {pl : Sem Bool} (he : PE X o ta) (c : Cls X.K C) (hm : Meth X.K C m f) (F : FnOk X.prog X.w X.K X.mg X.base CX k f fd ps sp) (hr : Room k X.A) (hb : Binds X.K fd ps []) (hx : ∀ σ, PassesAt CX X σ (E σ))
    (ht : eval (.Call (.Attribute o m apos) [] [] pos) X.env = (do
      let ov ← eval o X.env
      standAt apos.atName
      let (f, first) ← holding [ov] (getMethod ov m pl)
      callWith pos f first (backTo pos (starEach [] X.env)) (backToKw pos (keywordEach [] X.env)))) :
    PE X (.Call (.Attribute o m apos) [] [] pos) (fun σ H Q => tMA C m ta tNil σ H fun vs H1 => sp vs H1 Q (E σ)) := by
  refine ⟨fun pins s σ H Q I h => ?_⟩
  refine PySem.W.methodCall_KW (pl := pl) (thn (he.run pins s σ H _ I h) fun u s1 ⟨x, H1, I1, rx, a, dx, fs, ex, ea, l, q⟩ => ?_) ht
  subst ex
  obtain rfl : u = Value.ref a := rx
  refine getmeth_ok I1 ea c hm l ?_
  exact PySem.W.callWith_K0 (first := [.ref a]) I1.kIn hm.kp (run_fnS (us := [.ref a]) (vs := [.ref a]) F hr hb (hx σ) I1 (.cons rfl .nil) q)
theorem run_makeE {pins : List (Addr × Obj)} {σ : St} {H : Hp} {s : Shared} {Q : VK} {us : List Value} {vs : List V} (M : Mk X.K C f) (F : FnOk X.prog X.w X.K X.mg X.base CX k f fd ps sp) (hr : Room (k + 1) X.A) (hb : Binds X.K fd ps [])
    (hx : PassesAt CX X σ (E σ)) (I : Inv X pins σ H s) (r : Vals vs us)
    (h : ∀ x dx, H x = none → H dx = none → dx ≠ x → sp (.ref x :: vs) (upd (upd H dx (.own x)) x (.ins C dx [])) (fun v H2 => v = .non ∧ Q (.ref x) H2) (E σ)) :
    wpAny (model X.prog X.w) X.A (call (.ref C) us) (EP X pins σ Q) X.xe s := by
  have hq := h (s.heap.objs.size + 1) s.heap.objs.size (I.hok.fresh (Nat.le_succ _)) (I.hok.fresh (Nat.le_refl _)) (Nat.ne_of_lt (Nat.lt_succ_self _))
  have I2 := Inv.made (C := C) I
  have r2 : Vals (V.ref (s.heap.objs.size + 1) :: vs) (Value.ref (s.heap.objs.size + 1) :: us) := .cons rfl r
  have hl : (Value.ref (s.heap.objs.size + 1) :: us ++ []).length = ps.length := by
    rw [List.append_nil]
    have e := r2.length
    rw [F.len _ _ _ _ hq] at e
    exact e.symm
  have b := hb _ (Value.ref (s.heap.objs.size + 1) :: us) I2.kIn hl
  rw [List.append_nil] at b
  refine wpAny_call (make_map (f := f) I.kIn M.makes M.init (beq_iff_eq.mp M.fn) (codeAny_mono (F.run _ X.stack _ _ ⟨Value.ref (s.heap.objs.size + 1) :: us, []⟩ (Value.ref (s.heap.objs.size + 1) :: us) _ _ (E σ) (hr.make C us [])
    (I2.env0.make C us []) b r2 hq) fun r s' hq' => ?_))
  cases r with
  | error e => exact hx pins _ _ e s' I2 hq'
  | ok fl =>
    cases fl with
    | ret u =>
      obtain ⟨v, H', I3, rv, ev, q3⟩ := I2.after hq'
      subst ev
      exact ⟨rv, ⟨V.ref (s.heap.objs.size + 1), H', I3, rfl, q3⟩⟩
    | next => exact False.elim hq'
    | brk => exact False.elim hq'
    | cont => exact False.elim hq'
def tMk (C : Addr) (sp : Sp) (E : St → XK) (t : TA) : TE := fun σ H Q => t σ H fun vs H1 => ∀ x dx, H1 x = none → H1 dx = none → dx ≠ x →
  sp (.ref x :: vs) (upd (upd H1 dx (.own x)) x (.ins C dx [])) (fun v H2 => v = .non ∧ Q (.ref x) H2) (E σ)
theorem pe_makeE (M : Mk X.K C f) (F : FnOk X.prog X.w X.K X.mg X.base CX k f fd ps sp) (hr : Room (k + 1) X.A) (hg : Gl X x) (hm : X.mg x = some (.ref C)) (hb : Binds X.K fd ps []) (hx : ∀ σ, PassesAt CX X σ (E σ))
    (ha : PA X (e :: es) t) (hdb : (x == ("__debug__" : Str)) = false) (he : starEach (e :: es) X.env = (false, eval e X.env) :: starEach es X.env) (hpl : (backTo pos (starEach es X.env)).any (·.1) = false) :
    PE X (.Call (.Name x p) (e :: es) [] pos) (tMk C sp E t) := by
  refine ⟨fun pins s σ H Q I h => ?_⟩
  refine wpAny_Call_Name_kw (ld_glob I hg hm ?_ hdb)
  refine PySem.W.callWith_K (h₀ := X.base) I.ok.mod.kin M.kp (thn (ha.run pos pins s σ H _ I h) fun us s1 ⟨vs, H1, I1, r, q⟩ => ⟨I1.kIn, ?_⟩) he hpl
  exact run_makeE M F hr hb (hx σ) I1 r q
end
section
variable {K : PySem.W.Frag} {W : WX} {b : Bool} {τ σ : St} {τm ρ : Rho} {H G H1 G1 : Hp} {fp fp1 : List Addr} {rf : List Nat}
/-- the receiver and the arguments of a method -/
def aRecv (Cn m : Str) (g : Bool) (fo : Rho → Out Vl) (fr : Rho → Out (List Vl)) : Rho → Out (List Vl) := fun ρ => match fo ρ with
  | .ok x ρ1 => match rdVl ρ1 x with
    | some (.ins C ns xs) => if C = Cn ∧ m ∉ ns then (if g || x.root then (fr ρ1).bind fun xs ρ2 => .ok (x :: xs) ρ2 else .bad) else .bad
    | _ => .bad
  | .exc x ρ1 => .exc x ρ1
  | .bad => .bad
theorem lookup_none {m : Str} : ∀ {ns : List Str} {vs : List V}, m ∉ ns → (ns.zip vs).lookup m = none
  | [], _, _ => rfl
  | _ :: _, [], _ => rfl
  | n :: ns, v :: vs, h => by
    rw [List.zip_cons_cons, List.lookup_cons]
    have h1 : ¬ m = n := fun e => h (by rw [e]; exact List.mem_cons_self)
    have : (m == n) = false := by simpa using h1
    rw [this]
    exact lookup_none fun z => h (List.mem_cons_of_mem _ z)
theorem ea_recv {Cn m : Str} {ba br : Bool} {ta : TE} {tr : TA} {fa : Rho → Out Vl} {fr : Rho → Out (List Vl)} (ha : EvE K W ba ta fa) (hr : EvA K W br tr fr) : EvA K W (ba && br) (tMA (He.ga K Cn) m ta tr) (aRecv Cn m br fa fr) := by
  intro τ σ τm ρ H G fp Q hl S P
  refine ha τ σ τm ρ H G fp _ hl S ?_
  unfold aRecv at P
  cases hfa : fa ρ with
  | bad => rw [hfa] at P; exact P
  | exc x ρ1 => rw [hfa] at P; exact fun cls d H' G' fp' T' S' r => P cls d H' G' fp' T' S' r
  | ok x ρ1 =>
    rw [hfa] at P
    simp only at P
    intro v1 H1 G1 fp1 T1 e1 S1 p1
    cases h1 : rdVl ρ1 x with
    | none => simp only [h1] at P; exact P.elim
    | some mm =>
      cases mm with
      | ins C ns ys =>
        simp only [h1] at P
        by_cases hC : C = Cn ∧ m ∉ ns
        · rw [if_pos hC] at P
          obtain ⟨rfl, hm⟩ := hC
          by_cases hg : (br || x.root) = true
          · rw [if_pos hg] at P
            obtain ⟨fx, r1⟩ := S1.rd (s := [some v1]) (m := [x.pm]) (j := 0) rfl hl rfl rfl p1 h1
            cases r1 with
            | ins q1 q2 q3 q4 =>
              rename_i a dx vs0 fx
              refine ⟨a, dx, _, rfl, q1, lookup_none hm, ?_⟩
              refine hr (some (V.ref a) :: τ) σ (x.pm :: τm) ρ1 H1 G1 fp1 _ (by simp [hl]) S1 ?_
              cases hfr : fr ρ1 with
              | bad => rw [hfr] at P; exact P
              | exc z ρ2 =>
                rw [hfr] at P
                intro cls d H' G' fp' T' S' r
                obtain ⟨fq, S'', h2⟩ := SA.drop (v := some (V.ref a)) (m := x.pm) (σ := τ ++ σ) (ρ := τm ++ ρ2) S'
                exact P cls d H' G' fq ((T1.trans T').sub h2) S'' r
              | ok xs ρ2 =>
                rw [hfr] at P
                intro vs H2 G2 fp2 T2 e2 S2 p2
                have P : PostA K W (ba && br) τ σ τm H G fp Q (.ok (x :: xs) ρ2) := P
                refine P (V.ref a :: vs) H2 G2 fp2 (T1.trans T2) (fun z => (e1 (by revert z; cases ba <;> simp)).trans (e2 (by revert z; cases ba <;> cases br <;> simp))) ?_ (.cons (p1.keep e2 hg) p2)
                simp only [List.reverse_cons, List.map_append, List.map_cons, List.map_nil, List.append_assoc, List.cons_append, List.nil_append]
                simpa only [List.cons_append] using S2
          · rw [if_neg hg] at P; exact P.elim
        · rw [if_neg hC] at P; exact P.elim
      | _ => simp only [h1] at P; exact P.elim
end
end DL

set_option Elab.async false
set_option linter.all false
set_option maxRecDepth 100000
/-! DPe: instances made; methods and making by the syntax. -/
namespace DL
open PySem PySem.Spec PyProof.Rows L2
section
variable {K : PySem.W.Frag} {W : WX} {b : Bool} {τ σ : St} {τm ρ : Rho} {H G H1 G1 : Hp} {fp fp1 : List Addr} {rf : List Nat}
/-- Cn(..) by its __init__ -/
def mkF (Cn : Str) (F : List M → FOut) : List M → FOut := fun ms => match F (.ins Cn [] [] :: ms) with
  | .ok (.dat .none) (m0 :: fin) => .ok m0 fin
  | .exc x (_ :: fin) => .exc x fin
  | _ => .bad
theorem spd_mk {Cn : Str} {n : Nat} {F : List M → FOut} {vs : List V} {Q : VK} {E : XK} (h : SpD K n (mkF Cn F) vs H Q E) {x dx : Addr} (hx : H x = none) (hd : H dx = none) (hn : dx ≠ x) :
    SpD K (n + 1) F (.ref x :: vs) (upd (upd H dx (.own x)) x (.ins (He.ga K Cn) dx [])) (fun v H2 => v = .non ∧ Q (.ref x) H2) E := by
  obtain ⟨ms, G, fp, hl, S, P⟩ := h
  obtain ⟨H', hH'⟩ : ∃ H', H' = upd (upd H dx (.own x)) x (.ins (He.ga K Cn) dx []) := ⟨_, rfl⟩
  rw [← hH']
  have e1 : Ext H (upd H dx (.own x)) := ext_upd hd
  have e2 : Ext (upd H dx (.own x)) H' := by rw [hH']; exact ext_upd (by rw [upd_ne (Ne.symm hn)]; exact hx)
  have ex : Ext H H' := e1.trans e2
  have px : x ∉ fp := fun z => by
    obtain ⟨o, e⟩ := S.tracked x z
    rw [hx] at e; cases e
  have pd : dx ∉ fp := fun z => by
    obtain ⟨o, e⟩ := S.tracked dx z
    rw [hd] at e; cases e
  have same : ∀ a, a ≠ x → a ≠ dx → H' a = H a := fun a h1 h2 => by rw [hH', upd_ne h1, upd_ne h2]
  have S1 : SA K (vs.map some) (ms.map some) H' G fp := S.at (Ext.refl G) (S.same.trans ex) S.free fun a ha => same a (fun z => px (z ▸ ha)) fun z => pd (z ▸ ha)
  have r : RM K G H' (.ref x) (.ins Cn [] []) (x :: dx :: []) := .ins (vs := []) (by rw [hH']; exact upd_same) (by rw [hH', upd_ne hn]; exact upd_same) rfl .nil
  have gx : G x = none := none_of S.same hx
  have gd : G dx = none := none_of S.same hd
  have S2 : SA K ((V.ref x :: vs).map some) ((M.ins Cn [] [] :: ms).map some) H' G ([x, dx] ++ fp) := S1.push r (fun a ha => by
      simp at ha
      rcases ha with rfl | rfl
      · exact gx
      · exact gd) (by simp [Ne.symm hn]) (fun a ha hb => by
      simp at ha
      rcases ha with rfl | rfl
      · exact px hb
      · exact pd hb)
  have T0 : Tr H G fp H' G ([x, dx] ++ fp) := ⟨Ext.refl G, fun a o q _ => ex a o q, fun a ha => by
      rcases List.mem_append.mp ha with z | z
      · simp at z
        rcases z with rfl | rfl
        · exact .inr hx
        · exact .inr hd
      · exact .inl z, fun a o q => .inl q⟩
  refine ⟨M.ins Cn [] [] :: ms, G, _, by rw [List.length_cons, hl], S2, ?_⟩
  unfold mkF at P
  cases hF : F (M.ins Cn [] [] :: ms) with
  | bad => rw [hF] at P; exact P
  | ok r fin =>
    rw [hF] at P
    cases r with
    | dat d =>
      cases d with
      | none =>
        cases fin with
        | nil => exact P.elim
        | cons m0 fin =>
          simp only at P
          intro v H2 G2 fp2 T S3
          obtain ⟨dv, S4⟩ := SA.popD S3
          cases dv
          exact ⟨rfl, P _ H2 G2 fp2 (T0.trans T) S4⟩
      | _ => exact P.elim
    | _ => exact P.elim
  | exc y fin =>
    rw [hF] at P
    cases fin with
    | nil => exact P.elim
    | cons m0 fin =>
      simp only at P
      intro cls d H2 G2 fp2 T S3 rx
      obtain ⟨fq, S4, h4⟩ := SA.drop (v := some (V.ref x)) (m := some m0) (σ := vs.map some) (ρ := fin.map some) S3
      exact P cls d H2 G2 fq ((T0.trans T).sub h4) S4 rx
theorem ea_up {ta : TA} {fr : Rho → Out (List Vl)} (ha : EvA K W b ta fr) : EvA K W b (fun σ H Q => ∀ Ψ : List V → Hp → Prop, (∀ vs H1, Q vs H1 → Ψ vs H1) → ta σ H Ψ) fr := by
  intro τ σ τm ρ H G fp Q hl S P Ψ hΨ
  refine ha τ σ τm ρ H G fp _ hl S ?_
  cases hf : fr ρ with
  | bad => rw [hf] at P; exact P
  | exc x ρ1 => rw [hf] at P; exact P
  | ok as ρ1 =>
    rw [hf] at P
    exact fun vs H' G' fp' T e S' p => hΨ _ _ (P vs H' G' fp' T e S' p)
theorem ev_mk {Cn : Str} {ta : TA} {fr : Rho → Out (List Vl)} {F : List M → FOut} {n : Nat} {mds : List Bool} (ha : EvA K W b ta fr) (hn : mds.length = n) :
    EvE K W (b && mds.all (!·)) (tMk (He.ga K Cn) (SpD K (n + 1) F) (WE W) ta) (cCall (mkF Cn F) mds fr) :=
  ev_call (ea_up ha) hn fun σ H Q q => q _ fun vs H1 h x dx hx hd hne => spd_mk h hx hd hne
end
/-! ### a field as a bound of a slice -/
def nFld (Cn f : Str) (i : Nat) : Rho → Option PyData := fun ρ => match ρ[i]? with
  | some (some (.ins C ns xs)) => if C = Cn then (match fnd f ns with
    | some n => match xs[n]? with
      | some (.dat d) => some d
      | _ => none
    | none => none) else none
  | _ => none
theorem en_fld {K : PySem.W.Frag} {Cn f : Str} {i : Nat} (cl : Cls K (He.ga K Cn)) (na : NoAttr K (He.ga K Cn) f) : EvNi K (tFld K (tVar i) f) (nFld Cn f i) := by
  intro τ σ τm ρ H G fp d Q hl S h k
  unfold nFld at h
  split at h
  · rename_i C ns xs hm
    by_cases hC : C = Cn
    · subst hC
      rw [if_pos rfl] at h
      cases hn : fnd f ns with
      | none => rw [hn] at h; cases h
      | some n =>
        rw [hn] at h
        simp only at h
        split at h
        · rename_i d' hx
          cases h
          have hr : rdP (τm ++ ρ) (τm.length + i) [] = some (.ins C ns xs) := by
            unfold rdP
            rw [List.getElem?_append_right (Nat.le_add_right _ _), Nat.add_sub_cancel_left, hm]
            first | rfl | (unfold M.getP; rfl)
          obtain ⟨v0, vc, fa, fb, h1, h2, h3, _⟩ := S.focus hr
          cases h2
          rw [← hl, List.getElem?_append_right (Nat.le_add_right _ _), Nat.add_sub_cancel_left] at h1
          cases h3 with
          | ins q1 q2 q3 q4 =>
            obtain ⟨vc, f1, f2, w1, w2, _, _⟩ := q4.out hx
            cases w2 with
            | dat dd => exact ⟨_, h1, _, _, _, _, vc, rfl, q1, cl, na, (fnd_lookup q3 hn).trans w1, k vc dd⟩
        · cases h
    · rw [if_neg hC] at h; cases h
  · cases h
/-! ### by the syntax -/
section
variable {P : Program} {w : World} {K : PySem.W.Frag} {mg : Str → Option Value} {base : Heap} {k : Nat} {X : Fam P w K mg base k} {W : WX} {b : Bool} {rf : List Nat}
/-- a method known by its class -/
structure MethK (P : Program) (w : World) (K : PySem.W.Frag) (mg : Str → Option Value) (base : Heap) (k : Nat) (Cn m : Str) (n : Nat) (F : List M → FOut) : Prop where
  ex : ∃ (f : Addr) (fd : FuncData) (ps : List Str), FnOk P w K mg base (L2.CX P w) k f fd ps (SpD K n F) ∧ Meth K (He.ga K Cn) m f ∧ Binds K fd ps []
theorem MethK.mono {j n : Nat} {Cn m : Str} {F : List M → FOut} (h : MethK P w K mg base j Cn m n F) (l : j ≤ k) : MethK P w K mg base k Cn m n F := by
  obtain ⟨f, fd, ps, h1, h2⟩ := h.ex
  exact ⟨f, fd, ps, h1.mono l, h2⟩
theorem de_fld {e : Expr} {pos : Pos} {Cn f : Str} {fo : Rho → Out Vl} (c : (He.Fa.cls Cn).ok K = true) (na : (He.Fa.noat Cn f).ok K = true) (h : DE X W b e fo) (hb : ∀ i, attributeBase e f (X.cx i).env (eval e (X.cx i).env) = eval e (X.cx i).env := by intro _; kernel_rfl) :
    DE X W b (.Attribute e f pos) (cFld Cn f fo) := by
  obtain ⟨te, h1, h2⟩ := h
  exact ⟨_, fun i => by have q := pe_fld (pos := pos) (h1 i) (hb i); rw [X.eK i] at q; exact q, ev_fld (He.cls_ok c) (He.noat_ok na) h2⟩
theorem ds_setFld {o e : Expr} {pos pos' : Pos} {Cn f : Str} {be bo : Bool} {fe fo : Rho → Out Vl} (c : (He.Fa.cls Cn).ok K = true) (na : (He.Fa.noat Cn f).ok K = true) (he : DE X W be e fe) (ho : DE X W bo o fo)
    (hs : ∀ i, swapsWith e (some (.Attribute o f pos')) pos.line (X.cx i).env = pure false := by intro _; kernel_rfl) : DS X W rf (.Assign [.Attribute o f pos'] e pos) (sSetFld Cn f fe fo) := by
  obtain ⟨te, a1, a2⟩ := he
  obtain ⟨to, b1, b2⟩ := ho
  exact ⟨_, fun i => by have q := ps_fld (pos := pos) (pos' := pos') (b1 i) (a1 i) (hs i); rw [X.eK i] at q; exact q, es_setFld (He.cls_ok c) (He.noat_ok na) a2 b2⟩
theorem pe_methD {Y : Cx} {n kk : Nat} {Cn m : Str} {F : List M → FOut} {to : TE} {t : TA} {o e : Expr} {es : List Expr} {apos pos : Pos} {pl : Sem Bool} (hP : Y.prog = P) (hw : Y.w = w) (hK : Y.K = K) (hM : Y.mg = mg) (hB : Y.base = base) (hd : MethK P w K mg base kk Cn m n F) (c : Cls K (He.ga K Cn)) (hr : Room kk Y.A) (tk : Takes Y W) (he : PE Y o to) (ha : PA Y (e :: es) t)
    (hst : starEach (e :: es) Y.env = (false, eval e Y.env) :: starEach es Y.env) (hpl : (backTo pos (starEach es Y.env)).any (·.1) = false)
    (ht : eval (.Call (.Attribute o m apos) (e :: es) [] pos) Y.env = (do
      let ov ← eval o Y.env
      standAt apos.atName
      let (f, first) ← holding [ov] (getMethod ov m pl)
      callWith pos f first (backTo pos (starEach (e :: es) Y.env)) (backToKw pos (keywordEach [] Y.env)))) :
    PE Y (.Call (.Attribute o m apos) (e :: es) [] pos) (fun σ H Q => tMA (He.ga K Cn) m to t σ H fun vs H1 => SpD K n F vs H1 Q (WE W σ)) := by
  subst hP hw hK hM hB
  obtain ⟨f, fd, ps, h1, h2, h3⟩ := hd.ex
  exact pe_methE he c h2 h1 hr h3 (passAt tk) ha hst hpl ht
theorem pe_methD0 {Y : Cx} {n kk : Nat} {Cn m : Str} {F : List M → FOut} {to : TE} {o : Expr} {apos pos : Pos} {pl : Sem Bool} (hP : Y.prog = P) (hw : Y.w = w) (hK : Y.K = K) (hM : Y.mg = mg) (hB : Y.base = base) (hd : MethK P w K mg base kk Cn m n F) (c : Cls K (He.ga K Cn)) (hr : Room kk Y.A) (tk : Takes Y W) (he : PE Y o to)
    (ht : eval (.Call (.Attribute o m apos) [] [] pos) Y.env = (do
      let ov ← eval o Y.env
      standAt apos.atName
      let (f, first) ← holding [ov] (getMethod ov m pl)
      callWith pos f first (backTo pos (starEach [] Y.env)) (backToKw pos (keywordEach [] Y.env)))) :
    PE Y (.Call (.Attribute o m apos) [] [] pos) (fun σ H Q => tMA (He.ga K Cn) m to tNil σ H fun vs H1 => SpD K n F vs H1 Q (WE W σ)) := by
  subst hP hw hK hM hB
  obtain ⟨f, fd, ps, h1, h2, h3⟩ := hd.ex
  exact pe_methE0 he c h2 h1 hr h3 (passAt tk) ht
theorem de_methD (mds : List Bool) {n : Nat} {Cn m : Str} {F : List M → FOut} {o e : Expr} {es : List Expr} {apos pos : Pos} {bo ba : Bool} {fo : Rho → Out Vl} {fr : Rho → Out (List Vl)} {pl : X.ι → Sem Bool} (hd : MethK P w K mg base k Cn m n F) (c : (He.Fa.cls Cn).ok K = true) (tk : FT X W) (ho : DE X W bo o fo) (ha : DA X W ba (e :: es) fr) (hn : mds.length = n := by kernel_rfl)
    (he : NSt X e es pos := by intro _; exact ⟨by kernel_rfl, by kernel_rfl⟩)
    (ht : ∀ i, eval (.Call (.Attribute o m apos) (e :: es) [] pos) (X.cx i).env = (do
      let ov ← eval o (X.cx i).env
      standAt apos.atName
      let (f, first) ← holding [ov] (getMethod ov m (pl i))
      callWith pos f first (backTo pos (starEach (e :: es) (X.cx i).env)) (backToKw pos (keywordEach [] (X.cx i).env))) := by intro _; rfl) (hcr : X.cm = true := by kernel_rfl) :
    DE X W ((bo && ba) && mds.all (!·)) (.Call (.Attribute o m apos) (e :: es) [] pos) (cCall F mds (aRecv Cn m ba fo fr)) := by
  obtain ⟨to, a1, a2⟩ := ho
  obtain ⟨ta, h1, h2⟩ := ha
  exact ⟨_, fun i => pe_methD (X.eP i) (X.ew i) (X.eK i) (X.eM i) (X.eB i) hd (He.cls_ok c) ((X.room i).full hcr) (tk i) (a1 i) (h1 i) (he i).1 (he i).2 (ht i), ev_call (ea_recv a2 h2) hn fun σ H Q q => q⟩
theorem de_methD0 (mds : List Bool) {n : Nat} {Cn m : Str} {F : List M → FOut} {o : Expr} {apos pos : Pos} {bo : Bool} {fo : Rho → Out Vl} {pl : X.ι → Sem Bool} (hd : MethK P w K mg base k Cn m n F) (c : (He.Fa.cls Cn).ok K = true) (tk : FT X W) (ho : DE X W bo o fo) (hn : mds.length = n := by kernel_rfl)
    (ht : ∀ i, eval (.Call (.Attribute o m apos) [] [] pos) (X.cx i).env = (do
      let ov ← eval o (X.cx i).env
      standAt apos.atName
      let (f, first) ← holding [ov] (getMethod ov m (pl i))
      callWith pos f first (backTo pos (starEach [] (X.cx i).env)) (backToKw pos (keywordEach [] (X.cx i).env))) := by intro _; rfl) (hcr : X.cm = true := by kernel_rfl) :
    DE X W ((bo && true) && mds.all (!·)) (.Call (.Attribute o m apos) [] [] pos) (cCall F mds (aRecv Cn m true fo aNil)) := by
  obtain ⟨to, a1, a2⟩ := ho
  exact ⟨_, fun i => pe_methD0 (X.eP i) (X.ew i) (X.eK i) (X.eM i) (X.eB i) hd (He.cls_ok c) ((X.room i).full hcr) (tk i) (a1 i) (ht i), ev_call (ea_recv a2 ea_nil) hn fun σ H Q q => q⟩
theorem dn_fld (j : Nat) {x : Str} {Cn f : Str} {p pos : Pos} (c : (He.Fa.cls Cn).ok K = true) (na : (He.Fa.noat Cn f).ok K = true) (hN : ∀ i, (X.cx i).N[j]? = some x := by intro _; kernel_rfl) (hv : ∀ i, visB (X.cx i).env.scope x = true := by intro _; kernel_rfl)
    (hd : (x == ("__debug__" : Str)) = false := by kernel_rfl) (hcd : (x == ("__classdict__" : Str)) = false := by kernel_rfl) (hb : ∀ i, attributeBase (.Name x p) f (X.cx i).env (eval (.Name x p) (X.cx i).env) = eval (.Name x p) (X.cx i).env := by intro _; kernel_rfl) : DN X (.Attribute (.Name x p) f pos) (nFld Cn f j) :=
  ⟨_, fun i => by have q := pe_fld (pos := pos) (pe_var (pos := p) (hN i) (visB_ok (hv i)) hd hcd) (hb i); rw [X.eK i] at q; exact q, en_fld (He.cls_ok c) (He.noat_ok na)⟩
/-- a class known by its __init__ -/
theorem pe_mkD {Y : Cx} {n kk : Nat} {Cn : Str} {F : List M → FOut} {t : TA} {e : Expr} {es : List Expr} {p pos : Pos} (hP : Y.prog = P) (hw : Y.w = w) (hK : Y.K = K) (hM : Y.mg = mg) (hB : Y.base = base) (hd : MethK P w K mg base kk Cn "__init__" (n + 1) F) (hk : (He.Fa.mkr Cn).ok K = true) (hm : mg Cn = some (.ref (He.ga K Cn))) (hr : Room (kk + 1) Y.A) (tk : Takes Y W) (hg : Gl Y Cn) (ha : PA Y (e :: es) t)
    (hdb : (Cn == ("__debug__" : Str)) = false) (he : starEach (e :: es) Y.env = (false, eval e Y.env) :: starEach es Y.env) (hpl : (backTo pos (starEach es Y.env)).any (·.1) = false) :
    PE Y (.Call (.Name Cn p) (e :: es) [] pos) (tMk (He.ga K Cn) (SpD K (n + 1) F) (WE W) t) := by
  subst hP hw hK hM hB
  obtain ⟨f, fd, ps, h1, h2, h3⟩ := hd.ex
  have mk := He.mkr_ok hk
  have ef : f = He.ma Y.K (He.ga Y.K Cn) "__init__" := by
    have := h2.at_.symm.trans mk.init
    injection this with this
    injection this with this
    injection this
  subst ef
  exact pe_makeE mk h1 hr hg hm h3 (passAt tk) ha hdb he hpl
theorem de_mk (mds : List Bool) {n kk : Nat} {Cn : Str} {F : List M → FOut} {e : Expr} {es : List Expr} {p pos : Pos} {fr : Rho → Out (List Vl)} (hd : MethK P w K mg base kk Cn "__init__" (n + 1) F) (hkk : kk + 1 ≤ k) (hk : (He.Fa.mkr Cn).ok K = true) (hm : mg Cn = some (.ref (He.ga K Cn))) (tk : FT X W) (ha : DA X W b (e :: es) fr) (hn : mds.length = n := by kernel_rfl) (hg : GlF X Cn := by intro _; kernel_rfl) (hdb : (Cn == ("__debug__" : Str)) = false := by kernel_rfl)
    (he : NSt X e es pos := by intro _; exact ⟨by kernel_rfl, by kernel_rfl⟩) (hcr : X.cm = true := by kernel_rfl) : DE X W (b && mds.all (!·)) (.Call (.Name Cn p) (e :: es) [] pos) (cCall (mkF Cn F) mds fr) := by
  obtain ⟨ta, h1, h2⟩ := ha
  exact ⟨_, fun i => pe_mkD (X.eP i) (X.ew i) (X.eK i) (X.eM i) (X.eB i) hd hk hm (((X.room i).full hcr).mono hkk) (tk i) (hg i) (h1 i) hdb (he i).1 (he i).2, ev_mk h2 hn⟩
end
theorem tab_nil {K : PySem.W.Frag} {c : Value} : ∀ p ∈ ([] : List (Str × Bool)), PySem.W.exmOne K (.ref (He.ga K p.1)) c = some p.2 := fun _ h => by cases h
theorem tab_cons {K : PySem.W.Frag} {c : Value} {x : Str} {v : Bool} {tab : List (Str × Bool)} (h : PySem.W.exmOne K (.ref (He.ga K x)) c = some v) (t : ∀ p ∈ tab, PySem.W.exmOne K (.ref (He.ga K p.1)) c = some p.2) : ∀ p ∈ (x, v) :: tab, PySem.W.exmOne K (.ref (He.ga K p.1)) c = some p.2 := fun p hp => by
  rcases List.mem_cons.mp hp with rfl | hp
  · exact h
  · exact t p hp
/-! ### a method by its body -/
section
variable {P : Program} {w : World} {K : PySem.W.Frag} {mg : Str → Option Value} {base : Heap} {k : Nat} {rf : List Nat}
theorem meth_k {N ps : List Str} {n : Nat} {Cn m qual : Str} {params : Arguments} {body : List Stmt} {scope : Scope} {fd : FuncData} {g : Rho → Fl} (F : FunD K m qual params body scope [] [] (He.ma K (He.ga K Cn) m) fd) (hm : (He.Fa.meth Cn m).ok K = true) (hb : Binds K fd ps []) (S : FnScope N ps scope) (hn : ps.length = n) (hrf : ∀ i ∈ rf, i < n)
    (h : ∀ E, DSs (famOf P w K mg base k N S.nd qual scope (He.ma K (He.ga K Cn) m) E) (fun c d _ H' => E c d H') rf body g) : MethK P w K mg base (k + 1) Cn m n (fnOut N.length n rf g) :=
  ⟨_, fd, ps, def_ok F S hn hrf h, He.meth_ok hm, hb⟩
theorem meth_bad {N ps : List Str} {n : Nat} {Cn m qual : Str} {params : Arguments} {body : List Stmt} {scope : Scope} {fd : FuncData} (F : FunD K m qual params body scope [] [] (He.ma K (He.ga K Cn) m) fd) (hm : (He.Fa.meth Cn m).ok K = true) (hb : Binds K fd ps []) (hn : ps.length = n) : MethK P w K mg base k Cn m n (fun _ => .bad) :=
  ⟨_, fd, ps, ⟨fun vs H Q E h => by obtain ⟨ms, G, fp, h1, _⟩ := h; rw [h1, hn], fun A outer s H args us vs Q E _ _ _ _ h => by obtain ⟨_, _, _, _, _, z⟩ := h; exact z.elim⟩, He.meth_ok hm, hb⟩
end
end DL

set_option Elab.async false
set_option linter.all false
set_option maxRecDepth 100000
/-! DOa: dict(x) of pairs, of a dict. -/
namespace DL
open PySem PySem.Spec PyProof.Rows L2
/-- a tuple with its object -/
def FrzT (H : Hp) (a : Addr) (xs : List V) : Prop := ∃ o : Obj, o.dict = none ∧ H a = some (.frz o (.tup xs))
/-- a pair of a key and a value -/
inductive PrAt (K : PySem.W.Frag) (H : Hp) : V → Key → V → Prop
  | mk {p : Addr} {k : Key} {v : V} : SqT K H p [kV k, v] → PrAt K H (.ref p) k v
theorem pairs_at {X : Cx} {pins : List (Addr × Obj)} {σ : St} {H : Hp} {s : Shared} (I : Inv X pins σ H s) : ∀ {xs : List V} {its : List Value} {kvs : List (Key × V)}, Vals xs its → Paired (fun x (kv : Key × V) => PrAt X.K H x kv.1 kv.2) xs kvs →
    ∃ (Ts : Nat → Addr) (ps : List (Value × Value)) (prs : List (Key × Value)), PairItems s.heap its.toArray Ts ps ∧ KV kvs prs ∧ prs.length = ps.length ∧ ∀ (i : Nat) (k v : Value), ps[i]? = some (k, v) → ∃ k', prs[i]? = some (k', v) ∧ (mixKind X.prog X.w).is k' k = true
  | _, _, _, .nil, .nil => ⟨fun _ => 0, [], [], ⟨rfl, fun j k v e => by simp at e⟩, .nil, rfl, fun i k v e => by simp at e⟩
  | _, _, _, .cons (b := u) ru rv, .cons (b := kv) hp hr => by
    obtain ⟨Ts, ps, prs, h1, h2, h3, h4⟩ := pairs_at I rv hr
    cases hp with
    | mk hq =>
      rename_i p
      cases (show u = Value.ref p from ru)
      obtain ⟨jts, rj, ht, _⟩ := I.tuple hq
      obtain ⟨a, b, ei, ra, rb⟩ := vals2 rj
      subst ei
      refine ⟨fun j => match j with | 0 => p | j + 1 => Ts j, (a, b) :: ps, (kv.1, b) :: prs, ⟨by simpa using h1.1, fun j k v e => ?_⟩, .cons ⟨rfl, rb⟩ h2, by simp [h3], fun i k v e => ?_⟩
      · cases j with
        | zero =>
          have e : (a, b) = (k, v) := Option.some.inj e
          cases e
          exact ⟨rfl, .inl ht⟩
        | succ j =>
          obtain ⟨q1, q2⟩ := h1.2 j k v (by simpa using e)
          exact ⟨by simpa using q1, q2⟩
      · cases i with
        | zero =>
          have e : (a, b) = (k, v) := Option.some.inj e
          cases e
          exact ⟨kv.1, rfl, kV_is (P := X.prog) (w := X.w) ra⟩
        | succ i => simpa using h4 i k v (by simpa using e)
def rDictPr (K : PySem.W.Frag) : List V → Hp → VK → Prop := fun xs H Q => ∃ (a : Addr) (ys : List V) (kvs : List (Key × V)), xs = [.ref a] ∧ (FrzT H a ys ∨ SqL K H a ys) ∧ Paired (fun x (kv : Key × V) => PrAt K H x kv.1 kv.2) ys kvs ∧ ∀ p, H p = none → Q (.ref p) (upd H p (.dK (mergeK [] kvs)))
theorem call_dictPr {X : Cx} (hcalm : X.calm = true) : CallR X (.type "dict") (rDictPr X.K) := by
  intro pins s σ H xs us Q I r hyp
  obtain ⟨a, ys, kvs, rfl, hq, hp, q⟩ := hyp
  obtain ⟨u, rfl, ru⟩ := vals1 r
  cases ru
  have fin : ∀ (its : List Value) (T : String) (fp : List Addr) (Rel : Nat → Value → Value → Prop) (OK : Heap → Prop) (n : Nat) (prs : List (Key × Value)), PairArg X.prog X.w T a fp [] n Rel OK → OK s.heap → PairsHave (mixKind X.prog X.w) n Rel prs → KV kvs prs → n ≤ sizeLine → kvs.length ≤ sizeLine →
      wpAny (model X.prog X.w) X.A (call (.type "dict") [.ref a]) (EP X pins σ Q) X.xe s := fun its T fp Rel OK n prs P ok hc kv hn hl => by
    refine PySem.call_dict_pairs P (I.ok.hd hcalm) ok hc hn fun h' tk hd' hk => ?_
    have hm : (s.heap.objs.size == sysModules) = false := beq_eq_false_iff_ne.mpr (Nat.ne_of_gt I.big)
    have hlen : (mergeK [] kvs).length ≤ sizeLine := Nat.le_trans (length_mergeK kvs []) (by rw [List.length_nil, Nat.zero_add]; exact hl)
    exact ⟨.ref s.heap.objs.size, upd H s.heap.objs.size (.dK (mergeK [] kvs)), I.laid (t' := tk) (fun b o e => hk b o (by simp) e) (Nat.le_refl _) (show ObjOk X.prog X.w _ _ _ (.dK (mergeK [] kvs)) from ⟨hlen, hm, merged [] prs, KV.merge kv .nil, hd'⟩), rfl, q _ (I.hok.fresh (Nat.le_refl _))⟩
  have kl : kvs.length = ys.length := hp.length.symm
  rcases hq with ⟨o, hod, hH⟩ | hq
  · obtain ⟨ho, hz, its, rv, ht⟩ := I.hok a _ hH
    obtain ⟨Ts, ps, prs, h1, h2, h3, h4⟩ := pairs_at I rv hp
    obtain ⟨o', ho', hc, n, hdat⟩ := ht
    have : o' = o := Option.some.inj (ho'.symm.trans ho)
    subst this
    have hn : ps.length ≤ sizeLine := by
      have := h1.1
      rw [← this, List.size_toArray, ← rv.length]; exact hz
    exact fin its _ _ _ _ _ prs (PairArg.tuple a its.toArray Ts ps) ⟨⟨o', n, ho', hc, hod, hdat⟩, h1⟩ ⟨h3, fun i k v e => h4 i k v e⟩ h2 hn (by rw [kl]; exact hz)
  · obtain ⟨its, rv, pl, hz⟩ := I.list hq
    obtain ⟨Ts, ps, prs, h1, h2, h3, h4⟩ := pairs_at I rv hp
    obtain ⟨o, n, ho, hc, hd, hdat⟩ := pl
    have hn : ps.length ≤ sizeLine := by
      have := h1.1
      rw [← this, List.size_toArray, ← rv.length]; exact hz
    exact fin its _ _ _ _ _ prs (PairArg.list a its.toArray Ts ps) ⟨⟨o, n, ho, hc, hd, hdat⟩, h1⟩ ⟨h3, fun i k v e => h4 i k v e⟩ h2 hn (by rw [kl]; exact hz)
end DL
namespace DL
open PySem PySem.Spec PyProof.Rows L2
theorem CallR.or {X : Cx} {f : Value} {r1 r2 : List V → Hp → VK → Prop} (h1 : CallR X f r1) (h2 : CallR X f r2) : CallR X f (fun xs H Q => r1 xs H Q ∨ r2 xs H Q) := by
  intro pins s σ H xs us Q I r h
  rcases h with h | h
  · exact h1 pins s σ H xs us Q I r h
  · exact h2 pins s σ H xs us Q I r h
section
variable {K : PySem.W.Frag} {G H : Hp}
def prOf : PyData → Option (Key × PyData)
  | .tuple [k, v] => match keyOf k with
    | some q => some (q, v)
    | none => none
  | .dict [(.none, .tuple [k, v])] => match keyOf k with
    | some q => some (q, v)
    | none => none
  | _ => none
def prsOf : List PyData → Option (List (Key × PyData))
  | [] => some []
  | d :: ds => match prOf d, prsOf ds with
    | some p, some ps => some (p :: ps)
    | _, _ => none
theorem prOf_at {v : V} {d e : PyData} {q : Key} (ex : Ext G H) (h : Da K G v d) (hp : prOf d = some (q, e)) : ∃ u, PrAt K H v q u ∧ Da K G u e := by
  unfold prOf at hp
  split at hp
  · rename_i k e'
    cases hk : keyOf k with
    | none => rw [hk] at hp; cases hp
    | some q' =>
      rw [hk] at hp
      cases hp
      cases h with
      | tup h1 h2 =>
        cases h2 with
        | cons r1 t =>
          cases t with
          | cons r2 t =>
            cases t
            have := da_key r1 hk
            subst this
            exact ⟨_, .mk (ex.t h1.sq), r2⟩
  · rename_i k e'
    cases hk : keyOf k with
    | none => rw [hk] at hp; cases hp
    | some q' =>
      rw [hk] at hp
      cases hp
      obtain ⟨a, xs, rfl, h1, h2⟩ := h.wkinv
      cases h2 with
      | cons r1 t =>
        cases t with
        | cons r2 t =>
          cases t
          have := da_key r1 hk
          subst this
          exact ⟨_, .mk (ex.t h1), r2⟩
  · cases hp
theorem prsOf_at (ex : Ext G H) : ∀ {xs : List V} {ds : List PyData} {ps : List (Key × PyData)}, DaAll K G xs ds → prsOf ds = some ps →
    ∃ us : List V, (ps.map (·.1)).length = us.length ∧ DaAll K G us (ps.map (·.2)) ∧ Paired (fun x (kv : Key × V) => PrAt K H x kv.1 kv.2) xs ((ps.map (·.1)).zip us)
  | _, _, _, .nil, h => by cases h; exact ⟨[], rfl, .nil, .nil⟩
  | _, _, ps, .cons (d := d) (ds := ds) r t, h => by
    unfold prsOf at h
    cases h1 : prOf d with
    | none => rw [h1] at h; cases h
    | some p =>
      cases h2 : prsOf ds with
      | none => rw [h1, h2] at h; cases h
      | some ps' =>
        rw [h1, h2] at h
        cases h
        obtain ⟨q, e⟩ := p
        obtain ⟨u, a1, a2⟩ := prOf_at ex r h1
        obtain ⟨us, b1, b2, b3⟩ := prsOf_at ex t h2
        exact ⟨u :: us, by simpa using b1, .cons a2 b2, .cons a1 b3⟩
def dictOf (ps : List (Key × PyData)) : M := .dk (mrgT [] [] ((ps.map (·.1)).zip (ps.map (·.2)))).1 ((mrgT [] [] ((ps.map (·.1)).zip (ps.map (·.2)))).2.map M.dat)
def opDict : List M → Option M
  | [.dat (.tuple ds)] => (prsOf ds).map dictOf
  | [.dat (.list ds)] => (prsOf ds).map dictOf
  | [.lst xs] => (datsOf xs).bind fun ds => (prsOf ds).map dictOf
  | [.dk ks xs] => (datsOf xs).map fun ds => .dk ks (ds.map M.dat)
  | [.dat (.dict kvs)] => match kvs with
    | [] => none
    | p :: r => (keysOf ((p :: r).map (·.1))).map fun ks => .dk ks (((p :: r).map (·.2)).map M.dat)
  | _ => none
def rDictD : List V → Hp → VK → Prop := fun xs H Q => ∃ (a : Addr) (kvs : List (Key × V)), xs = [.ref a] ∧ Rd H a (.dK kvs) ∧ ∀ p, H p = none → Q (.ref p) (upd H p (.dK kvs))
theorem keysOf_map : ∀ {ks : List Key} {ls : List Key}, keysOf (ks.map keyD) = some ls → ls = ks := fun h => by
  rw [keysOf_keyD] at h
  exact (Option.some.inj h).symm
theorem os_dict : OpN K (fun xs H Q => rDictPr K xs H Q ∨ rDictD xs H Q) opDict := by
  intro vs ms m H G Q e rs ho hq
  have pr : ∀ (a : Addr) (ys : List V) (ds : List PyData) (ps : List (Key × PyData)), (FrzT H a ys ∨ SqL K H a ys) → DaAll K G ys ds → prsOf ds = some ps → (∀ v H' G' fr, New H G H' G' fr → RM K G' H' v (dictOf ps) fr → Q v H') → vs = [.ref a] → (rDictPr K vs H Q ∨ rDictD vs H Q) := fun a ys ds ps h1 h2 h3 k ev => by
    obtain ⟨us, b1, b2, b3⟩ := prsOf_at e h2 h3
    obtain ⟨vs2, c1, c2, c3, c4⟩ := mrg_da (ks := []) (vs := []) (ds := []) b1 b2 rfl List.nodup_nil .nil
    refine .inl ⟨a, ys, _, ev, h1, b3, fun p hp => ?_⟩
    have c1 : mergeK [] ((ps.map (·.1)).zip us) = _ := c1
    rw [c1]
    exact k (.ref p) _ G [p] (New.obj e hp) (.dk upd_same c2 (RMs.ofDats c4) c3)
  unfold opDict at ho
  split at ho
  · rename_i ds
    cases q : prsOf ds with
    | none => rw [q] at ho; cases ho
    | some ps =>
      rw [q] at ho
      cases ho
      obtain ⟨v, fx, rfl, r⟩ := rs.cases1
      cases r.dat' with
      | tup h1 h2 =>
        rename_i a0 xs0
        refine pr _ _ _ ps (.inl ?_) h2 q hq rfl
        obtain ⟨ho', n, hg⟩ := h1
        have : ¬ (xs0.all keyV = true ∧ xs0 ≠ []) := fun z => by
          obtain ⟨z1, z2⟩ := z
          cases h2 with
          | nil => exact z2 rfl
          | cons rr t =>
            rename_i v0 vs0 d0 ds0
            unfold prsOf at q
            cases q2 : prOf d0 with
            | none => rw [q2] at q; cases q
            | some p0 =>
              obtain ⟨u, a1, _⟩ := prOf_at e rr q2
              cases a1
              rw [List.all_cons] at z1
              cases z1
        obtain ⟨o, hod, rfl⟩ := n.2 this
        exact ⟨o, hod, e _ _ hg⟩
  · rename_i ds
    cases q : prsOf ds with
    | none => rw [q] at ho; cases ho
    | some ps =>
      rw [q] at ho
      cases ho
      obtain ⟨v, fx, rfl, r⟩ := rs.cases1
      cases r.dat' with
      | lst h1 h2 => exact pr _ _ _ ps (.inr (.inl (e.rd h1))) h2 q hq rfl
  · rename_i xs
    cases q1 : datsOf xs with
    | none => rw [q1] at ho; cases ho
    | some ds =>
      rw [q1] at ho
      cases q : prsOf ds with
      | none => simp [q] at ho
      | some ps =>
        simp only [Option.bind_some, q, Option.map_some, Option.some.injEq] at ho
        subst ho
        obtain ⟨v, fx, rfl, r⟩ := rs.cases1
        obtain ⟨a, ws, rfl, h4, h5⟩ := r.asList e (show M.asList (.lst xs) = some ds from q1)
        exact pr _ _ _ ps (.inr (.inl h4)) h5 q hq rfl
  · rename_i ks xs
    cases q1 : datsOf xs with
    | none => rw [q1] at ho; cases ho
    | some ds =>
      rw [q1] at ho
      cases ho
      obtain ⟨v, fx, rfl, r⟩ := rs.cases1
      cases r with
      | dk h1 h2 h3 h4 => exact .inr ⟨_, _, rfl, .inl h1, fun p hp => hq (.ref p) _ G [p] (New.obj e hp) (.dk upd_same h2 (RMs.ofDats (h3.datsOf q1)) h4)⟩
  · rename_i kvs
    split at ho
    · cases ho
    · rename_i p r'
      cases q1 : keysOf ((p :: r').map (·.1)) with
      | none => rw [q1] at ho; cases ho
      | some ks =>
        rw [q1] at ho
        cases ho
        obtain ⟨v, fx, rfl, r⟩ := rs.cases1
        have dd := r.dat'
        generalize hk : p :: r' = kvs at dd q1
        cases dd with
        | wk h1 h2 h3 =>
          subst h3
          cases q1
        | dk h1 h2 h3 h4 h5 =>
          rename_i ks' vs' ds'
          subst h5
          have hl : ks'.length = ds'.length := h2.trans (DaAll.length h4)
          have e1 : ((ks'.map keyD).zip ds').map (·.1) = ks'.map keyD := List.map_fst_zip (by rw [List.length_map]; exact Nat.le_of_eq hl)
          have e2 : ((ks'.map keyD).zip ds').map (·.2) = ds' := List.map_snd_zip (by rw [List.length_map]; exact Nat.le_of_eq hl.symm)
          rw [e1] at q1
          have ek := keysOf_map q1
          subst ek
          rw [hk, e2] at hq
          exact .inr ⟨_, _, rfl, .inr ⟨_, e _ _ h1⟩, fun p hp => hq (.ref p) _ G [p] (New.obj e hp) (.dk upd_same h2 (RMs.ofDats h4) h3)⟩
        | dt h1 h2 h3 h4 h5 =>
          subst h5
          cases q1
  · cases ho
end
end DL
namespace DL
open PySem PySem.Spec PyProof.Rows L2
/-! ### a dict made data: its object is kept -/
def tFz (te : TE) : TE := fun σ H Q => te σ H fun v H1 => Q v H1 ∨ ∃ d u, H1 d = some u ∧ Mut (some u) ∧ ∀ od, Q v (upd H1 d (.frz od u))
theorem pe_fz {X : Cx} {e : Expr} {te : TE} (h : PE X e te) : PE X e (tFz te) := by
  constructor
  intro pins s σ H Q I hw
  refine thn (h.run pins s σ H _ I hw) fun v s1 ⟨x, H1, I1, r, q⟩ => ?_
  rcases q with q | ⟨d, u, hd, mu, q⟩
  · exact ⟨x, H1, I1, r, q⟩
  · obtain ⟨od, I2⟩ := I1.lock hd mu
    exact ⟨x, _, I2, r, q od⟩
section
variable {K : PySem.W.Frag} {W : WX} {b : Bool} {τ σ : St} {τm ρ : Rho} {H G H1 G1 : Hp} {fp fp1 : List Addr} {rf : List Nat}
def dkDat : M → Option PyData
  | .dk ks xs => (datsOf xs).map fun ds => .dict ((ks.map keyD).zip ds)
  | .dt ks xs => (datsOf xs).map fun ds => .dict ((.none, .none) :: (ks.map keyTD).zip ds)
  | _ => none
/-- a fresh dict of data is data from now on -/
def cFz (fe : Rho → Out Vl) : Rho → Out Vl := fun ρ => match fe ρ with
  | .ok (.val (.dat d)) ρ1 => .ok (.val (.dat d)) ρ1
  | .ok (.val m) ρ1 => match dkDat m with
    | some d => .ok (.val (.dat d)) ρ1
    | none => .bad
  | .ok (.plc i π) ρ1 => match rdP ρ1 i π with
    | some m => match dkDat m with
      | some d => .ok (.val (.dat d)) (wrP ρ1 i π (.dat d))
      | none => .bad
    | none => .bad
  | .exc x ρ1 => .exc x ρ1
  | .bad => .bad
theorem RM.dkDat {v : V} {m : M} {d : PyData} (r : RM K G H v m fp) (h : DL.dkDat m = some d) : ∃ a u, v = .ref a ∧ fp = [a] ∧ H a = some u ∧ Mut (some u) ∧ ∀ od G', Ext G G' → G' a = some (.frz od u) → Da K G' v d := by
  unfold DL.dkDat at h
  split at h
  · rename_i ks xs
    cases q : datsOf xs with
    | none => rw [q] at h; cases h
    | some ds =>
      rw [q] at h
      cases h
      cases r with
      | dk h1 h2 h3 h4 =>
        have hf := h3.flatFp q
        subst hf
        exact ⟨_, _, rfl, rfl, h1, trivial, fun od G' eg ga => .dk ga h2 h4 (Ext.dps eg _ (h3.datsOf q)) rfl⟩
  · rename_i ks xs
    cases q : datsOf xs with
    | none => rw [q] at h; cases h
    | some ds =>
      rw [q] at h
      cases h
      cases r with
      | dt h1 h2 h3 h4 =>
        have hf := h3.flatFp q
        subst hf
        exact ⟨_, _, rfl, rfl, h1, trivial, fun od G' eg ga => .dt ga h2 h4 (Ext.dps eg _ (h3.datsOf q)) rfl⟩
  · cases h
theorem SA.fzAt {i : Nat} {π : List Stp} {c : M} {d : PyData} (S : SA K σ ρ H G fp) (q : rdP ρ i π = some c) (z : DL.dkDat c = some d) :
    ∃ v0 vc a u, σ[i]? = some (some v0) ∧ atP H v0 π = some vc ∧ vc = .ref a ∧ H a = some u ∧ Mut (some u) ∧ ∀ od, ∃ G' fp', Da K G' vc d ∧ SA K σ (wrP ρ i π (.dat d)) (upd H a (.frz od u)) G' fp' ∧ Tr H G fp (upd H a (.frz od u)) G' fp' := by
  obtain ⟨v0, vc, fp1, fq, h1, h2, h3, h4, h5⟩ := S.focus q
  obtain ⟨a, u, rfl, rfl, k1, k2, k3⟩ := h3.dkDat z
  have ga : G a = none := S.free a (h4.mem_iff.mp (by simp))
  have nd := h4.nodup_iff.mpr S.nd
  have af : a ∉ fq := (List.nodup_cons.mp nd).1
  refine ⟨v0, _, a, u, h1, h2, rfl, k1, k2, fun od => ?_⟩
  have eg : Ext G (upd G a (.frz od u)) := ext_upd ga
  have es : Ext (upd G a (.frz od u)) (upd H a (.frz od u)) := fun b o e => by
    by_cases hb : b = a
    · subst hb; rw [upd_same] at e ⊢; exact e
    · rw [upd_ne hb] at e ⊢; exact S.same b o e
  have dd := k3 od _ eg upd_same
  have S2 := h5 (upd G a (.frz od u)) (upd H a (.frz od u)) (.dat d) [] eg es (fun b hb => upd_ne fun (e : b = a) => af (e ▸ hb)) (fun b hb => by rw [upd_ne fun (e : b = a) => af (e ▸ hb)]; exact S.free b (h4.mem_iff.mp (List.mem_append_right _ hb))) (.dat dd) (fun b hb => nomatch hb) List.nodup_nil (fun b hb => nomatch hb)
  refine ⟨_, _, dd, S2, eg, fun b o e nb => ?_, fun b hb => .inl (h4.mem_iff.mp (List.mem_append_right _ (by simpa using hb))), fun b o e => ?_⟩
  · rw [upd_ne fun e' => nb (by rw [e']; exact h4.mem_iff.mp (by simp))]; exact e
  · by_cases hb : b = a
    · subst hb; exact .inr (.inl (h4.mem_iff.mp (by simp)))
    · rw [upd_ne hb] at e; exact .inl e
theorem ev_fz {te : TE} {fe : Rho → Out Vl} (he : EvE K W b te fe) : EvE K W false (tFz te) (cFz fe) := by
  intro τ σ τm ρ H G fp Q hl S P
  unfold cFz at P
  refine he τ σ τm ρ H G fp _ hl S ?_
  cases hf : fe ρ with
  | bad => rw [hf] at P; exact P
  | exc x ρ1 => rw [hf] at P; exact fun cls d H' G' fp' T' S' r => P cls d H' G' fp' T' S' r
  | ok x ρ1 =>
    rw [hf] at P
    intro v H1 G1 fp1 T1 e1 S1 p1
    cases x with
    | val m =>
      have gen : ∀ d, DL.dkDat m = some d → PostE K W false τ σ τm H G fp Q (.ok (.val (.dat d)) ρ1) → (Q v H1 ∨ ∃ d u, H1 d = some u ∧ Mut (some u) ∧ ∀ od, Q v (upd H1 d (.frz od u))) := fun d hd P => by
        have q0 : rdP (some m :: (τm ++ ρ1)) 0 [] = some m := rfl
        obtain ⟨v0, vc, a, u, h1, h2, h3, h4, h5, h6⟩ := SA.fzAt (S := S1) q0 hd
        cases h1
        cases h2
        refine .inr ⟨a, u, h4, h5, fun od => ?_⟩
        obtain ⟨G', fp', _, S2, T2⟩ := h6 od
        exact P v _ G' fp' (T1.trans T2) (fun z => nomatch z) S2 trivial
      cases m with
      | dat d => exact .inl (P v H1 G1 fp1 T1 (fun z => nomatch z) S1 trivial)
      | scr ns => exact P.elim
      | lst xs => exact P.elim
      | dk ks xs =>
        cases hd : DL.dkDat (.dk ks xs) with
        | none => simp only [hd] at P; exact P.elim
        | some d => simp only [hd] at P; exact gen d hd P
      | dt ks xs =>
        cases hd : DL.dkDat (.dt ks xs) with
        | none => simp only [hd] at P; exact P.elim
        | some d => simp only [hd] at P; exact gen d hd P
      | ins C ns xs => exact P.elim
    | plc i π =>
      simp only at P
      cases h1 : rdP ρ1 i π with
      | none => rw [h1] at P; exact P.elim
      | some c =>
        rw [h1] at P
        simp only at P
        cases hd : DL.dkDat c with
        | none => rw [hd] at P; exact P.elim
        | some d =>
          rw [hd] at P
          obtain ⟨v1, pp1, pp2⟩ := p1
          have q0 : rdP (none :: (τm ++ ρ1)) (1 + (τm.length + i)) π = some c := by
            show rdP (([none] : Rho) ++ (τm ++ ρ1)) (([none] : Rho).length + (τm.length + i)) π = some c
            rw [rdP_pre, rdP_pre]; exact h1
          obtain ⟨v0, vc, a, u, k1, k2, k3, k4, k5, k6⟩ := SA.fzAt (S := S1) q0 hd
          have e0 : (some v :: (τ ++ σ))[1 + (τm.length + i)]? = σ[i]? := by
            rw [Nat.add_comm 1, List.getElem?_cons_succ, ← hl, List.getElem?_append_right (Nat.le_add_right _ _), Nat.add_sub_cancel_left]
          rw [e0, pp1] at k1
          cases k1
          rw [pp2] at k2
          cases k2
          refine .inr ⟨a, u, k4, k5, fun od => ?_⟩
          obtain ⟨G', fp', dd, S2, T2⟩ := k6 od
          have ew : wrP (none :: (τm ++ ρ1)) (1 + (τm.length + i)) π (.dat d) = none :: (τm ++ wrP ρ1 i π (.dat d)) := by
            show wrP (([none] : Rho) ++ (τm ++ ρ1)) (([none] : Rho).length + (τm.length + i)) π (.dat d) = _
            rw [wrP_pre, wrP_pre]
            rfl
          have S2 : SA K (some v :: (τ ++ σ)) (wrP (none :: (τm ++ ρ1)) (1 + (τm.length + i)) π (.dat d)) (upd H1 a (HO.frz od u)) G' fp' := S2
          rw [ew] at S2
          obtain ⟨fq, S3, h3⟩ := SA.drop (v := some v) (m := none) S2
          exact P v _ G' fq ((T1.trans T2).sub h3) (fun z => nomatch z) (S3.pushD dd) trivial
end
end DL

set_option Elab.async false
set_option linter.all false
set_option maxRecDepth 100000
/-! DOb: the same by the syntax. -/
namespace DL
open PySem PySem.Spec PyProof.Rows L2
theorem boot_dict : bootBuiltins "dict" = some (.type "dict") := by first | rfl | kernel_rfl
section
variable {P : Program} {w : World} {K : PySem.W.Frag} {mg : Str → Option Value} {base : Heap} {k : Nat} {X : Fam P w K mg base k} {W : WX} {b : Bool} {rf : List Nat}
section
variable {e a c : Expr} {es : List Expr} {pos p pos' : Pos} {x : Str} {j : Nat}
theorem de_dictc {fr : Rho → Out (List Vl)} (hm : mg "dict" = none) (ha : DA X W b [e] fr) (hg : GlF X "dict" := by intro _; kernel_rfl) (he : NSt X e [] pos := by intro _; exact ⟨by kernel_rfl, by kernel_rfl⟩) (hcm : ∀ i, (X.cx i).calm = true := by intro _; kernel_rfl) : DE X W b (.Call (.Name "dict" p) [e] [] pos) (cOpN opDict fr) :=
  de_cty (fun i => CallR.or (by have h := call_dictPr (X := X.cx i) (hcm i); rw [X.eK i] at h; exact h) call_dictD) os_dict hm boot_dict ha hg (he := he)
theorem de_fz {fe : Rho → Out Vl} (h : DE X W b e fe) : DE X W false e (cFz fe) := by
  obtain ⟨te, h1, h2⟩ := h
  exact ⟨_, fun i => pe_fz (h1 i), ev_fz h2⟩
end
end
end DL
namespace DL
open PySem PySem.Spec PyProof.Rows L2
section
variable {K : PySem.W.Frag} {W : WX} {b : Bool} {τ σ : St} {τm ρ : Rho} {H G H1 G1 : Hp} {fp fp1 : List Addr} {rf : List Nat}
def setsV : List Nat → List V → St → St
  | i :: is, v :: vs, σ => setsV is vs (σ.set i (some v))
  | _, _, σ => σ
def setsM : List Nat → List M → Rho → Rho
  | i :: is, m :: ms, ρ => setsM is ms (ρ.set i (some m))
  | _, _, ρ => ρ
theorem SA.stores : ∀ {is : List Nat} {vs : List V} {ms : List M} {σ : St} {ρ : Rho} {fp : List Addr}, SA K (vs.map some ++ σ) (ms.map some ++ ρ) H G fp → is.length = vs.length → vs.length = ms.length → (∀ i ∈ is, i < ρ.length) →
    ∃ fq, SA K (setsV is vs σ) (setsM is ms ρ) H G fq ∧ ∀ a ∈ fq, a ∈ fp
  | [], [], [], σ, ρ, fp, S, _, _, _ => ⟨fp, S, fun _ h => h⟩
  | [], [], _ :: _, _, _, _, _, _, e, _ => by simp at e
  | [], _ :: _, _, _, _, _, _, e, _, _ => by simp at e
  | _ :: _, [], _, _, _, _, _, e, _, _ => by simp at e
  | _ :: _, _ :: _, [], _, _, _, _, _, e, _ => by simp at e
  | i :: is, v :: vs, m :: ms, σ, ρ, fp, S, e1, e2, hi => by
    have e2' : vs.length = ms.length := by simpa using e2
    obtain ⟨fq, S1, h1⟩ := SA.store (v := v) (m := m) (σ := vs.map some ++ σ) (ρ := ms.map some ++ ρ) (i := (ms.map some).length + i) S (by rw [List.length_append]; have := hi i List.mem_cons_self; omega)
    rw [List.set_append_right _ _ (Nat.le_add_right _ _), Nat.add_sub_cancel_left] at S1
    have el : (ms.map (some : M → Option M)).length = (vs.map (some : V → Option V)).length := by rw [List.length_map, List.length_map, e2']
    rw [el, List.set_append_right _ _ (Nat.le_add_right _ _), Nat.add_sub_cancel_left] at S1
    obtain ⟨fr, S2, h2⟩ := SA.stores (is := is) S1 (by simpa using e1) e2' (fun j hj => by rw [List.length_set]; exact hi j (List.mem_cons_of_mem _ hj))
    exact ⟨fr, S2, fun a ha => h1 a (h2 a ha)⟩
theorem setsV_kp : ∀ {is : List Nat} {vs : List V} {σ : St}, (∀ i ∈ rf, i ∉ is) → Kp rf σ (setsV is vs σ)
  | [], _, σ, _ => Kp.refl σ
  | i :: is, [], σ, _ => Kp.refl σ
  | i :: is, v :: vs, σ, h => (Kp.set (fun z => h i z List.mem_cons_self) σ).trans (setsV_kp fun j hj z => h j hj (List.mem_cons_of_mem _ z))
/-- a, b = (x, y): the items go to their names -/
def sPar (is : List Nat) (fr : Rho → Out (List Vl)) : Rho → Fl := fun ρ => match fr ρ with
  | .ok as ρ1 => match prep (ownM as) as ρ1 with
    | some (ms, ρ2) => if ms.length = is.length ∧ (∀ i ∈ is, i < ρ2.length) then .nx (setsM is ms ρ2) else .bad
    | none => .bad
  | .exc x ρ1 => .exc x ρ1
  | .bad => .bad
theorem es_par {is : List Nat} {ta : TA} {fr : Rho → Out (List Vl)} {R : Ends → St → List V → Hp → Prop} (hR : ∀ D σ vs H, vs.length = is.length → D.nx (setsV is vs σ) H → R D σ vs H) (ha : EvA K W b ta fr) (hr : ∀ i ∈ rf, i ∉ is) : EvS K W rf (fun D σ H => ta σ H (R D σ)) (sPar is fr) := by
  intro σ ρ H G fp D S P
  refine ha [] σ [] ρ H G fp _ rfl S ?_
  unfold sPar at P
  cases hf : fr ρ with
  | bad => rw [hf] at P; exact P
  | exc x ρ1 => rw [hf] at P; exact fun cls d H' G' fp' T' S' r => P cls d σ H' G' fp' T' S' (Kp.refl σ) r
  | ok as ρ1 =>
    rw [hf] at P
    simp only at P
    intro vs H1 G1 fp1 T1 e1 S1 ps
    cases hp : prep (ownM as) as ρ1 with
    | none => rw [hp] at P; exact P.elim
    | some q =>
      obtain ⟨ms, ρ2⟩ := q
      rw [hp] at P
      simp only at P
      by_cases hz : ms.length = is.length ∧ (∀ i ∈ is, i < ρ2.length)
      · rw [if_pos hz] at P
        obtain ⟨G2, fA, fB, C, SB, dis, T2⟩ := prep_ok (s := []) (m := []) (τ := []) (τm := []) rfl rfl ps S1 hp
        have lv : vs.length = ms.length := by simpa using C.length
        have SB : SA K σ ρ2 H1 G2 fB := SB
        have SC := C.append SB dis
        obtain ⟨fq, S3, h3⟩ := SA.stores (is := is) SC (by rw [lv]; exact hz.1.symm) lv hz.2
        exact hR _ _ _ _ (by rw [lv]; exact hz.1) (P _ H1 G2 fq ((T1.trans T2).sub h3) S3 (setsV_kp hr))
      · rw [if_neg hz] at P; exact P.elim
end
section
variable {P : Program} {w : World} {K : PySem.W.Frag} {mg : Str → Option Value} {base : Heap} {k : Nat} {X : Fam P w K mg base k} {W : WX} {b : Bool} {rf : List Nat}
theorem ds_par2 (i j : Nat) {x y : Str} {a c : Expr} {px py pt pos : Pos} {kt k2 pt2} {fr : Rho → Out (List Vl)} (ha : DA X W b [a, c] fr) (hi : ∀ q, (X.cx q).N[i]? = some x := by intro _; rfl) (hj : ∀ q, (X.cx q).N[j]? = some y := by intro _; rfl) (hij : i ≠ j := by decide) (hr : ∀ l ∈ rf, l ∉ [i, j] := by decide)
    (hx : ∀ q, (X.cx q).env.scope.names.lookup x = some .local := by intro _; kernel_rfl) (hy : ∀ q, (X.cx q).env.scope.names.lookup y = some .local := by intro _; kernel_rfl) (hw : ∀ q, swappedStores [.Tuple [.Name x px, .Name y py] kt pt] (.Tuple [a, c] k2 pt2) (X.cx q).env = pure (some [x, y]) := by intro _; kernel_rfl)
    (hs : ∀ q, swapsWithSole [.Tuple [.Name x px, .Name y py] kt pt] (.Tuple [a, c] k2 pt2) pos.line (X.cx q).env = pure false := by intro _; kernel_rfl) (hcm : ∀ i, (X.cx i).calm = true := by intro _; kernel_rfl) : DS X W rf (.Assign [.Tuple [.Name x px, .Name y py] kt pt] (.Tuple [a, c] k2 pt2) pos) (sPar [i, j] fr) := by
  obtain ⟨ta, a1, a2⟩ := ha
  refine ⟨_, fun q => ps_par (hcm q) (X.nd q) (hi q) (hj q) hij (hx q) (hy q) (a1 q) (hw q) (hs q), ?_⟩
  refine es_par (is := [i, j]) (R := fun D σ vs H1 => ∃ v w, vs = [v, w] ∧ D.nx ((σ.set i (some v)).set j (some w)) H1) (fun D σ vs H1 hl h => ?_) a2 hr
  match vs, hl with
  | [v, w], _ => exact ⟨v, w, rfl, h⟩
theorem ds_par3 (i j l : Nat) {x y z : Str} {a c d : Expr} {px py pz pt pos : Pos} {kt k2 pt2} {fr : Rho → Out (List Vl)} (ha : DA X W b [a, c, d] fr) (hi : ∀ q, (X.cx q).N[i]? = some x := by intro _; rfl) (hj : ∀ q, (X.cx q).N[j]? = some y := by intro _; rfl) (hl : ∀ q, (X.cx q).N[l]? = some z := by intro _; rfl) (hij : i ≠ j := by decide) (hil : i ≠ l := by decide) (hjl : j ≠ l := by decide) (hr : ∀ m ∈ rf, m ∉ [i, j, l] := by decide)
    (hx : ∀ q, (X.cx q).env.scope.names.lookup x = some .local := by intro _; kernel_rfl) (hy : ∀ q, (X.cx q).env.scope.names.lookup y = some .local := by intro _; kernel_rfl) (hz : ∀ q, (X.cx q).env.scope.names.lookup z = some .local := by intro _; kernel_rfl) (hw : ∀ q, swappedStores [.Tuple [.Name x px, .Name y py, .Name z pz] kt pt] (.Tuple [a, c, d] k2 pt2) (X.cx q).env = pure (some [x, y, z]) := by intro _; kernel_rfl)
    (hs : ∀ q, swapsWithSole [.Tuple [.Name x px, .Name y py, .Name z pz] kt pt] (.Tuple [a, c, d] k2 pt2) pos.line (X.cx q).env = pure false := by intro _; kernel_rfl) (hcm : ∀ i, (X.cx i).calm = true := by intro _; kernel_rfl) : DS X W rf (.Assign [.Tuple [.Name x px, .Name y py, .Name z pz] kt pt] (.Tuple [a, c, d] k2 pt2) pos) (sPar [i, j, l] fr) := by
  obtain ⟨ta, a1, a2⟩ := ha
  refine ⟨_, fun q => ps_par3 (hcm q) (X.nd q) (hi q) (hj q) (hl q) hij hil hjl (hx q) (hy q) (hz q) (a1 q) (hw q) (hs q), ?_⟩
  refine es_par (is := [i, j, l]) (R := fun D σ vs H1 => ∃ u v w, vs = [u, v, w] ∧ D.nx (((σ.set i (some u)).set j (some v)).set l (some w)) H1) (fun D σ vs H1 hl h => ?_) a2 hr
  match vs, hl with
  | [u, v, w], _ => exact ⟨u, v, w, rfl, h⟩
end
end DL
namespace DL
open PySem PySem.Spec PyProof.Rows L2
section
variable {K : PySem.W.Frag} {W : WX} {b : Bool} {τ σ : St} {τm ρ : Rho} {H G H1 G1 : Hp} {fp fp1 : List Addr} {rf : List Nat}
/-- a list display, all items data -/
def cLstD (fr : Rho → Out (List Vl)) : Rho → Out Vl := fun ρ => match fr ρ with
  | .ok as ρ1 => match prep (noM as) as ρ1 with
    | some (ms, ρ2) => if ms.length ≤ sizeLine then .ok (.val (.lst ms)) ρ2 else .bad
    | none => .bad
  | .exc x ρ1 => .exc x ρ1
  | .bad => .bad
theorem ev_lstD {ta : TA} {fr : Rho → Out (List Vl)} (ha : EvA K W b ta fr) : EvE K W b (tLst ta) (cLstD fr) := by
  intro τ σ τm ρ H G fp Q hl S P
  refine ha τ σ τm ρ H G fp _ hl S ?_
  unfold cLstD at P
  cases hf : fr ρ with
  | bad => rw [hf] at P; exact P
  | exc x ρ1 => rw [hf] at P; exact fun cls d H' G' fp' T' S' r => P cls d H' G' fp' T' S' r
  | ok as ρ1 =>
    rw [hf] at P
    simp only at P
    intro vs H1 G1 fp1 T1 e1 S1 ps
    cases hp : prep (noM as) as ρ1 with
    | none => rw [hp] at P; exact P.elim
    | some q =>
      obtain ⟨ms, ρ2⟩ := q
      rw [hp] at P
      simp only at P
      by_cases hz : ms.length ≤ sizeLine
      · rw [if_pos hz] at P
        obtain ⟨G2, fA, fB, C, SB, dis, T2⟩ := prep_ok (s := []) (m := []) hl rfl ps S1 hp
        obtain ⟨fc, rm, pc⟩ := RMs.perm_free C
        refine ⟨by rw [RMs.length rm]; exact hz, fun p hp' => ?_⟩
        have SB : SA K (τ ++ σ) (τm ++ ρ2) H1 G2 fB := SB
        have ex : Ext H1 (upd H1 p (.lst vs)) := ext_upd hp'
        have pA : p ∉ fA := fun z => by
          obtain ⟨o, e⟩ := C.tracked p z
          rw [hp'] at e; cases e
        have pB : p ∉ fB := fun z => by
          obtain ⟨o, e⟩ := SB.tracked p z
          rw [hp'] at e; cases e
        have rm' : RM K G2 (upd H1 p (.lst vs)) (.ref p) (.lst ms) (p :: fc) := .lst upd_same (rm.at (Ext.refl G2) fun a ha => upd_ne fun z => pA (by rw [← z]; exact pc.mem_iff.mp ha))
        have SB2 : SA K (τ ++ σ) (τm ++ ρ2) (upd H1 p (.lst vs)) G2 fB := SB.at (Ext.refl G2) (SB.same.trans ex) SB.free fun a ha => upd_ne fun z => pB (by rw [← z]; exact ha)
        have ndc : fc.Nodup := pc.nodup_iff.mpr C.nd
        have S3 := SB2.push rm' (fun a ha => by
            rcases List.mem_cons.mp ha with rfl | ha
            · exact none_of SB.same hp'
            · exact C.free a (pc.mem_iff.mp ha)) (List.nodup_cons.mpr ⟨fun z => pA (pc.mem_iff.mp z), ndc⟩) (fun a ha hb => by
            rcases List.mem_cons.mp ha with rfl | ha
            · exact pB hb
            · exact dis a (pc.mem_iff.mp ha) hb)
        have T12 := T1.trans T2
        refine P (.ref p) _ G2 _ ⟨T12.g, fun a o q n => ex a o (T12.k a o q n), fun a ha => ?_, T12.n⟩ (fun z => (e1 z).trans ex) S3 trivial
        rcases List.mem_append.mp ha with ha | ha
        · rcases List.mem_cons.mp ha with rfl | ha
          · by_cases hfp : a ∈ fp
            · exact .inl hfp
            · cases q : H a with
              | none => exact .inr rfl
              | some o => rw [T12.k a o q hfp] at hp'; cases hp'
          · exact T12.f a (List.mem_append_left _ (pc.mem_iff.mp ha))
        · exact T12.f a (List.mem_append_right _ ha)
      · rw [if_neg hz] at P; exact P.elim
end
section
variable {P : Program} {w : World} {K : PySem.W.Frag} {mg : Str → Option Value} {base : Heap} {k : Nat} {X : Fam P w K mg base k} {W : WX} {b : Bool} {rf : List Nat}
theorem de_lstD {es : List Expr} {pos : Pos} {fr : Rho → Out (List Vl)} (h : DA X W b es fr) : DE X W b (.List es pos) (cLstD fr) := by
  obtain ⟨ta, h1, h2⟩ := h
  exact ⟨_, fun i => pe_lst (h1 i), ev_lstD h2⟩
end
end DL

set_option Elab.async false
set_option linter.all false
set_option maxRecDepth 100000
/-! DMa: how the mirrors are run by simp; loops and comprehensions of the mirrors. -/
namespace DL
open PySem
@[simp] theorem bind_ok {α β : Type} {a : α} {ρ : Rho} {f : α → Rho → Out β} : Out.bind (.ok a ρ) f = f a ρ := rfl
@[simp] theorem bind_exc {α β : Type} {x : Xv} {ρ : Rho} {f : α → Rho → Out β} : Out.bind (.exc x ρ) f = .exc x ρ := rfl
@[simp] theorem bind_bad {α β : Type} {f : α → Rho → Out β} : Out.bind (.bad : Out α) f = .bad := rfl
@[simp] theorem run_var {i : Nat} {ρ : Rho} : cVar i ρ = (match ρ[i]? with
  | some (some (.dat d)) => .ok (.val (.dat d)) ρ
  | some (some _) => .ok (.plc i []) ρ
  | _ => .bad) := rfl
@[simp] theorem run_d {d : PyData} {ρ : Rho} : cD d ρ = .ok (.val (.dat d)) ρ := rfl
@[simp] theorem rd_val {m : M} {ρ : Rho} : rdVl ρ (.val m) = some m := rfl
@[simp] theorem rd_plc {i : Nat} {π : List Stp} {ρ : Rho} : rdVl ρ (.plc i π) = rdP ρ i π := rfl
@[simp] theorem root_val {m : M} : (Vl.val m).root = true := rfl
@[simp] theorem root_plc {i : Nat} : (Vl.plc i []).root = true := rfl
@[simp] theorem root_plc2 {i : Nat} {s : Stp} {π : List Stp} : (Vl.plc i (s :: π)).root = false := rfl
@[simp] theorem run_op2 {b : Bool} {o : M → M → Option M} {fa fb : Rho → Out Vl} {ρ : Rho} : cOp2 b o fa fb ρ = (fa ρ).bind fun x ρ1 => if b || x.root then (fb ρ1).bind fun y ρ2 => fin2 o x y ρ2 else .bad := rfl
@[simp] theorem run_ix {b : Bool} {fa fb : Rho → Out Vl} {ρ : Rho} : cIx b fa fb ρ = (fa ρ).bind fun x ρ1 => if b || x.root then (fb ρ1).bind fun y ρ2 => finIx x y ρ2 else .bad := rfl
@[simp] theorem run_two {β : Type} {b : Bool} {fa fb : Rho → Out Vl} {k : Vl → Vl → Rho → Out β} {ρ : Rho} : cTwo b fa fb k ρ = (fa ρ).bind fun x ρ1 => if b || x.root then (fb ρ1).bind fun y ρ2 => k x y ρ2 else .bad := rfl
theorem run_fin2 {o : M → M → Option M} {a b : Vl} {ρ : Rho} : fin2 o a b ρ = (match rdVl ρ a, rdVl ρ b with
  | some m1, some m2 => (match o m1 m2 with
    | some m => .ok (.val m) ρ
    | none => .bad)
  | _, _ => .bad) := rfl
@[simp] theorem run_fin2vv {o : M → M → Option M} {a b : M} {ρ : Rho} : fin2 o (.val a) (.val b) ρ = (match o a b with
    | some m => .ok (.val m) ρ
    | none => .bad) := rfl
@[simp] theorem run_op1 {o : M → Option M} {fa : Rho → Out Vl} {ρ : Rho} : cOp1 o fa ρ = (fa ρ).bind fun x ρ1 => (match rdVl ρ1 x with
  | some m1 => (match o m1 with
    | some m => .ok (.val m) ρ1
    | none => .bad)
  | none => .bad) := rfl
@[simp] theorem run_B {f : Rho → Out Vl} {ρ : Rho} : cB f ρ = (f ρ).bind fun x ρ1 => (match x with
  | .val (.dat (.bool b)) => .ok b ρ1
  | _ => .bad) := rfl
@[simp] theorem run_and {f g : Rho → Out Bool} {ρ : Rho} : cAnd f g ρ = (f ρ).bind fun x ρ1 => if x = true then g ρ1 else .ok false ρ1 := rfl
@[simp] theorem run_or {f g : Rho → Out Bool} {ρ : Rho} : cOr f g ρ = (f ρ).bind fun x ρ1 => if x = true then .ok true ρ1 else g ρ1 := rfl
@[simp] theorem run_not {f : Rho → Out Bool} {ρ : Rho} : cNot f ρ = (f ρ).bind fun x ρ1 => .ok (!x) ρ1 := rfl
@[simp] theorem run_V {f : Rho → Out Bool} {ρ : Rho} : cV f ρ = (f ρ).bind fun x ρ1 => .ok (.val (.dat (.bool x))) ρ1 := rfl
@[simp] theorem run_ite {ft : Rho → Out Bool} {fa fb : Rho → Out Vl} {ρ : Rho} : cIte ft fa fb ρ = (ft ρ).bind fun x ρ1 => if x = true then fa ρ1 else fb ρ1 := rfl
@[simp] theorem run_nil {ρ : Rho} : aNil ρ = .ok [] ρ := rfl
@[simp] theorem run_cons {g : Bool} {fa : Rho → Out Vl} {fr : Rho → Out (List Vl)} {ρ : Rho} : aCons g fa fr ρ = (fa ρ).bind fun x ρ1 => if g || x.root then (fr ρ1).bind fun xs ρ2 => .ok (x :: xs) ρ2 else .bad := rfl
@[simp] theorem run_opN {o : List M → Option M} {fr : Rho → Out (List Vl)} {ρ : Rho} : cOpN o fr ρ = (fr ρ).bind fun as ρ1 => finN o as ρ1 := rfl
@[simp] theorem run_finN {o : List M → Option M} {as : List Vl} {ρ : Rho} : finN o as ρ = (match rdVls ρ as with
  | some ms => (match o ms with
    | some m => .ok (.val m) ρ
    | none => .bad)
  | none => .bad) := rfl
@[simp] theorem rds_nil {ρ : Rho} : rdVls ρ [] = some [] := rfl
@[simp] theorem rds_cons {ρ : Rho} {a : Vl} {as : List Vl} : rdVls ρ (a :: as) = (match rdVl ρ a, rdVls ρ as with
    | some m, some ms => some (m :: ms)
    | _, _ => none) := rfl
@[simp] theorem run_seq {f g : Rho → Fl} {ρ : Rho} : sSeq f g ρ = (match f ρ with
  | .nx ρ1 => g ρ1
  | .rt m ρ1 => .rt m ρ1
  | .bk ρ1 => .bk ρ1
  | .ct ρ1 => .ct ρ1
  | .exc x ρ1 => .exc x ρ1
  | .bad => .bad) := rfl
@[simp] theorem run_nx {ρ : Rho} : sNx ρ = .nx ρ := rfl
@[simp] theorem run_brk {ρ : Rho} : sBrk ρ = .bk ρ := rfl
@[simp] theorem run_cnt {ρ : Rho} : sCnt ρ = .ct ρ := rfl
@[simp] theorem run_retN {ρ : Rho} : sRetN ρ = .rt (.dat .none) ρ := rfl
@[simp] theorem run_if {ft : Rho → Out Bool} {f g : Rho → Fl} {ρ : Rho} : sIf ft f g ρ = (match ft ρ with
  | .ok c ρ1 => if c = true then f ρ1 else g ρ1
  | .exc x ρ1 => .exc x ρ1
  | .bad => .bad) := rfl
@[simp] theorem run_set {i : Nat} {fe : Rho → Out Vl} {ρ : Rho} : sSet i fe ρ = (match fe ρ with
  | .ok a ρ1 => (match toVal a ρ1 with
    | some (m, ρ2) => if i < ρ2.length then .nx (ρ2.set i (some m)) else .bad
    | none => .bad)
  | .exc x ρ1 => .exc x ρ1
  | .bad => .bad) := rfl
@[simp] theorem run_ret {rf : List Nat} {fe : Rho → Out Vl} {ρ : Rho} : sRet rf fe ρ = (match fe ρ with
  | .ok a ρ1 => (match retV rf a ρ1 with
    | some (m, ρ2) => .rt m ρ2
    | none => .bad)
  | .exc x ρ1 => .exc x ρ1
  | .bad => .bad) := rfl
@[simp] theorem run_drop {fe : Rho → Out Vl} {ρ : Rho} : sDrop fe ρ = (match fe ρ with
  | .ok _ ρ1 => .nx ρ1
  | .exc x ρ1 => .exc x ρ1
  | .bad => .bad) := rfl
@[simp] theorem toVal_val {m : M} {ρ : Rho} : toVal (.val m) ρ = some (m, ρ) := rfl
theorem toDat_val {m : M} {ρ : Rho} : toDat (.val m) ρ = (match m.frz with
    | none => none
    | some d => some (d, ρ)) := rfl
@[simp] theorem frz_dat {d : PyData} : M.frz (.dat d) = some d := by unfold M.frz; rfl
@[simp] theorem retV_val {rf : List Nat} {m : M} {ρ : Rho} : retV rf (.val m) ρ = some (m, ρ) := rfl
@[simp] theorem run_for {fi : Rho → Out (List PyData)} {h : PyData → Rho → Option Rho} {g : Rho → Fl} {ρ : Rho} : sFor fi h g ρ = (match fi ρ with
  | .ok ds ρ1 => forGo h g ds ρ1
  | .exc x ρ1 => .exc x ρ1
  | .bad => .bad) := rfl
@[simp] theorem run_name {i : Nat} {d : PyData} {ρ : Rho} : hName i d ρ = if i < ρ.length then some (ρ.set i (some (.dat d))) else none := rfl
@[simp] theorem run_iseq {fa : Rho → Out Vl} {ρ : Rho} : iSeq fa ρ = (match fa ρ with
  | .ok x ρ1 => (match toDat x ρ1 with
    | some (d, ρ2) => (match itSeq d with
      | some ds => .ok ds ρ2
      | none => .bad)
    | none => .bad)
  | .exc x ρ1 => .exc x ρ1
  | .bad => .bad) := rfl
@[simp] theorem run_yes {ρ : Rho} : cYes ρ = .ok true ρ := rfl
@[simp] theorem run_comp {own : List Nat} {fi : Rho → Out (List PyData)} {h : PyData → Rho → Option Rho} {ft : Rho → Out Bool} {fe : Rho → Out Vl} {ρ : Rho} : cComp own fi h ft fe ρ = (match fi ρ with
  | .ok ds ρ1 => if ds.length ≤ sizeLine then (match compGo own h ft fe ds [] (wipeM ρ1 own) with
    | .ok ms ρ2 => .ok (.val (.lst ms)) (restore ρ1 own ρ2)
    | _ => .bad) else .bad
  | .exc x ρ1 => .exc x ρ1
  | .bad => .bad) := rfl
@[simp] theorem run_chain {p q : Int → Int → Bool} {fa fb fc : Rho → Out Vl} {ρ : Rho} : cChain p q fa fb fc ρ = (match fa ρ with
  | .ok (.val (.dat (.int i))) ρ1 => (match fb ρ1 with
    | .ok (.val (.dat (.int j))) ρ2 => if p i j = true then (match fc ρ2 with
      | .ok (.val (.dat (.int k))) ρ3 => .ok (q j k) ρ3
      | .exc x ρ3 => .exc x ρ3
      | _ => .bad) else .ok false ρ2
    | .exc x ρ2 => .exc x ρ2
    | _ => .bad)
  | .exc x ρ1 => .exc x ρ1
  | _ => .bad) := rfl
@[simp] theorem cmpI_ii {p : Int → Int → Bool} {i j : Int} : cmpI p (.dat (.int i)) (.dat (.int j)) = some (.dat (.bool (p i j))) := rfl
@[simp] theorem opAdd_ii {i j : Int} : opAdd (.dat (.int i)) (.dat (.int j)) = some (.dat (.int (i + j))) := rfl
@[simp] theorem opSub_ii {i j : Int} : opSub (.dat (.int i)) (.dat (.int j)) = some (.dat (.int (i - j))) := rfl
@[simp] theorem opMul_ii {i j : Int} : opMul (.dat (.int i)) (.dat (.int j)) = (if fitsMul i j = true then some (.dat (.int (i * j))) else none) := by
  unfold opMul int2
  by_cases h : fitsMul i j = true
  · simp [h]
  · simp [h]
@[simp] theorem opDiv_ii {i j : Int} : opDiv (.dat (.int i)) (.dat (.int j)) = (if fitsDiv j = true then some (.dat (.int (i / j))) else none) := by
  unfold opDiv int2
  by_cases h : fitsDiv j = true
  · simp [h]
  · simp [h]
@[simp] theorem opMod_ii {i j : Int} : opMod (.dat (.int i)) (.dat (.int j)) = (if 0 < j then some (.dat (.int (i % j))) else none) := by
  unfold opMod int2
  by_cases h : 0 < j
  · simp [h]
  · simp [h]
/-- an element of a comprehension -/
def cStep (own : List Nat) (h : PyData → Rho → Option Rho) (ft : Rho → Out Bool) (fe : Rho → Out Vl) (d : PyData) (ρ : Rho) : Out (Option M) := match h d ρ with
  | none => .bad
  | some ρ1 => match ft ρ1 with
    | .ok c ρ2 => if c = true then (match fe ρ2 with
      | .ok a ρ3 => (match toVal a ρ3 with
        | some (m, ρ4) => .ok (some m) (wipeM ρ4 own)
        | none => .bad)
      | _ => .bad) else .ok none (wipeM ρ2 own)
    | _ => .bad
theorem compGo_cons {own : List Nat} {h : PyData → Rho → Option Rho} {ft : Rho → Out Bool} {fe : Rho → Out Vl} {d : PyData} {ds : List PyData} {acc : List M} {ρ : Rho} :
    compGo own h ft fe (d :: ds) acc ρ = (match cStep own h ft fe d ρ with
      | .ok (some m) ρ1 => compGo own h ft fe ds (acc ++ [m]) ρ1
      | .ok none ρ1 => compGo own h ft fe ds acc ρ1
      | _ => .bad) := by
  unfold cStep
  rw [compGo]
  cases h d ρ with
  | none => rfl
  | some ρ1 =>
    simp only
    cases ft ρ1 with
    | ok c ρ2 =>
      simp only
      by_cases hc : c = true
      · rw [if_pos hc, if_pos hc]
        cases fe ρ2 with
        | ok a ρ3 =>
          simp only
          cases toVal a ρ3 with
          | none => rfl
          | some q => rfl
        | exc _ _ => rfl
        | bad => rfl
      · rw [if_neg hc, if_neg hc]
    | exc _ _ => rfl
    | bad => rfl
theorem compGo_nil {own : List Nat} {h : PyData → Rho → Option Rho} {ft : Rho → Out Bool} {fe : Rho → Out Vl} {acc : List M} {ρ : Rho} : compGo own h ft fe [] acc ρ = .ok acc ρ := by rw [compGo]
/-- .. with the state kept, all kept -/
theorem compGo_map {own : List Nat} {h : PyData → Rho → Option Rho} {ft : Rho → Out Bool} {fe : Rho → Out Vl} {ρ : Rho} (g : PyData → M) : ∀ {ds : List PyData} {acc : List M}, (∀ d ∈ ds, cStep own h ft fe d ρ = .ok (some (g d)) ρ) → compGo own h ft fe ds acc ρ = .ok (acc ++ ds.map g) ρ
  | [], acc, _ => by rw [compGo_nil, List.map_nil, List.append_nil]
  | d :: ds, acc, H => by
    rw [compGo_cons, H d List.mem_cons_self]
    show compGo own h ft fe ds (acc ++ [g d]) ρ = _
    rw [compGo_map g (fun e he => H e (List.mem_cons_of_mem _ he)), List.map_cons, List.append_assoc]
    rfl
/-- .. with an invariant -/
theorem compGo_inv {own : List Nat} {h : PyData → Rho → Option Rho} {ft : Rho → Out Bool} {fe : Rho → Out Vl} (I : List M → Rho → Prop) : ∀ {ds : List PyData} {acc : List M} {ρ : Rho}, I acc ρ →
    (∀ d ∈ ds, ∀ acc ρ, I acc ρ → ∃ r ρ1, cStep own h ft fe d ρ = .ok r ρ1 ∧ I (acc ++ r.toList) ρ1) → ∃ ms ρ1, compGo own h ft fe ds acc ρ = .ok ms ρ1 ∧ I ms ρ1
  | [], acc, ρ, h0, _ => ⟨acc, ρ, compGo_nil, h0⟩
  | d :: ds, acc, ρ, h0, H => by
    obtain ⟨r, ρ1, e1, h1⟩ := H d List.mem_cons_self acc ρ h0
    rw [compGo_cons, e1]
    cases r with
    | none => exact compGo_inv I (by simpa using h1) fun e he => H e (List.mem_cons_of_mem _ he)
    | some m => exact compGo_inv I (by simpa using h1) fun e he => H e (List.mem_cons_of_mem _ he)
/-- a for loop with an invariant, left at its end -/
theorem forGo_inv {h : PyData → Rho → Option Rho} {g : Rho → Fl} (I : Rho → Prop) : ∀ {ds : List PyData} {ρ : Rho}, I ρ →
    (∀ d ∈ ds, ∀ ρ, I ρ → ∃ ρ1 ρ2, h d ρ = some ρ1 ∧ (g ρ1 = .nx ρ2 ∨ g ρ1 = .ct ρ2) ∧ I ρ2) → ∃ ρ1, forGo h g ds ρ = .nx ρ1 ∧ I ρ1
  | [], ρ, h0, _ => ⟨ρ, rfl, h0⟩
  | d :: ds, ρ, h0, H => by
    obtain ⟨ρ1, ρ2, e1, e2, h2⟩ := H d List.mem_cons_self ρ h0
    rw [forGo, e1]
    rcases e2 with e2 | e2 <;> simp only [e2] <;> exact forGo_inv I h2 fun e he => H e (List.mem_cons_of_mem _ he)
end DL

set_option Elab.async false
set_option linter.all false
set_option maxRecDepth 100000
/-! DMb: the laws' deal and draws. -/
namespace DL
open PySem
def b_deal : Rho → Fl := (sSeq (sSet 2 (cComp [4] (iSeq (cSl (cVar 0) (oSome (nVar 1)) (oSome (nC (.int 63))))) (hName 4) cYes (cOpN opMax2 (aCons true (cVar 4) (aCons true (cOp2 true opSub (cD (.int 0)) (cVar 4)) aNil)))))
    (sSeq (sSet 3 (cOp2 true opAdd (cD (.int 7919)) (cVar 1)))
    (sSeq (sFor (iSeq (cVar 2)) (hName 4) (sSet 3 (cOp2 true opMod (cOp2 true opAdd (cOp2 true opMul (cVar 3) (cD (.int 48271))) (cOp2 true opMod (cVar 4) (cD (.int 2147483629)))) (cD (.int 2147483647)))))
    (sRet [] (cDict (((cD (.str "seed")), (cVar 3), true) :: (((cD (.str "number")), (cD (.int 0)), true) :: (((cD (.str "left")), (cOp1 opRev (cComp [4] (iSeq (cVar 2)) (hName 4) (cB (cOp2 true (cmpI fun i j => decide (j ≤ i)) (cVar 4) (cOp2 true opPow (cD (.int 10)) (cD (.int 18))))) (cVar 4))), true) :: []))))))))
def f_deal : List M → FOut := fnOut 5 2 [] b_deal
def b_draw : Rho → Fl := (sSeq (sWhile (cAnd (cB (cOp2 true opEq (cIx true (cVar 0) (cD (.str "number"))) (cD (.int 0)))) (cB (cOp2 true (cmpI fun i j => decide (j < i)) (cOpN opLen (aCons true (cIx true (cVar 0) (cD (.str "left"))) aNil)) (cD (.int 0))))) (sSetIx true (cPop (cIx true (cVar 0) (cD (.str "left")))) (cVar 0) (cD (.str "number"))))
    (sSeq (sSet 2 (cIx true (cVar 0) (cD (.str "number"))))
    (sSeq (sIf (cB (cOp2 true (cmpI fun i j => decide (j < i)) (cVar 2) (cD (.int 0)))) (sSeq (sSetIx true (cOp2 true opDiv (cVar 2) (cVar 1)) (cVar 0) (cD (.str "number")))
    (sRet [0] (cOp2 true opMod (cVar 2) (cVar 1)))) sNx)
    (sSeq (sSet 3 (cOp2 true opMod (cOp2 true opAdd (cOp2 true opMul (cIx true (cVar 0) (cD (.str "seed"))) (cD (.int 48271))) (cD (.int 7919))) (cD (.int 2147483647))))
    (sSeq (sSetIx true (cOp2 true opMod (cOp2 true opAdd (cOp2 true opMul (cVar 3) (cD (.int 40692))) (cD (.int 104729))) (cD (.int 2147483399))) (cVar 0) (cD (.str "seed")))
    (sSeq (sSet 4 (cOp2 true opMod (cOp2 true opMul (cIx true (cVar 0) (cD (.str "seed"))) (cIx true (cVar 0) (cD (.str "seed")))) (cD (.int 2147483563))))
    (sRet [0] (cOp2 true opMod (cOp2 true opAdd (cOp2 true opMul (cOp2 true opMod (cOp2 true opMul (cVar 3) (cVar 3)) (cD (.int 2147483629))) (cD (.int 2147483563))) (cVar 4)) (cVar 1)))))))))
def f_draw : List M → FOut := fnOut 5 2 [0] b_draw
def kyS (x : Str) : L2.Key := Sum.inr x
def dealKs : List L2.Key := [kyS "seed", kyS "number", kyS "left"]
def dInts (l : List Int) : List M := l.map fun i => .dat (.int i)
def dealM (s n : Int) (rest : List Int) : M := .dk dealKs [.dat (.int s), .dat (.int n), .lst (dInts rest.reverse)]
def Good (D : M) : Prop := ∃ s n rest, 0 ≤ s ∧ s < 2 ^ 40 ∧ rest.length ≤ 1000 ∧ D = dealM s n rest
theorem ix_seed {s n : Int} {r : List Int} : ixK (dealM s n r) (.str "seed") = some (.dat (.int s), .key (kyS "seed")) := by kernel_rfl
theorem ix_number {s n : Int} {r : List Int} : ixK (dealM s n r) (.str "number") = some (.dat (.int n), .key (kyS "number")) := by kernel_rfl
theorem ix_left {s n : Int} {r : List Int} : ixK (dealM s n r) (.str "left") = some (.lst (dInts r.reverse), .key (kyS "left")) := by kernel_rfl
theorem get_left {s n : Int} {r : List Int} : (dealM s n r).getP [.key (kyS "left")] = some (.lst (dInts r.reverse)) := by kernel_rfl
theorem set_left {s n : Int} {r q : List Int} : (dealM s n r).setP (.lst (dInts q.reverse)) [.key (kyS "left")] = dealM s n q := by kernel_rfl
theorem put_number {s n n' : Int} {r : List Int} : putAt (dealM s n r) (.str "number") (.dat (.int n')) = some (dealM s n' r) := by kernel_rfl
theorem put_seed {s n s' : Int} {r : List Int} : putAt (dealM s n r) (.str "seed") (.dat (.int s')) = some (dealM s' n r) := by kernel_rfl
theorem getP_nil {m : M} : m.getP [] = some m := by rw [M.getP]
theorem setP_nil {m c : M} : m.setP c [] = c := by rw [M.setP]
@[simp] theorem rdP_some {ρ : Rho} {i : Nat} {m : M} (h : ρ[i]? = some (some m)) : rdP ρ i [] = some m := by
  unfold rdP
  rw [h]
  exact getP_nil
theorem var_deal {s n : Int} {r : List Int} {ρ : Rho} : cVar 0 (some (dealM s n r) :: ρ) = .ok (.plc 0 []) (some (dealM s n r) :: ρ) := rfl
theorem ix_run {s n : Int} {r : List Int} {ρ : Rho} {x : Str} {d : PyData} {st : Stp} (h : ixK (dealM s n r) (.str x) = some (.dat d, st)) : cIx true (cVar 0) (cD (.str x)) (some (dealM s n r) :: ρ) = .ok (.val (.dat d)) (some (dealM s n r) :: ρ) := by
  rw [run_ix, var_deal]
  show finIx (.plc 0 []) (.val (.dat (.str x))) (some (dealM s n r) :: ρ) = _
  unfold finIx
  rw [rd_plc, rdP_some (m := dealM s n r) rfl]
  show (match ixK (dealM s n r) (.str x) with
    | some (c, s) => itemOf (.plc 0 []) c s _
    | none => .bad) = _
  rw [h]
  rfl
theorem ix_run_left {s n : Int} {r : List Int} {ρ : Rho} : cIx true (cVar 0) (cD (.str "left")) (some (dealM s n r) :: ρ) = .ok (.plc 0 [.key (kyS "left")]) (some (dealM s n r) :: ρ) := by
  rw [run_ix, var_deal]
  show finIx (.plc 0 []) (.val (.dat (.str "left"))) (some (dealM s n r) :: ρ) = _
  unfold finIx
  rw [rd_plc, rdP_some (m := dealM s n r) rfl]
  show (match ixK (dealM s n r) (.str "left") with
    | some (c, s) => itemOf (.plc 0 []) c s _
    | none => .bad) = _
  rw [ix_left]
  rfl
theorem rdP_left {s n : Int} {r : List Int} {ρ : Rho} : rdP (some (dealM s n r) :: ρ) 0 [.key (kyS "left")] = some (.lst (dInts r.reverse)) := get_left (s := s) (n := n)
theorem len_dInts {l : List Int} : (dInts l).length = l.length := List.length_map ..
theorem cond_run {s n : Int} {r : List Int} {ρ : Rho} : (cAnd (cB (cOp2 true opEq (cIx true (cVar 0) (cD (.str "number"))) (cD (.int 0)))) (cB (cOp2 true (cmpI fun i j => decide (j < i)) (cOpN opLen (aCons true (cIx true (cVar 0) (cD (.str "left"))) aNil)) (cD (.int 0))))) (some (dealM s n r) :: ρ)
    = .ok (decide (n = 0) && decide (r ≠ [])) (some (dealM s n r) :: ρ) := by
  have e1 : opEq (.dat (.int n)) (.dat (.int 0)) = some (.dat (.bool (decide (n = 0)))) := by
    unfold opEq
    simp only [frz_dat]
    rfl
  have e2 : opLen [.lst (dInts r.reverse)] = some (.dat (.int r.length)) := by
    show some (M.dat (.int (dInts r.reverse).length)) = _
    rw [len_dInts, List.length_reverse]
  simp only [run_and, run_B, run_op2, ix_run ix_number, bind_ok, run_d, Bool.true_or, if_true, run_fin2vv, e1, run_opN, run_cons, ix_run_left, run_nil, run_finN, rds_cons, rds_nil, rd_plc, rdP_left, e2, cmpI_ii]
  by_cases h : n = 0
  · simp only [h, decide_true, if_true, Bool.true_and]
    cases r with
    | nil => rfl
    | cons a b =>
      have : (0 : Int) < ((a :: b).length : Int) := by rw [List.length_cons]; omega
      simp [this]
  · simp [h]
theorem pop_run {s n x : Int} {r : List Int} {ρ : Rho} : sSetIx true (cPop (cIx true (cVar 0) (cD (.str "left")))) (cVar 0) (cD (.str "number")) (some (dealM s n (x :: r)) :: ρ) = .nx (some (dealM s x r) :: ρ) := by
  have e0 : cRecv gdL true (cIx true (cVar 0) (cD (.str "left"))) aNil (some (dealM s n (x :: r)) :: ρ) = .ok (.plc 0 [.key (kyS "left")], []) (some (dealM s n (x :: r)) :: ρ) := by
    unfold cRecv
    rw [ix_run_left]
    simp only [rd_plc, rdP_left]
    rfl
  have e1 : dInts (x :: r).reverse = dInts r.reverse ++ [.dat (.int x)] := by
    unfold dInts
    rw [List.reverse_cons, List.map_append]
    rfl
  have e2 : cPop (cIx true (cVar 0) (cD (.str "left"))) (some (dealM s n (x :: r)) :: ρ) = .ok (.val (.dat (.int x))) (some (dealM s n r) :: ρ) := by
    unfold cPop
    rw [e0]
    simp only [rdP_left, e1, List.getLast?_append, List.getLast?_singleton, Option.some_or, List.dropLast_concat]
    show Out.ok _ (some ((dealM s n (x :: r)).setP (.lst (dInts r.reverse)) [.key (kyS "left")]) :: ρ) = _
    rw [set_left]
  unfold sSetIx
  rw [e2]
  simp only [toVal_val, run_two, var_deal, bind_ok, run_d, Bool.true_or, if_true]
  have e3 : rdP (some (dealM s n r) :: ρ) 0 [] = some (dealM s n r) := rdP_some rfl
  rw [e3]
  simp only [put_number]
  show Fl.nx (some ((dealM s n r).setP (dealM s x r) []) :: ρ) = _
  rw [setP_nil]
theorem put_run {s n : Int} {r : List Int} {ρ : Rho} {f : Rho → Out Vl} {z : Int} {x : Str} {D : M} (hf : f (some (dealM s n r) :: ρ) = .ok (.val (.dat (.int z))) (some (dealM s n r) :: ρ)) (hp : putAt (dealM s n r) (.str x) (.dat (.int z)) = some D) :
    sSetIx true f (cVar 0) (cD (.str x)) (some (dealM s n r) :: ρ) = .nx (some D :: ρ) := by
  unfold sSetIx
  rw [hf]
  simp only [toVal_val, run_two, var_deal, bind_ok, run_d, Bool.true_or, if_true]
  have e3 : rdP (some (dealM s n r) :: ρ) 0 [] = some (dealM s n r) := rdP_some rfl
  rw [e3]
  simp only [hp]
  show Fl.nx (some ((dealM s n r).setP D []) :: ρ) = _
  rw [setP_nil]
/-- the numbers that a draw takes off -/
def pull : Int → List Int → Int × List Int
  | n, [] => (n, [])
  | n, x :: r => if n = 0 then pull x r else (n, x :: r)
theorem pull_len : ∀ (r : List Int) (n : Int), (pull n r).2.length ≤ r.length
  | [], n => Nat.le_refl _
  | x :: r, n => by
    unfold pull
    split
    · exact Nat.le_succ_of_le (pull_len r x)
    · exact Nat.le_refl _
theorem loop_run {s : Int} {ρ : Rho} {ft : Rho → Out Bool} {g : Rho → Fl} (hc : ∀ n r, ft (some (dealM s n r) :: ρ) = .ok (decide (n = 0) && decide (r ≠ [])) (some (dealM s n r) :: ρ)) (hg : ∀ n x r, g (some (dealM s n (x :: r)) :: ρ) = .nx (some (dealM s x r) :: ρ)) :
    ∀ (r : List Int) (n : Int) (k : Nat), r.length < k → whileGo ft g k (some (dealM s n r) :: ρ) = .nx (some (dealM s (pull n r).1 (pull n r).2) :: ρ)
  | [], n, 0, h => absurd h (by simp)
  | [], n, k + 1, _ => by
    rw [whileGo, hc]
    simp [pull]
  | x :: r, n, 0, h => absurd h (by simp)
  | x :: r, n, k + 1, h => by
    rw [whileGo, hc]
    by_cases hn : n = 0
    · simp only [hn, decide_true, Bool.true_and, ne_eq, reduceCtorEq, not_false_eq_true, if_true, hg, pull]
      exact loop_run hc hg r x k (by simpa using h)
    · simp [hn, pull]
theorem log_le {i : Int} {k : Nat} (h0 : 0 ≤ i) (h : i < 2 ^ k) : i.natAbs.log2 ≤ k := by
  by_cases hz : i.natAbs = 0
  · rw [hz]; simp
  · have : i.natAbs < 2 ^ k := by
      have e : ((i.natAbs : Nat) : Int) = i := Int.natAbs_of_nonneg h0
      have : ((i.natAbs : Nat) : Int) < ((2 ^ k : Nat) : Int) := by rw [e]; push_cast; exact h
      exact_mod_cast this
    exact Nat.le_of_lt ((Nat.log2_lt hz).mpr this)
theorem fits_small {i j : Int} (h0 : 0 ≤ i) (h1 : i < 2 ^ 64) (h2 : 0 ≤ j) (h3 : j < 2 ^ 64) : fitsMul i j = true := by
  unfold fitsMul
  have := log_le h0 h1
  have := log_le h2 h3
  simp only [decide_eq_true_eq]
  omega
theorem fitsDiv_small {j : Int} (h0 : 0 < j) (h1 : j < 2 ^ 64) : fitsDiv j = true := by
  unfold fitsDiv
  have := log_le (Int.le_of_lt h0) h1
  simp only [Bool.and_eq_true, decide_eq_true_eq]
  omega
theorem mod_rng {a m : Int} (h : 0 < m) : 0 ≤ a % m ∧ a % m < m := ⟨Int.emod_nonneg a (by omega), Int.emod_lt_of_pos a h⟩
/-- a draw -/
theorem draw_ok {D : M} {n : Int} (g : Good D) (h0 : 0 < n) (h1 : n ≤ 2 ^ 62) : ∃ v D', f_draw [D, .dat (.int n)] = .ok (.dat (.int v)) [D', .dat (.int n)] ∧ 0 ≤ v ∧ v < n ∧ Good D' := by
  obtain ⟨s, num, r, hs0, hs1, hr, rfl⟩ := g
  have hf : fitsDiv n = true := fitsDiv_small h0 (by omega)
  have hw : sWhile (cAnd (cB (cOp2 true opEq (cIx true (cVar 0) (cD (.str "number"))) (cD (.int 0)))) (cB (cOp2 true (cmpI fun i j => decide (j < i)) (cOpN opLen (aCons true (cIx true (cVar 0) (cD (.str "left"))) aNil)) (cD (.int 0))))) (sSetIx true (cPop (cIx true (cVar 0) (cD (.str "left")))) (cVar 0) (cD (.str "number")))
      (some (dealM s num r) :: [some (.dat (.int n)), none, none, none]) = .nx (some (dealM s (pull num r).1 (pull num r).2) :: [some (.dat (.int n)), none, none, none]) := by
    unfold sWhile fuel
    exact loop_run (fun n r => cond_run) (fun n x r => pop_run) r num _ (by omega)
  have hl := pull_len r num
  generalize hp : pull num r = q at hw hl
  obtain ⟨m, l⟩ := q
  simp only at hw hl
  have start : f_draw [dealM s num r, .dat (.int n)] = (match b_draw (some (dealM s num r) :: [some (.dat (.int n)), none, none, none]) with
    | .nx ρ => (match fins [0] ρ 0 [dealM s num r, .dat (.int n)] with
      | some fin => .ok (.dat .none) fin
      | none => .bad)
    | .rt r' ρ => (match fins [0] ρ 0 [dealM s num r, .dat (.int n)] with
      | some fin => .ok r' fin
      | none => .bad)
    | .exc x ρ => (match fins [0] ρ 0 [dealM s num r, .dat (.int n)] with
      | some fin => .exc x fin
      | none => .bad)
    | _ => .bad) := by
    unfold f_draw fnOut
    rw [if_pos ⟨rfl, rfl⟩]
    rfl
  rw [start]
  unfold b_draw
  rw [run_seq, hw]
  simp only []
  -- number := ..
  rw [run_seq, run_set, ix_run ix_number]
  simp only [toVal_val, List.length_cons, List.length_nil]
  have e1 : (some (dealM s m l) :: [some (.dat (.int n)), none, none, none]).set 2 (some (.dat (.int m))) = some (dealM s m l) :: [some (.dat (.int n)), some (.dat (.int m)), none, none] := rfl
  rw [if_pos (by omega), e1]
  simp only []
  by_cases hm : 0 < m
  · have ec : cB (cOp2 true (cmpI fun i j => decide (j < i)) (cVar 2) (cD (.int 0))) (some (dealM s m l) :: [some (.dat (.int n)), some (.dat (.int m)), none, none]) = .ok true (some (dealM s m l) :: [some (.dat (.int n)), some (.dat (.int m)), none, none]) := by
      show Out.ok (decide (0 < m)) _ = _
      rw [decide_eq_true hm]
    have ed : cOp2 true opDiv (cVar 2) (cVar 1) (some (dealM s m l) :: [some (.dat (.int n)), some (.dat (.int m)), none, none]) = .ok (.val (.dat (.int (m / n)))) (some (dealM s m l) :: [some (.dat (.int n)), some (.dat (.int m)), none, none]) := by
      show fin2 opDiv (.val (.dat (.int m))) (.val (.dat (.int n))) _ = _
      rw [run_fin2vv, opDiv_ii, if_pos hf]
    have em : cOp2 true opMod (cVar 2) (cVar 1) (some (dealM s (m / n) l) :: [some (.dat (.int n)), some (.dat (.int m)), none, none]) = .ok (.val (.dat (.int (m % n)))) (some (dealM s (m / n) l) :: [some (.dat (.int n)), some (.dat (.int m)), none, none]) := by
      show fin2 opMod (.val (.dat (.int m))) (.val (.dat (.int n))) _ = _
      rw [run_fin2vv, opMod_ii, if_pos h0]
    rw [run_seq, run_if, ec]
    simp only [if_true]
    rw [run_seq, put_run ed put_number]
    simp only []
    rw [run_ret, em]
    simp only [retV_val]
    exact ⟨m % n, dealM s (m / n) l, rfl, (mod_rng h0).1, (mod_rng h0).2, s, m / n, l, hs0, hs1, by omega, rfl⟩
  · have ec : cB (cOp2 true (cmpI fun i j => decide (j < i)) (cVar 2) (cD (.int 0))) (some (dealM s m l) :: [some (.dat (.int n)), some (.dat (.int m)), none, none]) = .ok false (some (dealM s m l) :: [some (.dat (.int n)), some (.dat (.int m)), none, none]) := by
      show Out.ok (decide (0 < m)) _ = _
      rw [decide_eq_false hm]
    rw [run_seq, run_if, ec]
    simp only [Bool.false_eq_true, if_false, run_nx]
    -- one := ..
    have r1 := mod_rng (a := s * 48271 + 7919) (m := 2147483647) (by omega)
    generalize h1' : (s * 48271 + 7919) % 2147483647 = one at r1
    have e2 : (cOp2 true opMod (cOp2 true opAdd (cOp2 true opMul (cIx true (cVar 0) (cD (.str "seed"))) (cD (.int 48271))) (cD (.int 7919))) (cD (.int 2147483647))) (some (dealM s m l) :: [some (.dat (.int n)), some (.dat (.int m)), none, none]) = .ok (.val (.dat (.int one))) (some (dealM s m l) :: [some (.dat (.int n)), some (.dat (.int m)), none, none]) := by
      simp only [run_op2, ix_run ix_seed, bind_ok, run_d, Bool.true_or, if_true, run_fin2vv, opMul_ii, fits_small hs0 (by omega : s < 2 ^ 64) (by omega : (0 : Int) ≤ 48271) (by omega), opAdd_ii, opMod_ii, show (0 : Int) < 2147483647 from by omega, h1']
    rw [run_seq, run_set, e2]
    simp only [toVal_val, List.length_cons, List.length_nil]
    have e3 : (some (dealM s m l) :: [some (.dat (.int n)), some (.dat (.int m)), none, none]).set 3 (some (.dat (.int one))) = some (dealM s m l) :: [some (.dat (.int n)), some (.dat (.int m)), some (.dat (.int one)), none] := rfl
    rw [if_pos (by omega), e3]
    simp only []
    -- seed := ..
    have r2 := mod_rng (a := one * 40692 + 104729) (m := 2147483399) (by omega)
    generalize h2' : (one * 40692 + 104729) % 2147483399 = sd at r2
    have e4 : (cOp2 true opMod (cOp2 true opAdd (cOp2 true opMul (cVar 3) (cD (.int 40692))) (cD (.int 104729))) (cD (.int 2147483399))) (some (dealM s m l) :: [some (.dat (.int n)), some (.dat (.int m)), some (.dat (.int one)), none]) = .ok (.val (.dat (.int sd))) (some (dealM s m l) :: [some (.dat (.int n)), some (.dat (.int m)), some (.dat (.int one)), none]) := by
      have ev : cVar 3 (some (dealM s m l) :: [some (.dat (.int n)), some (.dat (.int m)), some (.dat (.int one)), none]) = .ok (.val (.dat (.int one))) (some (dealM s m l) :: [some (.dat (.int n)), some (.dat (.int m)), some (.dat (.int one)), none]) := rfl
      simp only [run_op2, ev, bind_ok, run_d, Bool.true_or, if_true, run_fin2vv, opMul_ii, fits_small r1.1 (by omega : one < 2 ^ 64) (by omega : (0 : Int) ≤ 40692) (by omega), opAdd_ii, opMod_ii, show (0 : Int) < 2147483399 from by omega, h2']
    rw [run_seq, put_run e4 put_seed]
    simp only []
    have r3 := mod_rng (a := sd * sd) (m := 2147483563) (by omega)
    generalize h3' : (sd * sd) % 2147483563 = ot at r3
    have e5 : (cOp2 true opMod (cOp2 true opMul (cIx true (cVar 0) (cD (.str "seed"))) (cIx true (cVar 0) (cD (.str "seed")))) (cD (.int 2147483563))) (some (dealM sd m l) :: [some (.dat (.int n)), some (.dat (.int m)), some (.dat (.int one)), none]) = .ok (.val (.dat (.int ot))) (some (dealM sd m l) :: [some (.dat (.int n)), some (.dat (.int m)), some (.dat (.int one)), none]) := by
      simp only [run_op2, ix_run ix_seed, bind_ok, run_d, Bool.true_or, if_true, run_fin2vv, opMul_ii, fits_small r2.1 (by omega : sd < 2 ^ 64) r2.1 (by omega : sd < 2 ^ 64), opMod_ii, show (0 : Int) < 2147483563 from by omega, h3']
    rw [run_seq, run_set, e5]
    simp only [toVal_val, List.length_cons, List.length_nil]
    have e6 : (some (dealM sd m l) :: [some (.dat (.int n)), some (.dat (.int m)), some (.dat (.int one)), none]).set 4 (some (.dat (.int ot))) = some (dealM sd m l) :: [some (.dat (.int n)), some (.dat (.int m)), some (.dat (.int one)), some (.dat (.int ot))] := rfl
    rw [if_pos (by omega), e6]
    simp only []
    have r4 := mod_rng (a := one * one) (m := 2147483629) (by omega)
    have e7 : (cOp2 true opMod (cOp2 true opAdd (cOp2 true opMul (cOp2 true opMod (cOp2 true opMul (cVar 3) (cVar 3)) (cD (.int 2147483629))) (cD (.int 2147483563))) (cVar 4)) (cVar 1)) (some (dealM sd m l) :: [some (.dat (.int n)), some (.dat (.int m)), some (.dat (.int one)), some (.dat (.int ot))])
        = .ok (.val (.dat (.int ((one * one % 2147483629 * 2147483563 + ot) % n)))) (some (dealM sd m l) :: [some (.dat (.int n)), some (.dat (.int m)), some (.dat (.int one)), some (.dat (.int ot))]) := by
      have ev : cVar 3 (some (dealM sd m l) :: [some (.dat (.int n)), some (.dat (.int m)), some (.dat (.int one)), some (.dat (.int ot))]) = .ok (.val (.dat (.int one))) (some (dealM sd m l) :: [some (.dat (.int n)), some (.dat (.int m)), some (.dat (.int one)), some (.dat (.int ot))]) := rfl
      have ev4 : cVar 4 (some (dealM sd m l) :: [some (.dat (.int n)), some (.dat (.int m)), some (.dat (.int one)), some (.dat (.int ot))]) = .ok (.val (.dat (.int ot))) (some (dealM sd m l) :: [some (.dat (.int n)), some (.dat (.int m)), some (.dat (.int one)), some (.dat (.int ot))]) := rfl
      have ev1 : cVar 1 (some (dealM sd m l) :: [some (.dat (.int n)), some (.dat (.int m)), some (.dat (.int one)), some (.dat (.int ot))]) = .ok (.val (.dat (.int n))) (some (dealM sd m l) :: [some (.dat (.int n)), some (.dat (.int m)), some (.dat (.int one)), some (.dat (.int ot))]) := rfl
      simp only [run_op2, ev, ev4, ev1, bind_ok, run_d, Bool.true_or, if_true, run_fin2vv, opMul_ii, fits_small r1.1 (by omega : one < 2 ^ 64) r1.1 (by omega : one < 2 ^ 64), opMod_ii, show (0 : Int) < 2147483629 from by omega, fits_small r4.1 (by omega : one * one % 2147483629 < 2 ^ 64) (by omega : (0 : Int) ≤ 2147483563) (by omega), opAdd_ii, h0]
    rw [run_ret, e7]
    simp only [retV_val]
    exact ⟨_, dealM sd m l, rfl, (mod_rng h0).1, (mod_rng h0).2, sd, m, l, r2.1, by omega, by omega, rfl⟩
/-! ### the deal -/
theorem frzs_dats : ∀ {l : List PyData}, M.frzs (l.map M.dat) = some l
  | [] => by rw [List.map_nil, M.frzs]
  | d :: l => by
    rw [List.map_cons, M.frzs, frz_dat, frzs_dats]
@[simp] theorem frz_dats {l : List PyData} : M.frz (.lst (l.map M.dat)) = some (.list l) := by
  rw [M.frz, frzs_dats]
@[simp] theorem datsOf_dats : ∀ {l : List PyData}, datsOf (l.map M.dat) = some l
  | [] => rfl
  | d :: l => by
    show (match datsOf (l.map M.dat) with
      | some ds => some (d :: ds)
      | none => none) = _
    rw [datsOf_dats]
theorem compGo_len {own : List Nat} {h : PyData → Rho → Option Rho} {ft : Rho → Out Bool} {fe : Rho → Out Vl} : ∀ {ds : List PyData} {acc : List M} {ρ : Rho} {ms : List M} {ρ1 : Rho}, compGo own h ft fe ds acc ρ = .ok ms ρ1 → ms.length ≤ acc.length + ds.length
  | [], acc, ρ, ms, ρ1, e => by
    rw [compGo_nil] at e
    cases e
    simp
  | d :: ds, acc, ρ, ms, ρ1, e => by
    rw [compGo_cons] at e
    split at e
    · have := compGo_len e
      rw [List.length_append, List.length_singleton] at this
      rw [List.length_cons]
      omega
    · have := compGo_len e
      rw [List.length_cons]
      omega
    · cases e
theorem wipe4 {a b c d e : Option M} : wipeM [a, b, c, d, e] [4] = [a, b, c, d, none] := rfl
theorem cut_map {α : Type} {f : Int → PyData} {ns : List Int} {lo hi : Option Int} : ∃ cs : List Int, cs.length ≤ ns.length ∧ cutD (ns.map f) lo hi = cs.map f := by
  unfold cutD
  refine ⟨(ns.drop (HT.sIx (ns.map f).length 0 lo)).take _, ?_, by rw [← List.map_drop, ← List.map_take]⟩
  rw [List.length_take, List.length_drop]
  omega
theorem deal_ok {ns : List Int} {b : Int} (hn : ns.length ≤ 63) (hb0 : 0 ≤ b) (hb1 : b ≤ 1000) : ∃ D, f_deal [.scr ns, .dat (.int b)] = .ok D [.scr ns, .dat (.int b)] ∧ Good D := by
  have hz : 63 ≤ sizeLine := by decide
  obtain ⟨cs, hcs, ecs⟩ := cut_map (α := Int) (f := PyData.int) (ns := ns) (lo := some b) (hi := some 63)
  have start : f_deal [.scr ns, .dat (.int b)] = (match b_deal [some (.scr ns), some (.dat (.int b)), none, none, none] with
    | .nx ρ => .ok (.dat .none) [.scr ns, .dat (.int b)]
    | .rt r' ρ => .ok r' [.scr ns, .dat (.int b)]
    | .exc x ρ => .exc x [.scr ns, .dat (.int b)]
    | _ => .bad) := by
    unfold f_deal fnOut
    rw [if_pos ⟨rfl, rfl⟩]
    rfl
  rw [start]
  -- the cells
  have e1 : iSeq (cSl (cVar 0) (oSome (nVar 1)) (oSome (nC (.int 63)))) [some (.scr ns), some (.dat (.int b)), none, none, none] = .ok (cs.map PyData.int) [some (.scr ns), some (.dat (.int b)), none, none, none] := by
    have : cSl (cVar 0) (oSome (nVar 1)) (oSome (nC (.int 63))) [some (.scr ns), some (.dat (.int b)), none, none, none] = .ok (.val (.lst ((cutD (ns.map PyData.int) (some b) (some 63)).map M.dat))) [some (.scr ns), some (.dat (.int b)), none, none, none] := by
      unfold cSl
      have e0 : cVar 0 [some (.scr ns), some (.dat (.int b)), none, none, none] = .ok (.plc 0 []) [some (.scr ns), some (.dat (.int b)), none, none, none] := rfl
      rw [e0]
      simp only [rd_plc]
      rw [rdP_some (m := .scr ns) rfl]
      rfl
    rw [run_iseq, this, ecs]
    simp only [toDat_val, frz_dats]
    rfl
  let g : PyData → PyData := fun d => match d with
    | .int i => .int (if 0 - i > i then 0 - i else i)
    | d => d
  have e2 : cComp [4] (iSeq (cSl (cVar 0) (oSome (nVar 1)) (oSome (nC (.int 63))))) (hName 4) cYes (cOpN opMax2 (aCons true (cVar 4) (aCons true (cOp2 true opSub (cD (.int 0)) (cVar 4)) aNil))) [some (.scr ns), some (.dat (.int b)), none, none, none]
      = .ok (.val (.lst (((cs.map PyData.int).map g).map M.dat))) [some (.scr ns), some (.dat (.int b)), none, none, none] := by
    rw [run_comp, e1]
    simp only [wipe4]
    rw [if_pos (by rw [List.length_map]; omega), compGo_map (fun d => .dat (g d)) (fun d hd => ?_)]
    · simp only [List.nil_append, List.map_map]
      rfl
    · obtain ⟨i, _, rfl⟩ := List.mem_map.mp hd
      rfl
  generalize hL : (cs.map PyData.int).map g = L at e2
  have hLi : ∀ d ∈ L, ∃ i, d = .int i := fun d hd => by
    rw [← hL] at hd
    obtain ⟨d', hd', rfl⟩ := List.mem_map.mp hd
    obtain ⟨i, _, rfl⟩ := List.mem_map.mp hd'
    exact ⟨_, rfl⟩
  have hLl : L.length ≤ 63 := by rw [← hL, List.length_map, List.length_map]; omega
  unfold b_deal
  rw [run_seq, run_set, e2]
  simp only [toVal_val, List.length_cons, List.length_nil]
  have e3 : ([some (.scr ns), some (.dat (.int b)), none, none, none] : Rho).set 2 (some (.lst (L.map M.dat))) = [some (.scr ns), some (.dat (.int b)), some (.lst (L.map M.dat)), none, none] := rfl
  rw [if_pos (by omega), e3]
  simp only []
  have e4 : sSet 3 (cOp2 true opAdd (cD (.int 7919)) (cVar 1)) [some (.scr ns), some (.dat (.int b)), some (.lst (L.map M.dat)), none, none] = .nx [some (.scr ns), some (.dat (.int b)), some (.lst (L.map M.dat)), some (.dat (.int (7919 + b))), none] := rfl
  rw [run_seq, e4]
  simp only []
  -- the mixing
  have e5 : iSeq (cVar 2) [some (.scr ns), some (.dat (.int b)), some (.lst (L.map M.dat)), some (.dat (.int (7919 + b))), none] = .ok L [some (.scr ns), some (.dat (.int b)), some (.dat (.list L)), some (.dat (.int (7919 + b))), none] := by
    have e0 : cVar 2 [some (.scr ns), some (.dat (.int b)), some (.lst (L.map M.dat)), some (.dat (.int (7919 + b))), none] = .ok (.plc 2 []) [some (.scr ns), some (.dat (.int b)), some (.lst (L.map M.dat)), some (.dat (.int (7919 + b))), none] := rfl
    rw [run_iseq, e0]
    unfold toDat
    simp only []
    rw [rdP_some (m := .lst (L.map M.dat)) rfl]
    simp only [frz_dats]
    have e1 : wrP [some (.scr ns), some (.dat (.int b)), some (.lst (L.map M.dat)), some (.dat (.int (7919 + b))), none] 2 [] (.dat (.list L)) = [some (.scr ns), some (.dat (.int b)), some (.dat (.list L)), some (.dat (.int (7919 + b))), none] := by
      show List.set _ 2 (some (M.setP _ _ [])) = _
      rw [setP_nil]
      rfl
    rw [e1]
    rfl
  obtain ⟨ρ1, e6, num, sl, hn0, hn1, rfl⟩ := forGo_inv (h := hName 4) (g := sSet 3 (cOp2 true opMod (cOp2 true opAdd (cOp2 true opMul (cVar 3) (cD (.int 48271))) (cOp2 true opMod (cVar 4) (cD (.int 2147483629)))) (cD (.int 2147483647))))
    (fun ρ => ∃ num sl, 0 ≤ num ∧ num < 2 ^ 40 ∧ ρ = [some (.scr ns), some (.dat (.int b)), some (.dat (.list L)), some (.dat (.int num)), sl]) (ds := L) (ρ := [some (.scr ns), some (.dat (.int b)), some (.dat (.list L)), some (.dat (.int (7919 + b))), none]) ⟨7919 + b, none, by omega, by omega, rfl⟩ (fun d hd ρ hI => by
      obtain ⟨i, rfl⟩ := hLi d hd
      obtain ⟨num, sl, h0, h1, rfl⟩ := hI
      refine ⟨[some (.scr ns), some (.dat (.int b)), some (.dat (.list L)), some (.dat (.int num)), some (.dat (.int i))], [some (.scr ns), some (.dat (.int b)), some (.dat (.list L)), some (.dat (.int ((num * 48271 + i % 2147483629) % 2147483647))), some (.dat (.int i))], rfl, .inl ?_,
        _, some (.dat (.int i)), (mod_rng (by omega)).1, Int.lt_trans (mod_rng (by omega)).2 (by omega), rfl⟩
      have ev : cVar 3 [some (.scr ns), some (.dat (.int b)), some (.dat (.list L)), some (.dat (.int num)), some (.dat (.int i))] = .ok (.val (.dat (.int num))) [some (.scr ns), some (.dat (.int b)), some (.dat (.list L)), some (.dat (.int num)), some (.dat (.int i))] := rfl
      have ev4 : cVar 4 [some (.scr ns), some (.dat (.int b)), some (.dat (.list L)), some (.dat (.int num)), some (.dat (.int i))] = .ok (.val (.dat (.int i))) [some (.scr ns), some (.dat (.int b)), some (.dat (.list L)), some (.dat (.int num)), some (.dat (.int i))] := rfl
      simp only [run_set, run_op2, ev, ev4, bind_ok, run_d, Bool.true_or, if_true, run_fin2vv, opMul_ii, fits_small h0 (by omega : num < 2 ^ 64) (by omega : (0 : Int) ≤ 48271) (by omega), opMod_ii, show (0 : Int) < 2147483629 from by omega, opAdd_ii, show (0 : Int) < 2147483647 from by omega, toVal_val]
      rfl)
  rw [run_seq, run_for, e5]
  simp only [e6]
  -- the great cells
  have e7 : iSeq (cVar 2) [some (.scr ns), some (.dat (.int b)), some (.dat (.list L)), some (.dat (.int num)), sl] = .ok L [some (.scr ns), some (.dat (.int b)), some (.dat (.list L)), some (.dat (.int num)), sl] := rfl
  obtain ⟨ms, ρ2, e8, q, hq, em, hI⟩ := compGo_inv (own := [4]) (h := hName 4) (ft := cB (cOp2 true (cmpI fun i j => decide (j ≤ i)) (cVar 4) (cOp2 true opPow (cD (.int 10)) (cD (.int 18))))) (fe := cVar 4)
    (fun acc ρ => ∃ q : List Int, acc = dInts q ∧ True ∧ ρ = [some (.scr ns), some (.dat (.int b)), some (.dat (.list L)), some (.dat (.int num)), none]) (ds := L) (acc := []) (ρ := [some (.scr ns), some (.dat (.int b)), some (.dat (.list L)), some (.dat (.int num)), none]) ⟨[], rfl, trivial, rfl⟩ (fun d hd acc ρ hI => by
      obtain ⟨i, rfl⟩ := hLi d hd
      obtain ⟨q, rfl, _, rfl⟩ := hI
      have ec : cB (cOp2 true (cmpI fun i j => decide (j ≤ i)) (cVar 4) (cOp2 true opPow (cD (.int 10)) (cD (.int 18)))) [some (.scr ns), some (.dat (.int b)), some (.dat (.list L)), some (.dat (.int num)), some (.dat (.int i))] = .ok (decide ((10 : Int) ^ 18 ≤ i)) [some (.scr ns), some (.dat (.int b)), some (.dat (.list L)), some (.dat (.int num)), some (.dat (.int i))] := rfl
      by_cases hi : (10 : Int) ^ 18 ≤ i
      · refine ⟨some (.dat (.int i)), _, ?_, q ++ [i], ?_, trivial, rfl⟩
        · unfold cStep
          have eh : hName 4 (.int i) [some (.scr ns), some (.dat (.int b)), some (.dat (.list L)), some (.dat (.int num)), none] = some [some (.scr ns), some (.dat (.int b)), some (.dat (.list L)), some (.dat (.int num)), some (.dat (.int i))] := rfl
          rw [eh]
          simp only [ec, decide_eq_true hi, if_true]
          rfl
        · unfold dInts
          rw [List.map_append]
          rfl
      · refine ⟨none, _, ?_, q, ?_, trivial, rfl⟩
        · unfold cStep
          have eh : hName 4 (.int i) [some (.scr ns), some (.dat (.int b)), some (.dat (.list L)), some (.dat (.int num)), none] = some [some (.scr ns), some (.dat (.int b)), some (.dat (.list L)), some (.dat (.int num)), some (.dat (.int i))] := rfl
          rw [eh]
          simp only [ec, decide_eq_false hi, Bool.false_eq_true, if_false]
          rfl
        · show dInts q ++ [] = _
          rw [List.append_nil])
  subst hq
  have hql : q.length ≤ 63 := by
    have := compGo_len e8
    rw [len_dInts, List.length_nil] at this
    omega
  have e9 : cOp1 opRev (cComp [4] (iSeq (cVar 2)) (hName 4) (cB (cOp2 true (cmpI fun i j => decide (j ≤ i)) (cVar 4) (cOp2 true opPow (cD (.int 10)) (cD (.int 18))))) (cVar 4)) [some (.scr ns), some (.dat (.int b)), some (.dat (.list L)), some (.dat (.int num)), sl]
      = .ok (.val (.lst (dInts q.reverse))) (restore [some (.scr ns), some (.dat (.int b)), some (.dat (.list L)), some (.dat (.int num)), sl] [4] ρ2) := by
    rw [run_op1, run_comp, e7]
    simp only [wipe4]
    rw [if_pos (by omega), e8]
    have ed : dInts q = (q.map PyData.int).map M.dat := by unfold dInts; rw [List.map_map]; rfl
    have er : opRev (.lst (dInts q)) = some (.lst (dInts q.reverse)) := by
      unfold opRev
      have : M.asList (.lst (dInts q)) = some (q.map PyData.int) := by
        show datsOf (dInts q) = _
        rw [ed, datsOf_dats]
      rw [this]
      simp only [← List.map_reverse, List.map_map]
      rfl
    simp only [bind_ok, rd_val, er]
  have e10 : cDict (((cD (.str "seed")), (cVar 3), true) :: (((cD (.str "number")), (cD (.int 0)), true) :: (((cD (.str "left")), (cOp1 opRev (cComp [4] (iSeq (cVar 2)) (hName 4) (cB (cOp2 true (cmpI fun i j => decide (j ≤ i)) (cVar 4) (cOp2 true opPow (cD (.int 10)) (cD (.int 18))))) (cVar 4))), true) :: [])))
      [some (.scr ns), some (.dat (.int b)), some (.dat (.list L)), some (.dat (.int num)), sl] = .ok (.val (dealM num 0 q)) (restore [some (.scr ns), some (.dat (.int b)), some (.dat (.list L)), some (.dat (.int num)), sl] [4] ρ2) := by
    unfold cDict
    have ev : cVar 3 [some (.scr ns), some (.dat (.int b)), some (.dat (.list L)), some (.dat (.int num)), sl] = .ok (.val (.dat (.int num))) [some (.scr ns), some (.dat (.int b)), some (.dat (.list L)), some (.dat (.int num)), sl] := rfl
    simp only [cPs, run_d, ev, root_val, if_true, e9]
    rfl
  rw [run_ret, e10]
  exact ⟨dealM num 0 q, rfl, num, 0, q, hn0, hn1, by omega, rfl⟩
end DL

set_option Elab.async false
set_option linter.all false
set_option maxRecDepth 100000
/-! DMc: what a mirror comes to, told backwards (never bad). -/
namespace DL
open PySem
/-! what comes behind is kept from simp: a later argument hangs on it -/
inductive Dm {β : Type} : β → Type
  | mk {b : β} : Dm b
structure K1 (α : Type) where
  run : α → Prop
structure K2 (α : Type) where
  ok : α → Rho → Prop
  ex : Xv → Rho → Prop
structure KF where
  ok : M → List M → Prop
  ex : Xv → List M → Prop
structure PS where
  nx : Rho → Prop
  rt : M → Rho → Prop
  bk : Rho → Prop
  ct : Rho → Prop
  ex : Xv → Rho → Prop
def wpO {α : Type} (o : Out α) (k : K2 α) (_ : Dm k) : Prop := match o with
  | .ok a ρ => k.ok a ρ
  | .exc x ρ => k.ex x ρ
  | .bad => False
def wpB {α : Type} (o : Option α) (k : K1 α) (_ : Dm k) : Prop := ∃ a, o = some a ∧ k.run a
def wpX {α : Type} (f : Rho → Out α) (ρ : Rho) (k : K2 α) (_ : Dm k) : Prop := wpO (f ρ) k .mk
def wpL (o : Fl) (D : PS) (_ : Dm D) : Prop := match o with
  | .nx ρ => D.nx ρ
  | .rt m ρ => D.rt m ρ
  | .bk ρ => D.bk ρ
  | .ct ρ => D.ct ρ
  | .exc x ρ => D.ex x ρ
  | .bad => False
def wpS (f : Rho → Fl) (ρ : Rho) (D : PS) (_ : Dm D) : Prop := wpL (f ρ) D .mk
def wpF (F : List M → FOut) (ms : List M) (k : KF) (_ : Dm k) : Prop := match F ms with
  | .ok r fin => k.ok r fin
  | .exc x fin => k.ex x fin
  | .bad => False
section
variable {α β : Type} {Q : α → Rho → Prop} {E : Xv → Rho → Prop} {ρ : Rho} {D : PS} {R : Vl → Rho → Prop} {T : Bool → Rho → Prop}
@[simp] theorem wpB_some {a : α} {k : α → Prop} : wpB (some a) ⟨k⟩ .mk ↔ k a := ⟨fun ⟨_, e, h⟩ => by cases e; exact h, fun h => ⟨a, rfl, h⟩⟩
@[simp] theorem wpB_none {k : α → Prop} : wpB none ⟨k⟩ .mk ↔ False := ⟨fun ⟨_, e, _⟩ => (nomatch e), fun h => h.elim⟩
@[simp] theorem wpB_ite {c : Prop} [Decidable c] {a : α} {k : α → Prop} : wpB (if c then some a else none) ⟨k⟩ .mk ↔ c ∧ k a := by
  by_cases h : c
  · simp [h]
  · simp [h]
@[simp] theorem wpO_ok {a : α} : wpO (.ok a ρ) ⟨Q, E⟩ .mk ↔ Q a ρ := Iff.rfl
@[simp] theorem wpO_exc {x : Xv} : wpO (.exc x ρ) ⟨Q, E⟩ .mk ↔ E x ρ := Iff.rfl
@[simp] theorem wpO_bad : wpO .bad ⟨Q, E⟩ .mk ↔ False := Iff.rfl
theorem wpO_bind {o : Out α} {f : α → Rho → Out β} {Q : β → Rho → Prop} : wpO (o.bind f) ⟨Q, E⟩ .mk ↔ wpO o ⟨(fun a ρ1 => wpO (f a ρ1) ⟨Q, E⟩ .mk), E⟩ .mk := by cases o <;> exact Iff.rfl
theorem wpO_opt {o : Option M} : wpO (match o with
    | some m => (.ok (.val m) ρ : Out Vl)
    | none => .bad) ⟨R, E⟩ .mk ↔ wpB o ⟨fun m => R (.val m) ρ⟩ .mk := by cases o <;> simp
def vlAt (i : Nat) : M → Vl
  | .dat d => .val (.dat d)
  | _ => .plc i []
@[simp] theorem vlAt_d {i : Nat} {d : PyData} : vlAt i (.dat d) = .val (.dat d) := rfl
@[simp] theorem vlAt_l {i : Nat} {xs : List M} : vlAt i (.lst xs) = .plc i [] := rfl
@[simp] theorem vlAt_s {i : Nat} {xs : List Int} : vlAt i (.scr xs) = .plc i [] := rfl
@[simp] theorem vlAt_k {i : Nat} {ks : List L2.Key} {xs : List M} : vlAt i (.dk ks xs) = .plc i [] := rfl
@[simp] theorem vlAt_t {i : Nat} {ks : List (List L2.Key)} {xs : List M} : vlAt i (.dt ks xs) = .plc i [] := rfl
@[simp] theorem vlAt_i {i : Nat} {C : Str} {ns : List Str} {xs : List M} : vlAt i (.ins C ns xs) = .plc i [] := rfl
@[simp] theorem wp_var {i : Nat} : wpX (cVar i) ρ ⟨R, E⟩ .mk ↔ wpB (ρ[i]?) ⟨fun o => wpB o ⟨fun m => R (vlAt i m) ρ⟩ .mk⟩ .mk := by
  unfold wpX cVar
  cases h : ρ[i]? with
  | none => simp
  | some o =>
    cases o with
    | none => simp
    | some m => cases m <;> simp
@[simp] theorem wp_d {d : PyData} : wpX (cD d) ρ ⟨R, E⟩ .mk ↔ R (.val (.dat d)) ρ := Iff.rfl
@[simp] theorem wp_op2 {b : Bool} {o : M → M → Option M} {fa fb : Rho → Out Vl} : wpX (cOp2 b o fa fb) ρ ⟨R, E⟩ .mk ↔ wpX fa ρ ⟨(fun x ρ1 => (b || x.root) = true ∧ wpX fb ρ1 ⟨(fun y ρ2 => wpB (rdVl ρ2 x) ⟨fun m1 => wpB (rdVl ρ2 y) ⟨fun m2 => wpB (o m1 m2) ⟨fun m => R (.val m) ρ2⟩ .mk⟩ .mk⟩ .mk), E⟩ .mk), E⟩ .mk := by
  unfold wpX
  rw [run_op2, wpO_bind]
  cases fa ρ with
  | ok x ρ1 =>
    simp only [wpO_ok]
    by_cases h : (b || x.root) = true
    · simp only [h, if_true, true_and, wpO_bind]
      cases fb ρ1 with
      | ok y ρ2 =>
        simp only [wpO_ok]
        unfold fin2
        cases rdVl ρ2 x <;> cases rdVl ρ2 y <;> simp
        split <;> simp [*]
      | exc _ _ => exact Iff.rfl
      | bad => exact Iff.rfl
    · rw [if_neg h]; simp [h]
  | exc _ _ => exact Iff.rfl
  | bad => exact Iff.rfl
@[simp] theorem wp_op1 {o : M → Option M} {fa : Rho → Out Vl} : wpX (cOp1 o fa) ρ ⟨R, E⟩ .mk ↔ wpX fa ρ ⟨(fun x ρ1 => wpB (rdVl ρ1 x) ⟨fun m1 => wpB (o m1) ⟨fun m => R (.val m) ρ1⟩ .mk⟩ .mk), E⟩ .mk := by
  unfold wpX
  rw [run_op1, wpO_bind]
  cases fa ρ with
  | ok x ρ1 =>
    simp only [wpO_ok]
    cases rdVl ρ1 x with
    | none => simp
    | some m =>
      simp only [wpB_some]
      split <;> simp [*]
  | exc _ _ => exact Iff.rfl
  | bad => exact Iff.rfl
@[simp] theorem wp_ix {b : Bool} {fa fb : Rho → Out Vl} : wpX (cIx b fa fb) ρ ⟨R, E⟩ .mk ↔ wpX fa ρ ⟨(fun x ρ1 => (b || x.root) = true ∧ wpX fb ρ1 ⟨(fun y ρ2 => wpO (finIx x y ρ2) ⟨R, E⟩ .mk), E⟩ .mk), E⟩ .mk := by
  unfold wpX
  rw [run_ix, wpO_bind]
  cases fa ρ with
  | ok x ρ1 =>
    simp only [wpO_ok]
    by_cases h : (b || x.root) = true
    · simp only [h, if_true, true_and, wpO_bind]
    · rw [if_neg h]; simp [h]
  | exc _ _ => exact Iff.rfl
  | bad => exact Iff.rfl
@[simp] theorem wp_finIx {x : Vl} {i : PyData} : wpO (finIx x (.val (.dat i)) ρ) ⟨R, E⟩ .mk ↔ wpB (rdVl ρ x) ⟨fun m => wpB (ixK m i) ⟨fun q => wpO (itemOf x q.1 q.2 ρ) ⟨R, E⟩ .mk⟩ .mk⟩ .mk := by
  unfold finIx
  cases rdVl ρ x with
  | none => simp
  | some m =>
    cases h : ixK m i with
    | none => simp [h]
    | some q => simp [h]
@[simp] theorem itemOf_dat {x : Vl} {d : PyData} {s : Stp} : itemOf x (.dat d) s ρ = .ok (.val (.dat d)) ρ := rfl
@[simp] theorem itemOf_lst {i : Nat} {π : List Stp} {xs : List M} {s : Stp} : itemOf (.plc i π) (.lst xs) s ρ = .ok (.plc i (π ++ [s])) ρ := rfl
@[simp] theorem itemOf_dk {i : Nat} {π : List Stp} {ks : List L2.Key} {xs : List M} {s : Stp} : itemOf (.plc i π) (.dk ks xs) s ρ = .ok (.plc i (π ++ [s])) ρ := rfl
@[simp] theorem wp_B {f : Rho → Out Vl} : wpX (cB f) ρ ⟨T, E⟩ .mk ↔ wpX f ρ ⟨(fun x ρ1 => ∃ c, x = .val (.dat (.bool c)) ∧ T c ρ1), E⟩ .mk := by
  unfold wpX
  rw [run_B, wpO_bind]
  cases f ρ with
  | ok x ρ1 =>
    simp only [wpO_ok]
    cases x with
    | plc _ _ => simp
    | val m =>
      cases m with
      | dat d => cases d <;> simp
      | _ => simp
  | exc _ _ => exact Iff.rfl
  | bad => exact Iff.rfl
@[simp] theorem wp_and {f g : Rho → Out Bool} : wpX (cAnd f g) ρ ⟨T, E⟩ .mk ↔ wpX f ρ ⟨(fun c ρ1 => if c = true then wpX g ρ1 ⟨T, E⟩ .mk else T false ρ1), E⟩ .mk := by
  unfold wpX
  rw [run_and, wpO_bind]
  cases f ρ with
  | ok x ρ1 => cases x <;> exact Iff.rfl
  | exc _ _ => exact Iff.rfl
  | bad => exact Iff.rfl
@[simp] theorem wp_or {f g : Rho → Out Bool} : wpX (cOr f g) ρ ⟨T, E⟩ .mk ↔ wpX f ρ ⟨(fun c ρ1 => if c = true then T true ρ1 else wpX g ρ1 ⟨T, E⟩ .mk), E⟩ .mk := by
  unfold wpX
  rw [run_or, wpO_bind]
  cases f ρ with
  | ok x ρ1 => cases x <;> exact Iff.rfl
  | exc _ _ => exact Iff.rfl
  | bad => exact Iff.rfl
@[simp] theorem wp_not {f : Rho → Out Bool} : wpX (cNot f) ρ ⟨T, E⟩ .mk ↔ wpX f ρ ⟨(fun c ρ1 => T (!c) ρ1), E⟩ .mk := by
  unfold wpX
  rw [run_not, wpO_bind]
  cases f ρ <;> exact Iff.rfl
@[simp] theorem wp_V {f : Rho → Out Bool} : wpX (cV f) ρ ⟨R, E⟩ .mk ↔ wpX f ρ ⟨(fun c ρ1 => R (.val (.dat (.bool c))) ρ1), E⟩ .mk := by
  unfold wpX
  rw [run_V, wpO_bind]
  cases f ρ <;> exact Iff.rfl
@[simp] theorem wp_ite {ft : Rho → Out Bool} {fa fb : Rho → Out Vl} : wpX (cIte ft fa fb) ρ ⟨R, E⟩ .mk ↔ wpX ft ρ ⟨(fun c ρ1 => if c = true then wpX fa ρ1 ⟨R, E⟩ .mk else wpX fb ρ1 ⟨R, E⟩ .mk), E⟩ .mk := by
  unfold wpX
  rw [run_ite, wpO_bind]
  cases ft ρ with
  | ok x ρ1 => cases x <;> exact Iff.rfl
  | exc _ _ => exact Iff.rfl
  | bad => exact Iff.rfl
@[simp] theorem wp_yes : wpX cYes ρ ⟨T, E⟩ .mk ↔ T true ρ := Iff.rfl
@[simp] theorem wp_nil {Q : List Vl → Rho → Prop} : wpX aNil ρ ⟨Q, E⟩ .mk ↔ Q [] ρ := Iff.rfl
@[simp] theorem wp_cons {Q : List Vl → Rho → Prop} {g : Bool} {fa : Rho → Out Vl} {fr : Rho → Out (List Vl)} : wpX (aCons g fa fr) ρ ⟨Q, E⟩ .mk ↔ wpX fa ρ ⟨(fun x ρ1 => (g || x.root) = true ∧ wpX fr ρ1 ⟨(fun xs ρ2 => Q (x :: xs) ρ2), E⟩ .mk), E⟩ .mk := by
  unfold wpX
  rw [run_cons, wpO_bind]
  cases fa ρ with
  | ok x ρ1 =>
    simp only [wpO_ok]
    by_cases h : (g || x.root) = true
    · simp only [h, if_true, true_and, wpO_bind]
      cases fr ρ1 <;> exact Iff.rfl
    · rw [if_neg h]; simp [h]
  | exc _ _ => exact Iff.rfl
  | bad => exact Iff.rfl
@[simp] theorem wp_opN {o : List M → Option M} {fr : Rho → Out (List Vl)} : wpX (cOpN o fr) ρ ⟨R, E⟩ .mk ↔ wpX fr ρ ⟨(fun as ρ1 => wpB (rdVls ρ1 as) ⟨fun ms => wpB (o ms) ⟨fun m => R (.val m) ρ1⟩ .mk⟩ .mk), E⟩ .mk := by
  unfold wpX
  rw [run_opN, wpO_bind]
  cases fr ρ with
  | ok as ρ1 =>
    simp only [wpO_ok, run_finN]
    cases rdVls ρ1 as with
    | none => simp
    | some ms =>
      simp only [wpB_some]
      split <;> simp [*]
  | exc _ _ => exact Iff.rfl
  | bad => exact Iff.rfl
@[simp] theorem wp_chain {p q : Int → Int → Bool} {fa fb fc : Rho → Out Vl} : wpX (cChain p q fa fb fc) ρ ⟨T, E⟩ .mk ↔ wpX fa ρ ⟨(fun x ρ1 => ∃ i, x = .val (.dat (.int i)) ∧ wpX fb ρ1 ⟨(fun y ρ2 => ∃ j, y = .val (.dat (.int j)) ∧ if p i j = true then wpX fc ρ2 ⟨(fun z ρ3 => ∃ k, z = .val (.dat (.int k)) ∧ T (q j k) ρ3), E⟩ .mk else T false ρ2), E⟩ .mk), E⟩ .mk := by
  unfold wpX
  rw [run_chain]
  cases fa ρ with
  | ok x ρ1 =>
    simp only [wpO_ok]
    cases x with
    | plc _ _ => simp
    | val m =>
      cases m with
      | dat d =>
        cases d with
        | int i =>
          simp only [Vl.val.injEq, M.dat.injEq, PyData.int.injEq, exists_eq_left']
          cases fb ρ1 with
          | ok y ρ2 =>
            simp only [wpO_ok]
            cases y with
            | plc _ _ => simp
            | val m =>
              cases m with
              | dat d =>
                cases d with
                | int j =>
                  simp only [Vl.val.injEq, M.dat.injEq, PyData.int.injEq, exists_eq_left']
                  by_cases hp : p i j = true
                  · rw [if_pos hp, if_pos hp]
                    cases fc ρ2 with
                    | ok z ρ3 =>
                      simp only [wpO_ok]
                      cases z with
                      | plc _ _ => simp
                      | val m =>
                        cases m with
                        | dat d => cases d <;> simp
                        | _ => simp
                    | exc _ _ => exact Iff.rfl
                    | bad => exact Iff.rfl
                  · rw [if_neg hp, if_neg hp]
                    exact Iff.rfl
                | _ => simp
              | _ => simp
          | exc _ _ => exact Iff.rfl
          | bad => exact Iff.rfl
        | _ => simp
      | _ => simp
  | exc _ _ => exact Iff.rfl
  | bad => exact Iff.rfl
@[simp] theorem wp_call {F : List M → FOut} {mds : List Bool} {fr : Rho → Out (List Vl)} : wpX (cCall F mds fr) ρ ⟨R, E⟩ .mk ↔ wpX fr ρ ⟨(fun as ρ1 => mds.length = as.length ∧ wpB (prep mds as ρ1) ⟨fun q =>
    wpF F q.1 ⟨(fun r fin => fin.length = as.length ∧ R (.val r) (putB mds as fin q.2)), (fun x fin => fin.length = as.length ∧ E x (putB mds as fin q.2))⟩ .mk⟩ .mk), E⟩ .mk := by
  unfold wpX cCall
  cases fr ρ with
  | ok as ρ1 =>
    simp only [wpO_ok]
    by_cases h : mds.length = as.length
    · rw [if_pos h]
      simp only [h, true_and]
      cases prep mds as ρ1 with
      | none => simp
      | some q =>
        obtain ⟨ms, ρ2⟩ := q
        simp only [wpB_some]
        unfold wpF
        cases F ms with
        | ok r fin =>
          simp only
          by_cases hf : fin.length = as.length
          · simp [hf]
          · simp [hf]
        | exc x fin =>
          simp only
          by_cases hf : fin.length = as.length
          · simp [hf]
          · simp [hf]
        | bad => exact Iff.rfl
    · rw [if_neg h]; simp [h]
  | exc _ _ => exact Iff.rfl
  | bad => exact Iff.rfl
@[simp] theorem wp_isi {T : String} {fa : Rho → Out Vl} : wpX (cIsi T fa) ρ ⟨R, E⟩ .mk ↔ wpX fa ρ ⟨(fun x ρ1 => wpB (rdVl ρ1 x) ⟨fun m => wpB m.tyN ⟨fun t => R (.val (.dat (.bool (isSub t T)))) ρ1⟩ .mk⟩ .mk), E⟩ .mk := by
  unfold wpX cIsi
  cases fa ρ with
  | ok x ρ1 =>
    simp only [wpO_ok]
    cases rdVl ρ1 x with
    | none => simp
    | some m =>
      simp only [wpB_some]
      cases m.tyN <;> simp
  | exc _ _ => exact Iff.rfl
  | bad => exact Iff.rfl
@[simp] theorem wp_sl {fa : Rho → Out Vl} {fl fh : Rho → Option (Option Int)} : wpX (cSl fa fl fh) ρ ⟨R, E⟩ .mk ↔ wpX fa ρ ⟨(fun x ρ1 => wpB (rdVl ρ1 x) ⟨fun m => wpB (fl ρ1) ⟨fun lo => wpB (fh ρ1) ⟨fun hi => wpB (opSl m lo hi) ⟨fun c => R (.val c) ρ1⟩ .mk⟩ .mk⟩ .mk⟩ .mk), E⟩ .mk := by
  unfold wpX cSl
  cases fa ρ with
  | ok x ρ1 =>
    simp only [wpO_ok]
    cases rdVl ρ1 x <;> cases fl ρ1 <;> cases fh ρ1 <;> simp
    split <;> simp [*]
  | exc _ _ => exact Iff.rfl
  | bad => exact Iff.rfl
@[simp] theorem wp_lst {fr : Rho → Out (List Vl)} : wpX (cLst fr) ρ ⟨R, E⟩ .mk ↔ wpX fr ρ ⟨(fun as ρ1 => wpB (prep (ownM as) as ρ1) ⟨fun q => q.1.length ≤ sizeLine ∧ R (.val (.lst q.1)) q.2⟩ .mk), E⟩ .mk := by
  unfold wpX cLst
  cases fr ρ with
  | ok as ρ1 =>
    simp only [wpO_ok]
    cases prep (ownM as) as ρ1 with
    | none => simp
    | some q =>
      simp only [wpB_some]
      by_cases h : q.1.length ≤ sizeLine
      · rw [if_pos h]; simp [h]
      · rw [if_neg h]; simp [h]
  | exc _ _ => exact Iff.rfl
  | bad => exact Iff.rfl
@[simp] theorem wp_tup {fr : Rho → Out (List Vl)} : wpX (cTup fr) ρ ⟨R, E⟩ .mk ↔ wpX fr ρ ⟨(fun as ρ1 => wpB (prep (noM as) as ρ1) ⟨fun q => wpB (datsOf q.1) ⟨fun ds => ds.length ≤ sizeLine ∧ R (.val (.dat (.tuple ds))) q.2⟩ .mk⟩ .mk), E⟩ .mk := by
  unfold wpX cTup
  cases fr ρ with
  | ok as ρ1 =>
    simp only [wpO_ok]
    cases prep (noM as) as ρ1 with
    | none => simp
    | some q =>
      simp only [wpB_some]
      cases datsOf q.1 with
      | none => simp
      | some ds =>
        simp only [wpB_some]
        by_cases h : ds.length ≤ sizeLine
        · rw [if_pos h]; simp [h]
        · rw [if_neg h]; simp [h]
  | exc _ _ => exact Iff.rfl
  | bad => exact Iff.rfl
@[simp] theorem wp_meth {gd : M → Bool} {br : Bool} {o : List M → Option M} {fo : Rho → Out Vl} {fr : Rho → Out (List Vl)} : wpX (cMeth gd br o fo fr) ρ ⟨R, E⟩ .mk ↔ wpX fo ρ ⟨(fun x ρ1 => wpB (rdVl ρ1 x) ⟨fun c => (gd c = true ∧ (br || x.root) = true) ∧ wpX fr ρ1 ⟨(fun as ρ2 => wpB (rdVls ρ2 (x :: as)) ⟨fun ms => wpB (o ms) ⟨fun m => R (.val m) ρ2⟩ .mk⟩ .mk), E⟩ .mk⟩ .mk), E⟩ .mk := by
  unfold wpX cMeth cRecv
  cases fo ρ with
  | ok x ρ1 =>
    simp only [wpO_ok]
    cases rdVl ρ1 x with
    | none => simp
    | some c =>
      simp only [wpB_some]
      by_cases h : gd c = true ∧ (br || x.root) = true
      · rw [if_pos h]
        simp only [h, and_self, true_and]
        cases fr ρ1 with
        | ok as ρ2 =>
          simp only [wpO_ok, finN]
          cases rdVls ρ2 (x :: as) with
          | none => simp
          | some ms =>
      simp only [wpB_some]
      split <;> simp [*]
        | exc _ _ => exact Iff.rfl
        | bad => exact Iff.rfl
      · rw [if_neg h]; simp only [wpO_bad, h, false_and]
  | exc _ _ => exact Iff.rfl
  | bad => exact Iff.rfl
@[simp] theorem wp_iseq {fa : Rho → Out Vl} {Q : List PyData → Rho → Prop} : wpX (iSeq fa) ρ ⟨Q, E⟩ .mk ↔ wpX fa ρ ⟨(fun x ρ1 => wpB (toDat x ρ1) ⟨fun q => wpB (itSeq q.1) ⟨fun ds => Q ds q.2⟩ .mk⟩ .mk), E⟩ .mk := by
  unfold wpX
  rw [run_iseq]
  cases fa ρ with
  | ok x ρ1 =>
    simp only [wpO_ok]
    cases toDat x ρ1 with
    | none => simp
    | some q =>
      simp only [wpB_some]
      cases itSeq q.1 <;> simp
  | exc _ _ => exact Iff.rfl
  | bad => exact Iff.rfl
@[simp] theorem wp_rg1 {fr : Rho → Out (List Vl)} {Q : List PyData → Rho → Prop} : wpX (iRg1 fr) ρ ⟨Q, E⟩ .mk ↔ wpX fr ρ ⟨(fun as ρ1 => ∃ j, as = [.val (.dat (.int j))] ∧ okR j = true ∧ Q (rngD 0 j.toNat) ρ1), E⟩ .mk := by
  unfold wpX iRg1
  split
  · rename_i j ρ1 h
    rw [h]
    simp only [wpO_ok, List.cons.injEq, Vl.val.injEq, M.dat.injEq, PyData.int.injEq, and_true, exists_eq_left']
    by_cases hz : okR j = true
    · rw [if_pos hz]; simp [hz]
    · rw [if_neg hz]; simp [hz]
  · rename_i x ρ1 h
    rw [h]
    exact Iff.rfl
  · rename_i h1 h2
    cases h : fr ρ with
    | ok as ρ1 =>
      simp only [wpO_bad, wpO_ok, false_iff]
      rintro ⟨j, rfl, _⟩
      exact h1 j ρ1 h
    | exc x ρ1 => exact absurd h (h2 x ρ1)
    | bad => exact Iff.rfl
@[simp] theorem wp_comp {own : List Nat} {fi : Rho → Out (List PyData)} {h : PyData → Rho → Option Rho} {ft : Rho → Out Bool} {fe : Rho → Out Vl} : wpX (cComp own fi h ft fe) ρ ⟨R, E⟩ .mk ↔
    wpX fi ρ ⟨(fun ds ρ1 => ds.length ≤ sizeLine ∧ wpO (compGo own h ft fe ds [] (wipeM ρ1 own)) ⟨(fun ms ρ2 => R (.val (.lst ms)) (restore ρ1 own ρ2)), (fun _ _ => False)⟩ .mk), E⟩ .mk := by
  unfold wpX
  rw [run_comp]
  cases fi ρ with
  | ok ds ρ1 =>
    simp only [wpO_ok]
    by_cases hz : ds.length ≤ sizeLine
    · rw [if_pos hz]
      simp only [hz, true_and]
      cases compGo own h ft fe ds [] (wipeM ρ1 own) <;> exact Iff.rfl
    · rw [if_neg hz]; simp [hz]
  | exc _ _ => exact Iff.rfl
  | bad => exact Iff.rfl
/-! ### statements -/
@[simp] theorem wp_snx : wpS sNx ρ D .mk ↔ D.nx ρ := Iff.rfl
@[simp] theorem wp_brk : wpS sBrk ρ D .mk ↔ D.bk ρ := Iff.rfl
@[simp] theorem wp_cnt : wpS sCnt ρ D .mk ↔ D.ct ρ := Iff.rfl
@[simp] theorem wp_retN : wpS sRetN ρ D .mk ↔ D.rt (.dat .none) ρ := Iff.rfl
@[simp] theorem wp_seq {f g : Rho → Fl} : wpS (sSeq f g) ρ D .mk ↔ wpS f ρ { D with nx := fun ρ1 => wpS g ρ1 D .mk } .mk := by
  unfold wpS
  rw [run_seq]
  cases f ρ <;> exact Iff.rfl
@[simp] theorem wp_if {ft : Rho → Out Bool} {f g : Rho → Fl} : wpS (sIf ft f g) ρ D .mk ↔ wpX ft ρ ⟨(fun c ρ1 => if c = true then wpS f ρ1 D .mk else wpS g ρ1 D .mk), D.ex⟩ .mk := by
  unfold wpS wpX
  rw [run_if]
  cases ft ρ with
  | ok c ρ1 => cases c <;> exact Iff.rfl
  | exc _ _ => exact Iff.rfl
  | bad => exact Iff.rfl
@[simp] theorem wp_set {i : Nat} {fe : Rho → Out Vl} : wpS (sSet i fe) ρ D .mk ↔ wpX fe ρ ⟨(fun a ρ1 => wpB (toVal a ρ1) ⟨fun q => i < q.2.length ∧ D.nx (q.2.set i (some q.1))⟩ .mk), D.ex⟩ .mk := by
  unfold wpS wpX
  rw [run_set]
  cases fe ρ with
  | ok a ρ1 =>
    simp only [wpO_ok]
    cases toVal a ρ1 with
    | none => simp [wpL]
    | some q =>
      obtain ⟨m, ρ2⟩ := q
      simp only [wpB_some]
      by_cases h : i < ρ2.length
      · simp [h, wpL]
      · simp [h, wpL]
  | exc _ _ => exact Iff.rfl
  | bad => exact Iff.rfl
@[simp] theorem wp_ret {rf : List Nat} {fe : Rho → Out Vl} : wpS (sRet rf fe) ρ D .mk ↔ wpX fe ρ ⟨(fun a ρ1 => wpB (retV rf a ρ1) ⟨fun q => D.rt q.1 q.2⟩ .mk), D.ex⟩ .mk := by
  unfold wpS wpX
  rw [run_ret]
  cases fe ρ with
  | ok a ρ1 =>
    simp only [wpO_ok]
    cases retV rf a ρ1 with
    | none => simp [wpL]
    | some q => simp [wpL]
  | exc _ _ => exact Iff.rfl
  | bad => exact Iff.rfl
@[simp] theorem wp_drop {fe : Rho → Out Vl} : wpS (sDrop fe) ρ D .mk ↔ wpX fe ρ ⟨(fun _ ρ1 => D.nx ρ1), D.ex⟩ .mk := by
  unfold wpS wpX
  rw [run_drop]
  cases fe ρ <;> exact Iff.rfl
@[simp] theorem wp_for {fi : Rho → Out (List PyData)} {h : PyData → Rho → Option Rho} {g : Rho → Fl} : wpS (sFor fi h g) ρ D .mk ↔ wpX fi ρ ⟨(fun ds ρ1 => wpL (forGo h g ds ρ1) D .mk), D.ex⟩ .mk := by
  unfold wpS wpX
  rw [run_for]
  cases fi ρ <;> exact Iff.rfl
def isPlc : Vl → Option (Nat × List Stp)
  | .plc i π => some (i, π)
  | .val _ => none
def isLst : M → Option (List M)
  | .lst xs => some xs
  | _ => none
@[simp] theorem isPlc_plc {i : Nat} {π : List Stp} : isPlc (.plc i π) = some (i, π) := rfl
@[simp] theorem isPlc_val {m : M} : isPlc (.val m) = none := rfl
@[simp] theorem isLst_lst {xs : List M} : isLst (.lst xs) = some xs := rfl
@[simp] theorem wp_app {br : Bool} {fo fa : Rho → Out Vl} : wpX (cApp br fo fa) ρ ⟨R, E⟩ .mk ↔ wpX fo ρ ⟨fun x ρ1 => wpB (rdVl ρ1 x) ⟨fun c => (gdL c = true ∧ (br || x.root) = true) ∧ wpX fa ρ1 ⟨fun a ρ2 => wpB (isPlc x) ⟨fun p => wpB (toVal a ρ2) ⟨fun q => wpB (rdP q.2 p.1 p.2) ⟨fun c => wpB (isLst c) ⟨fun xs => xs.length < sizeLine ∧ R (.val (.dat .none)) (wrP q.2 p.1 p.2 (.lst (xs ++ [q.1])))⟩ .mk⟩ .mk⟩ .mk⟩ .mk, E⟩ .mk⟩ .mk, E⟩ .mk := by
  unfold wpX cApp cRecv
  cases fo ρ with
  | ok x ρ1 =>
    simp only [wpO_ok]
    cases rdVl ρ1 x with
    | none => simp
    | some c =>
      simp only [wpB_some]
      by_cases h : gdL c = true ∧ (br || x.root) = true
      · rw [if_pos h]
        simp only [h, and_self, true_and, run_cons, Bool.true_or, if_true, run_nil]
        cases fa ρ1 with
        | ok a ρ2 =>
          simp only [bind_ok, wpO_ok]
          cases x with
          | val _ => simp
          | plc i π =>
            simp only [isPlc_plc, wpB_some]
            cases toVal a ρ2 with
            | none => simp
            | some q =>
              obtain ⟨m, ρ3⟩ := q
              simp only [wpB_some]
              cases rdP ρ3 i π with
              | none => simp
              | some c =>
                simp only [wpB_some]
                cases c with
                | lst xs =>
                  simp only [isLst_lst, wpB_some]
                  by_cases hl : xs.length < sizeLine
                  · rw [if_pos hl]
                    simp only [hl, true_and]
                    exact Iff.rfl
                  · rw [if_neg hl]
                    simp only [hl, false_and]
                    exact Iff.rfl
                | _ => exact ⟨fun z => z.elim, fun z => by obtain ⟨_, e, _⟩ := z; cases e⟩
        | exc _ _ => exact Iff.rfl
        | bad => exact Iff.rfl
      · rw [if_neg h]; simp only [wpO_bad, h, false_and]
  | exc _ _ => exact Iff.rfl
  | bad => exact Iff.rfl
theorem wp_fn {N n : Nat} {rf : List Nat} {g : Rho → Fl} {ms : List M} {Q : M → List M → Prop} {E : Xv → List M → Prop} : wpF (fnOut N n rf g) ms ⟨Q, E⟩ .mk ↔ (ms.length = n ∧ okArgs rf ms = true) ∧ wpS g (ms.map some ++ List.replicate (N - n) none)
    { nx := fun ρ => wpB (fins rf ρ 0 ms) ⟨fun fin => Q (.dat .none) fin⟩ .mk, rt := fun r ρ => wpB (fins rf ρ 0 ms) ⟨fun fin => Q r fin⟩ .mk, bk := fun _ => False, ct := fun _ => False, ex := fun x ρ => wpB (fins rf ρ 0 ms) ⟨fun fin => E x fin ⟩ .mk} .mk := by
  unfold wpF fnOut
  by_cases h : ms.length = n ∧ okArgs rf ms = true
  · rw [if_pos h]
    simp only [h, and_self, true_and]
    unfold wpS
    cases g (ms.map some ++ List.replicate (N - n) none) with
    | nx ρ => simp only [wpL]; cases fins rf ρ 0 ms <;> simp
    | rt r ρ => simp only [wpL]; cases fins rf ρ 0 ms <;> simp
    | bk ρ => exact Iff.rfl
    | ct ρ => exact Iff.rfl
    | exc x ρ => simp only [wpL]; cases fins rf ρ 0 ms <;> simp
    | bad => exact Iff.rfl
  · rw [if_neg h]; simp only [h, false_and]
theorem wpF_of {F : List M → FOut} {ms : List M} {Q : M → List M → Prop} {E : Xv → List M → Prop} {r : M} {fin : List M} (h : F ms = .ok r fin) (q : Q r fin) : wpF F ms ⟨Q, E⟩ .mk := by unfold wpF; rw [h]; exact q
theorem wpF_get {F : List M → FOut} {ms : List M} {Q : M → List M → Prop} (h : wpF F ms ⟨Q, fun _ _ => False⟩ .mk) : ∃ r fin, F ms = .ok r fin ∧ Q r fin := by
  unfold wpF at h
  cases e : F ms with
  | ok r fin => rw [e] at h; exact ⟨r, fin, rfl, h⟩
  | exc x fin => rw [e] at h; exact h.elim
  | bad => rw [e] at h; exact h.elim
end
/-! ### the deal, packed -/
structure Deal where
  s : Int
  n : Int
  left : List Int
  h0 : 0 ≤ s
  h1 : s < 2 ^ 40
  h2 : left.length ≤ 1000
abbrev Deal.m (d : Deal) : M := .dk dealKs [.dat (.int d.s), .dat (.int d.n), .lst (dInts d.left.reverse)]
theorem good_deal {D : M} (g : Good D) : ∃ d : Deal, D = d.m := by
  obtain ⟨s, n, l, h0, h1, h2, rfl⟩ := g
  exact ⟨⟨s, n, l, h0, h1, h2⟩, rfl⟩
theorem deal_good (d : Deal) : Good d.m := ⟨d.s, d.n, d.left, d.h0, d.h1, d.h2, rfl⟩
theorem draw_wp {d : Deal} {n : Int} {Q : M → List M → Prop} {E : Xv → List M → Prop} (h0 : 0 < n) (h1 : n ≤ 2 ^ 62) (h : ∀ v d', 0 ≤ v → v < n → Q (.dat (.int v)) [Deal.m d', .dat (.int n)]) : wpF f_draw [d.m, .dat (.int n)] ⟨Q, E⟩ .mk := by
  obtain ⟨v, D', e, a, b, g⟩ := draw_ok (deal_good d) h0 h1
  obtain ⟨d', rfl⟩ := good_deal g
  exact wpF_of e (h v d' a b)
theorem deal_wp {ns : List Int} {b : Int} {Q : M → List M → Prop} {E : Xv → List M → Prop} (hn : ns.length ≤ 63) (h0 : 0 ≤ b) (h1 : b ≤ 1000) (h : ∀ d, Q (Deal.m d) [.scr ns, .dat (.int b)]) : wpF f_deal [.scr ns, .dat (.int b)] ⟨Q, E⟩ .mk := by
  obtain ⟨D, e, g⟩ := deal_ok hn h0 h1
  obtain ⟨d, rfl⟩ := good_deal g
  exact wpF_of e (h d)
end DL

set_option Elab.async false
set_option linter.all false
set_option maxRecDepth 100000
/-! DMd: the operators told backwards. -/
namespace DL
open PySem
section
variable {k : M → Prop} {ρ : Rho}
@[simp] theorem wp_ixS {x : Str} {i : Int} {k : M × Stp → Prop} : wpB (ixK (.dat (.str x)) (.int i)) ⟨k⟩ .mk ↔ x.length ≤ sizeLine ∧ ∃ c, L2.atI x.cps.toList i = some c ∧ k (.dat (.str ⟨#[c]⟩), .ix 0) := by
  unfold ixK
  cases h : L2.atI x.cps.toList i with
  | none => simp [h]
  | some c => simp [h]
@[simp] theorem wp_ixT {ds : List PyData} {i : Int} {k : M × Stp → Prop} : wpB (ixK (.dat (.tuple ds)) (.int i)) ⟨k⟩ .mk ↔ ∃ d, L2.atI ds i = some d ∧ k (.dat d, .ix 0) := by
  unfold ixK
  cases h : L2.atI ds i with
  | none => simp [h]
  | some c => simp [h]
@[simp] theorem wp_ixDL {ds : List PyData} {i : Int} {k : M × Stp → Prop} : wpB (ixK (.dat (.list ds)) (.int i)) ⟨k⟩ .mk ↔ ∃ d, L2.atI ds i = some d ∧ k (.dat d, .ix 0) := by
  unfold ixK
  cases h : L2.atI ds i with
  | none => simp [h]
  | some c => simp [h]
@[simp] theorem wp_ixL {xs : List M} {i : Int} {k : M × Stp → Prop} : wpB (ixK (.lst xs) (.int i)) ⟨k⟩ .mk ↔ ∃ j, L2.ixN xs.length i = some j ∧ ∃ c, xs[j]? = some c ∧ k (c, .ix j) := by
  unfold ixK
  cases h : L2.ixN xs.length i with
  | none => simp [h]
  | some j =>
    cases h2 : xs[j]? with
    | none => simp [h, h2]
    | some c => simp [h, h2]
@[simp] theorem wp_eq {d e : PyData} : wpB (opEq (.dat d) (.dat e)) ⟨k⟩ .mk ↔ (shp d = true ∧ shp e = true) ∧ k (.dat (.bool (PyData.eqv d e))) := by
  unfold opEq
  simp only [frz_dat]
  exact wpB_ite
@[simp] theorem wp_ne {d e : PyData} : wpB (opNe (.dat d) (.dat e)) ⟨k⟩ .mk ↔ (shp d = true ∧ shp e = true) ∧ k (.dat (.bool (!PyData.eqv d e))) := by
  unfold opNe
  simp only [frz_dat]
  exact wpB_ite
@[simp] theorem sh_none : shp .none = true := rfl
@[simp] theorem sh_bool {b : Bool} : shp (.bool b) = true := rfl
@[simp] theorem sh_int {i : Int} : shp (.int i) = true := rfl
@[simp] theorem sh_str {x : Str} : shp (.str x) = PyData.strOk x := by
  unfold shp
  simp [PyData.canLay0, PyData.depth]
@[simp] theorem eqv_ii {i j : Int} : PyData.eqv (.int i) (.int j) = decide (i = j) := by
  rw [PyData.eqv]
  by_cases h : i = j
  · simp [h]
  · simp [h]
@[simp] theorem eqv_bb {i j : Bool} : PyData.eqv (.bool i) (.bool j) = (i == j) := by rw [PyData.eqv]
@[simp] theorem eqv_ss {i j : Str} : PyData.eqv (.str i) (.str j) = decide (i = j) := by
  rw [PyData.eqv]
  by_cases h : i = j
  · simp [h]
  · simp [h]
@[simp] theorem wp_addS {a b : Str} : wpB (opAdd (.dat (.str a)) (.dat (.str b))) ⟨k⟩ .mk ↔ a.length + b.length ≤ sizeLine ∧ k (.dat (.str (a ++ b))) := by
  unfold opAdd int2 str2
  by_cases h : a.length + b.length ≤ sizeLine
  · simp [h]
  · simp [h, addL, M.asList, addT]
theorem wp_addL {xs ys : List M} {ds es : List PyData} (h1 : datsOf xs = some ds) (h2 : datsOf ys = some es) : wpB (opAdd (.lst xs) (.lst ys)) ⟨k⟩ .mk ↔ ds.length + es.length ≤ sizeLine ∧ k (.lst ((ds ++ es).map M.dat)) := by
  have e : opAdd (.lst xs) (.lst ys) = addL (.lst xs) (.lst ys) := by
    unfold opAdd int2 str2
    simp only
    cases addL (.lst xs) (.lst ys) <;> rfl
  rw [e]
  have h3 : M.asList (.lst xs) = some ds := h1
  have h4 : M.asList (.lst ys) = some es := h2
  unfold addL
  rw [h3, h4]
  exact wpB_ite
@[simp] theorem isN_nn {b : Bool} : opIsN b (.dat .none) (.dat .none) = some (.dat (.bool (!b))) := rfl
@[simp] theorem isN_bn {b c : Bool} : opIsN b (.dat (.bool c)) (.dat .none) = some (.dat (.bool b)) := rfl
@[simp] theorem isN_in {b : Bool} {c : Int} : opIsN b (.dat (.int c)) (.dat .none) = some (.dat (.bool b)) := rfl
@[simp] theorem isN_sn {b : Bool} {c : Str} : opIsN b (.dat (.str c)) (.dat .none) = some (.dat (.bool b)) := rfl
@[simp] theorem isN_tn {b : Bool} {c : List PyData} : opIsN b (.dat (.tuple c)) (.dat .none) = some (.dat (.bool b)) := rfl
@[simp] theorem isN_dn {b : Bool} {c : List PyData} : opIsN b (.dat (.list c)) (.dat .none) = some (.dat (.bool b)) := rfl
@[simp] theorem isN_ln {b : Bool} {c : List M} : opIsN b (.lst c) (.dat .none) = some (.dat (.bool b)) := rfl
/-- a text within a text -/
def inS (a b : Str) : Bool := !(Builtin.Str.occurrences b a 0 b.length 1).isEmpty
@[simp] theorem wp_inS {a b : Str} {neg : Bool} : wpB (opIn neg (.dat (.str a)) (.dat (.str b))) ⟨k⟩ .mk ↔ k (.dat (.bool (if neg = true then !inS a b else inS a b))) := by
  unfold opIn inStr str2
  simp only [wpB_some]
  rfl
theorem wp_inL {d : PyData} {m : M} {ds : List PyData} {neg : Bool} (h : m.asSeq = some ds) (h1 : isFlat d = true) (h2 : ds.all isFlat = true) (h3 : ∀ x, m ≠ .dat (.str x)) : wpB (opIn neg (.dat d) m) ⟨k⟩ .mk ↔ k (.dat (.bool (if neg = true then !(ds.any fun z => PyData.eqv z d) else ds.any fun z => PyData.eqv z d))) := by
  have e : inStr neg (.dat d) m = none := by
    unfold inStr str2
    split
    · exact absurd rfl (h3 _)
    · rfl
  unfold opIn
  rw [e]
  simp only
  have e2 : inSeq neg (.dat d) m = some (.dat (.bool (if neg = true then !(ds.any fun z => PyData.eqv z d) else ds.any fun z => PyData.eqv z d))) := by
    unfold inSeq
    rw [h]
    simp only
    rw [if_pos ⟨h1, h2⟩]
  rw [e2]
  exact wpB_some
@[simp] theorem wp_inT {d : PyData} {ds : List PyData} {neg : Bool} : wpB (opIn neg (.dat d) (.dat (.tuple ds))) ⟨k⟩ .mk ↔ (isFlat d = true ∧ ds.all isFlat = true) ∧ k (.dat (.bool (if neg = true then !(ds.any fun z => PyData.eqv z d) else ds.any fun z => PyData.eqv z d))) := by
  by_cases h : isFlat d = true ∧ ds.all isFlat = true
  · rw [wp_inL (ds := ds) (by simp [M.asSeq, M.asList]) h.1 h.2 (fun x e => by cases e)]
    simp only [h, and_self, true_and]
  · have : opIn neg (.dat d) (.dat (.tuple ds)) = none := by
      unfold opIn inStr str2 inSeq inDk
      simp only [M.asSeq, M.asList]
      rw [if_neg h]
    rw [this]
    simp only [wpB_none, h, false_and]
/-! ### places, argument lists -/
@[simp] theorem getP_nil' {m : M} : m.getP [] = some m := getP_nil
@[simp] theorem setP_nil' {m c : M} : m.setP c [] = c := setP_nil
@[simp] theorem wp_rdP {i : Nat} {π : List Stp} : wpB (rdP ρ i π) ⟨k⟩ .mk ↔ wpB (ρ[i]?) ⟨fun o => wpB o ⟨fun m => wpB (m.getP π) ⟨k⟩ .mk⟩ .mk⟩ .mk := by
  unfold rdP
  cases h : ρ[i]? with
  | none => simp
  | some o =>
    cases o with
    | none => simp
    | some m => simp
@[simp] theorem wp_getL {xs : List M} {n : Nat} {π : List Stp} : wpB (M.getP (.lst xs) (.ix n :: π)) ⟨k⟩ .mk ↔ wpB (xs[n]?) ⟨fun c => wpB (c.getP π) ⟨k⟩ .mk⟩ .mk := by
  rw [M.getP]
  simp only [M.step, M.kids]
  cases h : xs[n]? with
  | none => simp
  | some c => simp
@[simp] theorem wp_getD {ks : List L2.Key} {xs : List M} {q : L2.Key} {π : List Stp} : wpB (M.getP (.dk ks xs) (.key q :: π)) ⟨k⟩ .mk ↔ wpB (fnd q ks) ⟨fun n => wpB (xs[n]?) ⟨fun c => wpB (c.getP π) ⟨k⟩ .mk⟩ .mk⟩ .mk := by
  rw [M.getP]
  simp only [M.step, M.kids]
  cases h : fnd q ks with
  | none => simp
  | some n =>
    simp only [wpB_some]
    cases h : xs[n]? with
    | none => simp
    | some c => simp
@[simp] theorem wrP_eq {i : Nat} {π : List Stp} {c : M} : wrP ρ i π c = (match ρ[i]? with
  | some (some m) => ρ.set i (some (m.setP c π))
  | _ => ρ) := rfl
@[simp] theorem wp_toValP {i : Nat} {π : List Stp} {k : M × Rho → Prop} : wpB (toVal (.plc i π) ρ) ⟨k⟩ .mk ↔ wpB (rdP ρ i π) ⟨fun c => wpB c.frz ⟨fun d => k (.dat d, wrP ρ i π (.dat d))⟩ .mk⟩ .mk := by
  unfold toVal
  cases h : rdP ρ i π with
  | none => simp only [h, wpB_none]
  | some c =>
    simp only [h, wpB_some]
    cases h2 : c.frz with
    | none => simp only [h2, wpB_none]
    | some d => simp only [h2, wpB_some]
@[simp] theorem wp_toDatP {i : Nat} {π : List Stp} {k : PyData × Rho → Prop} : wpB (toDat (.plc i π) ρ) ⟨k⟩ .mk ↔ wpB (rdP ρ i π) ⟨fun c => wpB c.frz ⟨fun d => k (d, wrP ρ i π (.dat d))⟩ .mk⟩ .mk := by
  unfold toDat
  cases h : rdP ρ i π with
  | none => simp only [h, wpB_none]
  | some c =>
    simp only [h, wpB_some]
    cases h2 : c.frz with
    | none => simp only [h2, wpB_none]
    | some d => simp only [h2, wpB_some]
@[simp] theorem wp_toDatV {m : M} {k : PyData × Rho → Prop} : wpB (toDat (.val m) ρ) ⟨k⟩ .mk ↔ wpB m.frz ⟨fun d => k (d, ρ)⟩ .mk := by
  rw [toDat_val]
  cases h2 : m.frz with
  | none => simp only [wpB_none]
  | some d => simp only [wpB_some]
@[simp] theorem wp_retP {rf : List Nat} {i : Nat} {k : M × Rho → Prop} : wpB (retV rf (.plc i []) ρ) ⟨k⟩ .mk ↔ if i ∈ rf then wpB (toVal (.plc i []) ρ) ⟨k⟩ .mk else wpB (ρ[i]?) ⟨fun o => wpB o ⟨fun c => k (c, ρ.set i none)⟩ .mk⟩ .mk := by
  unfold retV
  by_cases h : i ∈ rf
  · simp only [if_pos h]
  · simp only [if_neg h]
    cases h : ρ[i]? with
    | none => simp only [wpB_none]
    | some o => cases o <;> simp only [wpB_none, wpB_some]
@[simp] theorem wp_retPs {rf : List Nat} {i : Nat} {s : Stp} {π : List Stp} {k : M × Rho → Prop} : wpB (retV rf (.plc i (s :: π)) ρ) ⟨k⟩ .mk ↔ wpB (toVal (.plc i (s :: π)) ρ) ⟨k⟩ .mk := Iff.rfl
@[simp] theorem prep_nil : prep [] [] ρ = some ([], ρ) := rfl
@[simp] theorem wp_prep {md : Bool} {mds : List Bool} {a : Vl} {as : List Vl} {k : List M × Rho → Prop} : wpB (prep (md :: mds) (a :: as) ρ) ⟨k⟩ .mk ↔ wpB (prep mds as ρ) ⟨fun q => wpB (prep1 md a q.2) ⟨fun r => k (r.1 :: q.1, r.2)⟩ .mk⟩ .mk := by
  rw [prep]
  cases h : prep mds as ρ with
  | none => simp only [wpB_none]
  | some q =>
    obtain ⟨ms, ρ1⟩ := q
    simp only [wpB_some]
    cases prep1 md a ρ1 with
    | none => simp only [wpB_none]
    | some r => simp only [wpB_some]
@[simp] theorem prep1_tv {m : M} : prep1 true (.val m) ρ = some (m, ρ) := rfl
@[simp] theorem prep1_fd {d : PyData} : prep1 false (.val (.dat d)) ρ = some (.dat d, ρ) := by
  unfold prep1
  simp [toDat_val]
@[simp] theorem prep1_fl {xs : List M} {k : M × Rho → Prop} : wpB (prep1 false (.val (.lst xs)) ρ) ⟨k⟩ .mk ↔ wpB (M.frz (.lst xs)) ⟨fun d => k (.dat d, ρ)⟩ .mk := by
  unfold prep1
  simp only [Bool.false_eq_true, if_false, rd_val, toDat_val]
  cases M.frz (.lst xs) with
  | none => simp only [wpB_none]
  | some d => simp only [wpB_some]
@[simp] theorem prep1_tp {i : Nat} {k : M × Rho → Prop} : wpB (prep1 true (.plc i []) ρ) ⟨k⟩ .mk ↔ wpB (ρ[i]?) ⟨fun o => wpB o ⟨fun c => k (c, ρ.set i none)⟩ .mk⟩ .mk := by
  unfold prep1
  simp only [if_true]
  cases h : ρ[i]? with
  | none => simp only [wpB_none]
  | some o => cases o <;> simp only [wpB_none, wpB_some]
def isScr : M → Bool
  | .scr _ => true
  | _ => false
@[simp] theorem isScr_s {xs : List Int} : isScr (.scr xs) = true := rfl
@[simp] theorem isScr_d {d : PyData} : isScr (.dat d) = false := rfl
@[simp] theorem isScr_l {xs : List M} : isScr (.lst xs) = false := rfl
@[simp] theorem isScr_k {ks : List L2.Key} {xs : List M} : isScr (.dk ks xs) = false := rfl
@[simp] theorem isScr_t {ks : List (List L2.Key)} {xs : List M} : isScr (.dt ks xs) = false := rfl
@[simp] theorem isScr_i {C : Str} {ns : List Str} {xs : List M} : isScr (.ins C ns xs) = false := rfl
@[simp] theorem prep1_fp {i : Nat} {π : List Stp} {k : M × Rho → Prop} : wpB (prep1 false (.plc i π) ρ) ⟨k⟩ .mk ↔ wpB (rdP ρ i π) ⟨fun c => if isScr c = true then k (c, ρ) else wpB c.frz ⟨fun d => k (.dat d, wrP ρ i π (.dat d))⟩ .mk⟩ .mk := by
  unfold prep1
  simp only [Bool.false_eq_true, if_false, rd_plc, toDat]
  cases h : rdP ρ i π with
  | none => simp only [wpB_none]
  | some c =>
    simp only [wpB_some]
    cases c with
    | scr ns => simp only [wpB_some, isScr_s, if_true]
    | dat d => simp only [frz_dat, wpB_some, isScr_d, Bool.false_eq_true, if_false]
    | lst xs =>
      simp only [isScr_l, Bool.false_eq_true, if_false]
      cases M.frz (.lst xs) with
      | none => simp only [wpB_none]
      | some d => simp only [wpB_some]
    | dk ks xs =>
      simp only [isScr_k, Bool.false_eq_true, if_false]
      cases M.frz (.dk ks xs) with
      | none => simp only [wpB_none]
      | some d => simp only [wpB_some]
    | dt ks xs =>
      simp only [isScr_t, Bool.false_eq_true, if_false]
      cases M.frz (.dt ks xs) with
      | none => simp only [wpB_none]
      | some d => simp only [wpB_some]
    | ins C ns xs =>
      simp only [isScr_i, Bool.false_eq_true, if_false]
      cases M.frz (.ins C ns xs) with
      | none => simp only [wpB_none]
      | some d => simp only [wpB_some]
@[simp] theorem own_nil : ownM [] = [] := rfl
@[simp] theorem own_val {m : M} {as : List Vl} : ownM (.val m :: as) = true :: ownM as := rfl
@[simp] theorem no_nil : noM [] = [] := rfl
@[simp] theorem no_cons {a : Vl} {as : List Vl} : noM (a :: as) = false :: noM as := rfl
@[simp] theorem len_str {x : Str} : wpB (opLen [.dat (.str x)]) ⟨k⟩ .mk ↔ x.length ≤ sizeLine ∧ k (.dat (.int x.length)) := wpB_ite
@[simp] theorem len_lst {xs : List M} : opLen [.lst xs] = some (.dat (.int xs.length)) := rfl
@[simp] theorem len_dl {xs : List PyData} : opLen [.dat (.list xs)] = some (.dat (.int xs.length)) := rfl
@[simp] theorem len_dt {xs : List PyData} : opLen [.dat (.tuple xs)] = some (.dat (.int xs.length)) := rfl
@[simp] theorem len_scr {xs : List Int} : opLen [.scr xs] = some (.dat (.int xs.length)) := rfl
@[simp] theorem itSeq_l {ds : List PyData} : itSeq (.list ds) = some ds := rfl
@[simp] theorem itSeq_t {ds : List PyData} : itSeq (.tuple ds) = some ds := rfl
@[simp] theorem itSeq_s {x : Str} : itSeq (.str x) = some (x.cps.toList.map fun c => .str ⟨#[c]⟩) := rfl
@[simp] theorem wipe_nil : wipeM ρ [] = ρ := rfl
@[simp] theorem wipe_cons {i : Nat} {is : List Nat} : wipeM ρ (i :: is) = (wipeM ρ is).set i none := rfl
@[simp] theorem restore_nil {ρ1 : Rho} : restore ρ1 [] ρ = ρ := rfl
def rst (x : Option M) (i : Nat) (ρ : Rho) : Rho := match x with
  | some (.dat d) => ρ.set i (some (.dat d))
  | _ => ρ
def dOnly (x : Option M) : Option M := match x with
  | some (.dat d) => some (.dat d)
  | _ => none
theorem restore_cons0 {ρ1 : Rho} {i : Nat} {is : List Nat} {x : Option M} (h : ρ1[i]? = some x) : restore ρ1 (i :: is) ρ = rst x i (restore ρ1 is ρ) := by
  rw [restore, h]
  cases x with
  | none => rfl
  | some m => cases m <;> rfl
@[simp] theorem restore_cons {ρ1 : Rho} {i : Nat} {is : List Nat} : restore ρ1 (i :: is) ρ = rst (ρ1[i]?.getD none) i (restore ρ1 is ρ) := by
  cases h : ρ1[i]? with
  | none => rw [restore, h]; rfl
  | some x => exact restore_cons0 h
@[simp] theorem rst_none {i : Nat} : rst none i ρ = ρ := rfl
@[simp] theorem rst_dat {i : Nat} {d : PyData} : rst (some (.dat d)) i ρ = ρ.set i (some (.dat d)) := rfl
@[simp] theorem rst_any {i : Nat} {x : Option M} (h : ρ[i]? = some none) : rst x i ρ = ρ.set i (dOnly x) := by
  have e : ρ.set i none = ρ := by
    apply List.ext_getElem?
    intro j
    by_cases hj : i = j
    · subst hj
      rw [List.getElem?_set_self (List.getElem?_eq_some_iff.mp h).1, h]
    · rw [List.getElem?_set_ne hj]
  cases x with
  | none => exact e.symm
  | some m => cases m <;> first | rfl | exact e.symm
@[simp] theorem fins_nil {rf : List Nat} {i : Nat} : fins rf ρ i [] = some [] := rfl
@[simp] theorem wp_fins {rf : List Nat} {i : Nat} {m : M} {ms : List M} {k : List M → Prop} : wpB (fins rf ρ i (m :: ms)) ⟨k⟩ .mk ↔ wpB (fins rf ρ (i + 1) ms) ⟨fun r => if i ∈ rf then wpB (ρ[i]?) ⟨fun o => wpB o ⟨fun c => k (c :: r)⟩ .mk⟩ .mk else k (m :: r)⟩ .mk := by
  rw [fins]
  cases fins rf ρ (i + 1) ms with
  | none => simp only [wpB_none]
  | some r =>
    simp only [wpB_some]
    by_cases h : i ∈ rf
    · rw [if_pos h, if_pos h]
      cases h : ρ[i]? with
      | none => simp only [wpB_none]
      | some o => cases o <;> simp only [wpB_none, wpB_some]
    · rw [if_neg h, if_neg h]
      simp only [wpB_some]
@[simp] theorem putB_nil {fin : List M} : putB [] [] fin ρ = ρ := rfl
@[simp] theorem putB_tp {mds : List Bool} {i : Nat} {as : List Vl} {m : M} {fin : List M} : putB (true :: mds) (.plc i [] :: as) (m :: fin) ρ = putB mds as fin (ρ.set i (some m)) := rfl
@[simp] theorem putB_f {mds : List Bool} {a : Vl} {as : List Vl} {m : M} {fin : List M} : putB (false :: mds) (a :: as) (m :: fin) ρ = putB mds as fin ρ := by
  cases a with
  | val _ => rfl
  | plc i π => cases π <;> rfl
@[simp] theorem putB_tv {mds : List Bool} {v : M} {as : List Vl} {m : M} {fin : List M} : putB (true :: mds) (.val v :: as) (m :: fin) ρ = putB mds as fin ρ := rfl
@[simp] theorem gdS_s {x : Str} : gdS (.dat (.str x)) = true := rfl
@[simp] theorem gdL_l {xs : List M} : gdL (.lst xs) = true := rfl
@[simp] theorem frz_nil : M.frz (.lst []) = some (.list []) := rfl
theorem strOk_app {a b : Str} (h1 : PyData.strOk a = true) (h2 : PyData.strOk b = true) : PyData.strOk (a ++ b) = true := by
  unfold PyData.strOk at *
  show (a.cps ++ b.cps).all _ = true
  rw [Array.all_append, h1, h2]
  rfl
theorem len_app {a b : Str} : (a ++ b).length = a.length + b.length := by
  show (a.cps ++ b.cps).size = _
  rw [Array.size_append]
  rfl
theorem strOk_one {a : Str} {c : Nat} {i : Int} (h : PyData.strOk a = true) (e : L2.atI a.cps.toList i = some c) : PyData.strOk ⟨#[c]⟩ = true := by
  unfold L2.atI at e
  rw [Option.bind_eq_some_iff] at e
  obtain ⟨j, _, e⟩ := e
  have hm : c ∈ a.cps.toList := List.mem_of_getElem? e
  unfold PyData.strOk at *
  rw [Array.all_eq_true'] at h
  have := h c (by simpa using hm)
  simp only [Array.all_push, Array.all_empty] <;> simpa using this
theorem atI_nat {α : Type} {xs : List α} {i : Int} (h0 : 0 ≤ i) (h1 : i < xs.length) : ∃ x, L2.atI xs i = some x ∧ x ∈ xs := by
  unfold L2.atI L2.ixN
  rw [if_pos h0, if_pos h1]
  have : i.toNat < xs.length := by omega
  exact ⟨xs[i.toNat], by simp [this], List.getElem_mem _⟩
theorem ixN_nat {n : Nat} {i : Int} (h0 : 0 ≤ i) (h1 : i < n) : L2.ixN n i = some i.toNat := by
  unfold L2.ixN
  rw [if_pos h0, if_pos h1]
end
end DL

set_option Elab.async false
set_option linter.all false
set_option maxRecDepth 100000
/-! DMe: texts and lists told backwards. -/
namespace DL
open PySem
section
variable {k : M → Prop} {ρ : Rho}
/-- a text of at most n signs -/
def Tx (n : Nat) (t : Str) : Prop := t.length ≤ n ∧ PyData.strOk t = true
theorem Tx.mono {n m : Nat} {t : Str} (h : Tx n t) (l : n ≤ m) : Tx m t := ⟨Nat.le_trans h.1 l, h.2⟩
theorem Tx.app {n m : Nat} {t u : Str} (h : Tx n t) (h2 : Tx m u) : Tx (n + m) (t ++ u) := ⟨by rw [len_app]; exact Nat.add_le_add h.1 h2.1, strOk_app h.2 h2.2⟩
theorem len_ofString {s : String} : (Str.ofString s).length = s.length := by
  rw [Str.ofString_eq_toList]
  show ((s.toList.map Char.toNat).toArray).size = _
  rw [List.size_toArray, List.length_map, String.length_toList]
theorem strOk_ofString {s : String} : PyData.strOk (Str.ofString s) = true := by
  rw [Str.ofString_eq_toList]
  unfold PyData.strOk
  rw [Array.all_eq_true']
  intro c hc
  have hc : c ∈ s.toList.map Char.toNat := by simpa using hc
  obtain ⟨x, _, rfl⟩ := List.mem_map.mp hc
  have h := x.valid
  have : x.toNat < 0x110000 := by
    show x.val.toNat < 0x110000
    rcases h with h | h
    · exact Nat.lt_trans h (by decide)
    · exact h.2
  simpa using this
theorem Tx.ofString {s : String} {n : Nat} (h : s.length ≤ n) : Tx n (Str.ofString s) := ⟨by rw [len_ofString]; exact h, strOk_ofString⟩
theorem Tx.num {i : Int} {m : Nat} (hm : 0 < m) (h : i.natAbs < 10 ^ m) : Tx (m + 1) (Str.ofString (toString i)) := Tx.ofString (int_text_length_le10 hm h)
@[simp] theorem wp_str {i : Int} : wpB (opStr [.dat (.int i)]) ⟨k⟩ .mk ↔ i.natAbs.log2 < 1920 ∧ k (.dat (.str (Str.ofString (toString i)))) := wpB_ite
theorem log_small {i : Int} (h0 : 0 ≤ i) (h1 : i < 2 ^ 64) : i.natAbs.log2 < 1920 := Nat.lt_of_le_of_lt (log_le h0 h1) (by omega)
@[simp] theorem o_none : oNone ρ = some none := rfl
@[simp] theorem o_some {f : Rho → Option PyData} {k : Option Int → Prop} : wpB (oSome f ρ) ⟨k⟩ .mk ↔ wpB (f ρ) ⟨fun d => ∃ i, d = .int i ∧ k (some i)⟩ .mk := by
  unfold oSome
  cases h : f ρ with
  | none => simp only [h, wpB_none]
  | some d =>
    cases d <;> simp only [h, wpB_none, wpB_some, reduceCtorEq, false_and, exists_false, PyData.int.injEq, exists_eq_left']
@[simp] theorem n_var {i : Nat} {k : PyData → Prop} : wpB (nVar i ρ) ⟨k⟩ .mk ↔ wpB (ρ[i]?) ⟨fun o => wpB o ⟨fun m => ∃ d, m = .dat d ∧ k d⟩ .mk⟩ .mk := by
  unfold nVar
  cases h : ρ[i]? with
  | none => simp only [h, wpB_none]
  | some o =>
    cases o with
    | none => simp only [h, wpB_none, wpB_some]
    | some m => cases m <;> simp only [h, wpB_none, wpB_some, reduceCtorEq, false_and, exists_false, M.dat.injEq, exists_eq_left']
@[simp] theorem n_c {d : PyData} : nC d ρ = some d := rfl
@[simp] theorem n_neg {f : Rho → Option PyData} {k : PyData → Prop} : wpB (nNeg f ρ) ⟨k⟩ .mk ↔ wpB (f ρ) ⟨fun d => ∃ i, d = .int i ∧ k (.int (-i))⟩ .mk := by
  unfold nNeg
  cases h : f ρ with
  | none => simp only [h, wpB_none]
  | some d =>
    cases d <;> simp only [h, wpB_none, wpB_some, reduceCtorEq, false_and, exists_false, PyData.int.injEq, exists_eq_left']
@[simp] theorem n_i2 {g : Int → Int → Int} {f f' : Rho → Option PyData} {k : PyData → Prop} : wpB (nI2 g f f' ρ) ⟨k⟩ .mk ↔ wpB (f ρ) ⟨fun d => ∃ i, d = .int i ∧ wpB (f' ρ) ⟨fun e => ∃ j, e = .int j ∧ k (.int (g i j))⟩ .mk⟩ .mk := by
  unfold nI2
  cases h : f ρ with
  | none => simp only [wpB_none]
  | some d =>
    cases h2 : f' ρ with
    | none => cases d <;> simp only [wpB_none, wpB_some, and_false, exists_false]
    | some e =>
      cases d <;> cases e <;> simp only [wpB_none, wpB_some, reduceCtorEq, false_and, and_false, exists_false, PyData.int.injEq, exists_eq_left']
@[simp] theorem wp_slS {x : Str} {lo hi : Option Int} : wpB (opSl (.dat (.str x)) lo hi) ⟨k⟩ .mk ↔ x.length ≤ sizeLine ∧ k (.dat (.str (L2.cutS x lo hi))) := wpB_ite
@[simp] theorem wp_slT {x : List PyData} {lo hi : Option Int} : opSl (.dat (.tuple x)) lo hi = some (.dat (.tuple (cutD x lo hi))) := rfl
theorem Tx.cut {n : Nat} {x : Str} {lo hi : Option Int} (h : Tx n x) : Tx n (L2.cutS x lo hi) := by
  unfold L2.cutS
  constructor
  · show (List.toArray _).size ≤ n
    rw [List.size_toArray, List.length_take, List.length_drop]
    have := h.1
    show min _ (x.cps.toList.length - _) ≤ n
    rw [Array.length_toList]
    have : x.cps.size = x.length := rfl
    omega
  · have := h.2
    unfold PyData.strOk at *
    rw [Array.all_eq_true'] at *
    intro c hc
    have hc : c ∈ (x.cps.toList.drop (HT.sIx x.length 0 lo)).take (HT.sIx x.length x.length hi - HT.sIx x.length 0 lo) := by simpa using hc
    exact this c (by simpa using List.mem_of_mem_drop (List.mem_of_mem_take hc))
theorem sum_rep {ys : List Str} {b : Nat} (h : ∀ y ∈ ys, y.length ≤ b) : (ys.map (·.length)).sum ≤ ys.length * b := by
  induction ys with
  | nil => simp
  | cons y ys ih =>
    rw [List.map_cons, List.sum_cons, List.length_cons, Nat.add_mul, Nat.one_mul, Nat.add_comm]
    exact Nat.add_le_add (ih fun z hz => h z (List.mem_cons_of_mem _ hz)) (h y List.mem_cons_self)
theorem join_len {a : Str} : ∀ {ys : List Str}, (Str.join a ys).length ≤ (ys.map (·.length)).sum + ys.length * a.length
  | [] => Nat.zero_le _
  | [x] => by
    show x.length ≤ _
    simp
  | x :: y :: r => by
    show (x ++ a ++ Str.join a (y :: r)).length ≤ _
    have := join_len (a := a) (ys := y :: r)
    rw [len_app, len_app]
    rw [List.map_cons, List.sum_cons, List.length_cons, Nat.add_mul, Nat.one_mul]
    omega
theorem join_ok {a : Str} (ha : PyData.strOk a = true) : ∀ {ys : List Str}, (∀ y ∈ ys, PyData.strOk y = true) → PyData.strOk (Str.join a ys) = true
  | [], _ => by show PyData.strOk Str.empty = true; decide +kernel
  | [x], h => h x List.mem_cons_self
  | x :: y :: r, h => by
    show PyData.strOk (x ++ a ++ Str.join a (y :: r)) = true
    exact strOk_app (strOk_app (h x List.mem_cons_self) ha) (join_ok ha fun z hz => h z (List.mem_cons_of_mem _ hz))
theorem strs_map : ∀ {ys : List Str}, strsOf (ys.map PyData.str) = some ys
  | [] => rfl
  | y :: ys => by
    rw [List.map_cons]
    unfold strsOf
    rw [strs_map]
theorem wp_join {a : Str} {ys : List Str} : wpB (opJoin [.dat (.str a), .lst ((ys.map PyData.str).map M.dat)]) ⟨k⟩ .mk ↔ (ys.map (·.length)).sum + ys.length * a.length ≤ 16777216 ∧ k (.dat (.str (Str.join a ys))) := by
  unfold opJoin
  have e : M.asSeq (.lst ((ys.map PyData.str).map M.dat)) = some (ys.map PyData.str) := by
    unfold M.asSeq
    exact datsOf_dats
  simp only [e, strs_map, TL.join_eq]
  exact wpB_ite
/-- an item of a list of constants -/
theorem pick_wp {α : Type} {f : α → M} {xs : List M} (ws : List α) {v : Int} {k : M × Stp → Prop} (e : xs = ws.map f) (h0 : 0 ≤ v) (h1 : v < ws.length) (h : ∀ w ∈ ws, ∀ s, k (f w, s)) : wpB (ixK (.lst xs) (.int v)) ⟨k⟩ .mk := by
  subst e
  rw [wp_ixL]
  refine ⟨v.toNat, ixN_nat h0 (by rw [List.length_map]; exact h1), ?_⟩
  have hl : v.toNat < ws.length := by omega
  exact ⟨f ws[v.toNat], by simp [hl], h _ (List.getElem_mem hl) _⟩
/-- a sign of a text -/
theorem sign_wp {x : Str} {n : Nat} {v : Int} {k : M × Stp → Prop} (hx : Tx n x) (hn : n ≤ sizeLine) (h0 : 0 ≤ v) (h1 : v < x.length) (h : ∀ c s, Tx 1 c → c.length = 1 → k (.dat (.str c), s)) : wpB (ixK (.dat (.str x)) (.int v)) ⟨k⟩ .mk := by
  rw [wp_ixS]
  obtain ⟨c, e, _⟩ := atI_nat (xs := x.cps.toList) h0 (by rw [Array.length_toList]; exact h1)
  exact ⟨Nat.le_trans hx.1 hn, c, e, h _ _ ⟨Nat.le_refl _, strOk_one hx.2 e⟩ rfl⟩
theorem line_big : 16777216 ≤ sizeLine := by decide
end
end DL

set_option Elab.async false
set_option linter.all false
set_option maxRecDepth 100000
/-! DMf: loops and comprehensions told backwards. -/
namespace DL
open PySem
/-- a comprehension: I of what was walked, what was kept, the state -/
theorem compGo_wpI {own : List Nat} {h : PyData → Rho → Option Rho} {ft : Rho → Out Bool} {fe : Rho → Out Vl} {Q : List M → Rho → Prop} {E : Xv → Rho → Prop} (I : List PyData → List M → Rho → Prop) : ∀ {ds pre : List PyData} {acc : List M} {ρ : Rho}, I pre acc ρ →
    (∀ p d r, pre ++ ds = p ++ d :: r → ∀ acc ρ, I p acc ρ → wpB (h d ρ) ⟨fun ρ1 => wpX ft ρ1 ⟨fun c ρ2 => if c = true then wpX fe ρ2 ⟨fun a ρ3 => wpB (toVal a ρ3) ⟨fun q => I (p ++ [d]) (acc ++ [q.1]) (wipeM q.2 own)⟩ .mk, fun _ _ => False⟩ .mk else I (p ++ [d]) acc (wipeM ρ2 own), fun _ _ => False⟩ .mk⟩ .mk) →
    (∀ ms ρ1, I (pre ++ ds) ms ρ1 → Q ms ρ1) → wpO (compGo own h ft fe ds acc ρ) ⟨Q, E⟩ .mk
  | [], pre, acc, ρ, h0, _, fin => by
    rw [compGo_nil]
    exact fin acc ρ (by rw [List.append_nil]; exact h0)
  | d :: ds, pre, acc, ρ, h0, step, fin => by
    have s := step pre d ds rfl acc ρ h0
    obtain ⟨ρ1, e1, s⟩ := s
    rw [compGo_cons]
    unfold cStep
    rw [e1]
    simp only
    unfold wpX at s
    dsimp only at s
    cases e2 : ft ρ1 with
    | ok c ρ2 =>
      rw [e2] at s
      simp only [wpO_ok] at s
      have st2 : ∀ p' d' r', (pre ++ [d]) ++ ds = p' ++ d' :: r' → pre ++ d :: ds = p' ++ d' :: r' := fun p' d' r' e => by rw [← e, List.append_assoc]; rfl
      have fn2 : ∀ ms ρ1, I ((pre ++ [d]) ++ ds) ms ρ1 → Q ms ρ1 := fun ms ρ1 q => fin ms ρ1 (by rw [List.append_assoc] at q; exact q)
      by_cases hc : c = true
      · simp only [hc, if_true] at s ⊢
        cases e3 : fe ρ2 with
        | ok a ρ3 =>
          rw [e3] at s
          simp only [wpO_ok] at s
          obtain ⟨q, e4, s⟩ := s
          dsimp only at s
          obtain ⟨m, ρ4⟩ := q
          simp only [e4]
          exact compGo_wpI I s (fun p' d' r' e => step p' d' r' (st2 p' d' r' e)) fn2
        | exc _ _ => rw [e3] at s; exact s.elim
        | bad => rw [e3] at s; exact s.elim
      · rw [if_neg hc] at s
        simp only [hc, Bool.false_eq_true, if_false]
        exact compGo_wpI I s (fun p' d' r' e => step p' d' r' (st2 p' d' r' e)) fn2
    | exc _ _ => rw [e2] at s; exact s.elim
    | bad => rw [e2] at s; exact s.elim
theorem compGo_wp {own : List Nat} {h : PyData → Rho → Option Rho} {ft : Rho → Out Bool} {fe : Rho → Out Vl} {Q : List M → Rho → Prop} {E : Xv → Rho → Prop} (I : List M → Rho → Prop) {ds : List PyData} {acc : List M} {ρ : Rho} (h0 : I acc ρ)
    (step : ∀ d ∈ ds, ∀ acc ρ, I acc ρ → wpB (h d ρ) ⟨fun ρ1 => wpX ft ρ1 ⟨fun c ρ2 => if c = true then wpX fe ρ2 ⟨fun a ρ3 => wpB (toVal a ρ3) ⟨fun q => I (acc ++ [q.1]) (wipeM q.2 own)⟩ .mk, fun _ _ => False⟩ .mk else I acc (wipeM ρ2 own), fun _ _ => False⟩ .mk⟩ .mk)
    (fin : ∀ ms ρ1, ms.length ≤ acc.length + ds.length → I ms ρ1 → Q ms ρ1) : wpO (compGo own h ft fe ds acc ρ) ⟨Q, E⟩ .mk := by
  have z := compGo_wpI (own := own) (h := h) (ft := ft) (fe := fe) (Q := fun ms ρ1 => I ms ρ1) (E := fun _ _ => False) (fun _ a r => I a r) (ds := ds) (pre := []) h0 (fun p d r e acc ρ q => step d (by rw [show ds = p ++ d :: r from e]; simp) acc ρ q) (fun ms ρ1 q => q)
  cases e : compGo own h ft fe ds acc ρ with
  | ok ms ρ1 => rw [e] at z; exact fin ms ρ1 (compGo_len e) z
  | exc _ _ => rw [e] at z; exact z.elim
  | bad => rw [e] at z; exact z.elim
/-- a for loop: I of what was walked, the state -/
theorem forGo_wpI {h : PyData → Rho → Option Rho} {g : Rho → Fl} {D : PS} (I : List PyData → Rho → Prop) : ∀ {ds pre : List PyData} {ρ : Rho}, I pre ρ →
    (∀ p d r, pre ++ ds = p ++ d :: r → ∀ ρ, I p ρ → wpB (h d ρ) ⟨fun ρ1 => wpS g ρ1 { nx := I (p ++ [d]), ct := I (p ++ [d]), rt := D.rt, bk := D.nx, ex := D.ex } .mk⟩ .mk) →
    (∀ ρ1, I (pre ++ ds) ρ1 → D.nx ρ1) → wpL (forGo h g ds ρ) D .mk
  | [], pre, ρ, h0, _, fin => fin ρ (by rw [List.append_nil]; exact h0)
  | d :: ds, pre, ρ, h0, step, fin => by
    obtain ⟨ρ1, e1, s⟩ := step pre d ds rfl ρ h0
    have st2 : ∀ p' d' r', (pre ++ [d]) ++ ds = p' ++ d' :: r' → pre ++ d :: ds = p' ++ d' :: r' := fun p' d' r' e => by rw [← e, List.append_assoc]; rfl
    have fn2 : ∀ ρ1, I ((pre ++ [d]) ++ ds) ρ1 → D.nx ρ1 := fun ρ1 q => fin ρ1 (by rw [List.append_assoc] at q; exact q)
    rw [forGo, e1]
    simp only
    unfold wpS at s
    dsimp only at s
    cases e2 : g ρ1 with
    | nx ρ2 => rw [e2] at s; exact forGo_wpI I s (fun p' d' r' e => step p' d' r' (st2 p' d' r' e)) fn2
    | ct ρ2 => rw [e2] at s; exact forGo_wpI I s (fun p' d' r' e => step p' d' r' (st2 p' d' r' e)) fn2
    | rt m ρ2 => rw [e2] at s; exact s
    | bk ρ2 => rw [e2] at s; exact s
    | exc x ρ2 => rw [e2] at s; exact s
    | bad => rw [e2] at s; exact s
theorem forGo_wp {h : PyData → Rho → Option Rho} {g : Rho → Fl} {D : PS} (I : Rho → Prop) {ds : List PyData} {ρ : Rho} (h0 : I ρ)
    (step : ∀ d ∈ ds, ∀ ρ, I ρ → wpB (h d ρ) ⟨fun ρ1 => wpS g ρ1 { nx := I, ct := I, rt := D.rt, bk := D.nx, ex := D.ex } .mk⟩ .mk) (fin : ∀ ρ1, I ρ1 → D.nx ρ1) : wpL (forGo h g ds ρ) D .mk :=
  forGo_wpI (fun _ r => I r) (ds := ds) (pre := []) h0 (fun p d r e ρ q => step d (by rw [show ds = p ++ d :: r from e]; simp) ρ q) fun ρ1 q => fin ρ1 q
theorem wpO_imp {α : Type} {o : Out α} {Q Q' : α → Rho → Prop} {E E' : Xv → Rho → Prop} (h : wpO o ⟨Q, E⟩ .mk) (hq : ∀ a r, Q a r → Q' a r) (he : ∀ x r, E x r → E' x r) : wpO o ⟨Q', E'⟩ .mk := by
  cases o with
  | ok a r => exact hq a r h
  | exc x r => exact he x r h
  | bad => exact h
theorem wpF_imp {F : List M → FOut} {ms : List M} {Q Q' : M → List M → Prop} {E E' : Xv → List M → Prop} (h : wpF F ms ⟨Q, E⟩ .mk) (hq : ∀ a r, Q a r → Q' a r) (he : ∀ x r, E x r → E' x r) : wpF F ms ⟨Q', E'⟩ .mk := by
  unfold wpF at *
  cases e : F ms with
  | ok a r => rw [e] at h; exact hq a r h
  | exc x r => rw [e] at h; exact he x r h
  | bad => rw [e] at h; exact h
@[simp] theorem okR_iff {i : Int} : okR i = true ↔ -(2 ^ 62) ≤ i ∧ i < 2 ^ 62 := by
  unfold okR
  simp only [Bool.and_eq_true, decide_eq_true_eq]
@[simp] theorem rngD_len {lo : Int} {n : Nat} : (rngD lo n).length = n := by
  unfold rngD
  rw [List.length_map, List.length_range]
end DL

set_option Elab.async false
set_option linter.all false
set_option maxRecDepth 100000
/-! DMg: while, typed loops, stores, dicts, tuples, told backwards. -/
namespace DL
open PySem
section
variable {α β : Type} {Q : α → Rho → Prop} {E : Xv → Rho → Prop} {ρ : Rho} {D : PS} {R : Vl → Rho → Prop} {T : Bool → Rho → Prop} {k : M → Prop}
/-- a while loop: I with a number that falls -/
theorem while_wp {ft : Rho → Out Bool} {g : Rho → Fl} {n : Nat} (I : Nat → Rho → Prop) {m : Nat} (h0 : I m ρ) (hm : m < n)
    (step : ∀ m ρ, I m ρ → ∀ J : Rho → Prop, (∀ j ρ2, j < m → I j ρ2 → J ρ2) → wpX ft ρ ⟨fun c ρ1 => if c = true then wpS g ρ1 { nx := J, ct := J, rt := D.rt, bk := D.nx, ex := D.ex } .mk else D.nx ρ1, D.ex⟩ .mk) : wpL (whileGo ft g n ρ) D .mk := by
  replace step := fun m ρ h => step m ρ h (fun ρ2 => ∃ j, j < m ∧ I j ρ2) fun j ρ2 h1 h2 => ⟨j, h1, h2⟩
  induction n generalizing m ρ with
  | zero => omega
  | succ n ih =>
    have s := step m ρ h0
    unfold wpX at s
    rw [whileGo]
    cases e : ft ρ with
    | ok c ρ1 =>
      rw [e] at s
      simp only [wpO_ok] at s
      by_cases hc : c = true
      · simp only [hc, if_true] at s ⊢
        unfold wpS at s
        cases e2 : g ρ1 with
        | nx ρ2 => rw [e2] at s; obtain ⟨j, hj, s⟩ := s; exact ih s (by omega)
        | ct ρ2 => rw [e2] at s; obtain ⟨j, hj, s⟩ := s; exact ih s (by omega)
        | rt m ρ2 => rw [e2] at s; exact s
        | bk ρ2 => rw [e2] at s; exact s
        | exc x ρ2 => rw [e2] at s; exact s
        | bad => rw [e2] at s; exact s
      · rw [if_neg hc] at s
        simp only [hc, Bool.false_eq_true, if_false]
        exact s
    | exc x ρ1 => rw [e] at s; exact s
    | bad => rw [e] at s; exact s
@[simp] theorem wp_while {ft : Rho → Out Bool} {g : Rho → Fl} : wpS (sWhile ft g) ρ D .mk ↔ wpL (whileGo ft g fuel ρ) D .mk := Iff.rfl
/-- a for loop over the codes of things -/
theorem for_ty {h : PyData → Rho → Option Rho} {g : Rho → Fl} (xs : List α) (e : α → PyData) (I : List α → Rho → Prop) (h0 : I [] ρ)
    (step : ∀ p x r, xs = p ++ x :: r → ∀ ρ, I p ρ → ∀ J : Rho → Prop, (∀ ρ2, I (p ++ [x]) ρ2 → J ρ2) → wpB (h (e x) ρ) ⟨fun ρ1 => wpS g ρ1 { nx := J, ct := J, rt := D.rt, bk := D.nx, ex := D.ex } .mk⟩ .mk)
    (fin : ∀ ρ1, I xs ρ1 → D.nx ρ1) : wpL (forGo h g (xs.map e) ρ) D .mk := by
  replace step := fun p x r h1 ρ h2 => step p x r h1 ρ h2 (I (p ++ [x])) fun _ h => h
  refine forGo_wpI (fun p ρ => ∃ q, p = q.map e ∧ (∃ r, xs = q ++ r) ∧ I q ρ) (pre := []) ⟨[], rfl, ⟨xs, rfl⟩, h0⟩ (fun p d r ep ρ hI => ?_) (fun ρ1 hI => ?_)
  · obtain ⟨q, rfl, ⟨s, rfl⟩, hI⟩ := hI
    rw [List.nil_append, List.map_append] at ep
    have ep := List.append_cancel_left ep
    cases s with
    | nil => cases ep
    | cons x s =>
      rw [List.map_cons] at ep
      cases ep
      obtain ⟨ρ1, e1, w⟩ := step q x s rfl ρ hI
      refine ⟨ρ1, e1, ?_⟩
      dsimp only at w ⊢
      have ext : ∀ ρ, I (q ++ [x]) ρ → ∃ q', q.map e ++ [e x] = q'.map e ∧ (∃ r, q ++ x :: s = q' ++ r) ∧ I q' ρ := fun ρ z => ⟨q ++ [x], by simp, ⟨s, by simp⟩, z⟩
      unfold wpS at w ⊢
      cases e2 : g ρ1 with
      | nx ρ2 => rw [e2] at w; exact ext _ w
      | ct ρ2 => rw [e2] at w; exact ext _ w
      | rt m ρ2 => rw [e2] at w; exact w
      | bk ρ2 => rw [e2] at w; exact w
      | exc x ρ2 => rw [e2] at w; exact w
      | bad => rw [e2] at w; exact w
  · obtain ⟨q, eq, ⟨r, rfl⟩, hI⟩ := hI
    rw [List.nil_append, List.map_append] at eq
    have : r = [] := by
      have := congrArg List.length eq
      simp only [List.length_append, List.length_map] at this
      exact List.length_eq_zero_iff.mp (by omega)
    subst this
    rw [List.append_nil] at fin
    exact fin ρ1 hI
/-- a comprehension over the codes of things -/
theorem comp_ty {own : List Nat} {h : PyData → Rho → Option Rho} {ft : Rho → Out Bool} {fe : Rho → Out Vl} {Q : List M → Rho → Prop} (xs : List α) (e : α → PyData) (I : List α → List M → Rho → Prop) (h0 : I [] [] ρ)
    (step : ∀ p x r, xs = p ++ x :: r → ∀ acc ρ, I p acc ρ → ∀ J : List M → Rho → Prop, (∀ a r, I (p ++ [x]) a r → J a r) → wpB (h (e x) ρ) ⟨fun ρ1 => wpX ft ρ1 ⟨fun c ρ2 => if c = true then wpX fe ρ2 ⟨fun a ρ3 => wpB (toVal a ρ3) ⟨fun q => J (acc ++ [q.1]) (wipeM q.2 own)⟩ .mk, fun _ _ => False⟩ .mk else J acc (wipeM ρ2 own), fun _ _ => False⟩ .mk⟩ .mk)
    (fin : ∀ ms ρ1, I xs ms ρ1 → Q ms ρ1) : wpO (compGo own h ft fe (xs.map e) [] ρ) ⟨Q, E⟩ .mk := by
  replace step := fun p x r h1 acc ρ h2 => step p x r h1 acc ρ h2 (I (p ++ [x])) fun _ _ h => h
  refine compGo_wpI (fun p a ρ => ∃ q, p = q.map e ∧ (∃ r, xs = q ++ r) ∧ I q a ρ) (pre := []) ⟨[], rfl, ⟨xs, rfl⟩, h0⟩ (fun p d r ep acc ρ hI => ?_) (fun ms ρ1 hI => ?_)
  · obtain ⟨q, rfl, ⟨s, rfl⟩, hI⟩ := hI
    rw [List.nil_append, List.map_append] at ep
    have ep := List.append_cancel_left ep
    cases s with
    | nil => cases ep
    | cons x s =>
      rw [List.map_cons] at ep
      cases ep
      obtain ⟨ρ1, e1, w⟩ := step q x s rfl acc ρ hI
      refine ⟨ρ1, e1, ?_⟩
      dsimp only at w ⊢
      have ext : ∀ acc ρ, I (q ++ [x]) acc ρ → ∃ q', q.map e ++ [e x] = q'.map e ∧ (∃ r, q ++ x :: s = q' ++ r) ∧ I q' acc ρ := fun acc ρ z => ⟨q ++ [x], by simp, ⟨s, by simp⟩, z⟩
      unfold wpX at w ⊢
      cases e2 : ft ρ1 with
      | ok c ρ2 =>
        rw [e2] at w
        simp only [wpO_ok] at w ⊢
        by_cases hc : c = true
        · rw [if_pos hc] at w ⊢
          cases e3 : fe ρ2 with
          | ok a ρ3 =>
            rw [e3] at w
            obtain ⟨z, ez, w⟩ := w
            exact ⟨z, ez, ext _ _ w⟩
          | exc x ρ3 => rw [e3] at w; exact w
          | bad => rw [e3] at w; exact w
        · rw [if_neg hc] at w ⊢
          exact ext _ _ w
      | exc x ρ2 => rw [e2] at w; exact w
      | bad => rw [e2] at w; exact w
  · obtain ⟨q, eq, ⟨r, rfl⟩, hI⟩ := hI
    rw [List.nil_append, List.map_append] at eq
    have : r = [] := by
      have := congrArg List.length eq
      simp only [List.length_append, List.length_map] at this
      exact List.length_eq_zero_iff.mp (by omega)
    subst this
    rw [List.append_nil] at fin
    exact fin ms ρ1 hI
/-! ### targets -/
@[simp] theorem h_nil : hNil [] ρ = some ρ := rfl
@[simp] theorem h_cons {h : PyData → Rho → Option Rho} {hs : List PyData → Rho → Option Rho} {d : PyData} {ds : List PyData} {k : Rho → Prop} : wpB (hCons h hs (d :: ds) ρ) ⟨k⟩ .mk ↔ wpB (h d ρ) ⟨fun ρ1 => wpB (hs ds ρ1) ⟨k⟩ .mk⟩ .mk := by
  rw [hCons]
  cases e : h d ρ <;> simp [e]
@[simp] theorem h_tup {n : Nat} {hs : List PyData → Rho → Option Rho} {ds : List PyData} : hTup n hs (.tuple ds) ρ = if ds.length = n then hs ds ρ else none := rfl
@[simp] theorem h_tupw {n : Nat} {hs : List PyData → Rho → Option Rho} {ds : List PyData} : hTup n hs (.dict [(.none, .tuple ds)]) ρ = if ds.length = n then hs ds ρ else none := rfl
@[simp] theorem wpB_ite0 {c : Prop} [Decidable c] {o : Option α} {k : α → Prop} : wpB (if c then o else none) ⟨k⟩ .mk ↔ c ∧ wpB o ⟨k⟩ .mk := by
  by_cases h : c
  · simp [h]
  · simp [h]
@[simp] theorem wp_asg {h : PyData → Rho → Option Rho} {fe : Rho → Out Vl} : wpS (sAsg h fe) ρ D .mk ↔ wpX fe ρ ⟨fun a ρ1 => wpB (toDat a ρ1) ⟨fun q => wpB (h q.1 q.2) ⟨fun ρ3 => D.nx ρ3⟩ .mk⟩ .mk, D.ex⟩ .mk := by
  unfold wpS wpX sAsg
  cases fe ρ with
  | ok a ρ1 =>
    simp only [wpO_ok]
    cases toDat a ρ1 with
    | none => simp [wpL]
    | some q =>
      simp only [wpB_some]
      cases h q.1 q.2 <;> simp [wpL]
  | exc _ _ => exact Iff.rfl
  | bad => exact Iff.rfl
/-! ### stores -/
def datOf : Vl → Option PyData
  | .val (.dat d) => some d
  | _ => none
@[simp] theorem datOf_val {d : PyData} : datOf (.val (.dat d)) = some d := rfl
@[simp] theorem wp_setIx {bb : Bool} {fe fo fi : Rho → Out Vl} : wpS (sSetIx bb fe fo fi) ρ D .mk ↔ wpX fe ρ ⟨fun a ρ1 => wpB (toVal a ρ1) ⟨fun q => wpX fo q.2 ⟨fun x ρ2 => (bb || x.root) = true ∧ wpX fi ρ2 ⟨fun y ρ3 => wpB (isPlc x) ⟨fun p => wpB (datOf y) ⟨fun d => wpB (rdP ρ3 p.1 p.2) ⟨fun c => wpB (putAt c d q.1) ⟨fun c' => D.nx (wrP ρ3 p.1 p.2 c')⟩ .mk⟩ .mk⟩ .mk⟩ .mk, D.ex⟩ .mk, D.ex⟩ .mk⟩ .mk, D.ex⟩ .mk := by
  unfold wpS wpX sSetIx
  cases fe ρ with
  | ok a ρ1 =>
    simp only [wpO_ok]
    cases toVal a ρ1 with
    | none => simp [wpL]
    | some q =>
      obtain ⟨m, ρ2⟩ := q
      simp only [wpB_some, run_two]
      cases fo ρ2 with
      | ok x ρ3 =>
        simp only [wpO_ok, bind_ok]
        by_cases h : (bb || x.root) = true
        · simp only [h, if_true, true_and]
          cases fi ρ3 with
          | ok y ρ4 =>
            simp only [wpO_ok, bind_ok]
            cases x with
            | val _ => simp [wpL]
            | plc i π =>
              cases y with
              | plc _ _ => simp [wpL, datOf]
              | val y =>
                cases y with
                | dat d =>
                  simp only [isPlc_plc, wpB_some, datOf_val]
                  cases rdP ρ4 i π with
                  | none => simp [wpL]
                  | some c =>
                    simp only [wpB_some]
                    cases putAt c d m <;> simp [wpL]
                | _ => simp [wpL, datOf]
          | exc _ _ => exact Iff.rfl
          | bad => exact Iff.rfl
        · rw [if_neg h]; simp [h, wpL]
      | exc _ _ => exact Iff.rfl
      | bad => exact Iff.rfl
  | exc _ _ => exact Iff.rfl
  | bad => exact Iff.rfl
@[simp] theorem wp_putL {xs : List M} {i : Int} {m : M} : wpB (putAt (.lst xs) (.int i) m) ⟨k⟩ .mk ↔ ∃ j, L2.ixN xs.length i = some j ∧ k (.lst (xs.set j m)) := by
  unfold putAt
  cases h : L2.ixN xs.length i with
  | none => simp [h]
  | some j => simp [h]
theorem wp_putD {ks : List L2.Key} {xs : List M} {d : PyData} {m : M} {q : L2.Key} (h : keyOf d = some q) : wpB (putAt (.dk ks xs) d m) ⟨k⟩ .mk ↔ ks.length < sizeLine ∧ k (match fnd q ks with
      | some j => .dk ks (xs.set j m)
      | none => .dk (ks ++ [q]) (xs ++ [m])) := by
  show wpB (match keyOf d with
    | some k => if ks.length < sizeLine then (match fnd k ks with
      | some j => some (M.dk ks (xs.set j m))
      | none => some (M.dk (ks ++ [k]) (xs ++ [m]))) else none
    | none => none) ⟨k⟩ .mk ↔ _
  rw [h]
  simp only
  by_cases hl : ks.length < sizeLine
  · rw [if_pos hl]
    cases fnd q ks <;> simp [hl]
  · rw [if_neg hl]; simp [hl]
@[simp] theorem wp_putDs {ks : List L2.Key} {xs : List M} {x : Str} {m : M} : wpB (putAt (.dk ks xs) (.str x) m) ⟨k⟩ .mk ↔ ks.length < sizeLine ∧ k (match fnd (kyS x) ks with
      | some j => .dk ks (xs.set j m)
      | none => .dk (ks ++ [kyS x]) (xs ++ [m])) := wp_putD rfl
@[simp] theorem wp_ixDs {ks : List L2.Key} {xs : List M} {x : Str} {k : M × Stp → Prop} : wpB (ixK (.dk ks xs) (.str x)) ⟨k⟩ .mk ↔ wpB (fnd (kyS x) ks) ⟨fun j => wpB (xs[j]?) ⟨fun c => k (c, .key (kyS x))⟩ .mk⟩ .mk := by
  unfold ixK
  simp only [keyOf]
  show wpB (match fnd (kyS x) ks with
      | some j => match xs[j]? with
        | some c => some (c, .key (kyS x))
        | none => none
      | none => none) ⟨k⟩ .mk ↔ _
  cases fnd (kyS x) ks with
  | none => simp
  | some j =>
    simp only [wpB_some]
    cases xs[j]? <;> simp
@[simp] theorem wp_inDs {ks : List L2.Key} {xs : List M} {x : Str} {neg : Bool} : wpB (opIn neg (.dat (.str x)) (.dk ks xs)) ⟨k⟩ .mk ↔ k (.dat (.bool (if neg = true then !(fnd (kyS x) ks).isSome else (fnd (kyS x) ks).isSome))) := by
  show wpB (some _) ⟨k⟩ .mk ↔ _
  rw [wpB_some]
  exact Iff.rfl
@[simp] theorem wp_dict0 : wpX cDict0 ρ ⟨R, E⟩ .mk ↔ R (.val (.dk [] [])) ρ := Iff.rfl
@[simp] theorem gdD_d {ks : List L2.Key} {xs : List M} : gdD (.dk ks xs) = true := rfl
/-! ### methods that change -/
def dM (ds : List PyData) : List M := ds.map M.dat
@[simp] theorem wp_ext {br : Bool} {fo fa : Rho → Out Vl} : wpX (cExt br fo fa) ρ ⟨R, E⟩ .mk ↔ wpX fo ρ ⟨fun x ρ1 => wpB (rdVl ρ1 x) ⟨fun c => (gdL c = true ∧ (br || x.root) = true) ∧ wpX fa ρ1 ⟨fun a ρ2 => wpB (isPlc x) ⟨fun p => wpB (toDat a ρ2) ⟨fun q => wpB (seqD q.1) ⟨fun ds => wpB (rdP q.2 p.1 p.2) ⟨fun c => wpB (isLst c) ⟨fun xs => xs.length + ds.length ≤ sizeLine ∧ R (.val (.dat .none)) (wrP q.2 p.1 p.2 (.lst (xs ++ dM ds)))⟩ .mk⟩ .mk⟩ .mk⟩ .mk⟩ .mk, E⟩ .mk⟩ .mk, E⟩ .mk := by
  unfold wpX cExt dM cRecv
  cases fo ρ with
  | ok x ρ1 =>
    simp only [wpO_ok]
    cases rdVl ρ1 x with
    | none => simp
    | some c =>
      simp only [wpB_some]
      by_cases h : gdL c = true ∧ (br || x.root) = true
      · rw [if_pos h]
        simp only [h, and_self, true_and, run_cons, Bool.true_or, if_true, run_nil]
        cases fa ρ1 with
        | ok a ρ2 =>
          simp only [bind_ok, wpO_ok]
          cases x with
          | val _ => simp
          | plc i π =>
            simp only [isPlc_plc, wpB_some]
            cases toDat a ρ2 with
            | none => simp
            | some q =>
              obtain ⟨d, ρ3⟩ := q
              simp only [wpB_some]
              cases seqD d with
              | none => simp
              | some ds =>
                simp only [wpB_some]
                cases rdP ρ3 i π with
                | none => simp
                | some c =>
                  simp only [wpB_some]
                  cases c with
                  | lst xs =>
                    simp only [isLst_lst, wpB_some]
                    by_cases hl : xs.length + ds.length ≤ sizeLine
                    · rw [if_pos hl]; simp only [hl, true_and]; exact Iff.rfl
                    · rw [if_neg hl]; simp only [hl, false_and]; exact Iff.rfl
                  | _ => exact ⟨fun z => z.elim, fun z => by obtain ⟨_, e, _⟩ := z; cases e⟩
        | exc _ _ => exact Iff.rfl
        | bad => exact Iff.rfl
      · rw [if_neg h]; simp only [wpO_bad, h, false_and]
  | exc _ _ => exact Iff.rfl
  | bad => exact Iff.rfl
@[simp] theorem seqD_l {ds : List PyData} : seqD (.list ds) = some ds := rfl
@[simp] theorem seqD_t {ds : List PyData} : seqD (.tuple ds) = some ds := rfl
def isDk : M → Option (List L2.Key × List M)
  | .dk ks xs => some (ks, xs)
  | _ => none
@[simp] theorem isDk_dk {ks : List L2.Key} {xs : List M} : isDk (.dk ks xs) = some (ks, xs) := rfl
@[simp] theorem wp_upd {br : Bool} {fo fa : Rho → Out Vl} : wpX (cUpd br fo fa) ρ ⟨R, E⟩ .mk ↔ wpX fo ρ ⟨fun x ρ1 => wpB (rdVl ρ1 x) ⟨fun c => (gdD c = true ∧ (br || x.root) = true) ∧ wpX fa ρ1 ⟨fun a ρ2 => wpB (isPlc x) ⟨fun p => wpB (isPlc a) ⟨fun p' => wpB (rdP ρ2 p.1 p.2) ⟨fun c => wpB (rdP ρ2 p'.1 p'.2) ⟨fun c' => wpB (isDk c) ⟨fun u => wpB (isDk c') ⟨fun u' => wpB (datsOf u.2) ⟨fun ds => wpB (datsOf u'.2) ⟨fun ds' =>
    u.1.length + u'.1.length ≤ sizeLine ∧ R (.val (.dat .none)) (wrP ρ2 p.1 p.2 (.dk (mrgT u.1 ds (u'.1.zip ds')).1 ((mrgT u.1 ds (u'.1.zip ds')).2.map M.dat)))⟩ .mk⟩ .mk⟩ .mk⟩ .mk⟩ .mk⟩ .mk⟩ .mk⟩ .mk, E⟩ .mk⟩ .mk, E⟩ .mk := by
  unfold wpX cUpd cRecv
  cases fo ρ with
  | ok x ρ1 =>
    simp only [wpO_ok]
    cases rdVl ρ1 x with
    | none => simp
    | some c =>
      simp only [wpB_some]
      by_cases h : gdD c = true ∧ (br || x.root) = true
      · rw [if_pos h]
        simp only [h, and_self, true_and, run_cons, Bool.true_or, if_true, run_nil]
        cases fa ρ1 with
        | ok a ρ2 =>
          simp only [bind_ok, wpO_ok]
          cases x with
          | val _ => simp
          | plc i π =>
            cases a with
            | val _ => simp
            | plc j π' =>
              simp only [isPlc_plc, wpB_some]
              cases rdP ρ2 i π with
              | none => simp
              | some c =>
                simp only [wpB_some]
                cases rdP ρ2 j π' with
                | none =>
                  simp only [wpB_none, iff_false]
                  cases c <;> simp
                | some c' =>
                  simp only [wpB_some]
                  cases c with
                  | dk ks xs =>
                    simp only [isDk_dk, wpB_some]
                    cases c' with
                    | dk ks' xs' =>
                      simp only [isDk_dk, wpB_some]
                      cases datsOf xs with
                      | none => simp
                      | some ds =>
                        simp only [wpB_some]
                        cases datsOf xs' with
                        | none => simp
                        | some ds' =>
                          simp only [wpB_some]
                          by_cases hl : ks.length + ks'.length ≤ sizeLine
                          · rw [if_pos hl]; simp only [hl, true_and]; exact Iff.rfl
                          · rw [if_neg hl]; simp only [hl, false_and]; exact Iff.rfl
                    | _ => exact ⟨fun z => z.elim, fun z => by obtain ⟨_, e, _⟩ := z; cases e⟩
                  | _ => exact ⟨fun z => z.elim, fun z => by obtain ⟨_, e, _⟩ := z; cases e⟩
        | exc _ _ => exact Iff.rfl
        | bad => exact Iff.rfl
      · rw [if_neg h]; simp only [wpO_bad, h, false_and]
  | exc _ _ => exact Iff.rfl
  | bad => exact Iff.rfl
@[simp] theorem wp_pop {fo : Rho → Out Vl} : wpX (cPop fo) ρ ⟨R, E⟩ .mk ↔ wpX fo ρ ⟨fun x ρ1 => wpB (rdVl ρ1 x) ⟨fun c => gdL c = true ∧ wpB (isPlc x) ⟨fun p => wpB (rdP ρ1 p.1 p.2) ⟨fun c => wpB (isLst c) ⟨fun xs => wpB xs.getLast? ⟨fun m => R (.val m) (wrP ρ1 p.1 p.2 (.lst xs.dropLast))⟩ .mk⟩ .mk⟩ .mk⟩ .mk⟩ .mk, E⟩ .mk := by
  unfold wpX cPop cRecv
  cases fo ρ with
  | ok x ρ1 =>
    simp only [wpO_ok]
    cases rdVl ρ1 x with
    | none => simp
    | some c =>
      simp only [wpB_some, Bool.true_or, and_true]
      by_cases h : gdL c = true
      · simp only [h, if_true, true_and, run_nil]
        cases x with
        | val _ => simp
        | plc i π =>
          simp only [isPlc_plc, wpB_some]
          cases rdP ρ1 i π with
          | none => simp
          | some c =>
            simp only [wpB_some]
            cases c with
            | lst xs =>
              simp only [isLst_lst, wpB_some]
              cases xs.getLast? <;> simp
            | _ => exact ⟨fun z => z.elim, fun z => by obtain ⟨_, e, _⟩ := z; cases e⟩
      · simp only [h, Bool.false_eq_true, if_false, wpO_bad, false_and]
  | exc _ _ => exact Iff.rfl
  | bad => exact Iff.rfl
@[simp] theorem wp_zip {fr : Rho → Out (List Vl)} {Q : List PyData → Rho → Prop} : wpX (iZip fr) ρ ⟨Q, E⟩ .mk ↔ wpX fr ρ ⟨fun as ρ1 => wpB (prep (noM as) as ρ1) ⟨fun q => wpB (datsOf q.1) ⟨fun ds => wpB (zipP ds) ⟨fun zs => Q zs q.2⟩ .mk⟩ .mk⟩ .mk, E⟩ .mk := by
  unfold wpX iZip
  cases fr ρ with
  | ok as ρ1 =>
    simp only [wpO_ok]
    cases prep (noM as) as ρ1 with
    | none => simp
    | some q =>
      obtain ⟨ms, ρ2⟩ := q
      simp only [wpB_some]
      cases datsOf ms with
      | none => simp
      | some ds =>
        simp only [wpB_some]
        cases zipP ds <;> simp
  | exc _ _ => exact Iff.rfl
  | bad => exact Iff.rfl
@[simp] theorem zipP_t {ds es : List PyData} : zipP [.tuple ds, .tuple es] = some (zipD ds es) := rfl
@[simp] theorem zipP_l {ds es : List PyData} : zipP [.list ds, .list es] = some (zipD ds es) := rfl
@[simp] theorem datsOf_nil : datsOf [] = some [] := rfl
@[simp] theorem wp_datsOf {d : PyData} {ms : List M} {k : List PyData → Prop} : wpB (datsOf (.dat d :: ms)) ⟨k⟩ .mk ↔ wpB (datsOf ms) ⟨fun ds => k (d :: ds)⟩ .mk := by
  rw [datsOf]
  cases datsOf ms <;> simp
theorem zipD_map {f : α → PyData} {g : β → PyData} : ∀ {xs : List α} {ys : List β}, zipD (xs.map f) (ys.map g) = (xs.zip ys).map fun p => wkT [f p.1, g p.2]
  | [], _ => by simp [zipD]
  | _ :: _, [] => by simp [zipD]
  | x :: xs, y :: ys => by simp [zipD, zipD_map (xs := xs) (ys := ys)]
/-! ### values -/
@[simp] theorem sl_1 : (1 ≤ sizeLine) = True := by simp only [eq_iff_iff, iff_true]; decide
@[simp] theorem sl_2 : (2 ≤ sizeLine) = True := by simp only [eq_iff_iff, iff_true]; decide
@[simp] theorem sl_3 : (3 ≤ sizeLine) = True := by simp only [eq_iff_iff, iff_true]; decide
@[simp] theorem sl_4 : (4 ≤ sizeLine) = True := by simp only [eq_iff_iff, iff_true]; decide
@[simp] theorem sl_5 : (5 ≤ sizeLine) = True := by simp only [eq_iff_iff, iff_true]; decide
@[simp] theorem sl_6 : (6 ≤ sizeLine) = True := by simp only [eq_iff_iff, iff_true]; decide
@[simp] theorem sl_7 : (7 ≤ sizeLine) = True := by simp only [eq_iff_iff, iff_true]; decide
@[simp] theorem sl_8 : (8 ≤ sizeLine) = True := by simp only [eq_iff_iff, iff_true]; decide
@[simp] theorem sl_9 : (9 ≤ sizeLine) = True := by simp only [eq_iff_iff, iff_true]; decide
@[simp] theorem sl_10 : (10 ≤ sizeLine) = True := by simp only [eq_iff_iff, iff_true]; decide
@[simp] theorem sl_11 : (11 ≤ sizeLine) = True := by simp only [eq_iff_iff, iff_true]; decide
@[simp] theorem sl_12 : (12 ≤ sizeLine) = True := by simp only [eq_iff_iff, iff_true]; decide
@[simp] theorem sl_13 : (13 ≤ sizeLine) = True := by simp only [eq_iff_iff, iff_true]; decide
@[simp] theorem sl_14 : (14 ≤ sizeLine) = True := by simp only [eq_iff_iff, iff_true]; decide
@[simp] theorem sl_15 : (15 ≤ sizeLine) = True := by simp only [eq_iff_iff, iff_true]; decide
@[simp] theorem sl_16 : (16 ≤ sizeLine) = True := by simp only [eq_iff_iff, iff_true]; decide
@[simp] theorem sl_17 : (17 ≤ sizeLine) = True := by simp only [eq_iff_iff, iff_true]; decide
@[simp] theorem sl_18 : (18 ≤ sizeLine) = True := by simp only [eq_iff_iff, iff_true]; decide
@[simp] theorem sl_19 : (19 ≤ sizeLine) = True := by simp only [eq_iff_iff, iff_true]; decide
@[simp] theorem sl_20 : (20 ≤ sizeLine) = True := by simp only [eq_iff_iff, iff_true]; decide
@[simp] theorem sl_21 : (21 ≤ sizeLine) = True := by simp only [eq_iff_iff, iff_true]; decide
@[simp] theorem sl_22 : (22 ≤ sizeLine) = True := by simp only [eq_iff_iff, iff_true]; decide
@[simp] theorem sl_23 : (23 ≤ sizeLine) = True := by simp only [eq_iff_iff, iff_true]; decide
@[simp] theorem sl_24 : (24 ≤ sizeLine) = True := by simp only [eq_iff_iff, iff_true]; decide
@[simp] theorem sl_25 : (25 ≤ sizeLine) = True := by simp only [eq_iff_iff, iff_true]; decide
@[simp] theorem sl_26 : (26 ≤ sizeLine) = True := by simp only [eq_iff_iff, iff_true]; decide
@[simp] theorem sl_27 : (27 ≤ sizeLine) = True := by simp only [eq_iff_iff, iff_true]; decide
@[simp] theorem sl_28 : (28 ≤ sizeLine) = True := by simp only [eq_iff_iff, iff_true]; decide
@[simp] theorem sl_29 : (29 ≤ sizeLine) = True := by simp only [eq_iff_iff, iff_true]; decide
@[simp] theorem sl_30 : (30 ≤ sizeLine) = True := by simp only [eq_iff_iff, iff_true]; decide
@[simp] theorem sl_31 : (31 ≤ sizeLine) = True := by simp only [eq_iff_iff, iff_true]; decide
@[simp] theorem sl_32 : (32 ≤ sizeLine) = True := by simp only [eq_iff_iff, iff_true]; decide
@[simp] theorem sl_33 : (33 ≤ sizeLine) = True := by simp only [eq_iff_iff, iff_true]; decide
@[simp] theorem sl_34 : (34 ≤ sizeLine) = True := by simp only [eq_iff_iff, iff_true]; decide
@[simp] theorem sl_35 : (35 ≤ sizeLine) = True := by simp only [eq_iff_iff, iff_true]; decide
@[simp] theorem sl_36 : (36 ≤ sizeLine) = True := by simp only [eq_iff_iff, iff_true]; decide
@[simp] theorem sl_37 : (37 ≤ sizeLine) = True := by simp only [eq_iff_iff, iff_true]; decide
@[simp] theorem sl_38 : (38 ≤ sizeLine) = True := by simp only [eq_iff_iff, iff_true]; decide
@[simp] theorem sl_39 : (39 ≤ sizeLine) = True := by simp only [eq_iff_iff, iff_true]; decide
@[simp] theorem sl_40 : (40 ≤ sizeLine) = True := by simp only [eq_iff_iff, iff_true]; decide
theorem dats_all {ds : List PyData} : datsOf (ds.map M.dat) = some ds := datsOf_dats
@[simp] theorem tup_dats {ds : List PyData} : opTuple [.lst (ds.map M.dat)] = some (.dat (.tuple ds)) := by
  show (match M.asList (.lst (ds.map M.dat)) with
    | some ds => some (M.dat (.tuple ds))
    | none => none) = _
  rw [show M.asList (.lst (ds.map M.dat)) = some ds from datsOf_dats]
@[simp] theorem tup_dl {ds : List PyData} : opTuple [.dat (.list ds)] = some (.dat (.tuple ds)) := rfl
@[simp] theorem tup_dt {ds : List PyData} : opTuple [.dat (.tuple ds)] = some (.dat (.tuple ds)) := rfl
@[simp] theorem tyN_none : M.tyN (.dat .none) = some "NoneType" := rfl
@[simp] theorem tyN_bool {b : Bool} : M.tyN (.dat (.bool b)) = some "bool" := rfl
@[simp] theorem tyN_int {i : Int} : M.tyN (.dat (.int i)) = some "int" := rfl
@[simp] theorem tyN_str {x : Str} : M.tyN (.dat (.str x)) = some "str" := rfl
@[simp] theorem tyN_list {ds : List PyData} : M.tyN (.dat (.list ds)) = some "list" := rfl
@[simp] theorem tyN_tup {ds : List PyData} : M.tyN (.dat (.tuple ds)) = some "tuple" := rfl
@[simp] theorem tyN_lst {xs : List M} : M.tyN (.lst xs) = some "list" := rfl
@[simp] theorem tyN_dk {ks : List L2.Key} {xs : List M} : M.tyN (.dk ks xs) = some "dict" := rfl
@[simp] theorem sub_self {t : String} : isSub t t = true := by unfold isSub; simp
theorem strOk_tx {n : Nat} {t : Str} (h : Tx n t) : shp (.str t) = true := by rw [sh_str]; exact h.2
end
/-! ### lists of codes -/
section
variable {α : Type} {e : α → PyData} {xs : List α} {k : M → Prop}
def lMs (e : α → PyData) (xs : List α) : List M := (xs.map e).map M.dat
def lM (e : α → PyData) (xs : List α) : M := .lst (lMs e xs)
@[simp] theorem lMs_nil : lMs e [] = [] := rfl
@[simp] theorem lMs_len : (lMs e xs).length = xs.length := by unfold lMs; simp
theorem lMs_snoc {x : α} : lMs e xs ++ [.dat (e x)] = lMs e (xs ++ [x]) := by unfold lMs; simp
@[simp] theorem lM_snoc {x : α} : M.lst (lMs e xs ++ [.dat (e x)]) = lM e (xs ++ [x]) := by rw [lMs_snoc]; rfl
theorem lM_app {ys : List α} : M.lst (lMs e xs ++ (ys.map e).map M.dat) = lM e (xs ++ ys) := by unfold lM lMs; simp
theorem lM_nil : M.lst [] = lM e [] := rfl
@[simp] theorem lst_lMs : M.lst (lMs e xs) = lM e xs := rfl
@[simp] theorem lM_dM {ys : List α} : M.lst (lMs e xs ++ dM (ys.map e)) = lM e (xs ++ ys) := lM_app
@[simp] theorem isLst_lM : isLst (lM e xs) = some (lMs e xs) := rfl
@[simp] theorem vlAt_lM {i : Nat} : vlAt i (lM e xs) = .plc i [] := rfl
@[simp] theorem isScr_lM : isScr (lM e xs) = false := rfl
@[simp] theorem item_lM {i : Nat} {π : List Stp} {s : Stp} {ρ : Rho} : itemOf (.plc i π) (lM e xs) s ρ = .ok (.plc i (π ++ [s])) ρ := rfl
@[simp] theorem gdL_lM : gdL (lM e xs) = true := rfl
@[simp] theorem frz_lM : M.frz (lM e xs) = some (.list (xs.map e)) := frz_dats
@[simp] theorem len_lM : opLen [lM e xs] = some (.dat (.int xs.length)) := by
  show some (M.dat (.int ((lMs e xs).length : Nat))) = _
  rw [lMs_len]
@[simp] theorem tup_lM : opTuple [lM e xs] = some (.dat (.tuple (xs.map e))) := tup_dats
@[simp] theorem asSeq_lM : (lM e xs).asSeq = some (xs.map e) := by
  show M.asList (.lst ((xs.map e).map M.dat)) = _
  exact datsOf_dats
@[simp] theorem tyN_lM : M.tyN (lM e xs) = some "list" := rfl
theorem atI_map {β : Type} {f : α → β} {i : Int} : L2.atI (xs.map f) i = (L2.atI xs i).map f := by
  unfold L2.atI
  rw [List.length_map]
  cases L2.ixN xs.length i with
  | none => rfl
  | some j => simp
@[simp] theorem wp_ixLM {i : Int} {k : M × Stp → Prop} : wpB (ixK (lM e xs) (.int i)) ⟨k⟩ .mk ↔ ∃ j, L2.ixN xs.length i = some j ∧ ∃ x, xs[j]? = some x ∧ k (.dat (e x), .ix j) := by
  unfold lM
  rw [wp_ixL, lMs_len]
  unfold lMs
  constructor
  · rintro ⟨j, h1, c, h2, h3⟩
    simp only [List.getElem?_map, Option.map_eq_some_iff] at h2
    obtain ⟨d, ⟨x, h4, rfl⟩, rfl⟩ := h2
    exact ⟨j, h1, x, h4, h3⟩
  · rintro ⟨j, h1, x, h2, h3⟩
    exact ⟨j, h1, _, by simp [h2], h3⟩
@[simp] theorem in_strs {R : List Str} {x : Str} {neg : Bool} : wpB (opIn neg (.dat (.str x)) (lM PyData.str R)) ⟨k⟩ .mk ↔ k (.dat (.bool (if neg = true then !decide (x ∈ R) else decide (x ∈ R)))) := by
  have e : (R.map PyData.str).any (fun z => PyData.eqv z (.str x)) = decide (x ∈ R) := by
    induction R with
    | nil => rfl
    | cons a R ih =>
      rw [List.map_cons, List.any_cons, ih, eqv_ss]
      simp only [List.mem_cons]
      by_cases h : a = x
      · subst h; simp
      · have : ¬ x = a := fun e => h e.symm
        simp [h, this]
  rw [wp_inL (ds := R.map PyData.str) asSeq_lM rfl (by simp [isFlat]) (fun x e => by cases e), e]
@[simp] theorem in_strsT {R : List Str} {x : Str} {neg : Bool} : wpB (opIn neg (.dat (.str x)) (.dat (.tuple (R.map PyData.str)))) ⟨k⟩ .mk ↔ k (.dat (.bool (if neg = true then !decide (x ∈ R) else decide (x ∈ R)))) := by
  have e : (R.map PyData.str).any (fun z => PyData.eqv z (.str x)) = decide (x ∈ R) := by
    induction R with
    | nil => rfl
    | cons a R ih =>
      rw [List.map_cons, List.any_cons, ih, eqv_ss]
      simp only [List.mem_cons]
      by_cases h : a = x
      · subst h; simp
      · have : ¬ x = a := fun e => h e.symm
        simp [h, this]
  rw [wp_inL (ds := R.map PyData.str) rfl rfl (by simp [isFlat]) (fun x e => by cases e), e]
theorem subset_len {β : Type} [DecidableEq β] : ∀ {l m : List β}, l.Nodup → (∀ x ∈ l, x ∈ m) → l.length ≤ m.length
  | [], _, _, _ => Nat.zero_le _
  | x :: l, m, hn, hs => by
    rw [List.nodup_cons] at hn
    have hx := hs x List.mem_cons_self
    have := subset_len (l := l) (m := m.erase x) hn.2 fun y hy => (List.mem_erase_of_ne fun (e : y = x) => hn.1 (e ▸ hy)).mpr (hs y (List.mem_cons_of_mem _ hy))
    rw [List.length_erase_of_mem hx] at this
    have : 0 < m.length := List.length_pos_of_mem hx
    rw [List.length_cons]
    omega
theorem nodup_snoc {β : Type} {l : List β} {x : β} (h : l.Nodup) (hx : x ∉ l) : (l ++ [x]).Nodup := by
  rw [List.nodup_append]
  refine ⟨h, by simp, ?_⟩
  intro a ha b hb e
  rw [List.mem_singleton] at hb
  exact hx (hb ▸ e ▸ ha)
end
section
variable {α : Type}
/-- .. of data alone, the state kept: what is kept of each -/
theorem comp_map {β : Type} {own : List Nat} {h : PyData → Rho → Option Rho} {ft : Rho → Out Bool} {fe : Rho → Out Vl} {ρ : Rho} {E : Xv → Rho → Prop} {Q : List M → Rho → Prop} (xs : List α) (e : α → PyData) (f : α → Option β) (e' : β → PyData)
    (step : ∀ x ∈ xs, wpB (h (e x) ρ) ⟨fun ρ1 => wpX ft ρ1 ⟨fun c ρ2 => if c = true then wpX fe ρ2 ⟨fun a ρ3 => wpB (toVal a ρ3) ⟨fun q => ∃ y, f x = some y ∧ q.1 = .dat (e' y) ∧ wipeM q.2 own = ρ⟩ .mk, fun _ _ => False⟩ .mk else f x = none ∧ wipeM ρ2 own = ρ, fun _ _ => False⟩ .mk⟩ .mk)
    (fin : Q (lMs e' (xs.filterMap f)) ρ) : wpO (compGo own h ft fe (xs.map e) [] ρ) ⟨Q, E⟩ .mk := by
  refine comp_ty xs e (fun p acc ρ1 => acc = lMs e' (p.filterMap f) ∧ ρ1 = ρ) ⟨rfl, rfl⟩ (fun p x r ep acc ρ1 hI J hJ => ?_) (fun ms ρ1 hI => ?_)
  · obtain ⟨rfl, rfl⟩ := hI
    obtain ⟨ρ2, e1, w⟩ := step x (by rw [ep]; simp)
    refine ⟨ρ2, e1, ?_⟩
    dsimp only at w ⊢
    unfold wpX at w ⊢
    cases e2 : ft ρ2 with
    | ok c ρ2 =>
      rw [e2] at w
      simp only [wpO_ok] at w ⊢
      by_cases hc : c = true
      · rw [if_pos hc] at w ⊢
        cases e3 : fe ρ2 with
        | ok a ρ3 =>
          rw [e3] at w
          obtain ⟨z, ez, y, w1, w2, w3⟩ := w
          refine ⟨z, ez, hJ _ _ ⟨?_, w3⟩⟩
          rw [List.filterMap_append]
          simp only [List.filterMap_cons, w1, List.filterMap_nil]
          rw [← lMs_snoc, w2]
        | exc x ρ3 => rw [e3] at w; exact w
        | bad => rw [e3] at w; exact w
      · rw [if_neg hc] at w ⊢
        obtain ⟨w1, w2⟩ := w
        refine hJ _ _ ⟨?_, w2⟩
        rw [List.filterMap_append]
        simp only [List.filterMap_cons, w1, List.filterMap_nil, List.append_nil]
    | exc x ρ2 => rw [e2] at w; exact w
    | bad => rw [e2] at w; exact w
  · obtain ⟨rfl, rfl⟩ := hI
    exact fin
end
/-! ### equality of codes -/
theorem eqvAll_map {α : Type} [DecidableEq α] {e : α → PyData} (h : ∀ a b, PyData.eqv (e a) (e b) = decide (a = b)) : ∀ {xs ys : List α}, PyData.eqvAll (xs.map e) (ys.map e) = decide (xs = ys)
  | [], [] => by simp [PyData.eqvAll]
  | x :: xs, [] => by simp [PyData.eqvAll]
  | [], y :: ys => by simp [PyData.eqvAll]
  | x :: xs, y :: ys => by
    rw [List.map_cons, List.map_cons, PyData.eqvAll, h, eqvAll_map h]
    by_cases h1 : x = y <;> by_cases h2 : xs = ys <;> simp [h1, h2]
@[simp] theorem eqv_tt {xs ys : List PyData} : PyData.eqv (.tuple xs) (.tuple ys) = PyData.eqvAll xs ys := by rw [PyData.eqv]
@[simp] theorem eqv_ll {xs ys : List PyData} : PyData.eqv (.list xs) (.list ys) = PyData.eqvAll xs ys := by rw [PyData.eqv]
@[simp] theorem eqvAll_nn : PyData.eqvAll [] [] = true := by rw [PyData.eqvAll]
@[simp] theorem eqvAll_cc {x y : PyData} {xs ys : List PyData} : PyData.eqvAll (x :: xs) (y :: ys) = (PyData.eqv x y && PyData.eqvAll xs ys) := by rw [PyData.eqvAll]
@[simp] theorem eqvAll_nc {y : PyData} {ys : List PyData} : PyData.eqvAll [] (y :: ys) = false := by rw [PyData.eqvAll]
@[simp] theorem eqvAll_cn {x : PyData} {xs : List PyData} : PyData.eqvAll (x :: xs) [] = false := by rw [PyData.eqvAll]
@[simp] theorem eqv_strs {xs ys : List Str} : PyData.eqvAll (xs.map .str) (ys.map .str) = decide (xs = ys) := eqvAll_map fun a b => eqv_ss
@[simp] theorem eqv_ints {xs ys : List Int} : PyData.eqvAll (xs.map .int) (ys.map .int) = decide (xs = ys) := eqvAll_map fun a b => eqv_ii
mutual
theorem eqv_refl : ∀ {d : PyData}, d.canLay0 = true → PyData.eqv d d = true
  | .none, _ => by rw [PyData.eqv]
  | .bool b, _ => by rw [PyData.eqv]; simp
  | .int i, _ => by rw [PyData.eqv]; simp
  | .str x, _ => by rw [PyData.eqv]; simp
  | .list xs, h => by rw [PyData.eqv]; exact eqvAll_refl (by rwa [PyData.canLay0] at h)
  | .tuple xs, h => by rw [PyData.eqv]; exact eqvAll_refl (by rwa [PyData.canLay0] at h)
  | .dict _, h => by rw [PyData.canLay0] at h; cases h
theorem eqvAll_refl : ∀ {ds : List PyData}, PyData.canLayAll0 ds = true → PyData.eqvAll ds ds = true
  | [], _ => by rw [PyData.eqvAll]
  | d :: ds, h => by
    rw [PyData.canLayAll0, Bool.and_eq_true] at h
    rw [PyData.eqvAll, eqv_refl h.1, eqvAll_refl h.2]
    rfl
end
theorem canLay_all {ds : List PyData} : PyData.canLayAll0 ds = ds.all PyData.canLay0 := by
  induction ds with
  | nil => rw [PyData.canLayAll0]; rfl
  | cons d ds ih => rw [PyData.canLayAll0, ih, List.all_cons]
/-- good for equality, n deep -/
def Shp (n : Nat) (d : PyData) : Prop := d.canLay0 = true ∧ d.depth ≤ n
theorem Shp.shaped {n : Nat} {d : PyData} (h : Shp n d) (hn : n ≤ 190) : shp d = true := by
  unfold shp
  rw [h.1, Bool.true_and]
  exact decide_eq_true (Nat.le_trans h.2 hn)
theorem Shp.str {x : Str} (h : PyData.strOk x = true) : Shp 0 (.str x) := ⟨by rw [PyData.canLay0]; exact h, by rw [PyData.depth.eq_def]; exact Nat.le_refl _⟩
theorem Shp.int {i : Int} : Shp 0 (.int i) := ⟨by rw [PyData.canLay0], by rw [PyData.depth.eq_def]; exact Nat.le_refl _⟩
theorem Shp.bool {i : Bool} : Shp 0 (.bool i) := ⟨by rw [PyData.canLay0], by rw [PyData.depth.eq_def]; exact Nat.le_refl _⟩
theorem Shp.non : Shp 0 .none := ⟨by rw [PyData.canLay0], by rw [PyData.depth.eq_def]; exact Nat.le_refl _⟩
theorem Shp.mono {n m : Nat} {d : PyData} (h : Shp n d) (l : n ≤ m) : Shp m d := ⟨h.1, Nat.le_trans h.2 l⟩
theorem depth_all {n : Nat} : ∀ {ds : List PyData}, (∀ d ∈ ds, d.depth ≤ n) → PyData.depthAll ds ≤ n
  | [], _ => by rw [PyData.depthAll]; exact Nat.zero_le _
  | d :: ds, h => by
    rw [PyData.depthAll]
    exact Nat.max_le.mpr ⟨h d List.mem_cons_self, depth_all fun x hx => h x (List.mem_cons_of_mem _ hx)⟩
theorem Shp.tup {n : Nat} {ds : List PyData} (h : ∀ d ∈ ds, Shp n d) : Shp (n + 1) (.tuple ds) := ⟨by rw [PyData.canLay0, canLay_all, List.all_eq_true]; exact fun d hd => (h d hd).1, by rw [PyData.depth]; exact Nat.succ_le_succ (depth_all fun d hd => (h d hd).2)⟩
theorem Shp.lst {n : Nat} {ds : List PyData} (h : ∀ d ∈ ds, Shp n d) : Shp (n + 1) (.list ds) := ⟨by rw [PyData.canLay0, canLay_all, List.all_eq_true]; exact fun d hd => (h d hd).1, by rw [PyData.depth]; exact Nat.succ_le_succ (depth_all fun d hd => (h d hd).2)⟩
theorem Shp.map {α : Type} {n : Nat} {e : α → PyData} {xs : List α} (h : ∀ x ∈ xs, Shp n (e x)) : ∀ d ∈ xs.map e, Shp n d := fun d hd => by
  obtain ⟨x, hx, rfl⟩ := List.mem_map.mp hd
  exact h x hx
end DL

set_option Elab.async false
set_option linter.all false
set_option maxRecDepth 100000
/-! DMh: dicts from texts. -/
namespace DL
open PySem
section
variable {β : Type} {v : β → M} {N : List Str} {g : Str → β} {x : Str} {b : β} {k : M → Prop} {ρ : Rho}
def dkM (v : β → M) (N : List Str) (g : Str → β) : M := .dk (N.map kyS) (N.map fun n => v (g n))
def fupd (g : Str → β) (x : Str) (b : β) : Str → β := fun y => if y = x then b else g y
@[simp] theorem fupd_self : fupd g x b x = b := if_pos rfl
theorem fupd_ne {y : Str} (h : y ≠ x) : fupd g x b y = g y := if_neg h
@[simp] theorem fupd_fupd {c : β} : fupd (fupd g x b) x c = fupd g x c := by
  funext y
  unfold fupd
  split <;> rfl
def addS (N : List Str) (x : Str) : List Str := if x ∈ N then N else N ++ [x]
theorem mem_addS {y : Str} : y ∈ addS N x ↔ y ∈ N ∨ y = x := by
  unfold addS
  split
  · rename_i h
    exact ⟨.inl, fun z => z.elim id fun e => e ▸ h⟩
  · simp
theorem nodup_addS (h : N.Nodup) : (addS N x).Nodup := by
  unfold addS
  split
  · exact h
  · rename_i hx; exact nodup_snoc h hx
theorem len_addS : (addS N x).length ≤ N.length + 1 := by
  unfold addS
  split
  · omega
  · simp
theorem ky_inj {x y : Str} : kyS x = kyS y ↔ x = y := ⟨fun e => by injection e, fun e => by rw [e]⟩
theorem fnd_in : ∀ {N : List Str}, x ∈ N → ∃ j, fnd (kyS x) (N.map kyS) = some j ∧ N[j]? = some x ∧ ∀ i, i < j → N[i]? ≠ some x
  | [], h => by cases h
  | y :: N, h => by
    rw [List.map_cons, fnd]
    by_cases e : y = x
    · rw [if_pos (ky_inj.mpr e)]
      exact ⟨0, rfl, by rw [e]; rfl, fun i hi => absurd hi (Nat.not_lt_zero i)⟩
    · rw [if_neg fun z => e (ky_inj.mp z)]
      have hx : x ∈ N := by
        rcases List.mem_cons.mp h with z | z
        · exact absurd z.symm e
        · exact z
      obtain ⟨j, h1, h2, h3⟩ := fnd_in hx
      rw [h1]
      refine ⟨j + 1, rfl, by simpa using h2, fun i hi => ?_⟩
      cases i with
      | zero => simpa using e
      | succ i => simpa using h3 i (by omega)
theorem fnd_out : ∀ {N : List Str}, x ∉ N → fnd (kyS x) (N.map kyS) = none
  | [], _ => rfl
  | y :: N, h => by
    rw [List.map_cons, fnd, if_neg fun z => h (by rw [ky_inj.mp z]; exact List.mem_cons_self), fnd_out fun z => h (List.mem_cons_of_mem _ z)]
    rfl
@[simp] theorem fnd_some : (fnd (kyS x) (N.map kyS)).isSome = decide (x ∈ N) := by
  by_cases h : x ∈ N
  · obtain ⟨j, e, _⟩ := fnd_in h
    rw [e]; simp [h]
  · rw [fnd_out h]; simp [h]
theorem map_upd {γ : Type} {f : β → γ} : ∀ {N : List Str} {j : Nat}, N.Nodup → N[j]? = some x → (N.map fun n => f (g n)).set j (f b) = N.map fun n => f (fupd g x b n)
  | [], _, _, h => by simp at h
  | y :: N, 0, hn, h => by
    simp at h
    subst h
    rw [List.nodup_cons] at hn
    rw [List.map_cons, List.map_cons, List.set_cons_zero, fupd_self]
    congr 1
    exact List.map_congr_left fun n hm => by rw [fupd_ne fun (e : n = y) => hn.1 (e ▸ hm)]
  | y :: N, j + 1, hn, h => by
    rw [List.nodup_cons] at hn
    have h : N[j]? = some x := by simpa using h
    have hy : y ≠ x := fun e => hn.1 (e ▸ List.mem_of_getElem? h)
    rw [List.map_cons, List.map_cons, List.set_cons_succ, map_upd hn.2 h, fupd_ne hy]
@[simp] theorem vlAt_dkM {i : Nat} : vlAt i (dkM v N g) = .plc i [] := rfl
@[simp] theorem isScr_dkM : isScr (dkM v N g) = false := rfl
@[simp] theorem gdD_dkM : gdD (dkM v N g) = true := rfl
@[simp] theorem tyN_dkM : M.tyN (dkM v N g) = some "dict" := rfl
@[simp] theorem item_dkM {i : Nat} {π : List Stp} {s : Stp} : itemOf (.plc i π) (dkM v N g) s ρ = .ok (.plc i (π ++ [s])) ρ := rfl
@[simp] theorem isDk_dkM : isDk (dkM v N g) = some (N.map kyS, N.map fun n => v (g n)) := rfl
@[simp] theorem in_dkM {neg : Bool} : wpB (opIn neg (.dat (.str x)) (dkM v N g)) ⟨k⟩ .mk ↔ k (.dat (.bool (if neg = true then !decide (x ∈ N) else decide (x ∈ N)))) := by
  unfold dkM
  rw [wp_inDs, fnd_some]
@[simp] theorem ix_dkM {k : M × Stp → Prop} : wpB (ixK (dkM v N g) (.str x)) ⟨k⟩ .mk ↔ x ∈ N ∧ k (v (g x), .key (kyS x)) := by
  unfold dkM
  rw [wp_ixDs]
  by_cases h : x ∈ N
  · obtain ⟨j, e, e2, _⟩ := fnd_in h
    simp [e, e2, h]
  · rw [fnd_out h]; simp [h]
@[simp] theorem get_dkM {π : List Stp} {k : M → Prop} : wpB (M.getP (dkM v N g) (.key (kyS x) :: π)) ⟨k⟩ .mk ↔ x ∈ N ∧ wpB (M.getP (v (g x)) π) ⟨k⟩ .mk := by
  unfold dkM
  rw [wp_getD]
  by_cases h : x ∈ N
  · obtain ⟨j, e, e2, _⟩ := fnd_in h
    simp [e, e2, h]
  · rw [fnd_out h]; simp [h]
theorem set_dkM0 {π : List Stp} {c : M} (hn : N.Nodup) (hx : x ∈ N) (e : M.setP (v (g x)) c π = v b) : M.setP (dkM v N g) c (.key (kyS x) :: π) = dkM v N (fupd g x b) := by
  obtain ⟨j, e1, e2, _⟩ := fnd_in hx
  rw [M.setP]
  show (match fnd (kyS x) (N.map kyS) with
    | none => dkM v N g
    | some n => match (N.map fun n => v (g n))[n]? with
      | none => dkM v N g
      | some d => (dkM v N g).re ((N.map fun n => v (g n)).set n (d.setP c π))) = _
  rw [e1]
  simp only [List.getElem?_map, e2, Option.map_some]
  rw [e, map_upd hn e2]
  rfl
@[simp] theorem set_dkM (hn : N.Nodup) (hx : x ∈ N) : M.setP (dkM v N g) (v b) [.key (kyS x)] = dkM v N (fupd g x b) := set_dkM0 hn hx setP_nil
theorem put_dkM (hn : N.Nodup) : wpB (putAt (dkM v N g) (.str x) (v b)) ⟨k⟩ .mk ↔ N.length < sizeLine ∧ k (dkM v (addS N x) (fupd g x b)) := by
  unfold dkM
  rw [wp_putDs, List.length_map]
  unfold addS
  by_cases h : x ∈ N
  · obtain ⟨j, e1, e2, _⟩ := fnd_in h
    rw [e1, if_pos h]
    simp only
    rw [map_upd hn e2]
  · rw [fnd_out h, if_neg h]
    simp only [List.map_append, List.map_cons, List.map_nil, fupd_self]
    have : (N.map fun n => v (fupd g x b n)) = N.map fun n => v (g n) := List.map_congr_left fun n hm => by rw [fupd_ne fun (e : n = x) => h (e ▸ hm)]
    rw [this]
/-! ### sets: dicts to True -/
def setM (S : List Str) : M := .dk (S.map kyS) (S.map fun _ => .dat (.bool true))
theorem setM_eq {S : List Str} : setM S = dkM M.dat S (fun _ => .bool true) := rfl
@[simp] theorem vlAt_set {i : Nat} {S : List Str} : vlAt i (setM S) = .plc i [] := rfl
@[simp] theorem isScr_set {S : List Str} : isScr (setM S) = false := rfl
@[simp] theorem gdD_set {S : List Str} : gdD (setM S) = true := rfl
@[simp] theorem item_set {S : List Str} {i : Nat} {π : List Stp} {s : Stp} : itemOf (.plc i π) (setM S) s ρ = .ok (.plc i (π ++ [s])) ρ := rfl
@[simp] theorem isDk_set {S : List Str} : isDk (setM S) = some (S.map kyS, dM (S.map fun _ => PyData.bool true)) := by unfold dM; rw [List.map_map]; rfl
@[simp] theorem in_set {S : List Str} {neg : Bool} : wpB (opIn neg (.dat (.str x)) (setM S)) ⟨k⟩ .mk ↔ k (.dat (.bool (if neg = true then !decide (x ∈ S) else decide (x ∈ S)))) := in_dkM (v := M.dat) (g := fun _ => PyData.bool true)
theorem fupd_const {c : β} : fupd (fun _ => c) x c = fun _ => c := by
  funext y
  unfold fupd
  split <;> rfl
theorem put_set {S : List Str} (hn : S.Nodup) : wpB (putAt (setM S) (.str x) (.dat (.bool true))) ⟨k⟩ .mk ↔ S.length < sizeLine ∧ k (setM (addS S x)) := by
  have := put_dkM (v := M.dat) (g := fun _ => PyData.bool true) (x := x) (b := .bool true) (k := k) hn
  rw [fupd_const] at this
  exact this
def uni (S : List Str) : List Str → List Str
  | [] => S
  | x :: T => uni (addS S x) T
theorem mem_uni {y : Str} : ∀ {T S : List Str}, y ∈ uni S T ↔ y ∈ S ∨ y ∈ T
  | [], S => by simp [uni]
  | x :: T, S => by
    rw [uni, mem_uni, mem_addS, List.mem_cons, or_assoc]
theorem nodup_uni : ∀ {T S : List Str}, S.Nodup → (uni S T).Nodup
  | [], S, h => h
  | x :: T, S, h => nodup_uni (T := T) (nodup_addS h)
theorem dM_dats {ds : List PyData} : datsOf (dM ds) = some ds := datsOf_dats
theorem mrg_set : ∀ {T S : List Str}, mrgT (S.map kyS) (S.map fun _ => PyData.bool true) ((T.map kyS).zip (T.map fun _ => PyData.bool true)) = ((uni S T).map kyS, (uni S T).map fun _ => PyData.bool true)
  | [], S => rfl
  | x :: T, S => by
    rw [List.map_cons, List.map_cons, List.zip_cons_cons, mrgT, uni]
    unfold addS
    by_cases h : x ∈ S
    · obtain ⟨j, e1, e2, _⟩ := fnd_in h
      rw [e1, if_pos h]
      simp only
      have : (S.map fun _ => PyData.bool true).set j (.bool true) = S.map fun _ => PyData.bool true := by
        apply List.ext_getElem?
        intro i
        by_cases hi : j = i
        · subst hi
          have hj := (List.getElem?_eq_some_iff.mp e2).1
          rw [List.getElem?_set_self (by simpa using hj)]
          simp [e2]
        · rw [List.getElem?_set_ne hi]
      rw [this]
      exact mrg_set
    · rw [fnd_out h, if_neg h]
      simp only
      have := mrg_set (T := T) (S := S ++ [x])
      rw [List.map_append, List.map_append] at this
      exact this
@[simp] theorem lit_set2 {T : List Str} : M.dk (T.map kyS) (T.map (M.dat ∘ fun _ => PyData.bool true)) = setM T := rfl
@[simp] theorem lit_set : M.dk [kyS x] [.dat (.bool true)] = setM [x] := rfl
/-! ### a display of a dict -/
section
variable {R : Vl → Rho → Prop} {E : Xv → Rho → Prop} {Q : List (PyData × Vl) → Rho → Prop}
@[simp] theorem wp_psn : wpX (cPs []) ρ ⟨Q, E⟩ .mk ↔ Q [] ρ := Iff.rfl
@[simp] theorem wp_psc {fk fv : Rho → Out Vl} {br : Bool} {r : List ((Rho → Out Vl) × (Rho → Out Vl) × Bool)} : wpX (cPs ((fk, fv, br) :: r)) ρ ⟨Q, E⟩ .mk ↔ wpX fk ρ ⟨fun y ρ1 => wpB (datOf y) ⟨fun d => wpX fv ρ1 ⟨fun a ρ2 => a.root = true ∧ wpX (cPs r) ρ2 ⟨fun as ρ3 => Q ((d, a) :: as) ρ3, E⟩ .mk, E⟩ .mk⟩ .mk, E⟩ .mk := by
  unfold wpX
  rw [cPs]
  cases fk ρ with
  | ok y ρ1 =>
    simp only [wpO_ok]
    cases y with
    | plc _ _ => simp [datOf]
    | val m =>
      cases m with
      | dat d =>
        simp only [datOf_val, wpB_some]
        cases fv ρ1 with
        | ok a ρ2 =>
          simp only [wpO_ok]
          by_cases h : a.root = true
          · simp only [h, if_true, true_and]
            cases cPs r ρ2 <;> exact Iff.rfl
          · rw [if_neg h]; simp [h]
        | exc _ _ => exact Iff.rfl
        | bad => exact Iff.rfl
      | _ => simp [datOf]
  | exc _ _ => exact Iff.rfl
  | bad => exact Iff.rfl
@[simp] theorem wp_dict {fs : List ((Rho → Out Vl) × (Rho → Out Vl) × Bool)} : wpX (cDict fs) ρ ⟨R, E⟩ .mk ↔ wpX (cPs fs) ρ ⟨fun as ρ1 => wpB (keysOf (as.map (·.1))) ⟨fun ks => (ks.Nodup ∧ ks.length ≤ 15) ∧ wpB (prep (ownM (as.map (·.2))) (as.map (·.2)) ρ1) ⟨fun q => R (.val (.dk ks q.1)) q.2⟩ .mk⟩ .mk, E⟩ .mk := by
  unfold wpX cDict
  cases cPs fs ρ with
  | ok as ρ1 =>
    simp only [wpO_ok]
    cases keysOf (as.map (·.1)) with
    | none => simp
    | some ks =>
      simp only [wpB_some]
      by_cases h : ks.Nodup ∧ ks.length ≤ 15
      · rw [if_pos h]
        simp only [h, and_self, true_and]
        cases prep (ownM (as.map (·.2))) (as.map (·.2)) ρ1 <;> simp
      · rw [if_neg h]; simp [h]
  | exc _ _ => exact Iff.rfl
  | bad => exact Iff.rfl
@[simp] theorem keys_nil : keysOf [] = some [] := rfl
@[simp] theorem keys_str {ds : List PyData} {k : List L2.Key → Prop} : wpB (keysOf (.str x :: ds)) ⟨k⟩ .mk ↔ wpB (keysOf ds) ⟨fun ks => k (kyS x :: ks)⟩ .mk := by
  rw [keysOf]
  show wpB (match some (kyS x), keysOf ds with
    | some k, some ks => some (k :: ks)
    | _, _ => none) ⟨k⟩ .mk ↔ _
  cases keysOf ds <;> simp
end
theorem bools_map : ∀ {bs : List Bool}, boolsOf (bs.map .bool) = some bs
  | [] => rfl
  | b :: bs => by rw [List.map_cons, boolsOf, bools_map]
theorem ints_map : ∀ {bs : List Int}, intsOf (bs.map .int) = some bs
  | [] => rfl
  | b :: bs => by rw [List.map_cons, intsOf, ints_map]
@[simp] theorem asList_lM {α : Type} {e : α → PyData} {xs : List α} : (lM e xs).asList = some (xs.map e) := datsOf_dats
theorem list1_lM {α γ : Type} {conv : List PyData → Option γ} {f : γ → Option PyData} {e : α → PyData} {xs : List α} {a : γ} {d : PyData} (h1 : conv (xs.map e) = some a) (h2 : f a = some d) : list1 conv f [lM e xs] = some (.dat d) := by
  show (match (lM e xs).asList with
    | some ds => match conv ds with
      | some a => match f a with
        | some d => some (M.dat d)
        | none => none
      | none => none
    | none => none) = _
  rw [asList_lM]
  simp only [h1, h2]
theorem list1_dl {γ : Type} {conv : List PyData → Option γ} {f : γ → Option PyData} {ds : List PyData} {a : γ} {d : PyData} (h1 : conv ds = some a) (h2 : f a = some d) : list1 conv f [.dat (.list ds)] = some (.dat d) := by
  unfold list1
  simp only [M.asList, h1, h2]
@[simp] theorem all_lM {bs : List Bool} : opAll [lM .bool bs] = some (.dat (.bool (bs.all id))) := list1_lM bools_map rfl
@[simp] theorem any_lM {bs : List Bool} : opAny [lM .bool bs] = some (.dat (.bool (bs.any id))) := list1_lM bools_map rfl
@[simp] theorem sum_lM {bs : List Int} : opSum [lM .int bs] = some (.dat (.int bs.sum)) := list1_lM ints_map rfl
end
end DL
namespace DL
@[simp] theorem at0 {α : Type} {x : α} {xs : List α} : L2.atI (x :: xs) 0 = some x := by
  unfold L2.atI L2.ixN
  simp
@[simp] theorem at1 {α : Type} {x y : α} {xs : List α} : L2.atI (x :: y :: xs) 1 = some y := by
  unfold L2.atI L2.ixN
  rw [if_pos (by decide), if_pos (by simp only [List.length_cons]; omega)]
  simp
@[simp] theorem at2 {α : Type} {x y z : α} {xs : List α} : L2.atI (x :: y :: z :: xs) 2 = some z := by
  unfold L2.atI L2.ixN
  rw [if_pos (by decide), if_pos (by simp only [List.length_cons]; omega)]
  simp
@[simp] theorem at3 {α : Type} {x y z u : α} {xs : List α} : L2.atI (x :: y :: z :: u :: xs) 3 = some u := by
  unfold L2.atI L2.ixN
  rw [if_pos (by decide), if_pos (by simp only [List.length_cons]; omega)]
  simp
end DL
namespace DL
open PySem
section
variable {α : Type} {e : α → PyData} {xs ys : List α} {k : M → Prop}
/-! ### slices -/
def cutL (xs : List α) (lo hi : Option Int) : List α := (xs.drop (HT.sIx xs.length 0 lo)).take (HT.sIx xs.length xs.length hi - HT.sIx xs.length 0 lo)
@[simp] theorem cutD_map {lo hi : Option Int} : cutD (xs.map e) lo hi = (cutL xs lo hi).map e := by
  unfold cutD cutL
  rw [List.length_map, List.map_take, List.map_drop]
@[simp] theorem sl_lM {lo hi : Option Int} : opSl (lM e xs) lo hi = some (lM e (cutL xs lo hi)) := by
  show (match (lM e xs).asList with
    | some ds => some (M.lst ((cutD ds lo hi).map M.dat))
    | none => none) = _
  rw [asList_lM]
  simp only
  rw [cutD_map]
  rfl
@[simp] theorem sl_dl {lo hi : Option Int} : opSl (.dat (.list (xs.map e))) lo hi = some (lM e (cutL xs lo hi)) := by
  show some (M.lst ((cutD (xs.map e) lo hi).map M.dat)) = _
  rw [cutD_map]
  rfl
@[simp] theorem add_lM : wpB (opAdd (lM e xs) (lM e ys)) ⟨k⟩ .mk ↔ xs.length + ys.length ≤ sizeLine ∧ k (lM e (xs ++ ys)) := by
  unfold lM lMs
  rw [wp_addL datsOf_dats datsOf_dats, List.length_map, List.length_map]
  simp only [List.map_append]
theorem cutL_take {n : Int} (h0 : 0 ≤ n) (h1 : n ≤ xs.length) : cutL xs none (some n) = xs.take n.toNat := by
  unfold cutL HT.sIx
  simp only
  rw [if_neg (by omega)]
  simp only [Nat.sub_zero, List.drop_zero]
  congr 1
  omega
theorem cutL_drop {n : Int} (h0 : 0 ≤ n) (h1 : n ≤ xs.length) : cutL xs (some n) none = xs.drop n.toNat := by
  unfold cutL HT.sIx
  simp only
  rw [if_neg (by omega)]
  have e : min n.toNat xs.length = n.toNat := by omega
  rw [e]
  apply List.take_of_length_le
  rw [List.length_drop]
  exact Nat.le_refl _
theorem atI_get {v : Int} (h0 : 0 ≤ v) (h1 : v < xs.length) : ∃ x, L2.atI xs v = some x ∧ xs[v.toNat]? = some x := by
  unfold L2.atI
  rw [ixN_nat h0 h1]
  have hl : v.toNat < xs.length := by omega
  exact ⟨xs[v.toNat], by simp [hl], by simp [hl]⟩
@[simp] theorem atI_map' {β : Type} {f : α → β} {i : Int} : L2.atI (xs.map f) i = (L2.atI xs i).map f := atI_map
theorem nodup_set {β : Type} {x : β} : ∀ {l : List β} {i : Nat}, l.Nodup → x ∉ l → (l.set i x).Nodup
  | [], _, _, _ => List.nodup_nil
  | y :: l, 0, h, hx => by
    rw [List.set_cons_zero]
    rw [List.nodup_cons] at h ⊢
    exact ⟨fun z => hx (List.mem_cons_of_mem _ z), h.2⟩
  | y :: l, i + 1, h, hx => by
    rw [List.set_cons_succ]
    rw [List.nodup_cons] at h ⊢
    refine ⟨fun z => ?_, nodup_set h.2 fun z => hx (List.mem_cons_of_mem _ z)⟩
    rcases List.mem_or_eq_of_mem_set z with z | z
    · exact h.1 z
    · exact hx (z ▸ List.mem_cons_self)
@[simp] theorem lst_set {i : Nat} {x : α} : M.lst ((lMs e xs).set i (.dat (e x))) = lM e (xs.set i x) := by
  unfold lM lMs
  rw [List.map_set, List.map_set]
@[simp] theorem put_lM {i : Int} {x : α} : wpB (putAt (lM e xs) (.int i) (.dat (e x))) ⟨k⟩ .mk ↔ ∃ j, L2.ixN xs.length i = some j ∧ k (lM e (xs.set j x)) := by
  unfold lM
  rw [wp_putL, lMs_len]
  have : ∀ j, M.lst ((lMs e xs).set j (.dat (e x))) = .lst (lMs e (xs.set j x)) := fun j => lst_set
  simp only [this]
end
/-! ### texts as lists of codes -/
def cs (t : Str) : List Nat := t.cps.toList
theorem cs_inj {a b : Str} : cs a = cs b ↔ a = b := ⟨fun h => by
  cases a; cases b
  unfold cs at h
  congr
  exact Array.toList_inj.mp h, fun h => by rw [h]⟩
theorem cs_app {a b : Str} : cs (a ++ b) = cs a ++ cs b := by
  show (a.cps ++ b.cps).toList = _
  rw [Array.toList_append]
  rfl
theorem cs_len {a : Str} : (cs a).length = a.length := Array.length_toList
theorem cs_cut {a : Str} {lo hi : Option Int} : cs (L2.cutS a lo hi) = cutL (cs a) lo hi := by
  unfold cs L2.cutS cutL
  have : a.cps.toList.length = a.length := Array.length_toList
  rw [this]
theorem cs_one {c : Nat} : cs ⟨#[c]⟩ = [c] := rfl
theorem rep_fold {x : Array Nat} : ∀ {n : Nat} {a : Array Nat}, ((List.replicate n x).foldl (· ++ ·) a).toList = a.toList ++ (List.replicate n x.toList).flatten
  | 0, a => by simp
  | n + 1, a => by
    rw [List.replicate_succ, List.foldl_cons, rep_fold, List.replicate_succ, List.flatten_cons, Array.toList_append, List.append_assoc]
theorem cs_rep {c : Nat} {n : Int} : cs (repS ⟨#[c]⟩ n) = List.replicate n.toNat c := by
  unfold repS
  by_cases h : n < 1
  · rw [if_pos h]
    have : n.toNat = 0 := by omega
    rw [this]
    rfl
  · rw [if_neg h]
    by_cases h1 : n = 1
    · subst h1
      rfl
    · have : (n == 1 || (⟨#[c]⟩ : Str).length == 0) = false := by
        show (n == 1 || false) = false
        simp [h1]
      rw [this]
      simp only [Bool.false_eq_true, if_false]
      unfold cs
      simp only
      rw [rep_fold]
      simp only [List.nil_append]
      have : ∀ m : Nat, (List.replicate m [c]).flatten = List.replicate m c := fun m => by
        induction m with
        | zero => rfl
        | succ m ih => rw [List.replicate_succ, List.flatten_cons, ih]; rfl
      exact this _
@[simp] theorem join_lM {a : Str} {ys : List Str} {k : M → Prop} : wpB (opJoin [.dat (.str a), lM PyData.str ys]) ⟨k⟩ .mk ↔ (ys.map (·.length)).sum + ys.length * a.length ≤ 16777216 ∧ k (.dat (.str (Str.join a ys))) := wp_join
@[simp] theorem wp_mulS {x : Str} {n : Int} {k : M → Prop} : wpB (opMulA (.dat (.str x)) (.dat (.int n))) ⟨k⟩ .mk ↔ (-1000 ≤ n ∧ n ≤ 1000000 ∧ x.length * n.toNat ≤ 1000000) ∧ k (.dat (.str (repS x n))) := by
  show wpB (mulS (.dat (.str x)) (.dat (.int n))) ⟨k⟩ .mk ↔ _
  unfold mulS
  exact wpB_ite
@[simp] theorem wp_mulI {i n : Int} {k : M → Prop} : wpB (opMulA (.dat (.int i)) (.dat (.int n))) ⟨k⟩ .mk ↔ fitsMul i n = true ∧ k (.dat (.int (i * n))) := by
  unfold opMulA
  rw [opMul_ii]
  by_cases h : fitsMul i n = true
  · simp [h]
  · simp [h, mulS]
theorem Tx.line {n : Nat} {x : Str} (h : Tx n x) (hn : n ≤ 16777216 := by decide) : x.length ≤ sizeLine := Nat.le_trans h.1 (Nat.le_trans hn line_big)
@[simp] theorem dOnly_none : dOnly none = none := rfl
@[simp] theorem dOnly_dat {d : PyData} : dOnly (some (.dat d)) = some (.dat d) := rfl
@[simp] theorem strOk_of {s : String} : PyData.strOk (Str.ofString s) = true := strOk_ofString
@[simp] theorem isFlat_str {x : Str} : isFlat (.str x) = true := rfl
@[simp] theorem isFlat_int {x : Int} : isFlat (.int x) = true := rfl
theorem strOk_cs {t : Str} : PyData.strOk t = true ↔ ∀ c ∈ cs t, c < 0x110000 := by
  unfold PyData.strOk cs
  rw [Array.all_eq_true']
  simp
theorem tx_cs {n : Nat} {t : Str} (h1 : (cs t).length ≤ n) (h2 : ∀ c ∈ cs t, c < 0x110000) : Tx n t := ⟨by rw [← cs_len]; exact h1, strOk_cs.mpr h2⟩
theorem rep_tx {c : Nat} {n : Int} (hc : c < 0x110000) : Tx n.toNat (repS ⟨#[c]⟩ n) := by
  refine tx_cs (by rw [cs_rep, List.length_replicate]; exact Nat.le_refl _) fun d hd => ?_
  rw [cs_rep] at hd
  rw [List.eq_of_mem_replicate hd]
  exact hc
theorem one_tx {c : Nat} (hc : c < 0x110000) : Tx 1 ⟨#[c]⟩ := tx_cs (Nat.le_refl _) fun d hd => by
  rw [cs_one, List.mem_singleton] at hd
  rw [hd]; exact hc
@[simp] theorem tup_nil : opTuple [.lst []] = some (.dat (.tuple [])) := rfl
end DL

set_option Elab.async false
set_option linter.all false
set_option maxRecDepth 100000
/-! DMi: more of what is told backwards. -/
namespace DL
open PySem
section
variable {α β : Type} {Q : α → Rho → Prop} {E : Xv → Rho → Prop} {ρ : Rho} {D : PS} {R : Vl → Rho → Prop} {k : M → Prop}
@[simp] theorem int_bool {b : Bool} : opInt [.dat (.bool b)] = some (.dat (.int (if b = true then 1 else 0))) := by cases b <;> rfl
@[simp] theorem int_int {i : Int} : opInt [.dat (.int i)] = some (.dat (.int i)) := rfl
@[simp] theorem wp_max2 {i j : Int} : wpB (opMax2 [.dat (.int i), .dat (.int j)]) ⟨k⟩ .mk ↔ k (.dat (.int (max i j))) := by
  show wpB (some _) ⟨k⟩ .mk ↔ _
  rw [wpB_some]
  have : (if j > i then j else i) = max i j := by split <;> omega
  rw [this]
@[simp] theorem wp_min2 {i j : Int} : wpB (opMin2 [.dat (.int i), .dat (.int j)]) ⟨k⟩ .mk ↔ k (.dat (.int (min i j))) := by
  show wpB (some _) ⟨k⟩ .mk ↔ _
  rw [wpB_some]
  have : (if j < i then j else i) = min i j := by split <;> omega
  rw [this]
@[simp] theorem isB_bb {n a b : Bool} : opIsB n (.dat (.bool a)) (.dat (.bool b)) = some (.dat (.bool (if n = true then !decide (a = b) else decide (a = b)))) := rfl
@[simp] theorem wp_par {is : List Nat} {fr : Rho → Out (List Vl)} : wpS (sPar is fr) ρ D .mk ↔ wpX fr ρ ⟨fun as ρ1 => wpB (prep (ownM as) as ρ1) ⟨fun q => (q.1.length = is.length ∧ ∀ i ∈ is, i < q.2.length) ∧ D.nx (setsM is q.1 q.2)⟩ .mk, D.ex⟩ .mk := by
  unfold wpS wpX sPar
  cases fr ρ with
  | ok as ρ1 =>
    simp only [wpO_ok]
    cases prep (ownM as) as ρ1 with
    | none => simp [wpL]
    | some q =>
      obtain ⟨ms, ρ2⟩ := q
      simp only [wpB_some]
      by_cases h : ms.length = is.length ∧ ∀ i ∈ is, i < ρ2.length
      · rw [if_pos h]; exact ⟨fun z => ⟨h, z⟩, fun z => z.2⟩
      · rw [if_neg h]; simp only [h, false_and, wpL]
  | exc _ _ => exact Iff.rfl
  | bad => exact Iff.rfl
@[simp] theorem setsM_nil : setsM [] [] ρ = ρ := rfl
@[simp] theorem setsM_cons {i : Nat} {is : List Nat} {m : M} {ms : List M} : setsM (i :: is) (m :: ms) ρ = setsM is ms (ρ.set i (some m)) := rfl
def fzO (a : Vl) (ρ : Rho) : Option (PyData × Rho) := match a with
  | .val (.dat d) => some (d, ρ)
  | .val m => (dkDat m).map fun d => (d, ρ)
  | .plc i π => match rdP ρ i π with
    | some m => (dkDat m).map fun d => (d, wrP ρ i π (.dat d))
    | none => none
@[simp] theorem wp_fz {fe : Rho → Out Vl} : wpX (cFz fe) ρ ⟨R, E⟩ .mk ↔ wpX fe ρ ⟨fun a ρ1 => wpB (fzO a ρ1) ⟨fun q => R (.val (.dat q.1)) q.2⟩ .mk, E⟩ .mk := by
  unfold wpX cFz
  cases fe ρ with
  | ok a ρ1 =>
    simp only [wpO_ok]
    unfold fzO
    cases a with
    | val m =>
      cases m with
      | dat d => simp
      | _ =>
        simp only
        cases dkDat _ <;> simp
    | plc i π =>
      simp only
      cases rdP ρ1 i π with
      | none => simp
      | some m =>
        simp only
        cases dkDat m <;> simp
  | exc _ _ => exact Iff.rfl
  | bad => exact Iff.rfl
/-! ### frozen dicts from texts -/
def frD (N : List Str) (h : Str → PyData) : PyData := .dict (N.map fun x => (.str x, h x))
theorem fzO_dkM {N : List Str} {h : Str → PyData} : fzO (.val (dkM M.dat N h)) ρ = some (frD N h, ρ) := by
  have e : dkDat (dkM M.dat N h) = some (frD N h) := by
    show (datsOf (N.map fun n => M.dat (h n))).map _ = _
    have : (N.map fun n => M.dat (h n)) = (N.map h).map M.dat := by rw [List.map_map]; rfl
    rw [this, datsOf_dats]
    simp only [Option.map_some, Option.some.injEq]
    unfold frD
    congr 1
    rw [List.map_map, List.zip_map']
    rfl
  show (dkDat (dkM M.dat N h)).map (fun d => (d, ρ)) = _
  rw [e]
  rfl
theorem keyEq_ss {x y : Str} : keyEq (.str x) (.str y) = decide (x = y) := by
  show decide (kyS x = kyS y) = _
  by_cases h : x = y
  · simp [h]
  · have : ¬ kyS x = kyS y := fun e => h (ky_inj.mp e)
    simp [h, this]
theorem lk_frD {x : Str} {h : Str → PyData} : ∀ {N : List Str}, lkD (N.map fun x => (.str x, h x)) (.str x) = if x ∈ N then some (h x) else none
  | [] => rfl
  | y :: N => by
    unfold lkD
    rw [List.map_cons, List.find?_cons]
    by_cases e : y = x
    · subst e
      simp [keyEq_ss]
    · have := lk_frD (x := x) (h := h) (N := N)
      unfold lkD at this
      have e' : ¬ x = y := fun z => e z.symm
      simp only [keyEq_ss, e, decide_false, List.mem_cons, e', false_or]
      exact this
theorem plain_frD {N : List Str} {h : Str → PyData} : plainD (N.map fun x => (.str x, h x)) = true := by
  unfold plainD
  rw [List.all_eq_true]
  intro p hp
  obtain ⟨x, _, rfl⟩ := List.mem_map.mp hp
  rfl
@[simp] theorem in_frD {N : List Str} {h : Str → PyData} {x : Str} {neg : Bool} : wpB (opIn neg (.dat (.str x)) (.dat (frD N h))) ⟨k⟩ .mk ↔ k (.dat (.bool (if neg = true then !decide (x ∈ N) else decide (x ∈ N)))) := by
  have e : opIn neg (.dat (.str x)) (.dat (frD N h)) = inDk neg (.dat (.str x)) (.dat (frD N h)) := by
    have e1 : inStr neg (.dat (.str x)) (.dat (frD N h)) = none := rfl
    have e2 : inSeq neg (.dat (.str x)) (.dat (frD N h)) = none := by
      unfold inSeq frD
      cases N with
      | nil => rfl
      | cons y N => rfl
    unfold opIn
    rw [e1, e2]
  have e3 : inDk neg (.dat (.str x)) (.dat (frD N h)) = some (.dat (.bool (if neg = true then !decide (x ∈ N) else decide (x ∈ N)))) := by
    show (if plainD (N.map fun x => (.str x, h x)) = true then some (M.dat (.bool (if neg = true then !(lkD (N.map fun x => (.str x, h x)) (.str x)).isSome else (lkD (N.map fun x => (.str x, h x)) (.str x)).isSome))) else none) = _
    rw [if_pos plain_frD, lk_frD]
    by_cases hx : x ∈ N <;> simp [hx]
  rw [e, e3, wpB_some]
@[simp] theorem ix_frD {N : List Str} {h : Str → PyData} {x : Str} {k : M × Stp → Prop} : wpB (ixK (.dat (frD N h)) (.str x)) ⟨k⟩ .mk ↔ x ∈ N ∧ k (.dat (h x), .ix 0) := by
  show wpB (match lkD (N.map fun x => (.str x, h x)) (.str x) with
    | some e => some (M.dat e, Stp.ix 0)
    | none => none) ⟨k⟩ .mk ↔ _
  rw [lk_frD]
  by_cases hx : x ∈ N <;> simp [hx]
@[simp] theorem wp_get_dkM {N : List Str} {g : Str → PyData} {x : Str} {z : PyData} : wpB (opGet [dkM M.dat N g, .dat (.str x), .dat z]) ⟨k⟩ .mk ↔ k (.dat (if x ∈ N then g x else z)) := by
  show wpB (match fnd (kyS x) (N.map kyS) with
      | some n => match (N.map fun n => M.dat (g n))[n]? with
        | some (.dat d) => some (M.dat d)
        | _ => none
      | none => some (M.dat z)) ⟨k⟩ .mk ↔ _
  by_cases h : x ∈ N
  · obtain ⟨j, e1, e2, _⟩ := fnd_in h
    rw [e1]
    simp only [List.getElem?_map, e2, Option.map_some]
    simp [h]
  · rw [fnd_out h]
    simp [h]
@[simp] theorem wp_lstD {fr : Rho → Out (List Vl)} : wpX (cLstD fr) ρ ⟨R, E⟩ .mk ↔ wpX fr ρ ⟨(fun as ρ1 => wpB (prep (noM as) as ρ1) ⟨fun q => q.1.length ≤ sizeLine ∧ R (.val (.lst q.1)) q.2⟩ .mk), E⟩ .mk := by
  unfold wpX cLstD
  cases fr ρ with
  | ok as ρ1 =>
    simp only [wpO_ok]
    cases prep (noM as) as ρ1 with
    | none => simp
    | some q =>
      simp only [wpB_some]
      by_cases h : q.1.length ≤ sizeLine
      · rw [if_pos h]; simp [h]
      · rw [if_neg h]; simp [h]
  | exc _ _ => exact Iff.rfl
  | bad => exact Iff.rfl
theorem wp_eqF {a b : M} {d e : PyData} (h1 : a.frz = some d) (h2 : b.frz = some e) : wpB (opEq a b) ⟨k⟩ .mk ↔ (shp d = true ∧ shp e = true) ∧ k (.dat (.bool (PyData.eqv d e))) := by
  have : opEq a b = opEq (.dat d) (.dat e) := by
    unfold opEq
    rw [h1, h2, frz_dat, frz_dat]
  rw [this, wp_eq]
theorem wp_neF {a b : M} {d e : PyData} (h1 : a.frz = some d) (h2 : b.frz = some e) : wpB (opNe a b) ⟨k⟩ .mk ↔ (shp d = true ∧ shp e = true) ∧ k (.dat (.bool (!PyData.eqv d e))) := by
  have : opNe a b = opNe (.dat d) (.dat e) := by
    unfold opNe
    rw [h1, h2, frz_dat, frz_dat]
  rw [this, wp_ne]
@[simp] theorem in_bools {R : List Bool} {x : Bool} {neg : Bool} : wpB (opIn neg (.dat (.bool x)) (lM PyData.bool R)) ⟨k⟩ .mk ↔ k (.dat (.bool (if neg = true then !decide (x ∈ R) else decide (x ∈ R)))) := by
  have e : (R.map PyData.bool).any (fun z => PyData.eqv z (.bool x)) = decide (x ∈ R) := by
    induction R with
    | nil => rfl
    | cons a R ih =>
      rw [List.map_cons, List.any_cons, ih, eqv_bb]
      cases a <;> cases x <;> simp
  rw [wp_inL (ds := R.map PyData.bool) asSeq_lM rfl (by simp [isFlat]) (fun x e => by cases e), e]
theorem sum_cast {γ : Type} {f : γ → Nat} : ∀ {l : List γ}, (l.map fun x => ((f x : Nat) : Int)).sum = ((l.map f).sum : Nat)
  | [] => rfl
  | x :: l => by rw [List.map_cons, List.sum_cons, sum_cast, List.map_cons, List.sum_cons]; push_cast; rfl
end
end DL

set_option Elab.async false
set_option linter.all false
set_option maxRecDepth 100000
/-! DMj: raise, try, enumerate, instances told backwards. -/
namespace DL
open PySem
section
variable {α β : Type} {Q : α → Rho → Prop} {E : Xv → Rho → Prop} {ρ : Rho} {D : PS} {R : Vl → Rho → Prop} {k : M → Prop}
@[simp] theorem wp_raise {x : Xv} : wpS (sRaise x) ρ D .mk ↔ D.ex x ρ := Iff.rfl
@[simp] theorem wp_try {tab : List (Str × Bool)} {g gs : Rho → Fl} : wpS (sTry tab g gs) ρ D .mk ↔ wpS g ρ { D with ex := fun x ρ1 => ∃ b, tab.lookup x.C = some b ∧ if b = true then wpS gs ρ1 { D with ex := fun _ _ => False } .mk else D.ex x ρ1 } .mk := by
  unfold wpS sTry
  cases g ρ with
  | exc x ρ1 =>
    simp only [wpL]
    cases tab.lookup x.C with
    | none => simp [wpL]
    | some b =>
      cases b with
      | false => simp [wpL]
      | true =>
        simp only [Option.some.injEq, exists_eq_left', if_true]
        unfold noX
        cases gs ρ1 <;> simp [wpL]
  | nx _ => exact Iff.rfl
  | rt _ _ => exact Iff.rfl
  | bk _ => exact Iff.rfl
  | ct _ => exact Iff.rfl
  | bad => exact Iff.rfl
@[simp] theorem wp_enm {fr : Rho → Out (List Vl)} {Q : List PyData → Rho → Prop} : wpX (iEnm fr) ρ ⟨Q, E⟩ .mk ↔ wpX fr ρ ⟨fun as ρ1 => wpB (prep (noM as) as ρ1) ⟨fun q => wpB (datsOf q.1) ⟨fun ds => wpB (enP ds) ⟨fun zs => Q zs q.2⟩ .mk⟩ .mk⟩ .mk, E⟩ .mk := by
  unfold wpX iEnm
  cases fr ρ with
  | ok as ρ1 =>
    simp only [wpO_ok]
    cases prep (noM as) as ρ1 with
    | none => simp
    | some q =>
      obtain ⟨ms, ρ2⟩ := q
      simp only [wpB_some]
      cases datsOf ms with
      | none => simp
      | some ds =>
        simp only [wpB_some]
        cases enP ds <;> simp
  | exc _ _ => exact Iff.rfl
  | bad => exact Iff.rfl
@[simp] theorem enP_t {ds : List PyData} : enP [.tuple ds] = some (enD 0 ds) := rfl
@[simp] theorem enP_l {ds : List PyData} : enP [.list ds] = some (enD 0 ds) := rfl
theorem enD_map {α : Type} {e : α → PyData} : ∀ {xs : List α} {n : Nat}, enD n (xs.map e) = (xs.zipIdx n).map fun p => wkT [.int (p.2 : Nat), e p.1]
  | [], _ => rfl
  | x :: xs, n => by rw [List.map_cons, enD, enD_map, List.zipIdx_cons, List.map_cons]
theorem enD_len : ∀ {ds : List PyData} {n : Nat}, (enD n ds).length = ds.length
  | [], _ => rfl
  | d :: ds, n => by rw [enD, List.length_cons, List.length_cons, enD_len]
/-- what stands in a field -/
def fldV (Cn f : Str) (m : M) : Option M := match m with
  | .ins C ns xs => if C = Cn then (match fnd f ns with
    | some n => xs[n]?
    | none => none) else none
  | _ => none
@[simp] theorem wp_fld {Cn f : Str} {fo : Rho → Out Vl} : wpX (cFld Cn f fo) ρ ⟨R, E⟩ .mk ↔ wpX fo ρ ⟨fun x ρ1 => wpB (rdVl ρ1 x) ⟨fun m => wpB (fldV Cn f m) ⟨fun c => wpO (itemOf x c (.fld f) ρ1) ⟨R, E⟩ .mk⟩ .mk⟩ .mk, E⟩ .mk := by
  unfold wpX cFld
  cases fo ρ with
  | ok x ρ1 =>
    simp only [wpO_ok]
    cases rdVl ρ1 x with
    | none => simp
    | some m =>
      simp only [wpB_some]
      cases m with
      | ins C ns xs =>
        simp only [fldV]
        by_cases h : C = Cn
        · rw [if_pos h, if_pos h]
          cases fnd f ns with
          | none => simp
          | some n =>
            simp only
            cases xs[n]? <;> simp
        · rw [if_neg h, if_neg h]; simp
      | _ => simp [fldV]
  | exc _ _ => exact Iff.rfl
  | bad => exact Iff.rfl
def putV (Cn f : Str) (m c : M) : Option M := match c with
  | .ins C ns xs => if C = Cn ∧ ns.length < 1000 then some (putI f m C ns xs) else none
  | _ => none
@[simp] theorem wp_setFld {Cn f : Str} {fe fo : Rho → Out Vl} : wpS (sSetFld Cn f fe fo) ρ D .mk ↔ wpX fe ρ ⟨fun a ρ1 => wpB (toVal a ρ1) ⟨fun q => wpX fo q.2 ⟨fun x ρ3 => wpB (isPlc x) ⟨fun p => wpB (rdP ρ3 p.1 p.2) ⟨fun c => wpB (putV Cn f q.1 c) ⟨fun c' => D.nx (wrP ρ3 p.1 p.2 c')⟩ .mk⟩ .mk⟩ .mk, D.ex⟩ .mk⟩ .mk, D.ex⟩ .mk := by
  unfold wpS wpX sSetFld
  cases fe ρ with
  | ok a ρ1 =>
    simp only [wpO_ok]
    cases toVal a ρ1 with
    | none => simp [wpL]
    | some q =>
      obtain ⟨m, ρ2⟩ := q
      simp only [wpB_some]
      cases fo ρ2 with
      | ok x ρ3 =>
        simp only [wpO_ok]
        cases x with
        | val _ => simp [wpL]
        | plc i π =>
          simp only [isPlc_plc, wpB_some]
          cases rdP ρ3 i π with
          | none => simp [wpL]
          | some c =>
            simp only [wpB_some]
            cases c with
            | ins C ns xs =>
              simp only [putV]
              by_cases h : C = Cn ∧ ns.length < 1000
              · rw [if_pos h, if_pos h]; simp [wpL]
              · rw [if_neg h, if_neg h]; simp [wpL]
            | _ => simp [wpL, putV]
      | exc _ _ => exact Iff.rfl
      | bad => exact Iff.rfl
  | exc _ _ => exact Iff.rfl
  | bad => exact Iff.rfl
def isCls (Cn m : Str) (c : M) : Bool := match c with
  | .ins C ns _ => decide (C = Cn ∧ m ∉ ns)
  | _ => false
@[simp] theorem wp_recv {Cn m : Str} {g : Bool} {fo : Rho → Out Vl} {fr : Rho → Out (List Vl)} {Q : List Vl → Rho → Prop} : wpX (aRecv Cn m g fo fr) ρ ⟨Q, E⟩ .mk ↔ wpX fo ρ ⟨fun x ρ1 => wpB (rdVl ρ1 x) ⟨fun c => isCls Cn m c = true ∧ (g || x.root) = true ∧ wpX fr ρ1 ⟨fun xs ρ2 => Q (x :: xs) ρ2, E⟩ .mk⟩ .mk, E⟩ .mk := by
  unfold wpX aRecv
  cases fo ρ with
  | ok x ρ1 =>
    simp only [wpO_ok]
    cases rdVl ρ1 x with
    | none => simp
    | some c =>
      simp only [wpB_some]
      cases c with
      | ins C ns xs =>
        simp only [isCls, decide_eq_true_eq]
        by_cases h : C = Cn ∧ m ∉ ns
        · rw [if_pos h]
          by_cases hg : (g || x.root) = true
          · rw [if_pos hg]
            cases fr ρ1 with
            | ok xs ρ2 => simp [Out.bind, h, hg]
            | exc _ _ => simp [Out.bind, h, hg]
            | bad => simp [Out.bind]
          · rw [if_neg hg]; simp [hg]
        · rw [if_neg h]; simp [h]
      | _ => simp [isCls]
  | exc _ _ => exact Iff.rfl
  | bad => exact Iff.rfl
theorem wp_mkF {Cn : Str} {F : List M → FOut} {ms : List M} {Q : M → List M → Prop} {E : Xv → List M → Prop} (h : wpF F (.ins Cn [] [] :: ms) ⟨fun r fin => r = .dat .none ∧ ∃ m0 fin', fin = m0 :: fin' ∧ Q m0 fin', fun x fin => ∃ m0 fin', fin = m0 :: fin' ∧ E x fin'⟩ .mk) : wpF (mkF Cn F) ms ⟨Q, E⟩ .mk := by
  unfold wpF at h ⊢
  unfold mkF
  cases hF : F (.ins Cn [] [] :: ms) with
  | ok r fin =>
    rw [hF] at h
    obtain ⟨rfl, m0, fin', rfl, h⟩ := h
    exact h
  | exc x fin =>
    rw [hF] at h
    obtain ⟨m0, fin', rfl, h⟩ := h
    exact h
  | bad => rw [hF] at h; exact h.elim
end
end DL

set_option Elab.async false
set_option linter.all false
set_option maxRecDepth 100000
/-! DNa: kinds: codes, the defs of kinds.py, what they come to. -/
namespace PP
open PySem DL
def b_makers_of : Rho → Fl := (sSeq (sFor (iSeq (cVar 0)) (hTup 2 (hCons (hName 2) (hCons (hName 3) hNil))) (sIf (cB (cOp2 true opEq (cVar 2) (cVar 1))) (sRet [] (cVar 3)) sNx))
    (sRet [] (cTup aNil)))
def f_makers_of : List M → FOut := fnOut 4 2 [] b_makers_of
def b_within : Rho → Fl := (sSeq (sSet 2 (cLst (aCons true (cVar 1) aNil)))
    (sSeq (sSet 3 (cD (.int 0)))
    (sSeq (sWhile (cB (cOp2 true (cmpI fun i j => decide (i < j)) (cVar 3) (cOpN opLen (aCons true (cVar 2) aNil)))) (sSeq (sFor (iSeq (cCall f_makers_of [false, false] (aCons true (cVar 0) (aCons true (cIx true (cVar 2) (cVar 3)) aNil)))) (hTup 2 (hCons (hName 4) (hCons (hName 5) hNil))) (sFor (iSeq (cVar 5)) (hName 6) (sIf (cB (cOp2 true (opIn true) (cVar 6) (cVar 2))) (sDrop (cApp true (cVar 2) (cVar 6))) sNx)))
    (sSet 3 (cOp2 true opAdd (cVar 3) (cD (.int 1))))))
    (sSeq (sSet 7 (cLst aNil))
    (sSeq (sFor (iSeq (cVar 0)) (hTup 2 (hCons (hName 8) (hCons (hName 9) hNil))) (sIf (cB (cOp2 true (opIn false) (cVar 8) (cVar 2))) (sDrop (cExt false (cVar 7) (cComp [4, 5] (iSeq (cVar 9)) (hTup 2 (hCons (hName 4) (hCons (hName 5) hNil))) cYes (cVar 4)))) sNx))
    (sRet [] (cOpN opTuple (aCons true (cVar 7) aNil))))))))
def f_within : List M → FOut := fnOut 10 2 [] b_within
def b_kind_of_maker : Rho → Fl := (sSeq (sFor (iSeq (cVar 0)) (hTup 2 (hCons (hName 2) (hCons (hName 3) hNil))) (sIf (cB (cOp2 false (opIn false) (cVar 1) (cComp [4, 5] (iSeq (cVar 3)) (hTup 2 (hCons (hName 4) (hCons (hName 5) hNil))) cYes (cVar 4)))) (sRet [] (cVar 2)) sNx))
    (sRet [] (cD .none)))
def f_kind_of_maker : List M → FOut := fnOut 6 2 [] b_kind_of_maker
/-! ### codes -/
abbrev Mkr := Str × List Str
abbrev Kd := Str × List Mkr
def eStrs (l : List Str) : PyData := .tuple (l.map .str)
def eMk (m : Mkr) : PyData := .tuple [.str m.1, eStrs m.2]
def eMks (ms : List Mkr) : PyData := .tuple (ms.map eMk)
def eKd (k : Kd) : PyData := .tuple [.str k.1, eMks k.2]
def eKds (ks : List Kd) : PyData := .tuple (ks.map eKd)
def mkOf : List Kd → Str → List Mkr
  | [], _ => []
  | q :: r, k => if q.1 = k then q.2 else mkOf r k
theorem mkOf_skip {k : Str} : ∀ {p r : List Kd}, (∀ q ∈ p, q.1 ≠ k) → mkOf (p ++ r) k = mkOf r k
  | [], r, _ => rfl
  | q :: p, r, h => by
    rw [List.cons_append, mkOf, if_neg (h q List.mem_cons_self)]
    exact mkOf_skip fun x hx => h x (List.mem_cons_of_mem _ hx)
theorem mkOf_none {k : Str} {p : List Kd} (h : ∀ q ∈ p, q.1 ≠ k) : mkOf p k = [] := by
  have := mkOf_skip (r := []) h
  rw [List.append_nil] at this
  exact this
/-- names good for equality -/
def KOk (ks : List Kd) : Prop := ∀ q ∈ ks, PyData.strOk q.1 = true ∧ ∀ m ∈ q.2, PyData.strOk m.1 = true ∧ ∀ f ∈ m.2, PyData.strOk f = true
theorem makers_of_wp {ks : List Kd} {k : Str} {Q : M → List M → Prop} {E : Xv → List M → Prop} (hk : KOk ks) (ho : PyData.strOk k = true) (h : Q (.dat (eMks (mkOf ks k))) [.dat (eKds ks), .dat (.str k)]) :
    wpF f_makers_of [.dat (eKds ks), .dat (.str k)] ⟨Q, E⟩ .mk := by
  unfold f_makers_of
  rw [wp_fn]
  refine ⟨⟨rfl, rfl⟩, ?_⟩
  unfold b_makers_of
  simp [eKds]
  refine for_ty ks eKd (fun p ρ => (∀ q ∈ p, q.1 ≠ k) ∧ ∃ x2 x3, ρ = [some (.dat (eKds ks)), some (.dat (.str k)), x2, x3]) ⟨by simp, none, none, rfl⟩ (fun p q r e ρ hI J hJ => ?_) (fun ρ1 hI => ?_)
  · obtain ⟨hp, x2, x3, rfl⟩ := hI
    simp [eKd]
    have := (hk q (by rw [e]; simp)).1
    refine ⟨⟨this, ho⟩, ?_⟩
    by_cases hq : q.1 = k
    · simp [hq]
      have : mkOf ks k = q.2 := by rw [e, mkOf_skip hp, mkOf, if_pos hq]
      rw [← this]
      exact h
    · simp [hq]
      refine hJ _ ⟨?_, _, _, rfl⟩
      intro a ha
      rcases List.mem_append.mp ha with z | z
      · exact hp a z
      · rw [List.mem_singleton.mp z]; exact hq
  · obtain ⟨hp, x2, x3, rfl⟩ := hI
    simp
    rw [mkOf_none hp] at h
    exact h
/-! ### what can be come to -/
def fdsOf (ks : List Kd) (b : Str) : List Str := (mkOf ks b).flatMap (·.2)
inductive Rch (ks : List Kd) (a : Str) : Str → Prop
  | refl : Rch ks a a
  | step {b f : Str} : Rch ks a b → f ∈ fdsOf ks b → Rch ks a f
def names (ks : List Kd) : List Str := ks.map (·.1)
def FIn (ks : List Kd) : Prop := ∀ q ∈ ks, ∀ m ∈ q.2, ∀ f ∈ m.2, f ∈ names ks
theorem mkOf_mem {ks : List Kd} {k : Str} {m : Mkr} (h : m ∈ mkOf ks k) : ∃ q ∈ ks, q.1 = k ∧ m ∈ q.2 := by
  induction ks with
  | nil => cases h
  | cons q r ih =>
    unfold mkOf at h
    by_cases hq : q.1 = k
    · rw [if_pos hq] at h; exact ⟨q, List.mem_cons_self, hq, h⟩
    · rw [if_neg hq] at h
      obtain ⟨q', h1, h2⟩ := ih h
      exact ⟨q', List.mem_cons_of_mem _ h1, h2⟩
theorem KOk.mk {ks : List Kd} (h : KOk ks) {k : Str} {m : Mkr} (hm : m ∈ mkOf ks k) : PyData.strOk m.1 = true ∧ ∀ f ∈ m.2, PyData.strOk f = true := by
  obtain ⟨q, h1, _, h3⟩ := mkOf_mem hm
  exact (h q h1).2 m h3
theorem FIn.mk {ks : List Kd} (h : FIn ks) {k : Str} {m : Mkr} (hm : m ∈ mkOf ks k) : ∀ f ∈ m.2, f ∈ names ks := by
  obtain ⟨q, h1, _, h3⟩ := mkOf_mem hm
  exact h q h1 m h3
/-- the makers of the kinds that are chosen -/
def pk (f : Str → Bool) (ks : List Kd) : List Str := (ks.filter fun q => f q.1).flatMap fun q => q.2.map (·.1)
theorem pk_snoc {f : Str → Bool} {p : List Kd} {q : Kd} : pk f (p ++ [q]) = if f q.1 = true then pk f p ++ q.2.map (·.1) else pk f p := by
  unfold pk
  rw [List.filter_append, List.flatMap_append]
  by_cases h : f q.1 = true
  · rw [if_pos h]; simp [h]
  · rw [if_neg h]; simp [h]
theorem pk_cons {f : Str → Bool} {p : List Kd} {q : Kd} : pk f (q :: p) = if f q.1 = true then q.2.map (·.1) ++ pk f p else pk f p := by
  unfold pk
  by_cases h : f q.1 = true
  · rw [if_pos h]; simp [h]
  · rw [if_neg h]; simp [h]
theorem pk_len {f : Str → Bool} : ∀ {p : List Kd}, (∀ q ∈ p, q.2.length ≤ 1000) → (pk f p).length ≤ 1000 * p.length
  | [], _ => by simp [pk]
  | q :: p, h => by
    have h1 := h q List.mem_cons_self
    have h2 := pk_len (f := f) (p := p) fun x hx => h x (List.mem_cons_of_mem _ hx)
    rw [pk_cons, List.length_cons]
    split
    · rw [List.length_append, List.length_map]; omega
    · omega
theorem pk_congr {f g : Str → Bool} {p : List Kd} (h : ∀ q ∈ p, f q.1 = g q.1) : pk f p = pk g p := by
  unfold pk
  rw [List.filter_congr h]
open Classical in
noncomputable def within (ks : List Kd) (k : Str) : List Str := pk (fun x => decide (Rch ks k x)) ks
structure Wi (ks : List Kd) (k : Str) (R R' : List Str) : Prop where
  pre : ∃ s, R' = R ++ s
  nd : R'.Nodup
  ok : ∀ x ∈ R', Rch ks k x ∧ PyData.strOk x = true
  up : ∀ x ∈ R', x ∈ k :: names ks
theorem Wi.refl {ks : List Kd} {k : Str} {R R' : List Str} (h : Wi ks k R R') : Wi ks k R' R' := ⟨⟨[], by simp⟩, h.nd, h.ok, h.up⟩
theorem Wi.len {ks : List Kd} {k : Str} {R R' : List Str} (h : Wi ks k R R') : R'.length ≤ ks.length + 1 := by
  have := subset_len h.nd h.up
  simpa [names] using this
theorem Wi.get {ks : List Kd} {k : Str} {R R' : List Str} {n : Nat} {x : Str} (h : Wi ks k R R') (e : R[n]? = some x) : R'[n]? = some x := by
  obtain ⟨s, rfl⟩ := h.pre
  rw [List.getElem?_append_left (List.getElem?_eq_some_iff.mp e).1]
  exact e
theorem Wi.mem {ks : List Kd} {k : Str} {R R' : List Str} {x : Str} (h : Wi ks k R R') (e : x ∈ R) : x ∈ R' := by
  obtain ⟨s, rfl⟩ := h.pre
  exact List.mem_append_left _ e
theorem Wi.add {ks : List Kd} {k x : Str} {R R' : List Str} (h : Wi ks k R R') (hx : x ∉ R') (h1 : Rch ks k x) (h2 : PyData.strOk x = true) (h3 : x ∈ names ks) : Wi ks k R (R' ++ [x]) := by
  obtain ⟨s, e⟩ := h.pre
  refine ⟨⟨s ++ [x], by rw [e, List.append_assoc]⟩, nodup_snoc h.nd hx, fun y hy => ?_, fun y hy => ?_⟩
  · rcases List.mem_append.mp hy with z | z
    · exact h.ok y z
    · rw [List.mem_singleton.mp z]; exact ⟨h1, h2⟩
  · rcases List.mem_append.mp hy with z | z
    · exact h.up y z
    · rw [List.mem_singleton.mp z]; exact List.mem_cons_of_mem _ h3
/-- each of ms's fields stands in R -/
def AllF (ms : List Mkr) (R : List Str) : Prop := ∀ m ∈ ms, ∀ f ∈ m.2, f ∈ R
def AllI (p : List Str) (R : List Str) : Prop := ∀ f ∈ p, f ∈ R
def Done (ks : List Kd) (R : List Str) (n : Nat) : Prop := ∀ i x, i < n → R[i]? = some x → ∀ f ∈ fdsOf ks x, f ∈ R
theorem Done.up {ks : List Kd} {k : Str} {R R' : List Str} {n : Nat} (h : Done ks R n) (w : Wi ks k R R') (hn : n ≤ R.length) : Done ks R' n := fun i x hi e f hf => by
  obtain ⟨y, hy⟩ : ∃ y, R[i]? = some y := ⟨R[i], List.getElem?_eq_getElem (by omega)⟩
  have := w.get hy
  rw [this] at e
  cases e
  exact w.mem (h i x hi hy f hf)
theorem within_wp {ks : List Kd} {k : Str} {Q : M → List M → Prop} {E : Xv → List M → Prop} (hk : KOk ks) (hf : FIn ks) (hl : ks.length ≤ 1000) (ho : PyData.strOk k = true) (hsz : ∀ q ∈ ks, q.2.length ≤ 1000) (h : Q (.dat (eStrs (within ks k))) [.dat (eKds ks), .dat (.str k)]) :
    wpF f_within [.dat (eKds ks), .dat (.str k)] ⟨Q, E⟩ .mk := by
  have hz := line_big
  unfold f_within
  rw [wp_fn]
  refine ⟨⟨rfl, rfl⟩, ?_⟩
  unfold b_within
  simp
  refine while_wp (n := fuel) (fun m ρ => ∃ R n x4 x5 x6, Wi ks k R R ∧ k ∈ R ∧ n ≤ R.length ∧ Done ks R n ∧ m = ks.length + 2 - n ∧ ρ = [some (.dat (eKds ks)), some (.dat (.str k)), some (lM .str R), some (.dat (.int (n : Nat))), x4, x5, x6, none, none, none])
    (m := ks.length + 2) ⟨[k], 0, none, none, none, ⟨⟨[], rfl⟩, by simp, ?_, ?_⟩, by simp, by simp, ?_, rfl, rfl⟩ (by unfold fuel; omega) (fun m ρ hI J0 hJ0 => ?_)
  · intro x hx; rw [List.mem_singleton.mp hx]; exact ⟨.refl, ho⟩
  · intro x hx; rw [List.mem_singleton.mp hx]; exact List.mem_cons_self
  · intro i x hi; omega
  obtain ⟨R, n, x4, x5, x6, hw, hkR, hn, hd, rfl, rfl⟩ := hI
  have hlen := hw.len
  simp
  by_cases hc : n < R.length
  · simp [hc]
    obtain ⟨b, hb⟩ : ∃ b, R[n]? = some b := ⟨R[n], List.getElem?_eq_getElem hc⟩
    refine ⟨n, by rw [ixN_nat (by omega) (by omega)]; simp, b, hb, ?_⟩
    refine makers_of_wp hk (hw.ok b (List.mem_of_getElem? hb)).2 ?_
    simp [eMks]
    have hbR := (hw.ok b (List.mem_of_getElem? hb)).1
    refine for_ty (mkOf ks b) eMk (fun p ρ => ∃ R' x4 x5 x6, Wi ks k R R' ∧ AllF p R' ∧ ρ = [some (.dat (eKds ks)), some (.dat (.str k)), some (lM .str R'), some (.dat (.int (n : Nat))), x4, x5, x6, none, none, none]) ⟨R, x4, x5, x6, hw, by simp [AllF], rfl⟩ (fun p m r e ρ hI J hJ => ?_) (fun ρ1 hI => ?_)
    · obtain ⟨R1, x4, x5, x6, w1, a1, rfl⟩ := hI
      have hm : m ∈ mkOf ks b := by rw [e]; simp
      simp [eMk, eStrs]
      refine for_ty m.2 PyData.str (fun q ρ => ∃ R' x6, Wi ks k R R' ∧ AllF p R' ∧ AllI q R' ∧ ρ = [some (.dat (eKds ks)), some (.dat (.str k)), some (lM .str R'), some (.dat (.int (n : Nat))), some (.dat (.str m.1)), some (.dat (.tuple (m.2.map .str))), x6, none, none, none]) ⟨R1, x6, w1, a1, by simp [AllI], rfl⟩ (fun q f r2 e2 ρ hI J2 hJ2 => ?_) (fun ρ1 hI => ?_)
      · obtain ⟨R2, x6, w2, a2, i2, rfl⟩ := hI
        simp
        have hfm : f ∈ m.2 := by rw [e2]; simp
        by_cases hfR : f ∈ R2
        · simp [hfR]
          refine hJ2 _ ⟨R2, _, w2, a2, ?_, rfl⟩
          intro g hg
          rcases List.mem_append.mp hg with z | z
          · exact i2 g z
          · rw [List.mem_singleton.mp z]; exact hfR
        · simp [hfR]
          have hl2 := w2.len
          refine ⟨by omega, hJ2 _ ⟨R2 ++ [f], _, ?_, ?_, ?_, rfl⟩⟩
          · exact w2.add hfR (.step hbR (List.mem_flatMap.mpr ⟨m, hm, hfm⟩)) ((hk.mk hm).2 f hfm) (hf.mk hm f hfm)
          · intro m' hm' g hg
            exact List.mem_append_left _ (a2 m' hm' g hg)
          · intro g hg
            rcases List.mem_append.mp hg with z | z
            · exact List.mem_append_left _ (i2 g z)
            · rw [List.mem_singleton.mp z]; simp
      · obtain ⟨R2, x6, w2, a2, i2, rfl⟩ := hI
        refine hJ _ ⟨R2, _, _, _, w2, ?_, rfl⟩
        intro m' hm' g hg
        rcases List.mem_append.mp hm' with z | z
        · exact a2 m' z g hg
        · rw [List.mem_singleton.mp z] at hg; exact i2 g hg
    · obtain ⟨R1, x4, x5, x6, w1, a1, rfl⟩ := hI
      simp
      refine hJ0 _ _ ?_ ⟨R1, n + 1, x4, x5, x6, w1.refl, w1.mem hkR, ?_, ?_, rfl, by simp⟩
      · omega
      · have := (List.getElem?_eq_some_iff.mp (w1.get hb)).1; omega
      · intro i x hi ex g hg
        by_cases hin : i = n
        · subst hin
          rw [w1.get hb] at ex
          cases ex
          obtain ⟨m, hm, hgm⟩ := List.mem_flatMap.mp hg
          exact a1 m hm g hgm
        · exact hd.up w1 hn i x (by omega) ex g hg
  · simp [hc]
    have hall : ∀ x, x ∈ R ↔ Rch ks k x := fun x => ⟨fun hx => (hw.ok x hx).1, fun hx => by
      induction hx with
      | refl => exact hkR
      | step hb hfb ih =>
        obtain ⟨i, hi, e⟩ := List.mem_iff_getElem.mp ih
        exact hd i _ (by omega) (by rw [List.getElem?_eq_getElem hi, e]) _ hfb⟩
    simp [eKds, lM_nil (e := PyData.str)]
    refine for_ty ks eKd (fun p ρ => ∃ x4 x5 x8 x9, ρ = [some (.dat (eKds ks)), some (.dat (.str k)), some (lM .str R), some (.dat (.int (n : Nat))), x4, x5, x6, some (lM .str (pk (fun x => decide (x ∈ R)) p)), x8, x9]) ⟨x4, x5, none, none, rfl⟩ (fun p q r e ρ hI J hJ => ?_) (fun ρ1 hI => ?_)
    · obtain ⟨x4, x5, x8, x9, rfl⟩ := hI
      simp [eKd]
      by_cases hq : q.1 ∈ R
      · simp [hq, eMks]
        have hqs : q.2.length ≤ 1000 := hsz q (by rw [e]; simp)
        refine ⟨by omega, comp_map q.2 eMk (fun m => some m.1) .str (fun m hm => ?_) ?_⟩
        · simp [eMk]
        · simp [-List.map_map]
          have := pk_len (f := fun x => decide (x ∈ R)) (p := p) fun x hx => hsz x (by rw [e]; simp [hx])
          have : p.length < 1000 := by rw [e] at hl; simp at hl; omega
          refine ⟨by omega, hJ _ ⟨_, _, _, _, by rw [pk_snoc, if_pos (by simp [hq])]⟩⟩
      · simp [hq]
        refine hJ _ ⟨_, _, _, _, by rw [pk_snoc, if_neg (by simp [hq])]⟩
    · obtain ⟨x4, x5, x8, x9, rfl⟩ := hI
      simp
      have e : pk (fun x => decide (x ∈ R)) ks = within ks k := pk_congr fun q _ => by simp [hall]
      rw [e]
      exact h
theorem kind_of_maker_wp {ks : List Kd} {m : Str} {Q : M → List M → Prop} {E : Xv → List M → Prop} (hsz : ∀ q ∈ ks, q.2.length ≤ 1000) (h : Q (.dat (match ks.find? fun q => decide (m ∈ q.2.map (·.1)) with
      | some q => .str q.1
      | none => .none)) [.dat (eKds ks), .dat (.str m)]) :
    wpF f_kind_of_maker [.dat (eKds ks), .dat (.str m)] ⟨Q, E⟩ .mk := by
  have hz := line_big
  unfold f_kind_of_maker
  rw [wp_fn]
  refine ⟨⟨rfl, rfl⟩, ?_⟩
  unfold b_kind_of_maker
  simp [eKds]
  refine for_ty ks eKd (fun p ρ => (∀ q ∈ p, m ∉ q.2.map (·.1)) ∧ ∃ x2 x3 x4 x5, ρ = [some (.dat (eKds ks)), some (.dat (.str m)), x2, x3, x4, x5]) ⟨by simp, none, none, none, none, rfl⟩ (fun p q r e ρ hI J hJ => ?_) (fun ρ1 hI => ?_)
  · obtain ⟨hp, x2, x3, x4, x5, rfl⟩ := hI
    simp [eKd, eMks]
    have hqs : q.2.length ≤ 1000 := hsz q (by rw [e]; simp)
    refine ⟨by omega, comp_map q.2 eMk (fun m => some m.1) .str (fun m hm => ?_) ?_⟩
    · simp [eMk]
    simp [-List.map_map, -List.mem_map]
    by_cases hq : m ∈ q.2.map (·.1)
    · simp [hq, -List.mem_map]
      have e : ks.find? (fun q => decide (m ∈ q.2.map (·.1))) = some q := by
        rw [e, List.find?_append, List.find?_eq_none.mpr (fun x hx => by simp only [decide_eq_true_eq]; exact hp x hx)]
        simp [hq, -List.mem_map]
      rw [e] at h
      exact h
    · simp [hq, -List.mem_map]
      refine hJ _ ⟨?_, _, _, _, _, rfl⟩
      intro a ha
      rcases List.mem_append.mp ha with z | z
      · exact hp a z
      · rw [List.mem_singleton.mp z]; exact hq
  · obtain ⟨hp, x2, x3, x4, x5, rfl⟩ := hI
    simp
    rw [List.find?_eq_none.mpr (fun x hx => by simp only [decide_eq_true_eq]; exact hp x hx)] at h
    exact h
end PP

set_option Elab.async false
set_option linter.all false
set_option maxRecDepth 100000
/-! DNb: words, kinds, least sizes, values: the makers that several laws share. -/
namespace PV
open PySem DL PP
abbrev f_law_draw : List M → FOut := f_draw
def b_law_words : Rho → Fl := (sSeq (sSet 2 (cD (.str "abcdefghijklmnopqrstuvwxyz")))
    (sSeq (sSet 3 (cMeth gdS false opJoin (cD (.str "")) (aCons true (cComp [7] (iRg1 (aCons true (cCall f_law_draw [true, false] (aCons true (cVar 0) (aCons true (cD (.int 5)) aNil))) aNil)) (hName 7) cYes (cIx false (cVar 2) (cCall f_law_draw [true, false] (aCons true (cVar 0) (aCons true (cD (.int 26)) aNil))))) aNil)))
    (sSeq (sSet 4 (cCall f_law_draw [true, false] (aCons true (cVar 0) (aCons true (cOp2 true opAdd (cOpN opLen (aCons true (cVar 3) aNil)) (cD (.int 1))) aNil))))
    (sSeq (sSet 5 (cCall f_law_draw [true, false] (aCons true (cVar 0) (aCons true (cD (.int 26)) aNil))))
    (sSeq (sSet 6 (cLst aNil))
    (sSeq (sFor (iRg1 (aCons true (cVar 1) aNil)) (hName 7) (sSeq (sSet 8 (cIx true (cVar 2) (cOp2 true opMod (cOp2 true opAdd (cVar 5) (cOp2 true opMulA (cD (.int 7)) (cVar 7))) (cD (.int 26)))))
    (sSeq (sSet 9 (cOp2 true opAdd (cOp2 true opAdd (cOp2 true opAdd (cOp2 true opAdd (cSl (cVar 3) oNone (oSome (nVar 4))) (cVar 8)) (cSl (cVar 3) (oSome (nVar 4)) oNone)) (cOp2 true opMulA (cD (.str "x")) (cOp2 true opMod (cVar 7) (cD (.int 2))))) (cOp2 true opMulA (cD (.str "y")) (cOp2 true opDiv (cVar 7) (cD (.int 26))))))
    (sSeq (sIf (cB (cOp2 true (opIn false) (cVar 9) (cTup (aCons true (cD (.str "kind")) (aCons true (cD (.str "def")) (aCons true (cD (.str "to")) (aCons true (cD (.str "let")) (aCons true (cD (.str "make")) (aCons true (cD (.str "call")) aNil))))))))) (sSet 9 (cOp2 true opAdd (cVar 9) (cD (.str "q")))) sNx)
    (sSeq (sIf (cB (cOp2 true (opIn false) (cVar 9) (cTup (aCons true (cD (.str "name")) (aCons true (cD (.str "case")) (aCons true (cD (.str "end")) (aCons true (cD (.str "pay")) (aCons true (cD (.str "get")) (aCons true (cD (.str "give")) aNil))))))))) (sSet 9 (cOp2 true opAdd (cVar 9) (cD (.str "q")))) sNx)
    (sDrop (cApp true (cVar 6) (cVar 9))))))))
    (sSeq (sSet 10 (cLst (aCons true (cD (.str "lets")) (aCons true (cD (.str "callx")) (aCons true (cD (.str "payer")) (aCons true (cD (.str "ender")) (aCons true (cD (.str "tom")) (aCons true (cD (.str "nameb")) aNil))))))))
    (sSeq (sSet 10 (cOp2 true opAdd (cVar 10) (cLst (aCons true (cD (.str "makes")) (aCons true (cD (.str "gets")) (aCons true (cD (.str "giver")) (aCons true (cD (.str "kinds")) (aCons true (cD (.str "defs")) (aCons true (cD (.str "cases")) aNil)))))))))
    (sSeq (sSet 9 (cIx false (cVar 10) (cCall f_law_draw [true, false] (aCons true (cVar 0) (aCons true (cD (.int 12)) aNil)))))
    (sSeq (sIf (cAnd (cB (cOp2 true opEq (cCall f_law_draw [true, false] (aCons true (cVar 0) (aCons true (cD (.int 3)) aNil))) (cD (.int 1)))) (cB (cOp2 true (opIn true) (cVar 9) (cVar 6)))) (sSetIx false (cVar 9) (cVar 6) (cCall f_law_draw [true, false] (aCons true (cVar 0) (aCons true (cVar 1) aNil)))) sNx)
    (sRet [0] (cVar 6))))))))))))
def f_law_words : List M → FOut := fnOut 11 2 [0] b_law_words
def b_law_kinds : Rho → Fl := (sSeq (sSet 2 (cCall f_law_draw [true, false] (aCons true (cVar 0) (aCons true (cD (.int 8)) aNil))))
    (sSeq (sPar [3, 4] (aCons true (cIx true (cVar 1) (cD (.int 0))) (aCons true (cIx true (cVar 1) (cD (.int 1))) aNil)))
    (sSeq (sSet 5 (cOp2 true opAdd (cSl (cVar 1) (oSome (nC (.int 4))) oNone) (cSl (cVar 1) oNone (oSome (nC (.int 4))))))
    (sSeq (sIf (cB (cOp2 true opEq (cVar 2) (cD (.int 0)))) (sRet [0] (cTup (aCons true (cTup (aCons true (cVar 3) (aCons true (cTup (aCons true (cTup (aCons true (cIx true (cVar 5) (cD (.int 0))) (aCons true (cTup aNil) aNil))) (aCons true (cTup (aCons true (cIx true (cVar 5) (cD (.int 1))) (aCons true (cTup (aCons true (cVar 3) aNil)) aNil))) aNil))) aNil))) aNil))) sNx)
    (sSeq (sIf (cB (cOp2 true opEq (cVar 2) (cD (.int 1)))) (sRet [0] (cTup (aCons true (cTup (aCons true (cVar 3) (aCons true (cTup (aCons true (cTup (aCons true (cIx true (cVar 5) (cD (.int 0))) (aCons true (cTup aNil) aNil))) (aCons true (cTup (aCons true (cIx true (cVar 5) (cD (.int 1))) (aCons true (cTup (aCons true (cVar 3) aNil)) aNil))) (aCons true (cTup (aCons true (cIx true (cVar 5) (cD (.int 2))) (aCons true (cTup (aCons true (cVar 3) aNil)) aNil))) aNil)))) aNil))) aNil))) sNx)
    (sSeq (sIf (cB (cOp2 true opEq (cVar 2) (cD (.int 2)))) (sRet [0] (cTup (aCons true (cTup (aCons true (cVar 3) (aCons true (cTup (aCons true (cTup (aCons true (cIx true (cVar 5) (cD (.int 0))) (aCons true (cTup aNil) aNil))) (aCons true (cTup (aCons true (cIx true (cVar 5) (cD (.int 1))) (aCons true (cTup aNil) aNil))) aNil))) aNil))) (aCons true (cTup (aCons true (cVar 4) (aCons true (cTup (aCons true (cTup (aCons true (cIx true (cVar 5) (cD (.int 2))) (aCons true (cTup aNil) aNil))) (aCons true (cTup (aCons true (cIx true (cVar 5) (cD (.int 3))) (aCons true (cTup (aCons true (cVar 3) (aCons true (cVar 4) aNil))) aNil))) aNil))) aNil))) aNil)))) sNx)
    (sSeq (sIf (cB (cOp2 true opEq (cVar 2) (cD (.int 3)))) (sRet [0] (cTup (aCons true (cTup (aCons true (cVar 3) (aCons true (cTup (aCons true (cTup (aCons true (cIx true (cVar 5) (cD (.int 0))) (aCons true (cTup aNil) aNil))) (aCons true (cTup (aCons true (cIx true (cVar 5) (cD (.int 1))) (aCons true (cTup (aCons true (cVar 3) (aCons true (cVar 3) aNil))) aNil))) aNil))) aNil))) aNil))) sNx)
    (sSeq (sIf (cB (cOp2 true opEq (cVar 2) (cD (.int 4)))) (sRet [0] (cTup (aCons true (cTup (aCons true (cVar 3) (aCons true (cTup (aCons true (cTup (aCons true (cIx true (cVar 5) (cD (.int 0))) (aCons true (cTup aNil) aNil))) (aCons true (cTup (aCons true (cIx true (cVar 5) (cD (.int 1))) (aCons true (cTup (aCons true (cVar 4) aNil)) aNil))) aNil))) aNil))) (aCons true (cTup (aCons true (cVar 4) (aCons true (cTup (aCons true (cTup (aCons true (cIx true (cVar 5) (cD (.int 2))) (aCons true (cTup (aCons true (cVar 3) aNil)) aNil))) aNil)) aNil))) aNil)))) sNx)
    (sSeq (sSet 6 (cLst aNil))
    (sSeq (sSet 7 (cOp2 false opAdd (cD (.int 1)) (cCall f_law_draw [true, false] (aCons true (cVar 0) (aCons true (cD (.int 3)) aNil)))))
    (sSeq (sSet 8 (cD (.int 0)))
    (sSeq (sFor (iRg1 (aCons true (cVar 7) aNil)) (hName 9) (sSeq (sSet 10 (cLst aNil))
    (sSeq (sFor (iRg1 (aCons true (cOp2 false opAdd (cD (.int 1)) (cCall f_law_draw [true, false] (aCons true (cVar 0) (aCons true (cIx true (cLst (aCons true (cD (.int 3)) (aCons true (cD (.int 6)) aNil))) (cOpN opInt (aCons true (cOp2 true opEq (cVar 7) (cD (.int 1))) aNil))) aNil)))) aNil)) (hName 11) (sSeq (sSet 12 (cOp2 true opMulA (cCall f_law_draw [true, false] (aCons false (cVar 0) (aCons true (cIx false (cLst (aCons true (cD (.int 3)) (aCons true (cD (.int 3)) (aCons true (cD (.int 5)) aNil)))) (cCall f_law_draw [true, false] (aCons true (cVar 0) (aCons true (cD (.int 3)) aNil)))) aNil))) (cOpN opInt (aCons true (cOp2 true (cmpI fun i j => decide (j < i)) (cOp2 true opAdd (cVar 9) (cVar 11)) (cD (.int 0))) aNil))))
    (sSeq (sSet 13 (cComp [14] (iRg1 (aCons true (cVar 12) aNil)) (hName 14) cYes (cIx false (cVar 1) (cCall f_law_draw [true, false] (aCons true (cVar 0) (aCons true (cVar 7) aNil))))))
    (sSeq (sDrop (cApp true (cVar 10) (cTup (aCons true (cIx true (cVar 5) (cVar 8)) (aCons true (cOpN opTuple (aCons true (cVar 13) aNil)) aNil)))))
    (sSet 8 (cOp2 true opAdd (cVar 8) (cD (.int 1))))))))
    (sDrop (cApp true (cVar 6) (cTup (aCons true (cIx true (cVar 1) (cVar 9)) (aCons true (cOpN opTuple (aCons true (cVar 10) aNil)) aNil))))))))
    (sRet [0] (cOpN opTuple (aCons true (cVar 6) aNil)))))))))))))))
def f_law_kinds : List M → FOut := fnOut 15 2 [0] b_law_kinds
def b_law_leasts : Rho → Fl := (sSeq (sSet 1 cDict0)
    (sSeq (sFor (iRg1 (aCons true (cOp2 true opAdd (cOpN opLen (aCons true (cVar 0) aNil)) (cD (.int 1))) aNil)) (hName 2) (sFor (iSeq (cVar 0)) (hTup 2 (hCons (hName 3) (hCons (hName 4) hNil))) (sFor (iSeq (cVar 4)) (hTup 2 (hCons (hName 5) (hCons (hName 6) hNil))) (sIf (cB (cOpN opAll (aCons true (cComp [8] (iSeq (cVar 6)) (hName 8) cYes (cOp2 true (opIn false) (cVar 8) (cVar 1))) aNil))) (sSeq (sSet 7 (cOp2 false opAdd (cD (.int 1)) (cOpN opSum (aCons true (cComp [8] (iSeq (cVar 6)) (hName 8) cYes (cIx true (cVar 1) (cVar 8))) aNil))))
    (sSetIx true (cOpN opMin2 (aCons true (cMeth gdD true opGet (cVar 1) (aCons true (cVar 3) (aCons true (cVar 7) aNil))) (aCons true (cVar 7) aNil))) (cVar 1) (cVar 3))) sNx))))
    (sRet [] (cVar 1))))
def f_law_leasts : List M → FOut := fnOut 9 1 [] b_law_leasts
def b_law_value (F_law_value : List M → FOut) : Rho → Fl := (sSeq (sSet 5 (cLst aNil))
    (sSeq (sFor (iSeq (cIx true (cOpN opDict (aCons true (cVar 1) aNil)) (cVar 3))) (hTup 2 (hCons (hName 6) (hCons (hName 7) hNil))) (sIf (cB (cOpN opAll (aCons true (cComp [10] (iSeq (cVar 7)) (hName 10) cYes (cOp2 true (opIn false) (cVar 10) (cVar 2))) aNil))) (sIf (cB (cOp2 true (cmpI fun i j => decide (i ≤ j)) (cOp2 false opAdd (cD (.int 1)) (cOpN opSum (aCons true (cComp [10] (iSeq (cVar 7)) (hName 10) cYes (cIx true (cVar 2) (cVar 10))) aNil))) (cVar 4))) (sDrop (cApp true (cVar 5) (cTup (aCons true (cVar 6) (aCons true (cVar 7) aNil))))) sNx) sNx))
    (sSeq (sAsg (hTup 2 (hCons (hName 6) (hCons (hName 7) hNil))) (cIx false (cVar 5) (cOpN opMax2 (aCons false (cCall f_law_draw [true, false] (aCons true (cVar 0) (aCons true (cOpN opLen (aCons true (cVar 5) aNil)) aNil))) (aCons true (cCall f_law_draw [true, false] (aCons true (cVar 0) (aCons true (cOpN opLen (aCons true (cVar 5) aNil)) aNil))) aNil)))))
    (sSeq (sSet 8 (cOp2 false opSub (cOp2 true opSub (cVar 4) (cD (.int 1))) (cOpN opSum (aCons true (cComp [10] (iSeq (cVar 7)) (hName 10) cYes (cIx true (cVar 2) (cVar 10))) aNil))))
    (sSeq (sSet 9 (cLst aNil))
    (sSeq (sFor (iSeq (cVar 7)) (hName 10) (sSeq (sSet 11 (cCall f_law_draw [true, false] (aCons true (cVar 0) (aCons true (cOp2 true opAdd (cVar 8) (cD (.int 1))) aNil))))
    (sSeq (sSet 8 (cOp2 true opSub (cVar 8) (cVar 11)))
    (sDrop (cApp false (cVar 9) (cCall F_law_value [true, false, false, false, false] (aCons true (cVar 0) (aCons true (cVar 1) (aCons true (cVar 2) (aCons true (cVar 10) (aCons true (cOp2 true opAdd (cIx true (cVar 2) (cVar 10)) (cVar 11)) aNil)))))))))))
    (sRet [0] (cTup (aCons true (cVar 6) (aCons true (cOpN opTuple (aCons true (cVar 9) aNil)) aNil))))))))))
def r_law_value : Nat → List M → FOut
  | 0 => fun _ => .bad
  | n + 1 => fnOut 12 5 [0] (b_law_value (r_law_value n))
def f_law_value : List M → FOut := r_law_value 80
def lowS : Str := Str.ofString "abcdefghijklmnopqrstuvwxyz"
theorem low_ok : Tx 26 lowS := ⟨by decide +kernel, by decide +kernel⟩
theorem low_len : lowS.length = 26 := by decide +kernel
theorem low_cs : lowS.cps.toList = (List.range 26).map (97 + ·) := by decide +kernel
theorem low_at {v : Int} (h0 : 0 ≤ v) (h1 : v < 26) : L2.atI lowS.cps.toList v = some (97 + v.toNat) := by
  rw [low_cs, atI_map']
  obtain ⟨x, h2, h3⟩ := atI_get (xs := List.range 26) h0 (by simpa using h1)
  rw [h2]
  have : v.toNat < 26 := by omega
  rw [List.getElem?_range this] at h3
  cases h3
  rfl
def raw (core : Str) (p t : Int) (k : Nat) : Str := L2.cutS core none (some p) ++ ⟨#[97 + ((t + 7 * k) % 26).toNat]⟩ ++ L2.cutS core (some p) none ++ repS (Str.ofString "x") ((k : Int) % 2) ++ repS (Str.ofString "y") ((k : Int) / 26)
def tk1 : List Str := ["kind", "def", "to", "let", "make", "call"]
def tk2 : List Str := ["name", "case", "end", "pay", "get", "give"]
def wq (t : List Str) (x : Str) : Str := if x ∈ t then x ++ Str.ofString "q" else x
def wfin (core : Str) (p t : Int) (k : Nat) : Str := wq tk2 (wq tk1 (raw core p t k))
def nearL : List Str := ["lets", "callx", "payer", "ender", "tom", "nameb", "makes", "gets", "giver", "kinds", "defs", "cases"]
@[simp high] theorem in_tk1 {t : Str} {neg : Bool} {k : M → Prop} : wpB (opIn neg (.dat (.str t)) (.dat (.tuple [.str "kind", .str "def", .str "to", .str "let", .str "make", .str "call"]))) ⟨k⟩ .mk ↔ k (.dat (.bool (if neg = true then !decide (t ∈ tk1) else decide (t ∈ tk1)))) :=
  in_strsT (R := tk1)
@[simp high] theorem in_tk2 {t : Str} {neg : Bool} {k : M → Prop} : wpB (opIn neg (.dat (.str t)) (.dat (.tuple [.str "name", .str "case", .str "end", .str "pay", .str "get", .str "give"]))) ⟨k⟩ .mk ↔ k (.dat (.bool (if neg = true then !decide (t ∈ tk2) else decide (t ∈ tk2)))) :=
  in_strsT (R := tk2)
theorem raw_cs {core : Str} {p t : Int} {k : Nat} (h0 : 0 ≤ p) (h1 : p ≤ core.length) : cs (raw core p t k) = (cs core).take p.toNat ++ (97 + ((t + 7 * k) % 26).toNat) :: ((cs core).drop p.toNat ++ List.replicate (k % 2) 120 ++ List.replicate (k / 26) 121) := by
  have hc : p ≤ (cs core).length := by rw [cs_len]; exact h1
  have ex : Str.ofString "x" = ⟨#[120]⟩ := by decide +kernel
  have ey : Str.ofString "y" = ⟨#[121]⟩ := by decide +kernel
  unfold raw
  rw [cs_app, cs_app, cs_app, cs_app, cs_cut, cs_cut, cutL_take h0 hc, cutL_drop h0 hc, cs_one, ex, ey, cs_rep, cs_rep]
  have e1 : ((k : Int) % 2).toNat = k % 2 := by omega
  have e2 : ((k : Int) / 26).toNat = k / 26 := by omega
  rw [e1, e2]
  simp [List.append_assoc]
theorem wq_cs {t : List Str} {x : Str} : ∃ q : List Nat, (q = [] ∨ q = [113]) ∧ cs (wq t x) = cs x ++ q := by
  unfold wq
  split
  · have eq : Str.ofString "q" = ⟨#[113]⟩ := by decide +kernel
    exact ⟨[113], .inr rfl, by rw [cs_app, eq, cs_one]⟩
  · exact ⟨[], .inl rfl, by simp⟩
theorem wq_tx {t : List Str} {x : Str} {n : Nat} (h : Tx n x) : Tx (n + 1) (wq t x) := by
  unfold wq
  split
  · exact h.app ⟨by decide +kernel, by decide +kernel⟩
  · exact h.mono (by omega)
theorem wfin_cs {core : Str} {p t : Int} {k : Nat} (h0 : 0 ≤ p) (h1 : p ≤ core.length) : ∃ q : List Nat, (q = [] ∨ q = [113] ∨ q = [113, 113]) ∧ cs (wfin core p t k) = (cs core).take p.toNat ++ (97 + ((t + 7 * k) % 26).toNat) :: ((cs core).drop p.toNat ++ List.replicate (k % 2) 120 ++ List.replicate (k / 26) 121 ++ q) := by
  unfold wfin
  obtain ⟨q1, h2, e1⟩ := wq_cs (t := tk1) (x := raw core p t k)
  obtain ⟨q2, h3, e2⟩ := wq_cs (t := tk2) (x := wq tk1 (raw core p t k))
  refine ⟨q1 ++ q2, ?_, ?_⟩
  · rcases h2 with rfl | rfl <;> rcases h3 with rfl | rfl <;> simp
  · rw [e2, e1, raw_cs h0 h1]
    simp [List.append_assoc]
theorem wfin_inj {core : Str} {p t : Int} {j k : Nat} (h0 : 0 ≤ p) (h1 : p ≤ core.length) (hj : j < 52) (hk : k < 52) (e : wfin core p t j = wfin core p t k) : j = k := by
  obtain ⟨q, hq, e1⟩ := wfin_cs (t := t) (k := j) h0 h1
  obtain ⟨q', hq', e2⟩ := wfin_cs (t := t) (k := k) h0 h1
  rw [e, e2] at e1
  have e3 := List.append_cancel_left e1
  injection e3 with e4 e5
  have hmod : j % 26 = k % 26 := by omega
  rw [List.append_assoc, List.append_assoc, List.append_assoc, List.append_assoc] at e5
  have e6 := List.append_cancel_left e5
  have hm2 : j % 2 = k % 2 := by omega
  rw [hm2] at e6
  have e7 := List.append_cancel_left e6
  have : j / 26 = k / 26 := by
    have a1 : j / 26 = 0 ∨ j / 26 = 1 := by omega
    have a2 : k / 26 = 0 ∨ k / 26 = 1 := by omega
    rcases a1 with a1 | a1 <;> rcases a2 with a2 | a2 <;> rw [a1, a2] at e7 ⊢ <;> rcases hq with rfl | rfl | rfl <;> rcases hq' with rfl | rfl | rfl <;> simp at e7
  omega
theorem raw_tx {core : Str} {p t : Int} {k : Nat} (hc : Tx 4 core) (hk : k < 52) (ht : 0 ≤ t) : Tx 11 (raw core p t k) := by
  have ex : Str.ofString "x" = ⟨#[120]⟩ := by decide +kernel
  have ey : Str.ofString "y" = ⟨#[121]⟩ := by decide +kernel
  have z1 := Tx.cut (lo := none) (hi := some p) hc
  have z2 := Tx.cut (lo := some p) (hi := none) hc
  have z3 : Tx 1 ⟨#[97 + ((t + 7 * k) % 26).toNat]⟩ := one_tx (by omega)
  have z4 : Tx 1 (repS (Str.ofString "x") ((k : Int) % 2)) := by rw [ex]; exact (rep_tx (by decide)).mono (by omega)
  have z5 : Tx 1 (repS (Str.ofString "y") ((k : Int) / 26)) := by rw [ey]; exact (rep_tx (by decide)).mono (by omega)
  exact (((z1.app z3).app z2).app z4).app z5
/-- letters only -/
def Lc (x : Str) : Prop := ∀ c ∈ cs x, 97 ≤ c ∧ c ≤ 122
/-- letters only, not empty -/
def Lw (x : Str) : Prop := cs x ≠ [] ∧ Lc x
theorem lc_join {a : Str} (ha : cs a = []) : ∀ {ys : List Str}, (∀ y ∈ ys, Lc y) → Lc (Str.join a ys)
  | [], _ => by
    intro c hc
    have : cs (Str.join a []) = [] := rfl
    rw [this] at hc
    cases hc
  | [x], h => h x List.mem_cons_self
  | x :: y :: r, h => by
    have e : Str.join a (x :: y :: r) = x ++ a ++ Str.join a (y :: r) := rfl
    intro c hc
    rw [e, cs_app, cs_app, ha, List.append_nil] at hc
    rcases List.mem_append.mp hc with z | z
    · exact h x List.mem_cons_self c z
    · exact lc_join ha (fun w hw => h w (List.mem_cons_of_mem _ hw)) c z
theorem wfin_lw {core : Str} {p t : Int} {k : Nat} (h0 : 0 ≤ p) (h1 : p ≤ core.length) (hl : Lc core) : Lw (wfin core p t k) := by
  obtain ⟨q, hq, e⟩ := wfin_cs (t := t) (k := k) h0 h1
  refine ⟨by rw [e]; simp, fun c hc => ?_⟩
  rw [e] at hc
  rcases List.mem_append.mp hc with z | z
  · exact hl c (List.mem_of_mem_take z)
  · rcases List.mem_cons.mp z with rfl | z
    · omega
    · rcases List.mem_append.mp z with z | z
      · rcases List.mem_append.mp z with z | z
        · rcases List.mem_append.mp z with z | z
          · exact hl c (List.mem_of_mem_drop z)
          · rw [List.eq_of_mem_replicate z]; omega
        · rw [List.eq_of_mem_replicate z]; omega
      · rcases hq with rfl | rfl | rfl <;> simp at z <;> omega
/-- n words, all unlike -/
def GW (n : Nat) (W : List Str) : Prop := W.length = n ∧ W.Nodup ∧ ∀ x ∈ W, Tx 13 x ∧ Lw x
theorem words_wp {d : Deal} {n : Nat} {Q : M → List M → Prop} {E : Xv → List M → Prop} (hn0 : 0 < n) (hn : n ≤ 52) (h : ∀ W d', GW n W → Q (lM .str W) [Deal.m d', .dat (.int n)]) : wpF f_law_words [d.m, .dat (.int n)] ⟨Q, E⟩ .mk := by
  have hz := line_big
  unfold f_law_words
  rw [wp_fn]
  refine ⟨⟨rfl, rfl⟩, ?_⟩
  unfold b_law_words
  simp
  refine draw_wp (by omega) (by omega) fun n1 d1 hn0 hn1 => ?_
  simp
  refine ⟨⟨by omega, by omega⟩, by omega, ?_⟩
  refine compGo_wp (fun acc ρ => ∃ ys d', acc = lMs PyData.str ys ∧ (∀ y ∈ ys, Tx 1 y ∧ Lc y) ∧ ρ = [some (Deal.m d'), some (.dat (.int n)), some (.dat (.str lowS)), none, none, none, none, none, none, none, none]) ⟨[], d1, rfl, by simp, rfl⟩ (fun dd hd acc ρ hI => ?_) (fun ms ρ1 hl hI => ?_)
  · obtain ⟨ys, d', rfl, hy, rfl⟩ := hI
    simp [-wp_ixS]
    refine draw_wp (by omega) (by omega) fun v d2 hv0 hv1 => ?_
    simp [-wp_ixS]
    rw [wp_ixS]
    refine ⟨low_ok.line, _, low_at hv0 hv1, ?_⟩
    have hc : Tx 1 ⟨#[97 + v.toNat]⟩ := one_tx (by omega)
    have hlc : Lc ⟨#[97 + v.toNat]⟩ := fun c hc => by
      rw [cs_one] at hc
      rw [List.mem_singleton.mp hc]
      omega
    simp
    exact ⟨ys ++ [⟨#[97 + v.toNat]⟩], by rw [lMs_snoc], fun y hy' => by
      rcases List.mem_append.mp hy' with z | z
      · exact hy y z
      · rw [List.mem_singleton.mp z]; exact ⟨hc, hlc⟩, d2, rfl, rfl, rfl⟩
  · obtain ⟨ys, d', rfl, hy, rfl⟩ := hI
    simp only [lMs_len, List.length_nil, rngD_len] at hl
    have hsum := sum_rep (ys := ys) (b := 1) fun y hy' => (hy y hy').1.1
    have e0 : (Str.ofString "").length = 0 := by decide +kernel
    have hj := join_len (a := Str.ofString "") (ys := ys)
    have hjo := join_ok (a := Str.ofString "") (by decide +kernel) fun y hy' => (hy y hy').1.2
    simp only [wp_nil, rds_cons, rds_nil, rd_val, Bool.or_self, true_and, restore_cons, restore_nil]
    simp [-List.map_map]
    have hcore : Tx 4 (Str.join (Str.ofString "") ys) := ⟨by rw [e0] at hj; omega, hjo⟩
    refine ⟨by rw [e0]; omega, hcore.line, draw_wp (by omega) (by have := hcore.1; omega) fun p d2 ha0 ha1 => ?_⟩
    have hlcore : Lc (Str.join (Str.ofString "") ys) := lc_join (by decide +kernel) fun y hy' => (hy y hy').2
    generalize Str.join (Str.ofString "") ys = core at *
    simp
    refine draw_wp (by omega) (by omega) fun t d3 ht0 ht1 => ?_
    simp [lM_nil (e := PyData.str)]
    refine ⟨by omega, ?_⟩
    unfold rngD
    refine for_ty (List.range n) (fun i => .int (0 + (i : Int))) (fun pr ρ => ∃ x7 x8 x9, ρ = [some (Deal.m d3), some (.dat (.int n)), some (.dat (.str lowS)), some (.dat (.str core)), some (.dat (.int p)), some (.dat (.int t)), some (lM .str (pr.map (wfin core p t))), x7, x8, x9, none]) ⟨none, none, none, rfl⟩ (fun pr k r e ρ hI J hJ => ?_) (fun ρ1 hI => ?_)
    · obtain ⟨x7, x8, x9, rfl⟩ := hI
      simp
      have hk : k < 52 := by
        have : k ∈ List.range n := by rw [e]; simp
        have := List.mem_range.mp this
        omega
      have ex : Str.ofString "x" = ⟨#[120]⟩ := by decide +kernel
      have ey : Str.ofString "y" = ⟨#[121]⟩ := by decide +kernel
      have eq : Tx 1 (Str.ofString "q") := ⟨by decide +kernel, by decide +kernel⟩
      have lx : (Str.ofString "x").length = 1 := by decide +kernel
      have ly : (Str.ofString "y").length = 1 := by decide +kernel
      have z1 := Tx.cut (lo := none) (hi := some p) hcore
      have z2 := Tx.cut (lo := some p) (hi := none) hcore
      have z3 : Tx 1 ⟨#[97 + ((t + 7 * k) % 26).toNat]⟩ := one_tx (by omega)
      have z4 : Tx 1 (repS (Str.ofString "x") ((k : Int) % 2)) := by rw [ex]; exact (rep_tx (by decide)).mono (by omega)
      have z5 : Tx 1 (repS (Str.ofString "y") ((k : Int) / 26)) := by rw [ey]; exact (rep_tx (by decide)).mono (by omega)
      have a1 := z1.app z3
      have a2 := a1.app z2
      have a3 := a2.app z4
      have a4 := a3.app z5
      have b1 := wq_tx (t := tk1) a4
      refine ⟨fits_small (by omega) (by omega) (by omega) (by omega), low_ok.line, _, low_at (by omega) (by omega), hcore.line, ?_⟩
      refine ⟨by have := z1.1; have := z3.1; omega, hcore.line, by have := a1.1; have := z2.1; omega, ⟨by omega, by omega, by rw [lx]; omega⟩, by have := a2.1; have := z4.1; omega, by decide, ⟨by omega, by omega, by rw [ly]; omega⟩, by have := a3.1; have := z5.1; omega, ?_⟩
      have hpl : pr.length < sizeLine := by
        have := congrArg List.length e
        simp at this
        omega
      have fin2 : ∀ w, w = wq tk1 (raw core p t k) → ∀ x8, (w ∉ tk2 → J [some (Deal.m d3), some (.dat (.int n)), some (.dat (.str lowS)), some (.dat (.str core)), some (.dat (.int p)), some (.dat (.int t)), some (lM .str (pr.map (wfin core p t) ++ [w])), some (.dat (.int k)), x8, some (.dat (.str w)), none]) ∧ (w ∈ tk2 → J [some (Deal.m d3), some (.dat (.int n)), some (.dat (.str lowS)), some (.dat (.str core)), some (.dat (.int p)), some (.dat (.int t)), some (lM .str (pr.map (wfin core p t) ++ [w ++ Str.ofString "q"])), some (.dat (.int k)), x8, some (.dat (.str (w ++ Str.ofString "q"))), none]) := fun w hw x8 => by
        subst hw
        constructor
        · intro hn
          have ef : wfin core p t k = wq tk1 (raw core p t k) := if_neg hn
          exact hJ _ ⟨_, _, _, by rw [List.map_append, List.map_cons, List.map_nil, ef]⟩
        · intro hn
          have ef : wfin core p t k = wq tk1 (raw core p t k) ++ Str.ofString "q" := if_pos hn
          exact hJ _ ⟨_, _, _, by rw [List.map_append, List.map_cons, List.map_nil, ef]⟩
      have hq1 := eq.1
      show if raw core p t k ∈ tk1 then _ else _
      by_cases hr : raw core p t k ∈ tk1
      · have ew : wq tk1 (raw core p t k) = raw core p t k ++ Str.ofString "q" := if_pos hr
        have f2 := fin2 (raw core p t k ++ Str.ofString "q") ew.symm
        rw [if_pos hr]
        refine ⟨by have := a4.1; omega, ?_⟩
        show if raw core p t k ++ Str.ofString "q" ∈ tk2 then _ else _
        have c1 : Tx 12 (raw core p t k ++ Str.ofString "q") := (show Tx 11 (raw core p t k) from a4).app eq
        have c2 := c1.1
        by_cases hr2 : raw core p t k ++ Str.ofString "q" ∈ tk2
        · rw [if_pos hr2]
          exact ⟨Nat.le_trans (Nat.add_le_add c2 hq1) (by omega), hpl, (f2 _).2 hr2⟩
        · rw [if_neg hr2]
          exact ⟨hpl, (f2 _).1 hr2⟩
      · have ew : wq tk1 (raw core p t k) = raw core p t k := if_neg hr
        have f2 := fin2 (raw core p t k) ew.symm
        rw [if_neg hr]
        show if raw core p t k ∈ tk2 then _ else _
        by_cases hr2 : raw core p t k ∈ tk2
        · rw [if_pos hr2]
          exact ⟨by have := a4.1; omega, hpl, (f2 _).2 hr2⟩
        · rw [if_neg hr2]
          exact ⟨hpl, (f2 _).1 hr2⟩
    · obtain ⟨x7, x8, x9, rfl⟩ := hI
      have hcl : p ≤ core.length := by omega
      have gw : GW n ((List.range n).map (wfin core p t)) := by
        refine ⟨by simp, ?_, ?_⟩
        · rw [List.nodup_iff_pairwise_ne, List.pairwise_map]
          have := List.nodup_range (n := n)
          rw [List.nodup_iff_pairwise_ne] at this
          exact List.Pairwise.imp_of_mem (fun ha hb hne he => hne (wfin_inj ha0 hcl (Nat.lt_of_lt_of_le (List.mem_range.mp ha) hn) (Nat.lt_of_lt_of_le (List.mem_range.mp hb) hn) he)) this
        · intro x hx
          obtain ⟨k, hk, rfl⟩ := List.mem_map.mp hx
          have hk := List.mem_range.mp hk
          exact ⟨wq_tx (wq_tx (raw_tx hcore (by omega) ht0)), wfin_lw ha0 hcl hlcore⟩
      generalize (List.range n).map (wfin core p t) = W at gw
      simp [-wp_ixL]
      refine (wp_addL (ds := nearL.take 6 |>.map PyData.str) (es := nearL.drop 6 |>.map PyData.str) rfl rfl).mpr ⟨by decide, ?_⟩
      simp [-wp_ixL]
      refine draw_wp (by omega) (by omega) fun v d4 hv0 hv1 => ?_
      simp [-wp_ixL]
      refine pick_wp (f := fun w => M.dat (.str w)) nearL rfl hv0 hv1 fun w hw st => ?_
      have hwt : Tx 13 w := by
        have : (nearL.all fun w => decide (w.length ≤ 13) && PyData.strOk w) = true := by decide +kernel
        have := List.all_eq_true.mp this w hw
        simp only [Bool.and_eq_true, decide_eq_true_eq] at this
        exact this
      have hwl : Lw w := by
        have : (nearL.all fun w => decide (cs w ≠ []) && (cs w).all fun c => decide (97 ≤ c ∧ c ≤ 122)) = true := by decide +kernel
        have := List.all_eq_true.mp this w hw
        simp only [Bool.and_eq_true, decide_eq_true_eq, List.all_eq_true] at this
        exact this
      simp [-wp_ixL]
      refine draw_wp (by omega) (by omega) fun v d5 hv0 hv1 => ?_
      simp [-wp_ixL]
      have hd : ∀ d, Q (lM .str W) [Deal.m d, .dat (.int n)] := fun d => h W d gw
      by_cases hv : v = 1
      · simp [hv]
        by_cases hwW : w ∈ W
        · simp [hwW]
          exact hd _
        · simp [hwW]
          refine draw_wp (by omega) (by omega) fun u d6 hu0 hu1 => ?_
          simp
          refine ⟨u.toNat, by rw [ixN_nat hu0 (by rw [gw.1]; exact hu1)], ?_⟩
          refine h _ _ ⟨by simpa using gw.1, nodup_set gw.2.1 hwW, fun x hx => ?_⟩
          rcases List.mem_or_eq_of_mem_set hx with z | rfl
          · exact gw.2.2 x z
          · exact ⟨hwt, hwl⟩
      · simp [hv]
        exact hd _
end PV

set_option Elab.async false
set_option linter.all false
set_option maxRecDepth 100000
namespace PV
open PySem DL PP
def mkNames (ks : List Kd) : List Str := ks.flatMap fun q => q.2.map (·.1)
/-- kinds good for all: names unlike, makers unlike, fields are kinds -/
structure GK (ks : List Kd) : Prop where
  nn : (names ks).Nodup
  mn : (mkNames ks).Nodup
  fi : FIn ks
  tx : ∀ q ∈ ks, Tx 13 q.1 ∧ ∀ m ∈ q.2, Tx 13 m.1
  l0 : 1 ≤ ks.length
  l1 : ks.length ≤ 6
  l2 : ∀ q ∈ ks, 1 ≤ q.2.length ∧ q.2.length ≤ 6
  l3 : ∀ q ∈ ks, ∀ m ∈ q.2, m.2.length ≤ 4
theorem GK.ok {ks : List Kd} (h : GK ks) : KOk ks := fun q hq => ⟨(h.tx q hq).1.2, fun m hm => ⟨((h.tx q hq).2 m hm).2, fun f hf => by
  obtain ⟨q', hq', e⟩ := List.mem_map.mp (h.fi q hq m hm f hf)
  rw [← e]
  exact (h.tx q' hq').1.2⟩⟩
theorem GK.mkOf_eq {ks p r : List Kd} {q : Kd} (h : GK ks) (e : ks = p ++ q :: r) : mkOf ks q.1 = q.2 := by
  have hn := h.nn
  rw [e] at hn
  simp only [names, List.map_append, List.map_cons] at hn
  rw [List.nodup_append] at hn
  rw [e, mkOf_skip (fun x hx hxe => hn.2.2 _ (List.mem_map.mpr ⟨x, hx, rfl⟩) _ List.mem_cons_self hxe), mkOf, if_pos rfl]
theorem GK.mkOf_mem {ks : List Kd} {q : Kd} (h : GK ks) (hq : q ∈ ks) : mkOf ks q.1 = q.2 := by
  obtain ⟨p, r, e⟩ := List.append_of_mem hq
  exact h.mkOf_eq e
structure Bd (W m : List Str) (many : Nat) (made : Nat) (ks : List Kd) : Prop where
  nm : names ks = W.take ks.length
  mn : mkNames ks = m.take made
  fi : ∀ q ∈ ks, ∀ x ∈ q.2, (∀ f ∈ x.2, f ∈ W.take many) ∧ x.2.length ≤ 4
  l2 : ∀ q ∈ ks, 1 ≤ q.2.length ∧ q.2.length ≤ 6
@[simp] theorem ixLM0 {α : Type} {e : α → PyData} {x : α} {xs : List α} {k : M × Stp → Prop} : wpB (ixK (lM e (x :: xs)) (.int 0)) ⟨k⟩ .mk ↔ k (.dat (e x), .ix 0) := by
  rw [wp_ixLM]
  rw [ixN_nat (by omega) (by simp only [List.length_cons]; omega)]
  simp
theorem nat_take_nodup {W : List Str} {n : Nat} (h : W.Nodup) : (W.take n).Nodup := h.sublist (List.take_sublist _ _)
/-- names of kinds and makers are words -/
def KW (ks : List Kd) (W : List Str) : Prop := ∀ q ∈ ks, q.1 ∈ W ∧ ∀ m ∈ q.2, m.1 ∈ W
theorem kinds_wp {d : Deal} {W : List Str} {Q : M → List M → Prop} {E : Xv → List M → Prop} (gw : GW 30 W) (h : ∀ ks d', GK ks → ks.length ≤ 3 → KW ks W → Q (.dat (eKds ks)) [Deal.m d', .dat (.list (W.map .str))]) : wpF f_law_kinds [d.m, .dat (.list (W.map .str))] ⟨Q, E⟩ .mk := by
  have hz := line_big
  have hW := gw.1
  unfold f_law_kinds
  rw [wp_fn]
  refine ⟨⟨rfl, rfl⟩, ?_⟩
  unfold b_law_kinds
  simp
  refine draw_wp (by omega) (by omega) fun form d1 hn0 hn1 => ?_
  simp
  obtain ⟨a, ha, _⟩ := atI_get (xs := W) (v := 0) (by omega) (by omega)
  obtain ⟨b, hb, _⟩ := atI_get (xs := W) (v := 1) (by omega) (by omega)
  refine ⟨.str a, ⟨a, ha, rfl⟩, .str b, ⟨b, hb, rfl⟩, ?_⟩
  have ea : W[0]? = some a := by rename_i h1 _; exact h1
  have eb : W[1]? = some b := by rename_i h1; exact h1
  rw [cutL_drop (by omega) (by omega), cutL_take (by omega) (by omega)]
  obtain ⟨m, hm⟩ : ∃ m, m = W.drop (Int.toNat 4) ++ W.take (Int.toNat 4) := ⟨_, rfl⟩
  have hml' : (W.drop (Int.toNat 4)).length + (W.take (Int.toNat 4)).length = m.length := by rw [hm, List.length_append]
  rw [← hm, hml']
  have hml : m.length = 30 := by rw [hm]; simp; omega
  have hmn : m.Nodup := by
    rw [hm]
    refine (List.Perm.nodup_iff ?_).mpr gw.2.1
    exact List.perm_append_comm.trans (by rw [List.take_append_drop])
  have hmW : ∀ x ∈ m, x ∈ W := fun x hx => by
    rw [hm] at hx
    rcases List.mem_append.mp hx with z | z
    · exact List.mem_of_mem_drop z
    · exact List.mem_of_mem_take z
  have hmo : ∀ x ∈ m, Tx 13 x := fun x hx => (gw.2.2 x (hmW x hx)).1
  clear hm hml'
  refine ⟨by omega, ?_⟩
  obtain ⟨m0, m1, m2, m3, mr, rfl⟩ : ∃ m0 m1 m2 m3 mr, m = m0 :: m1 :: m2 :: m3 :: mr := by
    match m, hml with
    | m0 :: m1 :: m2 :: m3 :: mr, _ => exact ⟨m0, m1, m2, m3, mr, rfl⟩
  have t0 := hmo m0 (by simp)
  have t1 := hmo m1 (by simp)
  have t2 := hmo m2 (by simp)
  have t3 := hmo m3 (by simp)
  have ta := (gw.2.2 a (List.mem_of_getElem? ea)).1
  have tb := (gw.2.2 b (List.mem_of_getElem? eb)).1
  have wa := List.mem_of_getElem? ea
  have wb := List.mem_of_getElem? eb
  have w0 := hmW m0 (by simp)
  have w1 := hmW m1 (by simp)
  have w2 := hmW m2 (by simp)
  have w3 := hmW m3 (by simp)
  have hab : a ≠ b := by
    intro e
    have hn := gw.2.1
    match W, hW with
    | w0 :: w1 :: wr, _ =>
      simp at ea eb
      rw [List.nodup_cons] at hn
      exact hn.1 (by rw [ea, eb, e]; simp)
  have hd := hmn
  simp only [List.nodup_cons, List.mem_cons, not_or] at hd
  obtain ⟨⟨d01, d02, d03, _⟩, ⟨d12, d13, _⟩, ⟨d23, _⟩, _⟩ := hd
  have e0 : L2.ixN (m0 :: m1 :: m2 :: m3 :: mr).length 0 = some 0 := by rw [ixN_nat (by omega) (by omega)]; rfl
  have e1 : L2.ixN (m0 :: m1 :: m2 :: m3 :: mr).length 1 = some 1 := by rw [ixN_nat (by omega) (by omega)]; rfl
  have e2 : L2.ixN (m0 :: m1 :: m2 :: m3 :: mr).length 2 = some 2 := by rw [ixN_nat (by omega) (by omega)]; rfl
  have e3 : L2.ixN (m0 :: m1 :: m2 :: m3 :: mr).length 3 = some 3 := by rw [ixN_nat (by omega) (by omega)]; rfl
  rw [e0, e1, e2, e3]
  simp only [Option.some.injEq, exists_eq_left', List.getElem?_cons_zero, List.getElem?_cons_succ]
  have gk0 : GK [(a, [(m0, []), (m1, [a])])] := ⟨by simp [-Prod.forall, names], by simp [-Prod.forall, mkNames, d01], by simp [-Prod.forall, FIn, names], by simp [-Prod.forall, ta, t0, t1], by simp [-Prod.forall], by simp [-Prod.forall], by simp [-Prod.forall], by simp [-Prod.forall]⟩
  have gk1 : GK [(a, [(m0, []), (m1, [a]), (m2, [a])])] := ⟨by simp [-Prod.forall, names], by simp [-Prod.forall, mkNames, d01, d02, d12], by simp [-Prod.forall, FIn, names], by simp [-Prod.forall, ta, t0, t1, t2], by simp [-Prod.forall], by simp [-Prod.forall], by simp [-Prod.forall], by simp [-Prod.forall]⟩
  have gk2 : GK [(a, [(m0, []), (m1, [])]), (b, [(m2, []), (m3, [a, b])])] := ⟨by simp [-Prod.forall, names, hab], by simp [-Prod.forall, mkNames, d01, d02, d12, d03, d13, d23], by simp [-Prod.forall, FIn, names], by simp [-Prod.forall, ta, tb, t0, t1, t2, t3], by simp [-Prod.forall], by simp [-Prod.forall], by simp [-Prod.forall], by simp [-Prod.forall]⟩
  have gk3 : GK [(a, [(m0, []), (m1, [a, a])])] := ⟨by simp [-Prod.forall, names], by simp [-Prod.forall, mkNames, d01], by simp [-Prod.forall, FIn, names], by simp [-Prod.forall, ta, t0, t1], by simp [-Prod.forall], by simp [-Prod.forall], by simp [-Prod.forall], by simp [-Prod.forall]⟩
  have gk4 : GK [(a, [(m0, []), (m1, [b])]), (b, [(m2, [a])])] := ⟨by simp [-Prod.forall, names, hab], by simp [-Prod.forall, mkNames, d01, d02, d12], by simp [-Prod.forall, FIn, names], by simp [-Prod.forall, ta, tb, t0, t1, t2], by simp [-Prod.forall], by simp [-Prod.forall], by simp [-Prod.forall], by simp [-Prod.forall]⟩
  by_cases f0 : form = 0
  · rw [if_pos f0]
    exact h _ d1 gk0 (by simp) (by simp [-Prod.forall, KW, wa, wb, w0, w1, w2, w3])
  rw [if_neg f0]
  by_cases f1 : form = 1
  · rw [if_pos f1]
    exact h _ d1 gk1 (by simp) (by simp [-Prod.forall, KW, wa, wb, w0, w1, w2, w3])
  rw [if_neg f1]
  by_cases f2 : form = 2
  · rw [if_pos f2]
    exact h _ d1 gk2 (by simp) (by simp [-Prod.forall, KW, wa, wb, w0, w1, w2, w3])
  rw [if_neg f2]
  by_cases f3 : form = 3
  · rw [if_pos f3]
    exact h _ d1 gk3 (by simp) (by simp [-Prod.forall, KW, wa, wb, w0, w1, w2, w3])
  rw [if_neg f3]
  by_cases f4 : form = 4
  · rw [if_pos f4]
    exact h _ d1 gk4 (by simp) (by simp [-Prod.forall, KW, wa, wb, w0, w1, w2, w3])
  rw [if_neg f4]
  clear gk0 gk1 gk2 gk3 gk4 e0 e1 e2 e3
  generalize (m0 :: m1 :: m2 :: m3 :: mr) = m at *
  refine draw_wp (by omega) (by omega) fun many d2 h20 h21 => ?_
  simp [-wp_ixLM, -wp_ixL]
  refine ⟨⟨by omega, by omega⟩, ?_⟩
  obtain ⟨mm, hmm⟩ : ∃ mm, mm = Int.toNat (1 + many) := ⟨_, rfl⟩
  have hmany : mm ≤ 3 := by omega
  rw [← hmm]
  unfold rngD
  refine for_ty (List.range mm) (fun i => .int (0 + (i : Int))) (fun pr ρ => ∃ ks d' made x9 x10 x11 x12 x13 x14, Bd W m mm made ks ∧ ks.length = pr.length ∧ made ≤ 6 * pr.length ∧
    ρ = [some (Deal.m d'), some (.dat (.list (W.map .str))), some (.dat (.int form)), some (.dat (.str a)), some (.dat (.str b)), some (lM .str m), some (lM eKd ks), some (.dat (.int (1 + many))), some (.dat (.int (made : Nat))), x9, x10, x11, x12, x13, x14])
    ⟨[], d2, 0, none, none, none, none, none, none, ⟨rfl, rfl, by simp, by simp⟩, rfl, by simp, rfl⟩ (fun pr k r e ρ hI J hJ => ?_) (fun ρ1 hI => ?_)
  · obtain ⟨ks, d', made, x9, x10, x11, x12, x13, x14, bd, kl, ml, rfl⟩ := hI
    simp [-wp_ixLM, -wp_ixL]
    have hk : k < mm := by
      have : k ∈ List.range mm := by rw [e]; simp
      exact List.mem_range.mp this
    have hkp : pr.length = k := by
      have h1 : (List.range mm)[pr.length]? = some k := by rw [e]; simp
      rw [List.getElem?_range (by have := congrArg List.length e; simp at this; omega)] at h1
      exact Option.some.inj h1
    have hpick : ∀ c : Int, (c = 0 ∨ c = 1) → True := fun _ _ => trivial
    refine pick_wp (f := fun i => M.dat (.int i)) [3, 6] rfl (by split <;> omega) (by split <;> simp) fun lim hlim st => ?_
    have hlim' : 3 ≤ lim ∧ lim ≤ 6 := by simp at hlim; omega
    try simp [-wp_ixLM, -wp_ixL]
    refine draw_wp (by omega) (by omega) fun jm d7 h60 h61 => ?_
    simp [-wp_ixLM, -wp_ixL]
    refine ⟨⟨by omega, by omega⟩, ?_⟩
    refine for_ty (List.range (Int.toNat (1 + jm))) (fun i => .int (0 + (i : Int))) (fun pr2 ρ => ∃ ms : List Mkr, ∃ d' x11 x12 x13 x14, ms.length = pr2.length ∧ ms.map (·.1) = (m.drop made).take ms.length ∧ (∀ x ∈ ms, (∀ f ∈ x.2, f ∈ W.take mm) ∧ x.2.length ≤ 4) ∧
      ρ = [some (Deal.m d'), some (.dat (.list (W.map .str))), some (.dat (.int form)), some (.dat (.str a)), some (.dat (.str b)), some (lM .str m), some (lM eKd ks), some (.dat (.int (1 + many))), some (.dat (.int ((made + ms.length : Nat) : Int))), some (.dat (.int k)), some (lM eMk ms), x11, x12, x13, x14])
      ⟨[], d7, x11, x12, x13, x14, rfl, by simp, by simp, rfl⟩ (fun pr2 j r2 e2 ρ hI J2 hJ2 => ?_) (fun ρ1 hI => ?_)
    · obtain ⟨ms, d', x11, x12, x13, x14, ml2, mn2, mf2, rfl⟩ := hI
      have hj : pr2.length < 6 := by
        have := congrArg List.length e2
        simp at this
        omega
      have hmk : made + ms.length < 30 := by omega
      simp [-wp_ixLM, -wp_ixL]
      refine draw_wp (by omega) (by omega) fun fn d8 h70 h71 => ?_
      simp [-wp_ixLM, -wp_ixL]
      refine pick_wp (f := fun i => M.dat (.int i)) [3, 3, 5] rfl h70 h71 fun wid hwid st => ?_
      have hwid' : 3 ≤ wid ∧ wid ≤ 5 := by simp at hwid; omega
      try simp [-wp_ixLM, -wp_ixL]
      refine draw_wp (by omega) (by omega) fun wd d9 h80 h81 => ?_
      simp [-wp_ixLM, -wp_ixL]
      obtain ⟨wv, hwv⟩ : ∃ wv : Int, wv = wd * (if (0 : Int) < k + j then 1 else 0) := ⟨_, rfl⟩
      have hw0 : 0 ≤ wv := by rw [hwv]; split <;> omega
      have hw4 : wv ≤ 4 := by rw [hwv]; split <;> omega
      have hft : fitsMul wd (if (0 : Int) < k + j then 1 else 0) = true := fits_small (by omega) (by omega) (by split <;> omega) (by split <;> omega)
      rw [← hwv]
      refine ⟨hft, ⟨by omega, by omega⟩, by omega, ?_⟩
      refine compGo_wp (fun acc ρ => ∃ fs : List Str, ∃ d', acc = lMs PyData.str fs ∧ (∀ y ∈ fs, y ∈ W.take mm) ∧ ρ = [some (Deal.m d'), some (.dat (.list (W.map .str))), some (.dat (.int form)), some (.dat (.str a)), some (.dat (.str b)), some (lM .str m), some (lM eKd ks), some (.dat (.int (1 + many))), some (.dat (.int ((made + ms.length : Nat) : Int))), some (.dat (.int k)), some (lM eMk ms), some (.dat (.int j)), some (.dat (.int wv)), x13, none]) ⟨[], d9, rfl, by simp, by simp⟩ (fun dd hd acc ρ hI => ?_) (fun ms3 ρ1 hl3 hI => ?_)
      · obtain ⟨fs, d', rfl, hy, rfl⟩ := hI
        simp [-wp_ixLM, -wp_ixL]
        refine draw_wp (by omega) (by omega) fun v d9 h80 h81 => ?_
        obtain ⟨w, hw1, hw2⟩ := atI_get (xs := W) h80 (by rw [hW]; omega)
        simp [-wp_ixLM, -wp_ixL, hw1]
        refine ⟨fs ++ [w], by rw [lMs_snoc], fun y hy' => ?_, d9, rfl, rfl, rfl⟩
        rcases List.mem_append.mp hy' with z | z
        · exact hy y z
        · rw [List.mem_singleton.mp z]
          exact List.mem_of_getElem? (i := v.toNat) (by rw [List.getElem?_take, if_pos (by omega)]; exact hw2)
      · obtain ⟨fs, d', rfl, hy, rfl⟩ := hI
        simp only [lMs_len, List.length_nil, rngD_len] at hl3
        have hfl : fs.length ≤ 4 := by omega
        obtain ⟨x, hx1⟩ : ∃ x, m[made + ms.length]? = some x := ⟨_, List.getElem?_eq_getElem (by omega)⟩
        have hix : L2.ixN m.length ((made : Int) + (ms.length : Int)) = some (made + ms.length) := by rw [ixN_nat (by omega) (by omega)]; congr 1
        have hms : ms.length < sizeLine := by omega
        simp [hix, hx1, hms]
        refine hJ2 _ ⟨ms ++ [(x, fs)], d', some (.dat (.int j)), some (.dat (.int wv)), some (lM .str fs), dOnly x14, by simp [ml2], ?_, ?_, ?_⟩
        · rw [List.map_append, mn2, List.length_append, List.length_singleton, List.take_add_one, List.getElem?_drop, hx1]
          rfl
        · intro y hy'
          rcases List.mem_append.mp hy' with z | z
          · exact mf2 y z
          · rw [List.mem_singleton.mp z]; exact ⟨hy, hfl⟩
        · rw [← lM_snoc]
          rw [List.length_append, List.length_singleton]
          push_cast
          rw [Int.add_assoc]
          rfl
    · obtain ⟨ms, d', x11, x12, x13, x14, ml2, mn2, mf2, rfl⟩ := hI
      simp [-wp_ixLM, -wp_ixL]
      obtain ⟨w, hw1, hw2⟩ := atI_get (xs := W) (v := k) (by omega) (by rw [hW]; omega)
      refine ⟨.str w, ⟨w, hw1, rfl⟩, by omega, ?_⟩
      have hml6 : 1 ≤ ms.length ∧ ms.length ≤ 6 := by rw [ml2, List.length_range]; omega
      refine hJ _ ⟨ks ++ [(w, ms)], d', made + ms.length, _, _, _, _, _, _, ⟨?_, ?_, ?_, ?_⟩, by simp [kl], by simp; omega, by rw [← lM_snoc]; rfl⟩
      · have := bd.nm
        unfold names at this ⊢
        rw [List.map_append, this, List.length_append, List.length_singleton, List.take_add_one]
        have : W[ks.length]? = some w := by rw [kl, hkp]; exact hw2
        rw [this]
        rfl
      · have := bd.mn
        unfold mkNames at this ⊢
        rw [List.flatMap_append, this, List.take_add, List.flatMap_cons, List.flatMap_nil, List.append_nil, mn2]
      · intro q hq y hy
        rcases List.mem_append.mp hq with z | z
        · exact bd.fi q z y hy
        · rw [List.mem_singleton.mp z] at hy
          exact mf2 y hy
      · intro q hq
        rcases List.mem_append.mp hq with z | z
        · exact bd.l2 q z
        · rw [List.mem_singleton.mp z]; exact hml6
  · obtain ⟨ks, d', made, x9, x10, x11, x12, x13, x14, bd, kl, ml, rfl⟩ := hI
    simp
    rw [List.length_range] at kl ml
    have nW : (names ks).Nodup := by rw [bd.nm]; exact nat_take_nodup gw.2.1
    refine h ks d' ⟨nW, by rw [bd.mn]; exact nat_take_nodup hmn, fun q hq x hx f hf => ?_, fun q hq => ⟨?_, fun x hx => ?_⟩, by omega, by omega, bd.l2, fun q hq x hx => (bd.fi q hq x hx).2⟩ (by omega) (fun q hq => ⟨?_, fun x hx => ?_⟩)
    · rw [bd.nm, kl]
      exact (bd.fi q hq x hx).1 f hf
    · have : q.1 ∈ names ks := List.mem_map.mpr ⟨q, hq, rfl⟩
      rw [bd.nm] at this
      exact (gw.2.2 _ (List.mem_of_mem_take this)).1
    · have : x.1 ∈ mkNames ks := List.mem_flatMap.mpr ⟨q, hq, List.mem_map.mpr ⟨x, hx, rfl⟩⟩
      rw [bd.mn] at this
      exact hmo _ (List.mem_of_mem_take this)
    · have : q.1 ∈ names ks := List.mem_map.mpr ⟨q, hq, rfl⟩
      rw [bd.nm] at this
      exact List.mem_of_mem_take this
    · have : x.1 ∈ mkNames ks := List.mem_flatMap.mpr ⟨q, hq, List.mem_map.mpr ⟨x, hx, rfl⟩⟩
      rw [bd.mn] at this
      exact hmW _ (List.mem_of_mem_take this)
end PV

set_option Elab.async false
set_option linter.all false
set_option maxRecDepth 100000
/-! DNd: least sizes, values. -/
namespace PV
open PySem DL PP
def vI (n : Nat) : M := .dat (.int n)
def bd : Nat → Nat
  | 0 => 0
  | n + 1 => 1 + 4 * bd n
theorem bd_mono {n m : Nat} (h : n ≤ m) : bd n ≤ bd m := by
  induction h with
  | refl => exact Nat.le_refl _
  | step _ ih => rw [bd]; omega
/-- least sizes found so far: each is met by a maker -/
structure LI (ks : List Kd) (N : List Str) (g : Str → Nat) : Prop where
  nd : N.Nodup
  up : ∀ x ∈ N, x ∈ names ks
  lo : ∀ x ∈ N, 1 ≤ g x ∧ g x ≤ bd N.length
  wit : ∀ x ∈ N, ∃ m ∈ mkOf ks x, (∀ f ∈ m.2, f ∈ N) ∧ 1 + (m.2.map g).sum ≤ g x
theorem sum_le_map {f g : Str → Nat} : ∀ {l : List Str}, (∀ x ∈ l, f x ≤ g x) → (l.map f).sum ≤ (l.map g).sum
  | [], _ => Nat.le_refl _
  | x :: l, h => by
    rw [List.map_cons, List.map_cons, List.sum_cons, List.sum_cons]
    exact Nat.add_le_add (h x List.mem_cons_self) (sum_le_map fun y hy => h y (List.mem_cons_of_mem _ hy))
theorem mem_le_sum {g : Str → Nat} {x : Str} : ∀ {l : List Str}, x ∈ l → g x ≤ (l.map g).sum
  | [], h => by cases h
  | y :: l, h => by
    rw [List.map_cons, List.sum_cons]
    rcases List.mem_cons.mp h with rfl | h
    · omega
    · have := mem_le_sum (g := g) h; omega
theorem sum_bound {g : Str → Nat} {b : Nat} : ∀ {l : List Str}, (∀ x ∈ l, g x ≤ b) → (l.map g).sum ≤ l.length * b
  | [], _ => by simp
  | y :: l, h => by
    have h1 := h y List.mem_cons_self
    have h2 := sum_bound (g := g) (b := b) (l := l) fun x hx => h x (List.mem_cons_of_mem _ hx)
    rw [List.map_cons, List.sum_cons, List.length_cons, Nat.add_mul]
    omega
def newL (N : List Str) (g : Str → Nat) (k : Str) (many : Nat) : Nat := if k ∈ N then min (g k) many else many
theorem LI.step {ks : List Kd} {N : List Str} {g : Str → Nat} {k : Str} {m : Mkr} (h : LI ks N g) (hk : k ∈ names ks) (hm : m ∈ mkOf ks k) (hf : ∀ f ∈ m.2, f ∈ N) (hl : m.2.length ≤ 4) : LI ks (addS N k) (fupd g k (newL N g k (1 + (m.2.map g).sum))) := by
  obtain ⟨nv, hnv⟩ : ∃ nv, nv = newL N g k (1 + (m.2.map g).sum) := ⟨_, rfl⟩
  rw [← hnv]
  have hnl : nv ≤ 1 + (m.2.map g).sum := by rw [hnv]; unfold newL; split <;> omega
  have hold : k ∈ N → nv ≤ g k := fun z => by rw [hnv]; unfold newL; rw [if_pos z]; omega
  have le : ∀ x ∈ N, fupd g k nv x ≤ g x := fun x hx => by
    by_cases e : x = k
    · subst e; rw [fupd_self]; exact hold hx
    · rw [fupd_ne e]; exact Nat.le_refl _
  have hsb : (m.2.map g).sum ≤ 4 * bd N.length := Nat.le_trans (sum_bound fun x hx => (h.lo x (hf x hx)).2) (Nat.mul_le_mul_right _ hl)
  have hpos : 1 ≤ nv := by
    rw [hnv]; unfold newL
    split
    · rename_i z; have := (h.lo k z).1; omega
    · omega
  have hln : N.length ≤ (addS N k).length := by unfold addS; split <;> simp
  have hpow : bd N.length ≤ bd (addS N k).length := bd_mono hln
  refine ⟨nodup_addS h.nd, fun x hx => ?_, fun x hx => ?_, fun x hx => ?_⟩
  · rcases mem_addS.mp hx with z | rfl
    · exact h.up x z
    · exact hk
  · by_cases e : x = k
    · subst e
      rw [fupd_self]
      refine ⟨hpos, ?_⟩
      by_cases z : x ∈ N
      · exact Nat.le_trans (hold z) (Nat.le_trans (h.lo x z).2 hpow)
      · have : (addS N x).length = N.length + 1 := by unfold addS; rw [if_neg z]; simp
        rw [this, bd]
        omega
    · rw [fupd_ne e]
      have hxN : x ∈ N := (mem_addS.mp hx).resolve_right e
      exact ⟨(h.lo x hxN).1, Nat.le_trans (h.lo x hxN).2 hpow⟩
  · by_cases e : x = k
    · subst e
      rw [fupd_self]
      by_cases c : nv = 1 + (m.2.map g).sum
      · refine ⟨m, hm, fun f hf' => mem_addS.mpr (.inl (hf f hf')), ?_⟩
        have := sum_le_map (l := m.2) (f := fupd g x nv) (g := g) fun y hy => le y (hf y hy)
        omega
      · have hxN : x ∈ N := by
          by_cases z : x ∈ N
          · exact z
          · rw [hnv] at c; unfold newL at c; rw [if_neg z] at c; exact absurd rfl c
        have hg : nv = g x := by
          rw [hnv] at c ⊢
          unfold newL at c ⊢
          rw [if_pos hxN] at c ⊢
          omega
        obtain ⟨m', h1, h2, h3⟩ := h.wit x hxN
        refine ⟨m', h1, fun f hf' => mem_addS.mpr (.inl (h2 f hf')), ?_⟩
        have := sum_le_map (l := m'.2) (f := fupd g x nv) (g := g) fun y hy => le y (h2 y hy)
        omega
    · have hxN : x ∈ N := (mem_addS.mp hx).resolve_right e
      obtain ⟨m', h1, h2, h3⟩ := h.wit x hxN
      rw [fupd_ne e]
      refine ⟨m', h1, fun f hf' => mem_addS.mpr (.inl (h2 f hf')), ?_⟩
      have := sum_le_map (l := m'.2) (f := fupd g k nv) (g := g) fun y hy => le y (h2 y hy)
      omega
def Zr (N : List Str) (p : List Kd) : Prop := ∀ q ∈ p, ∀ m ∈ q.2, m.2 = [] → q.1 ∈ N
def Zi (N : List Str) (k : Str) (p : List Mkr) : Prop := ∀ m ∈ p, m.2 = [] → k ∈ N
theorem Zr.add {N : List Str} {k : Str} {p : List Kd} (h : Zr N p) : Zr (addS N k) p := fun q hq m hm e => mem_addS.mpr (.inl (h q hq m hm e))
theorem Zi.add {N : List Str} {k : Str} {p : List Mkr} : Zi (addS N k) k p := fun _ _ _ => mem_addS.mpr (.inr rfl)
theorem Zr.snoc {N : List Str} {p : List Kd} {q : Kd} (h : Zr N p) (h2 : Zi N q.1 q.2) : Zr N (p ++ [q]) := fun x hx => by
  rcases List.mem_append.mp hx with z | z
  · exact h x z
  · rw [List.mem_singleton.mp z]; exact h2
theorem Zi.skip {N : List Str} {k : Str} {p : List Mkr} {m : Mkr} (h : Zi N k p) (h2 : ¬ ∀ f ∈ m.2, f ∈ N) : Zi N k (p ++ [m]) := fun x hx e => by
  rcases List.mem_append.mp hx with z | z
  · exact h x z e
  · rw [List.mem_singleton.mp z] at e
    rw [e] at h2
    exact absurd (by simp) h2
theorem leasts_wp {ks : List Kd} {Q : M → List M → Prop} {E : Xv → List M → Prop} (gk : GK ks) (h : ∀ N g, LI ks N g → Zr N ks → Q (dkM M.dat N fun x => .int (g x : Nat)) [.dat (eKds ks)]) :
    wpF f_law_leasts [.dat (eKds ks)] ⟨Q, E⟩ .mk := by
  have hz := line_big
  have hl1 := gk.l1
  unfold f_law_leasts
  rw [wp_fn]
  refine ⟨⟨rfl, rfl⟩, ?_⟩
  unfold b_law_leasts
  simp [eKds]
  refine ⟨⟨by omega, by omega⟩, ?_⟩
  have st0 : M.dk [] [] = dkM M.dat [] (fun x => .int ((fun _ : Str => (0 : Nat)) x : Nat)) := rfl
  rw [st0]
  unfold rngD
  refine for_ty (List.range (Int.toNat (ks.length + 1))) (fun i => .int (0 + (i : Int))) (fun pr ρ => ∃ N g x2 x3 x4 x5 x6 x7 x8, LI ks N g ∧ (pr ≠ [] → Zr N ks) ∧ ρ = [some (.dat (eKds ks)), some (dkM M.dat N fun x => .int (g x : Nat)), x2, x3, x4, x5, x6, x7, x8]) ⟨[], fun _ => 0, none, none, none, none, none, none, none, ⟨List.nodup_nil, by simp, by simp, by simp⟩, by simp, rfl⟩ (fun pr kk rr ee ρ hI J hJ => ?_) (fun ρ1 hI => ?_)
  · obtain ⟨N, g, x2, x3, x4, x5, x6, x7, x8, li, _, rfl⟩ := hI
    simp [eKds]
    refine for_ty ks eKd (fun p ρ => ∃ N g x2 x3 x4 x5 x6 x7 x8, LI ks N g ∧ Zr N p ∧ ρ = [some (.dat (eKds ks)), some (dkM M.dat N fun x => .int (g x : Nat)), x2, x3, x4, x5, x6, x7, x8]) ⟨N, g, _, x3, x4, x5, x6, x7, x8, li, (fun _ h => by cases h), rfl⟩ (fun p q r e ρ hI J2 hJ2 => ?_) (fun ρ1 hI => by obtain ⟨N, g, x2, x3, x4, x5, x6, x7, x8, li, zr, rfl⟩ := hI; exact hJ _ ⟨N, g, x2, x3, x4, x5, x6, x7, x8, li, fun _ => zr, rfl⟩)
    obtain ⟨N, g, x2, x3, x4, x5, x6, x7, x8, li, zr, rfl⟩ := hI
    have hq : q ∈ ks := by rw [e]; simp
    have hqn : q.1 ∈ names ks := List.mem_map.mpr ⟨q, hq, rfl⟩
    simp [eKd, eMks]
    refine for_ty q.2 eMk (fun p2 ρ => ∃ N g x5 x6 x7 x8, LI ks N g ∧ Zr N p ∧ Zi N q.1 p2 ∧ ρ = [some (.dat (eKds ks)), some (dkM M.dat N fun x => .int (g x : Nat)), x2, some (.dat (.str q.1)), some (.dat (eMks q.2)), x5, x6, x7, x8]) ⟨N, g, x5, x6, x7, x8, li, zr, (fun _ h => by cases h), rfl⟩ (fun p2 m r2 e2 ρ hI J3 hJ3 => ?_) (fun ρ1 hI => ?_)
    · obtain ⟨N, g, x5, x6, x7, x8, li, zr, zi, rfl⟩ := hI
      have hm : m ∈ q.2 := by rw [e2]; simp
      have hl3 := gk.l3 q hq m hm
      simp [eMk, eStrs]
      refine ⟨by omega, comp_map m.2 PyData.str (fun f => some (decide (f ∈ N))) .bool (fun f hf => ?_) ?_⟩
      · simp
      simp [-List.map_map]
      by_cases hall : ∀ f ∈ m.2, f ∈ N
      · rw [if_pos hall]
        refine ⟨by omega, comp_map m.2 PyData.str (fun f => some ((g f : Nat) : Int)) .int (fun f hf => ?_) ?_⟩
        · simp [hall f hf]
        have hmk : m ∈ mkOf ks q.1 := by rw [gk.mkOf_mem hq]; exact hm
        have st := li.step hqn hmk hall hl3
        have nN : N.length ≤ ks.length := by
          have := subset_len li.nd li.up
          simpa [names] using this
        have put := fun (nv : Nat) (k : M → Prop) => put_dkM (v := M.dat) (g := fun x => PyData.int (g x : Nat)) (x := q.1) (b := .int (nv : Nat)) (k := k) li.nd
        have fu := fun nv : Nat => show fupd (fun x => PyData.int (g x : Nat)) q.1 (.int (nv : Nat)) = fun x => .int (fupd g q.1 nv x : Nat) from by
          funext y
          unfold fupd
          split <;> rfl
        rcases Classical.propComplete (q.1 ∈ N) with hc | hc
        · have hc' : q.1 ∈ N := by rw [hc]; trivial
          have env : newL N g q.1 (1 + (m.2.map g).sum) = min (g q.1) (1 + (m.2.map g).sum) := if_pos hc'
          have ec : min ((g q.1 : Nat) : Int) (1 + ((m.2.map g).sum : Nat)) = ((min (g q.1) (1 + (m.2.map g).sum) : Nat) : Int) := by omega
          rw [env] at st
          simp [sum_cast, -List.map_map, hc]
          rw [ec, put, fu]
          refine ⟨by omega, ?_⟩
          exact hJ3 _ ⟨_, _, _, _, _, _, st, zr.add, Zi.add, rfl⟩
        · have hc' : q.1 ∉ N := by rw [hc]; exact id
          have env : newL N g q.1 (1 + (m.2.map g).sum) = 1 + (m.2.map g).sum := if_neg hc'
          have ec : (1 + ((m.2.map g).sum : Nat) : Int) = ((1 + (m.2.map g).sum : Nat) : Int) := by omega
          rw [env] at st
          simp [sum_cast, -List.map_map, hc]
          rw [ec, put, fu]
          refine ⟨by omega, ?_⟩
          exact hJ3 _ ⟨_, _, _, _, _, _, st, zr.add, Zi.add, rfl⟩
      · rw [if_neg hall]
        exact hJ3 _ ⟨N, g, _, _, _, _, li, zr, zi.skip hall, rfl⟩
    · obtain ⟨N, g, x5, x6, x7, x8, li, zr, zi, rfl⟩ := hI
      exact hJ2 _ ⟨N, g, _, _, _, _, _, _, _, li, zr.snoc zi, rfl⟩
  · obtain ⟨N, g, x2, x3, x4, x5, x6, x7, x8, li, zr, rfl⟩ := hI
    simp
    refine h N g li (zr fun e => ?_)
    have := congrArg List.length e
    rw [List.length_range] at this
    simp at this
end PV

set_option Elab.async false
set_option linter.all false
set_option maxRecDepth 100000
/-! DNe: values. -/
namespace PV
open PySem DL PP
inductive Va where
  | mk (m : Str) (ps : List Va)
mutual
def eVa : Va → PyData
  | .mk m ps => .tuple [.str m, .tuple (eVas ps)]
def eVas : List Va → List PyData
  | [] => []
  | v :: vs => eVa v :: eVas vs
end
mutual
def sz : Va → Nat
  | .mk _ ps => 1 + szs ps
def szs : List Va → Nat
  | [] => 0
  | v :: vs => sz v + szs vs
end
theorem eVas_map : ∀ {vs : List Va}, eVas vs = vs.map eVa
  | [] => by rw [eVas]; rfl
  | v :: vs => by rw [eVas, eVas_map]; rfl
theorem eVa_mk {m : Str} {ps : List Va} : eVa (.mk m ps) = .tuple [.str m, .tuple (ps.map eVa)] := by rw [eVa, eVas_map]
theorem szs_snoc {v : Va} : ∀ {vs : List Va}, szs (vs ++ [v]) = szs vs + sz v
  | [] => by rw [List.nil_append, szs, szs, szs]; omega
  | w :: vs => by rw [List.cons_append, szs, szs_snoc, szs]; omega
mutual
/-- a value of a kind -/
inductive Wf (ks : List Kd) : Str → Va → Prop
  | mk {k m : Str} {fs : List Str} {ps : List Va} : (m, fs) ∈ mkOf ks k → Wfs ks fs ps → Wf ks k (.mk m ps)
inductive Wfs (ks : List Kd) : List Str → List Va → Prop
  | nil : Wfs ks [] []
  | cons {f : Str} {fs : List Str} {v : Va} {vs : List Va} : Wf ks f v → Wfs ks fs vs → Wfs ks (f :: fs) (v :: vs)
end
theorem Wfs.snoc {ks : List Kd} {f : Str} {v : Va} : ∀ {fs : List Str} {vs : List Va}, Wfs ks fs vs → Wf ks f v → Wfs ks (fs ++ [f]) (vs ++ [v])
  | _, _, .nil, h => .cons h .nil
  | _, _, .cons h1 t, h => .cons h1 (Wfs.snoc t h)
theorem Wfs.len {ks : List Kd} : ∀ {fs : List Str} {vs : List Va}, Wfs ks fs vs → vs.length = fs.length
  | _, _, .nil => rfl
  | _, _, .cons _ t => by rw [List.length_cons, List.length_cons, Wfs.len t]
theorem dict_kds {ks : List Kd} (hn : (names ks).Nodup) : opDict [.dat (eKds ks)] = some (dkM M.dat (names ks) fun x => eMks (mkOf ks x)) := by
  have pr : ∀ l : List Kd, prsOf (l.map eKd) = some (l.map fun q => (kyS q.1, eMks q.2)) := by
    intro l
    induction l with
    | nil => rfl
    | cons q l ih =>
      rw [List.map_cons, prsOf, ih]
      rfl
  have mg : ∀ (l : List Kd) (js : List Str) (h : Str → PyData), (js ++ names l).Nodup → (∀ q ∈ l, h q.1 = eMks q.2) →
      mrgT (js.map kyS) (js.map h) ((l.map fun q => kyS q.1).zip (l.map fun q => eMks q.2)) = ((js ++ names l).map kyS, (js ++ names l).map h) := by
    intro l
    induction l with
    | nil => intro js h _ _; simp [names, mrgT]
    | cons q l ih =>
      intro js h hn hh
      rw [List.map_cons, List.map_cons, List.zip_cons_cons, mrgT]
      have hq : q.1 ∉ js := fun z => by
        rw [List.nodup_append] at hn
        exact hn.2.2 _ z _ (by simp [names]) rfl
      rw [fnd_out hq]
      simp only
      have e1 : js.map kyS ++ [kyS q.1] = (js ++ [q.1]).map kyS := by simp
      have e2 : js.map h ++ [eMks q.2] = (js ++ [q.1]).map h := by rw [List.map_append, List.map_cons, List.map_nil, hh q List.mem_cons_self]
      have e3 : js ++ names (q :: l) = (js ++ [q.1]) ++ names l := by simp [names]
      rw [e3] at hn ⊢
      rw [e1, e2]
      exact ih _ h hn fun x hx => hh x (List.mem_cons_of_mem _ hx)
  show (prsOf (ks.map eKd)).map dictOf = _
  rw [pr, Option.map_some]
  unfold dictOf
  have e1 : (ks.map fun q => (kyS q.1, eMks q.2)).map (·.1) = ks.map fun q => kyS q.1 := by rw [List.map_map]; rfl
  have e2 : (ks.map fun q => (kyS q.1, eMks q.2)).map (·.2) = ks.map fun q => eMks q.2 := by rw [List.map_map]; rfl
  rw [e1, e2]
  have hh : ∀ q ∈ ks, (fun x => eMks (mkOf ks x)) q.1 = eMks q.2 := fun q hq => by
    obtain ⟨p, r, e⟩ := List.append_of_mem hq
    have hn' := hn
    rw [e] at hn'
    simp only [names, List.map_append, List.map_cons] at hn'
    rw [List.nodup_append] at hn'
    show eMks (mkOf ks q.1) = _
    rw [e, mkOf_skip (fun x hx hxe => hn'.2.2 _ (List.mem_map.mpr ⟨x, hx, rfl⟩) _ List.mem_cons_self hxe), mkOf, if_pos rfl]
  have := mg ks [] (fun x => eMks (mkOf ks x)) (by simpa using hn) hh
  simp only [List.map_nil, List.nil_append] at this
  rw [this]
  unfold dkM
  simp only [List.map_map]
  rfl
/-- a maker that has room -/
def fit (N : List Str) (g : Str → Nat) (room : Nat) (m : Mkr) : Bool := m.2.all (fun f => decide (f ∈ N)) && decide (1 + (m.2.map g).sum ≤ room)
def lD (N : List Str) (g : Str → Nat) : PyData := frD N fun x => .int (g x : Nat)
theorem value_wp {ks : List Kd} {N : List Str} {g : Str → Nat} (gk : GK ks) (li : LI ks N g) : ∀ (n room : Nat) {d : Deal} {k : Str} {Q : M → List M → Prop} {E : Xv → List M → Prop}, room ≤ n → room ≤ 1000000 → k ∈ N → g k ≤ room →
    (∀ v d', Wf ks k v → sz v ≤ room → Q (.dat (eVa v)) [Deal.m d', .dat (eKds ks), .dat (lD N g), .dat (.str k), .dat (.int room)]) →
    wpF (r_law_value n) [d.m, .dat (eKds ks), .dat (lD N g), .dat (.str k), .dat (.int room)] ⟨Q, E⟩ .mk := by
  intro n
  induction n with
  | zero =>
    intro room d k Q E hr _ hk hg
    have := (li.lo k hk).1
    omega
  | succ n ih =>
    intro room d k Q E hr hr2 hk hg h
    have hz := line_big
    have hl1 := gk.l1
    have hkn := li.up k hk
    have nN : N.length ≤ ks.length := by
      have := subset_len li.nd li.up
      simpa [names] using this
    rw [r_law_value]
    rw [wp_fn]
    refine ⟨⟨rfl, rfl⟩, ?_⟩
    unfold b_law_value
    simp [dict_kds gk.nn, hkn, lM_nil (e := eMk), eMks, lD]
    have mlen : (mkOf ks k).length ≤ 6 := by
      obtain ⟨q, hq, e⟩ := List.mem_map.mp hkn
      rw [← e, gk.mkOf_mem hq]
      exact (gk.l2 q hq).2
    have m3 : ∀ m ∈ mkOf ks k, m.2.length ≤ 4 := fun m hm => by
      obtain ⟨q, hq, _, h3⟩ := mkOf_mem hm
      exact gk.l3 q hq m h3
    refine for_ty (mkOf ks k) eMk (fun p ρ => ∃ x6 x7 x8 x9 x10 x11, ρ = [some (Deal.m d), some (.dat (eKds ks)), some (.dat (lD N g)), some (.dat (.str k)), some (.dat (.int room)), some (lM eMk (p.filter (fit N g room))), x6, x7, x8, x9, x10, x11]) ⟨none, none, none, none, none, none, rfl⟩ (fun p m r e ρ hI J hJ => ?_) (fun ρ1 hI => ?_)
    · obtain ⟨x6, x7, x8, x9, x10, x11, rfl⟩ := hI
      have hm : m ∈ mkOf ks k := by rw [e]; simp
      have hl3 := m3 m hm
      simp [eMk, eStrs, lD]
      refine ⟨by omega, comp_map m.2 PyData.str (fun f => some (decide (f ∈ N))) .bool (fun f hf => ?_) ?_⟩
      · simp
      simp [-List.map_map]
      by_cases hall : ∀ f ∈ m.2, f ∈ N
      · rw [if_pos hall]
        have hall' : m.2.all (fun f => decide (f ∈ N)) = true := by simpa using hall
        refine ⟨by omega, comp_map m.2 PyData.str (fun f => some ((g f : Nat) : Int)) .int (fun f hf => ?_) ?_⟩
        · simp [hall f hf]
        simp [sum_cast, -List.map_map]
        have hfl : (p.filter (fit N g room)).length ≤ 6 := by
          have h1 := List.length_filter_le (fit N g room) p
          have h2 := congrArg List.length e
          simp at h2
          omega
        by_cases hc : 1 + (m.2.map g).sum ≤ room
        · have hf : fit N g room m = true := by unfold fit; rw [hall']; simpa using hc
          have ef : (p ++ [m]).filter (fit N g room) = p.filter (fit N g room) ++ [m] := by simp [hf]
          rw [if_pos (by omega)]
          refine ⟨by omega, hJ _ ⟨_, _, _, _, _, _, by rw [ef, ← lM_snoc]; rfl⟩⟩
        · have hf : fit N g room m = false := by unfold fit; rw [hall']; simpa using hc
          have ef : (p ++ [m]).filter (fit N g room) = p.filter (fit N g room) := by simp [hf]
          rw [if_neg (by omega)]
          exact hJ _ ⟨_, _, _, _, _, _, by rw [ef]; rfl⟩
      · rw [if_neg hall]
        have hf : fit N g room m = false := by
          unfold fit
          have : m.2.all (fun f => decide (f ∈ N)) = false := by
            rw [Bool.eq_false_iff]
            intro z
            exact hall (by simpa using z)
          rw [this]; rfl
        have ef : (p ++ [m]).filter (fit N g room) = p.filter (fit N g room) := by simp [hf]
        exact hJ _ ⟨_, _, _, _, _, _, by rw [ef]; rfl⟩
    · obtain ⟨x6, x7, x8, x9, x10, x11, rfl⟩ := hI
      simp
      obtain ⟨S, hS⟩ : ∃ S, S = (mkOf ks k).filter (fit N g room) := ⟨_, rfl⟩
      rw [← hS]
      have hSm : ∀ m ∈ S, m ∈ mkOf ks k ∧ (∀ f ∈ m.2, f ∈ N) ∧ 1 + (m.2.map g).sum ≤ room := fun m hm => by
        rw [hS] at hm
        obtain ⟨h1, h2⟩ := List.mem_filter.mp hm
        unfold fit at h2
        simp only [Bool.and_eq_true, List.all_eq_true, decide_eq_true_eq] at h2
        exact ⟨h1, h2.1, h2.2⟩
      have hSl : S.length ≤ 6 := by rw [hS]; exact Nat.le_trans (List.length_filter_le _ _) mlen
      have hS0 : 0 < S.length := by
        obtain ⟨m, h1, h2, h3⟩ := li.wit k hk
        have : m ∈ S := by
          rw [hS]
          refine List.mem_filter.mpr ⟨h1, ?_⟩
          unfold fit
          simp only [Bool.and_eq_true, List.all_eq_true, decide_eq_true_eq]
          exact ⟨h2, by omega⟩
        exact List.length_pos_of_mem this
      refine draw_wp (by omega) (by omega) fun v1 d1 h10 h11 => ?_
      simp
      refine draw_wp (by omega) (by omega) fun v2 d2 h20 h21 => ?_
      simp
      obtain ⟨m, hm1, hm2⟩ := atI_get (xs := S) (v := max v1 v2) (by omega) (by omega)
      have hmS := hSm m (List.mem_of_getElem? hm2)
      refine ⟨(max v1 v2).toNat, by rw [ixN_nat (by omega) (by omega)], m.1, m.2, hm2, ?_⟩
      have hl3 := m3 m hmS.1
      simp [eMk, eStrs, lD]
      refine ⟨by omega, comp_map m.2 PyData.str (fun f => some ((g f : Nat) : Int)) .int (fun f hf => ?_) ?_⟩
      · simp [hmS.2.1 f hf]
      simp [sum_cast, -List.map_map, lM_nil (e := eVa)]
      refine for_ty m.2 PyData.str (fun p ρ => ∃ vs : List Va, ∃ d' x8 x10 x11, ∃ sp : Nat, Wfs ks p vs ∧ szs vs + sp + (m.2.map g).sum ≤ room - 1 + (p.map g).sum ∧ x8 = some (.dat (.int (sp : Nat))) ∧
        ρ = [some (Deal.m d'), some (.dat (eKds ks)), some (.dat (lD N g)), some (.dat (.str k)), some (.dat (.int room)), some (lM eMk S), some (.dat (.str m.1)), some (.dat (eStrs m.2)), x8, some (lM eVa vs), x10, x11])
        ⟨[], d2, _, _, _, room - 1 - (m.2.map g).sum, .nil, ?_, ?_, rfl⟩ (fun p f r e ρ hI J hJ => ?_) (fun ρ1 hI => ?_)
      · have := hmS.2.2
        rw [szs]
        simp
        omega
      · have := hmS.2.2
        congr 3
        omega
      · obtain ⟨vs, d', x8, x10, x11, sp, w1, w2, rfl, rfl⟩ := hI
        have hf : f ∈ m.2 := by rw [e]; simp
        have hfN := hmS.2.1 f hf
        have hsum : (p.map g).sum + g f ≤ (m.2.map g).sum := by
          rw [e, List.map_append, List.sum_append, List.map_cons, List.sum_cons]; omega
        simp
        refine draw_wp (by omega) (by omega) fun more d3 h30 h31 => ?_
        simp [lD, hfN]
        obtain ⟨mo, rfl⟩ : ∃ mo : Nat, more = (mo : Int) := ⟨more.toNat, by omega⟩
        have er : ((g f : Nat) : Int) + (mo : Int) = ((g f + mo : Nat) : Int) := by omega
        rw [er]
        refine ih (g f + mo) (by omega) (by omega) hfN (by omega) fun v d4 hw hs => ?_
        simp
        have hvl : vs.length ≤ 4 := by
          have := w1.len
          have h2 := congrArg List.length e
          simp at h2
          omega
        refine ⟨by omega, hJ _ ⟨vs ++ [v], d4, _, _, _, sp - mo, w1.snoc hw, ?_, ?_, rfl⟩⟩
        · rw [szs_snoc, List.map_append, List.sum_append, List.map_cons, List.map_nil, List.sum_cons, List.sum_nil]
          omega
        · congr 3
          omega
      · obtain ⟨vs, d', x8, x10, x11, sp, w1, w2, rfl, rfl⟩ := hI
        simp
        have := h (.mk m.1 vs) d' (.mk hmS.1 w1) (by rw [sz]; omega)
        rw [eVa_mk] at this
        exact this
end PV

set_option Elab.async false
set_option linter.all false
set_option maxRecDepth 100000
set_option maxHeartbeats 0
/-! the mirrors of the defs -/
namespace G_k14
open PySem DL
def c_LETTERS : PyData := (.str "abcdefghijklmnopqrstuvwxyz")
def b_makers_of : Rho → Fl := (sSeq (sFor (iSeq (cVar 0)) (hTup 2 (hCons (hName 2) (hCons (hName 3) hNil))) (sIf (cB (cOp2 true opEq (cVar 2) (cVar 1))) (sRet [] (cVar 3)) sNx))
    (sRet [] (cTup aNil)))
def f_makers_of : List M → FOut := fnOut 4 2 [] b_makers_of
def b_show_value (F_show_value : List M → FOut) : Rho → Fl := (sSeq (sAsg (hTup 2 (hCons (hName 1) (hCons (hName 2) hNil))) (cVar 0))
    (sSeq (sIf (cB (cOp2 true opEq (cOpN opLen (aCons true (cVar 2) aNil)) (cD (.int 0)))) (sRet [] (cVar 1)) sNx)
    (sRet [] (cOp2 true opAdd (cOp2 false opAdd (cOp2 true opAdd (cVar 1) (cD (.str "("))) (cMeth gdS false opJoin (cD (.str ",")) (aCons true (cComp [3] (iSeq (cVar 2)) (hName 3) cYes (cCall F_show_value [false] (aCons true (cVar 3) aNil))) aNil))) (cD (.str ")"))))))
def r_show_value : Nat → List M → FOut
  | 0 => fun _ => .bad
  | n + 1 => fnOut 4 1 [] (b_show_value (r_show_value n))
def f_show_value : List M → FOut := r_show_value 80
def b_ValueText___init__ : Rho → Fl := (sSeq (sSetFld "ValueText" "kinds" (cVar 1) (cVar 0))
    (sSeq (sSetFld "ValueText" "text" (cVar 2) (cVar 0))
    (sSetFld "ValueText" "at" (cD (.int 0)) (cVar 0))))
def f_ValueText___init__ : List M → FOut := fnOut 3 3 [0] b_ValueText___init__
def b_ValueText_maker_name : Rho → Fl := (sSeq (sSet 1 (cFld "ValueText" "at" (cVar 0)))
    (sSeq (sWhile (cAnd (cB (cOp2 true (cmpI fun i j => decide (i < j)) (cFld "ValueText" "at" (cVar 0)) (cOpN opLen (aCons true (cFld "ValueText" "text" (cVar 0)) aNil)))) (cB (cOp2 true (opIn false) (cIx true (cFld "ValueText" "text" (cVar 0)) (cFld "ValueText" "at" (cVar 0))) (cD c_LETTERS)))) (sSetFld "ValueText" "at" (cOp2 true opAdd (cFld "ValueText" "at" (cVar 0)) (cD (.int 1))) (cVar 0)))
    (sRet [0] (cSl (cFld "ValueText" "text" (cVar 0)) (oSome (nVar 1)) (oSome (nFld "ValueText" "at" 0))))))
def f_ValueText_maker_name : List M → FOut := fnOut 2 1 [0] b_ValueText_maker_name
def b_ValueText_sign : Rho → Fl := (sSeq (sIf (cOr (cB (cOp2 true opEq (cFld "ValueText" "at" (cVar 0)) (cOpN opLen (aCons true (cFld "ValueText" "text" (cVar 0)) aNil)))) (cB (cOp2 true opNe (cIx true (cFld "ValueText" "text" (cVar 0)) (cFld "ValueText" "at" (cVar 0))) (cVar 1)))) (sRaise ⟨"NoValue", none⟩) sNx)
    (sSetFld "ValueText" "at" (cOp2 true opAdd (cFld "ValueText" "at" (cVar 0)) (cD (.int 1))) (cVar 0)))
def f_ValueText_sign : List M → FOut := fnOut 2 2 [0] b_ValueText_sign
def b_ValueText_value_of (F_ValueText_value_of : List M → FOut) : Rho → Fl := (sSeq (sSet 2 (cCall f_ValueText_maker_name [true] (aRecv "ValueText" "maker_name" true (cVar 0) aNil)))
    (sSeq (sSet 3 (cComp [7, 8] (iSeq (cCall f_makers_of [false, false] (aCons true (cFld "ValueText" "kinds" (cVar 0)) (aCons true (cVar 1) aNil)))) (hTup 2 (hCons (hName 7) (hCons (hName 8) hNil))) (cB (cOp2 true opEq (cVar 7) (cVar 2))) (cVar 8)))
    (sSeq (sIf (cB (cOp2 true opEq (cOpN opLen (aCons true (cVar 3) aNil)) (cD (.int 0)))) (sRaise ⟨"NoValue", none⟩) sNx)
    (sSeq (sSet 4 (cLst aNil))
    (sSeq (sFor (iEnm (aCons true (cIx true (cVar 3) (cD (.int 0))) aNil)) (hTup 2 (hCons (hName 5) (hCons (hName 6) hNil))) (sSeq (sDrop (cCall f_ValueText_sign [true, false] (aRecv "ValueText" "sign" true (cVar 0) (aCons true (cIx true (cD (.str "(,")) (cOpN opInt (aCons true (cOp2 true (cmpI fun i j => decide (j < i)) (cVar 5) (cD (.int 0))) aNil))) aNil))))
    (sDrop (cApp false (cVar 4) (cCall F_ValueText_value_of [true, false] (aRecv "ValueText" "value_of" true (cVar 0) (aCons true (cVar 6) aNil)))))))
    (sSeq (sIf (cB (cOp2 true (cmpI fun i j => decide (j < i)) (cOpN opLen (aCons true (cVar 4) aNil)) (cD (.int 0)))) (sDrop (cCall f_ValueText_sign [true, false] (aRecv "ValueText" "sign" true (cVar 0) (aCons true (cD (.str ")")) aNil)))) sNx)
    (sRet [0] (cTup (aCons true (cVar 2) (aCons true (cOpN opTuple (aCons true (cVar 4) aNil)) aNil))))))))))
def r_ValueText_value_of : Nat → List M → FOut
  | 0 => fun _ => .bad
  | n + 1 => fnOut 9 2 [0] (b_ValueText_value_of (r_ValueText_value_of n))
def f_ValueText_value_of : List M → FOut := r_ValueText_value_of 80
def b_read_value : Rho → Fl := (sSeq (sSet 3 (cCall (mkF "ValueText" f_ValueText___init__) [false, false] (aCons true (cVar 0) (aCons true (cVar 2) aNil))))
    (sSeq (sSet 4 (cCall f_ValueText_value_of [true, false] (aRecv "ValueText" "value_of" true (cVar 3) (aCons true (cVar 1) aNil))))
    (sSeq (sIf (cB (cOp2 true opNe (cFld "ValueText" "at" (cVar 3)) (cOpN opLen (aCons true (cVar 2) aNil)))) (sRaise ⟨"NoValue", none⟩) sNx)
    (sRet [] (cVar 4)))))
def f_read_value : List M → FOut := fnOut 5 3 [] b_read_value
def b_law_deal : Rho → Fl := (sSeq (sSet 2 (cComp [4] (iSeq (cSl (cVar 0) (oSome (nVar 1)) (oSome (nC (.int 63))))) (hName 4) cYes (cOpN opMax2 (aCons true (cVar 4) (aCons true (cOp2 true opSub (cD (.int 0)) (cVar 4)) aNil)))))
    (sSeq (sSet 3 (cOp2 true opAdd (cD (.int 7919)) (cVar 1)))
    (sSeq (sFor (iSeq (cVar 2)) (hName 4) (sSet 3 (cOp2 true opMod (cOp2 true opAdd (cOp2 true opMul (cVar 3) (cD (.int 48271))) (cOp2 true opMod (cVar 4) (cD (.int 2147483629)))) (cD (.int 2147483647)))))
    (sRet [] (cDict (((cD (.str "seed")), (cVar 3), true) :: (((cD (.str "number")), (cD (.int 0)), true) :: (((cD (.str "left")), (cOp1 opRev (cComp [4] (iSeq (cVar 2)) (hName 4) (cB (cOp2 true (cmpI fun i j => decide (j ≤ i)) (cVar 4) (cOp2 true opPow (cD (.int 10)) (cD (.int 18))))) (cVar 4))), true) :: []))))))))
def f_law_deal : List M → FOut := fnOut 5 2 [] b_law_deal
def b_law_draw : Rho → Fl := (sSeq (sWhile (cAnd (cB (cOp2 true opEq (cIx true (cVar 0) (cD (.str "number"))) (cD (.int 0)))) (cB (cOp2 true (cmpI fun i j => decide (j < i)) (cOpN opLen (aCons true (cIx true (cVar 0) (cD (.str "left"))) aNil)) (cD (.int 0))))) (sSetIx true (cPop (cIx true (cVar 0) (cD (.str "left")))) (cVar 0) (cD (.str "number"))))
    (sSeq (sSet 2 (cIx true (cVar 0) (cD (.str "number"))))
    (sSeq (sIf (cB (cOp2 true (cmpI fun i j => decide (j < i)) (cVar 2) (cD (.int 0)))) (sSeq (sSetIx true (cOp2 true opDiv (cVar 2) (cVar 1)) (cVar 0) (cD (.str "number")))
    (sRet [0] (cOp2 true opMod (cVar 2) (cVar 1)))) sNx)
    (sSeq (sSet 3 (cOp2 true opMod (cOp2 true opAdd (cOp2 true opMul (cIx true (cVar 0) (cD (.str "seed"))) (cD (.int 48271))) (cD (.int 7919))) (cD (.int 2147483647))))
    (sSeq (sSetIx true (cOp2 true opMod (cOp2 true opAdd (cOp2 true opMul (cVar 3) (cD (.int 40692))) (cD (.int 104729))) (cD (.int 2147483399))) (cVar 0) (cD (.str "seed")))
    (sSeq (sSet 4 (cOp2 true opMod (cOp2 true opMul (cIx true (cVar 0) (cD (.str "seed"))) (cIx true (cVar 0) (cD (.str "seed")))) (cD (.int 2147483563))))
    (sRet [0] (cOp2 true opMod (cOp2 true opAdd (cOp2 true opMul (cOp2 true opMod (cOp2 true opMul (cVar 3) (cVar 3)) (cD (.int 2147483629))) (cD (.int 2147483563))) (cVar 4)) (cVar 1)))))))))
def f_law_draw : List M → FOut := fnOut 5 2 [0] b_law_draw
def b_law_words : Rho → Fl := (sSeq (sSet 2 (cD (.str "abcdefghijklmnopqrstuvwxyz")))
    (sSeq (sSet 3 (cMeth gdS false opJoin (cD (.str "")) (aCons true (cComp [7] (iRg1 (aCons true (cCall f_law_draw [true, false] (aCons true (cVar 0) (aCons true (cD (.int 5)) aNil))) aNil)) (hName 7) cYes (cIx false (cVar 2) (cCall f_law_draw [true, false] (aCons true (cVar 0) (aCons true (cD (.int 26)) aNil))))) aNil)))
    (sSeq (sSet 4 (cCall f_law_draw [true, false] (aCons true (cVar 0) (aCons true (cOp2 true opAdd (cOpN opLen (aCons true (cVar 3) aNil)) (cD (.int 1))) aNil))))
    (sSeq (sSet 5 (cCall f_law_draw [true, false] (aCons true (cVar 0) (aCons true (cD (.int 26)) aNil))))
    (sSeq (sSet 6 (cLst aNil))
    (sSeq (sFor (iRg1 (aCons true (cVar 1) aNil)) (hName 7) (sSeq (sSet 8 (cIx true (cVar 2) (cOp2 true opMod (cOp2 true opAdd (cVar 5) (cOp2 true opMulA (cD (.int 7)) (cVar 7))) (cD (.int 26)))))
    (sSeq (sSet 9 (cOp2 true opAdd (cOp2 true opAdd (cOp2 true opAdd (cOp2 true opAdd (cSl (cVar 3) oNone (oSome (nVar 4))) (cVar 8)) (cSl (cVar 3) (oSome (nVar 4)) oNone)) (cOp2 true opMulA (cD (.str "x")) (cOp2 true opMod (cVar 7) (cD (.int 2))))) (cOp2 true opMulA (cD (.str "y")) (cOp2 true opDiv (cVar 7) (cD (.int 26))))))
    (sSeq (sIf (cB (cOp2 true (opIn false) (cVar 9) (cTup (aCons true (cD (.str "kind")) (aCons true (cD (.str "def")) (aCons true (cD (.str "to")) (aCons true (cD (.str "let")) (aCons true (cD (.str "make")) (aCons true (cD (.str "call")) aNil))))))))) (sSet 9 (cOp2 true opAdd (cVar 9) (cD (.str "q")))) sNx)
    (sSeq (sIf (cB (cOp2 true (opIn false) (cVar 9) (cTup (aCons true (cD (.str "name")) (aCons true (cD (.str "case")) (aCons true (cD (.str "end")) (aCons true (cD (.str "pay")) (aCons true (cD (.str "get")) (aCons true (cD (.str "give")) aNil))))))))) (sSet 9 (cOp2 true opAdd (cVar 9) (cD (.str "q")))) sNx)
    (sDrop (cApp true (cVar 6) (cVar 9))))))))
    (sSeq (sSet 10 (cLst (aCons true (cD (.str "lets")) (aCons true (cD (.str "callx")) (aCons true (cD (.str "payer")) (aCons true (cD (.str "ender")) (aCons true (cD (.str "tom")) (aCons true (cD (.str "nameb")) aNil))))))))
    (sSeq (sSet 10 (cOp2 true opAdd (cVar 10) (cLst (aCons true (cD (.str "makes")) (aCons true (cD (.str "gets")) (aCons true (cD (.str "giver")) (aCons true (cD (.str "kinds")) (aCons true (cD (.str "defs")) (aCons true (cD (.str "cases")) aNil)))))))))
    (sSeq (sSet 9 (cIx false (cVar 10) (cCall f_law_draw [true, false] (aCons true (cVar 0) (aCons true (cD (.int 12)) aNil)))))
    (sSeq (sIf (cAnd (cB (cOp2 true opEq (cCall f_law_draw [true, false] (aCons true (cVar 0) (aCons true (cD (.int 3)) aNil))) (cD (.int 1)))) (cB (cOp2 true (opIn true) (cVar 9) (cVar 6)))) (sSetIx false (cVar 9) (cVar 6) (cCall f_law_draw [true, false] (aCons true (cVar 0) (aCons true (cVar 1) aNil)))) sNx)
    (sRet [0] (cVar 6))))))))))))
def f_law_words : List M → FOut := fnOut 11 2 [0] b_law_words
def b_law_kinds : Rho → Fl := (sSeq (sSet 2 (cCall f_law_draw [true, false] (aCons true (cVar 0) (aCons true (cD (.int 8)) aNil))))
    (sSeq (sPar [3, 4] (aCons true (cIx true (cVar 1) (cD (.int 0))) (aCons true (cIx true (cVar 1) (cD (.int 1))) aNil)))
    (sSeq (sSet 5 (cOp2 true opAdd (cSl (cVar 1) (oSome (nC (.int 4))) oNone) (cSl (cVar 1) oNone (oSome (nC (.int 4))))))
    (sSeq (sIf (cB (cOp2 true opEq (cVar 2) (cD (.int 0)))) (sRet [0] (cTup (aCons true (cTup (aCons true (cVar 3) (aCons true (cTup (aCons true (cTup (aCons true (cIx true (cVar 5) (cD (.int 0))) (aCons true (cTup aNil) aNil))) (aCons true (cTup (aCons true (cIx true (cVar 5) (cD (.int 1))) (aCons true (cTup (aCons true (cVar 3) aNil)) aNil))) aNil))) aNil))) aNil))) sNx)
    (sSeq (sIf (cB (cOp2 true opEq (cVar 2) (cD (.int 1)))) (sRet [0] (cTup (aCons true (cTup (aCons true (cVar 3) (aCons true (cTup (aCons true (cTup (aCons true (cIx true (cVar 5) (cD (.int 0))) (aCons true (cTup aNil) aNil))) (aCons true (cTup (aCons true (cIx true (cVar 5) (cD (.int 1))) (aCons true (cTup (aCons true (cVar 3) aNil)) aNil))) (aCons true (cTup (aCons true (cIx true (cVar 5) (cD (.int 2))) (aCons true (cTup (aCons true (cVar 3) aNil)) aNil))) aNil)))) aNil))) aNil))) sNx)
    (sSeq (sIf (cB (cOp2 true opEq (cVar 2) (cD (.int 2)))) (sRet [0] (cTup (aCons true (cTup (aCons true (cVar 3) (aCons true (cTup (aCons true (cTup (aCons true (cIx true (cVar 5) (cD (.int 0))) (aCons true (cTup aNil) aNil))) (aCons true (cTup (aCons true (cIx true (cVar 5) (cD (.int 1))) (aCons true (cTup aNil) aNil))) aNil))) aNil))) (aCons true (cTup (aCons true (cVar 4) (aCons true (cTup (aCons true (cTup (aCons true (cIx true (cVar 5) (cD (.int 2))) (aCons true (cTup aNil) aNil))) (aCons true (cTup (aCons true (cIx true (cVar 5) (cD (.int 3))) (aCons true (cTup (aCons true (cVar 3) (aCons true (cVar 4) aNil))) aNil))) aNil))) aNil))) aNil)))) sNx)
    (sSeq (sIf (cB (cOp2 true opEq (cVar 2) (cD (.int 3)))) (sRet [0] (cTup (aCons true (cTup (aCons true (cVar 3) (aCons true (cTup (aCons true (cTup (aCons true (cIx true (cVar 5) (cD (.int 0))) (aCons true (cTup aNil) aNil))) (aCons true (cTup (aCons true (cIx true (cVar 5) (cD (.int 1))) (aCons true (cTup (aCons true (cVar 3) (aCons true (cVar 3) aNil))) aNil))) aNil))) aNil))) aNil))) sNx)
    (sSeq (sIf (cB (cOp2 true opEq (cVar 2) (cD (.int 4)))) (sRet [0] (cTup (aCons true (cTup (aCons true (cVar 3) (aCons true (cTup (aCons true (cTup (aCons true (cIx true (cVar 5) (cD (.int 0))) (aCons true (cTup aNil) aNil))) (aCons true (cTup (aCons true (cIx true (cVar 5) (cD (.int 1))) (aCons true (cTup (aCons true (cVar 4) aNil)) aNil))) aNil))) aNil))) (aCons true (cTup (aCons true (cVar 4) (aCons true (cTup (aCons true (cTup (aCons true (cIx true (cVar 5) (cD (.int 2))) (aCons true (cTup (aCons true (cVar 3) aNil)) aNil))) aNil)) aNil))) aNil)))) sNx)
    (sSeq (sSet 6 (cLst aNil))
    (sSeq (sSet 7 (cOp2 false opAdd (cD (.int 1)) (cCall f_law_draw [true, false] (aCons true (cVar 0) (aCons true (cD (.int 3)) aNil)))))
    (sSeq (sSet 8 (cD (.int 0)))
    (sSeq (sFor (iRg1 (aCons true (cVar 7) aNil)) (hName 9) (sSeq (sSet 10 (cLst aNil))
    (sSeq (sFor (iRg1 (aCons true (cOp2 false opAdd (cD (.int 1)) (cCall f_law_draw [true, false] (aCons true (cVar 0) (aCons true (cIx true (cLst (aCons true (cD (.int 3)) (aCons true (cD (.int 6)) aNil))) (cOpN opInt (aCons true (cOp2 true opEq (cVar 7) (cD (.int 1))) aNil))) aNil)))) aNil)) (hName 11) (sSeq (sSet 12 (cOp2 true opMulA (cCall f_law_draw [true, false] (aCons false (cVar 0) (aCons true (cIx false (cLst (aCons true (cD (.int 3)) (aCons true (cD (.int 3)) (aCons true (cD (.int 5)) aNil)))) (cCall f_law_draw [true, false] (aCons true (cVar 0) (aCons true (cD (.int 3)) aNil)))) aNil))) (cOpN opInt (aCons true (cOp2 true (cmpI fun i j => decide (j < i)) (cOp2 true opAdd (cVar 9) (cVar 11)) (cD (.int 0))) aNil))))
    (sSeq (sSet 13 (cComp [14] (iRg1 (aCons true (cVar 12) aNil)) (hName 14) cYes (cIx false (cVar 1) (cCall f_law_draw [true, false] (aCons true (cVar 0) (aCons true (cVar 7) aNil))))))
    (sSeq (sDrop (cApp true (cVar 10) (cTup (aCons true (cIx true (cVar 5) (cVar 8)) (aCons true (cOpN opTuple (aCons true (cVar 13) aNil)) aNil)))))
    (sSet 8 (cOp2 true opAdd (cVar 8) (cD (.int 1))))))))
    (sDrop (cApp true (cVar 6) (cTup (aCons true (cIx true (cVar 1) (cVar 9)) (aCons true (cOpN opTuple (aCons true (cVar 10) aNil)) aNil))))))))
    (sRet [0] (cOpN opTuple (aCons true (cVar 6) aNil)))))))))))))))
def f_law_kinds : List M → FOut := fnOut 15 2 [0] b_law_kinds
def b_law_leasts : Rho → Fl := (sSeq (sSet 1 cDict0)
    (sSeq (sFor (iRg1 (aCons true (cOp2 true opAdd (cOpN opLen (aCons true (cVar 0) aNil)) (cD (.int 1))) aNil)) (hName 2) (sFor (iSeq (cVar 0)) (hTup 2 (hCons (hName 3) (hCons (hName 4) hNil))) (sFor (iSeq (cVar 4)) (hTup 2 (hCons (hName 5) (hCons (hName 6) hNil))) (sIf (cB (cOpN opAll (aCons true (cComp [8] (iSeq (cVar 6)) (hName 8) cYes (cOp2 true (opIn false) (cVar 8) (cVar 1))) aNil))) (sSeq (sSet 7 (cOp2 false opAdd (cD (.int 1)) (cOpN opSum (aCons true (cComp [8] (iSeq (cVar 6)) (hName 8) cYes (cIx true (cVar 1) (cVar 8))) aNil))))
    (sSetIx true (cOpN opMin2 (aCons true (cMeth gdD true opGet (cVar 1) (aCons true (cVar 3) (aCons true (cVar 7) aNil))) (aCons true (cVar 7) aNil))) (cVar 1) (cVar 3))) sNx))))
    (sRet [] (cVar 1))))
def f_law_leasts : List M → FOut := fnOut 9 1 [] b_law_leasts
def b_law_value (F_law_value : List M → FOut) : Rho → Fl := (sSeq (sSet 5 (cLst aNil))
    (sSeq (sFor (iSeq (cIx true (cOpN opDict (aCons true (cVar 1) aNil)) (cVar 3))) (hTup 2 (hCons (hName 6) (hCons (hName 7) hNil))) (sIf (cB (cOpN opAll (aCons true (cComp [10] (iSeq (cVar 7)) (hName 10) cYes (cOp2 true (opIn false) (cVar 10) (cVar 2))) aNil))) (sIf (cB (cOp2 true (cmpI fun i j => decide (i ≤ j)) (cOp2 false opAdd (cD (.int 1)) (cOpN opSum (aCons true (cComp [10] (iSeq (cVar 7)) (hName 10) cYes (cIx true (cVar 2) (cVar 10))) aNil))) (cVar 4))) (sDrop (cApp true (cVar 5) (cTup (aCons true (cVar 6) (aCons true (cVar 7) aNil))))) sNx) sNx))
    (sSeq (sAsg (hTup 2 (hCons (hName 6) (hCons (hName 7) hNil))) (cIx false (cVar 5) (cOpN opMax2 (aCons false (cCall f_law_draw [true, false] (aCons true (cVar 0) (aCons true (cOpN opLen (aCons true (cVar 5) aNil)) aNil))) (aCons true (cCall f_law_draw [true, false] (aCons true (cVar 0) (aCons true (cOpN opLen (aCons true (cVar 5) aNil)) aNil))) aNil)))))
    (sSeq (sSet 8 (cOp2 false opSub (cOp2 true opSub (cVar 4) (cD (.int 1))) (cOpN opSum (aCons true (cComp [10] (iSeq (cVar 7)) (hName 10) cYes (cIx true (cVar 2) (cVar 10))) aNil))))
    (sSeq (sSet 9 (cLst aNil))
    (sSeq (sFor (iSeq (cVar 7)) (hName 10) (sSeq (sSet 11 (cCall f_law_draw [true, false] (aCons true (cVar 0) (aCons true (cOp2 true opAdd (cVar 8) (cD (.int 1))) aNil))))
    (sSeq (sSet 8 (cOp2 true opSub (cVar 8) (cVar 11)))
    (sDrop (cApp false (cVar 9) (cCall F_law_value [true, false, false, false, false] (aCons true (cVar 0) (aCons true (cVar 1) (aCons true (cVar 2) (aCons true (cVar 10) (aCons true (cOp2 true opAdd (cIx true (cVar 2) (cVar 10)) (cVar 11)) aNil)))))))))))
    (sRet [0] (cTup (aCons true (cVar 6) (aCons true (cOpN opTuple (aCons true (cVar 9) aNil)) aNil))))))))))
def r_law_value : Nat → List M → FOut
  | 0 => fun _ => .bad
  | n + 1 => fnOut 12 5 [0] (b_law_value (r_law_value n))
def f_law_value : List M → FOut := r_law_value 80
def b_law_text (F_law_text : List M → FOut) : Rho → Fl := (sSeq (sSet 1 (cIx true (cVar 0) (cD (.int 0))))
    (sSeq (sFor (iEnm (aCons true (cIx true (cVar 0) (cD (.int 1))) aNil)) (hTup 2 (hCons (hName 2) (hCons (hName 3) hNil))) (sSet 1 (cOp2 true opAdd (cOp2 true opAdd (cVar 1) (cIx true (cD (.str "(,")) (cOpN opInt (aCons true (cOp2 true (cmpI fun i j => decide (j < i)) (cVar 2) (cD (.int 0))) aNil)))) (cCall F_law_text [false] (aCons true (cVar 3) aNil)))))
    (sRet [] (cOp2 true opAdd (cVar 1) (cOp2 true opMulA (cD (.str ")")) (cOpN opInt (aCons true (cOp2 true (cmpI fun i j => decide (j < i)) (cOpN opLen (aCons true (cIx true (cVar 0) (cD (.int 1))) aNil)) (cD (.int 0))) aNil)))))))
def r_law_text : Nat → List M → FOut
  | 0 => fun _ => .bad
  | n + 1 => fnOut 4 1 [] (b_law_text (r_law_text n))
def f_law_text : List M → FOut := r_law_text 80
def b_law_read : Rho → Fl := (sSeq (sSet 3 (cD .none))
    (sSeq (sTry [("NoValue", true)] (sSet 3 (cCall f_read_value [false, false, false] (aCons true (cVar 0) (aCons true (cVar 1) (aCons true (cVar 2) aNil))))) (sSet 3 (cD .none)))
    (sRet [] (cVar 3))))
def f_law_read : List M → FOut := fnOut 4 3 [] b_law_read
def b_law_alike (F_law_alike : List M → FOut) : Rho → Fl := (sSeq (sIf (cOr (cNot (cB (cIsi "tuple" (cVar 0)))) (cOr (cB (cOp2 true opNe (cOpN opLen (aCons true (cVar 0) aNil)) (cD (.int 2)))) (cOr (cB (cOp2 true opNe (cIx true (cVar 0) (cD (.int 0))) (cIx true (cVar 1) (cD (.int 0))))) (cNot (cB (cIsi "tuple" (cIx true (cVar 0) (cD (.int 1))))))))) (sRet [] (cD (.bool false))) sNx)
    (sSeq (sIf (cB (cOp2 true opNe (cOpN opLen (aCons true (cIx true (cVar 0) (cD (.int 1))) aNil)) (cOpN opLen (aCons true (cIx true (cVar 1) (cD (.int 1))) aNil)))) (sRet [] (cD (.bool false))) sNx)
    (sRet [] (cOpN opAll (aCons true (cComp [2, 3] (iZip (aCons true (cIx true (cVar 0) (cD (.int 1))) (aCons true (cIx true (cVar 1) (cD (.int 1))) aNil))) (hTup 2 (hCons (hName 2) (hCons (hName 3) hNil))) cYes (cCall F_law_alike [false, false] (aCons true (cVar 2) (aCons true (cVar 3) aNil)))) aNil)))))
def r_law_alike : Nat → List M → FOut
  | 0 => fun _ => .bad
  | n + 1 => fnOut 4 2 [] (b_law_alike (r_law_alike n))
def f_law_alike : List M → FOut := r_law_alike 80
def b_law : Rho → Fl := (sSeq (sSet 1 (cCall f_law_deal [false, false] (aCons true (cVar 0) (aCons true (cD (.int 0)) aNil))))
    (sSeq (sSet 2 (cCall f_law_words [true, false] (aCons true (cVar 1) (aCons true (cD (.int 30)) aNil))))
    (sSeq (sSet 3 (cCall f_law_kinds [true, false] (aCons true (cVar 1) (aCons true (cVar 2) aNil))))
    (sSeq (sSet 4 (cFz (cCall f_law_leasts [false] (aCons true (cVar 3) aNil))))
    (sSeq (sSet 5 (cComp [8, 12] (iSeq (cVar 3)) (hTup 2 (hCons (hName 8) (hCons (hName 12) hNil))) (cB (cOp2 true (opIn false) (cVar 8) (cVar 4))) (cVar 8)))
    (sSeq (sSet 6 (cLst aNil))
    (sSeq (sFor (iRg1 (aCons true (cOp2 true opMulA (cOpN opMin2 (aCons true (cD (.int 10)) (aCons true (cOp2 true opAdd (cD (.int 3)) (cOpN opLen (aCons true (cVar 0) aNil))) aNil))) (cOpN opInt (aCons true (cOp2 true opNe (cVar 5) (cLst aNil)) aNil))) aNil)) (hName 7) (sSeq (sSet 8 (cIx false (cVar 5) (cCall f_law_draw [true, false] (aCons true (cVar 1) (aCons true (cOpN opLen (aCons true (cVar 5) aNil)) aNil)))))
    (sSeq (sSet 9 (cOpN opMax2 (aCons false (cIx true (cVar 4) (cVar 8)) (aCons true (cOp2 false opAdd (cD (.int 1)) (cCall f_law_draw [true, false] (aCons false (cVar 1) (aCons true (cIx false (cLst (aCons true (cD (.int 8)) (aCons true (cD (.int 40)) aNil))) (cCall f_law_draw [true, false] (aCons true (cVar 1) (aCons true (cD (.int 2)) aNil)))) aNil)))) aNil))))
    (sSeq (sSet 10 (cCall f_law_value [true, false, false, false, false] (aCons true (cVar 1) (aCons true (cVar 3) (aCons true (cVar 4) (aCons true (cVar 8) (aCons true (cVar 9) aNil)))))))
    (sSeq (sDrop (cApp true (cVar 6) (cTup (aCons true (cVar 8) (aCons true (cVar 10) aNil)))))
    (sIf (cB (cOp2 true opNe (cCall f_show_value [false] (aCons true (cVar 10) aNil)) (cCall f_law_text [false] (aCons true (cVar 10) aNil)))) (sRet [] (cD (.bool false))) sNx))))))
    (sSeq (sFor (iSeq (cOp2 true opAdd (cVar 6) (cSl (cVar 6) oNone (oSome (nC (.int 1)))))) (hTup 2 (hCons (hName 8) (hCons (hName 10) hNil))) (sFor (iSeq (cVar 3)) (hTup 2 (hCons (hName 11) (hCons (hName 12) hNil))) (sSeq (sSet 13 (cCall f_law_read [false, false, false] (aCons true (cVar 3) (aCons true (cVar 11) (aCons true (cCall f_law_text [false] (aCons true (cVar 10) aNil)) aNil)))))
    (sSeq (sIf (cAnd (cB (cOp2 true opEq (cVar 11) (cVar 8))) (cOr (cB (cOp2 true (opIsN false) (cVar 13) (cD .none))) (cNot (cB (cCall f_law_alike [false, false] (aCons true (cVar 13) (aCons true (cVar 10) aNil))))))) (sRet [] (cD (.bool false))) sNx)
    (sIf (cAnd (cB (cOp2 true opNe (cVar 11) (cVar 8))) (cB (cOp2 true (opIsN true) (cVar 13) (cD .none)))) (sRet [] (cD (.bool false))) sNx)))))
    (sRet [] (cD (.bool true)))))))))))
def f_law : List M → FOut := fnOut 14 1 [] b_law
end G_k14

set_option Elab.async false
set_option linter.all false
set_option maxRecDepth 100000
set_option maxHeartbeats 0
/-! each def does as its mirror -/
namespace G_k14
open PySem PySem.Spec PyProof.Rows L2 DL
def top (i : Nat) : Stmt := PySem.Challenge.pw_pursewright_k14_values_written_and_read.main.body.getD i (.Pass ⟨0, 0, 0, 0⟩)
section
variable {P : Program} {w : World} {K : PySem.W.Frag} {mg : Str → Option Value} {base : Heap} {f : Addr} {fd : FuncData}
theorem sc_makers_of : FnScope ["kinds", "kind", "name", "makers"] ["kinds", "kind"] (defScope (top 4)) := fnC_ok (by decide +kernel)
theorem ok_makers_of (F : FunD K "makers_of" "makers_of" (defArgs (top 4)) (defBody (top 4)) (defScope (top 4)) [] [] f fd) (hm : mg "makers_of" = some (.ref f))  : DefK P w K mg base 1 "makers_of" 2 f_makers_of := by
  refine def_k F hm (F.bindsN fun _ _ _ _ _ _ us hl => match us, hl with | [_, _], _ => by kernel_rfl) sc_makers_of rfl (by decide) fun E => ?_
  have h : DSs (famOf P w K mg base 0 ["kinds", "kind", "name", "makers"] sc_makers_of.nd "makers_of" (defScope (top 4)) f E) (fun c d _ H' => E c d H') [] (defBody (top 4)) _ := (dss_cons (ds_for (di_seq (de_var 0)) (dg_tup (n := 2) (dgs_cons (dg_name 2) (dgs_cons (dg_name 3) dgs_nil))) (dss_one (ds_if (dt_cmp cr_eq (de_var 2) (de_var 1)) (dss_one (ds_ret (de_var 3))) dss_nil)))
    (dss_one (ds_ret (de_tup da_nil))))
  exact h
theorem sc_show_value : FnScope ["value", "maker", "parts", "part"] ["value"] (defScope (top 7)) := fnC_ok (by decide +kernel)
theorem ok_show_value (F : FunD K "show_value" "show_value" (defArgs (top 7)) (defBody (top 7)) (defScope (top 7)) [] [] f fd) (hm : mg "show_value" = some (.ref f)) (g_len : mg "len" = none) : ∀ n, DefK P w K mg base (0 + n) "show_value" 1 (r_show_value n)
  | 0 => def_bad (N := []) (ps := ["value"]) F hm (F.bindsN fun _ _ _ _ _ _ us hl => match us, hl with | [_], _ => by kernel_rfl) rfl
  | n + 1 => by
    have k_show_value := ok_show_value F hm g_len n
    refine def_k F hm (F.bindsN fun _ _ _ _ _ _ us hl => match us, hl with | [_], _ => by kernel_rfl) sc_show_value rfl (by decide) fun E => ?_
    have h : DSs (famOf P w K mg base (0 + n) ["value", "maker", "parts", "part"] sc_show_value.nd "show_value" (defScope (top 7)) f E) (fun c d _ H' => E c d H') [] (defBody (top 7)) _ := (dss_cons (ds_asg (de_var 0) (dg_tup (n := 2) (dgs_cons (dg_name 1) (dgs_cons (dg_name 2) dgs_nil))))
    (dss_cons (ds_if (dt_cmp cr_eq (de_len g_len (da_cons (de_var 2) da_nil)) de_int) (dss_one (ds_ret (de_var 1))) dss_nil)
    (dss_one (ds_ret (de_add (de_add (de_add (de_var 1) de_str) (de_join de_str (da_cons (de_lc [("part", 3)] (di_seq (de_var 2)) (dg_name 3) dts_nil (de_call [false] (k_show_value.mono (by omega)) ft_blk (da_cons (de_var 3) da_nil))) da_nil))) de_str)))))
    exact h
theorem sc_ValueText___init__ : FnScope ["self", "kinds", "text"] ["self", "kinds", "text"] (defScope (inClass (top 8) 0)) := fnC_ok (by decide +kernel)
theorem ok_ValueText___init__ (F : FunD K "__init__" "ValueText.__init__" (defArgs (inClass (top 8) 0)) (defBody (inClass (top 8) 0)) (defScope (inClass (top 8) 0)) [] [] (He.ma K (He.ga K "ValueText") "__init__") fd)  (mm_ValueText___init__ : (He.Fa.meth "ValueText" "__init__").ok K = true) (q_ValueText : (He.Fa.cls "ValueText").ok K = true) (na_ValueText_kinds : (He.Fa.noat "ValueText" "kinds").ok K = true) (na_ValueText_text : (He.Fa.noat "ValueText" "text").ok K = true) (na_ValueText_at : (He.Fa.noat "ValueText" "at").ok K = true) : MethK P w K mg base 1 "ValueText" "__init__" 3 f_ValueText___init__ := by
  refine meth_k F mm_ValueText___init__ (F.bindsN fun _ _ _ _ _ _ us hl => match us, hl with | [_, _, _], _ => by kernel_rfl) sc_ValueText___init__ rfl (by decide) fun E => ?_
  have h : DSs (famOf P w K mg base 0 ["self", "kinds", "text"] sc_ValueText___init__.nd "ValueText.__init__" (defScope (inClass (top 8) 0)) (He.ma K (He.ga K "ValueText") "__init__") E) (fun c d _ H' => E c d H') [0] (defBody (inClass (top 8) 0)) _ := (dss_cons (ds_setFld q_ValueText na_ValueText_kinds (de_var 1) (de_var 0))
    (dss_cons (ds_setFld q_ValueText na_ValueText_text (de_var 2) (de_var 0))
    (dss_one (ds_setFld q_ValueText na_ValueText_at de_int (de_var 0)))))
  exact h
theorem sc_ValueText_maker_name : FnScope ["self", "begin"] ["self"] (defScope (inClass (top 8) 2)) := fnC_ok (by decide +kernel)
theorem ok_ValueText_maker_name (F : FunD K "maker_name" "ValueText.maker_name" (defArgs (inClass (top 8) 2)) (defBody (inClass (top 8) 2)) (defScope (inClass (top 8) 2)) [] [] (He.ma K (He.ga K "ValueText") "maker_name") fd)  (g_len : mg "len" = none) (c_LETTERS : GK K mg "LETTERS" c_LETTERS) (mm_ValueText_maker_name : (He.Fa.meth "ValueText" "maker_name").ok K = true) (q_ValueText : (He.Fa.cls "ValueText").ok K = true) (na_ValueText_at : (He.Fa.noat "ValueText" "at").ok K = true) (na_ValueText_text : (He.Fa.noat "ValueText" "text").ok K = true) : MethK P w K mg base 1 "ValueText" "maker_name" 1 f_ValueText_maker_name := by
  refine meth_k F mm_ValueText_maker_name (F.bindsN fun _ _ _ _ _ _ us hl => match us, hl with | [_], _ => by kernel_rfl) sc_ValueText_maker_name rfl (by decide) fun E => ?_
  have h : DSs (famOf P w K mg base 0 ["self", "begin"] sc_ValueText_maker_name.nd "ValueText.maker_name" (defScope (inClass (top 8) 2)) (He.ma K (He.ga K "ValueText") "maker_name") E) (fun c d _ H' => E c d H') [0] (defBody (inClass (top 8) 2)) _ := (dss_cons (ds_set 1 (de_fld q_ValueText na_ValueText_at (de_var 0)))
    (dss_cons (ds_while (dt_w (dw_and (dt_cmp cr_lt (de_fld q_ValueText na_ValueText_at (de_var 0)) (de_len g_len (da_cons (de_fld q_ValueText na_ValueText_text (de_var 0)) da_nil))) (dw_and1 (dt_cmp cr_in (de_ix (de_fld q_ValueText na_ValueText_text (de_var 0)) (de_fld q_ValueText na_ValueText_at (de_var 0))) (de_gk c_LETTERS))))) (dss_one (ds_setFld q_ValueText na_ValueText_at (de_add (de_fld q_ValueText na_ValueText_at (de_var 0)) de_int) (de_var 0))))
    (dss_one (ds_ret (de_sl (de_fld q_ValueText na_ValueText_text (de_var 0)) (do_some (dn_var 1)) (do_some (dn_fld 0 q_ValueText na_ValueText_at)))))))
  exact h
theorem sc_ValueText_sign : FnScope ["self", "due"] ["self", "due"] (defScope (inClass (top 8) 1)) := fnC_ok (by decide +kernel)
theorem ok_ValueText_sign (F : FunD K "sign" "ValueText.sign" (defArgs (inClass (top 8) 1)) (defBody (inClass (top 8) 1)) (defScope (inClass (top 8) 1)) [] [] (He.ma K (He.ga K "ValueText") "sign") fd)  (g_len : mg "len" = none) (mm_ValueText_sign : (He.Fa.meth "ValueText" "sign").ok K = true) (q_ValueText : (He.Fa.cls "ValueText").ok K = true) (na_ValueText_at : (He.Fa.noat "ValueText" "at").ok K = true) (na_ValueText_text : (He.Fa.noat "ValueText" "text").ok K = true) (x_NoValue : (He.Fa.exc "NoValue").ok K = true) (m_NoValue : mg "NoValue" = some (.ref (He.ga K "NoValue"))) : MethK P w K mg base 1 "ValueText" "sign" 2 f_ValueText_sign := by
  refine meth_k F mm_ValueText_sign (F.bindsN fun _ _ _ _ _ _ us hl => match us, hl with | [_, _], _ => by kernel_rfl) sc_ValueText_sign rfl (by decide) fun E => ?_
  have h : DSs (famOf P w K mg base 0 ["self", "due"] sc_ValueText_sign.nd "ValueText.sign" (defScope (inClass (top 8) 1)) (He.ma K (He.ga K "ValueText") "sign") E) (fun c d _ H' => E c d H') [0] (defBody (inClass (top 8) 1)) _ := (dss_cons (ds_if (dt_w (dw_or (dt_cmp cr_eq (de_fld q_ValueText na_ValueText_at (de_var 0)) (de_len g_len (da_cons (de_fld q_ValueText na_ValueText_text (de_var 0)) da_nil))) (dw_or1 (dt_cmp cr_ne (de_ix (de_fld q_ValueText na_ValueText_text (de_var 0)) (de_fld q_ValueText na_ValueText_at (de_var 0))) (de_var 1))))) (dss_one (ds_raise0 x_NoValue m_NoValue ft_fam)) dss_nil)
    (dss_one (ds_setFld q_ValueText na_ValueText_at (de_add (de_fld q_ValueText na_ValueText_at (de_var 0)) de_int) (de_var 0))))
  exact h
theorem sc_ValueText_value_of : FnScope ["self", "kind", "maker", "some", "parts", "k", "field", "name", "fields"] ["self", "kind"] (defScope (inClass (top 8) 3)) := fnC_ok (by decide +kernel)
theorem ok_ValueText_value_of (F : FunD K "value_of" "ValueText.value_of" (defArgs (inClass (top 8) 3)) (defBody (inClass (top 8) 3)) (defScope (inClass (top 8) 3)) [] [] (He.ma K (He.ga K "ValueText") "value_of") fd)  (g_len : mg "len" = none) (g_enumerate : mg "enumerate" = none) (g_int : mg "int" = none) (g_tuple : mg "tuple" = none) (k_ValueText_maker_name : MethK P w K mg base 1 "ValueText" "maker_name" 1 f_ValueText_maker_name) (k_makers_of : DefK P w K mg base 1 "makers_of" 2 f_makers_of) (k_ValueText_sign : MethK P w K mg base 1 "ValueText" "sign" 2 f_ValueText_sign) (mm_ValueText_value_of : (He.Fa.meth "ValueText" "value_of").ok K = true) (q_ValueText : (He.Fa.cls "ValueText").ok K = true) (na_ValueText_kinds : (He.Fa.noat "ValueText" "kinds").ok K = true) (x_NoValue : (He.Fa.exc "NoValue").ok K = true) (m_NoValue : mg "NoValue" = some (.ref (He.ga K "NoValue"))) : ∀ n, MethK P w K mg base (1 + n) "ValueText" "value_of" 2 (r_ValueText_value_of n)
  | 0 => meth_bad (N := []) (ps := ["self", "kind"]) F mm_ValueText_value_of (F.bindsN fun _ _ _ _ _ _ us hl => match us, hl with | [_, _], _ => by kernel_rfl) rfl
  | n + 1 => by
    have k_ValueText_value_of := ok_ValueText_value_of F  g_len g_enumerate g_int g_tuple k_ValueText_maker_name k_makers_of k_ValueText_sign mm_ValueText_value_of q_ValueText na_ValueText_kinds x_NoValue m_NoValue n
    refine meth_k F mm_ValueText_value_of (F.bindsN fun _ _ _ _ _ _ us hl => match us, hl with | [_, _], _ => by kernel_rfl) sc_ValueText_value_of rfl (by decide) fun E => ?_
    have h : DSs (famOf P w K mg base (1 + n) ["self", "kind", "maker", "some", "parts", "k", "field", "name", "fields"] sc_ValueText_value_of.nd "ValueText.value_of" (defScope (inClass (top 8) 3)) (He.ma K (He.ga K "ValueText") "value_of") E) (fun c d _ H' => E c d H') [0] (defBody (inClass (top 8) 3)) _ := (dss_cons (ds_set 2 (de_methD0 [true] (k_ValueText_maker_name.mono (by omega)) q_ValueText ft_fam (de_var 0)))
    (dss_cons (ds_setLc 3 [("name", 7), ("fields", 8)] (di_seq (de_call [false, false] (k_makers_of.mono (by omega)) ft_fam (da_cons (de_fld q_ValueText na_ValueText_kinds (de_var 0)) (da_cons (de_var 1) da_nil)))) (dg_tup (n := 2) (dgs_cons (dg_name 7) (dgs_cons (dg_name 8) dgs_nil))) (dts_one (dt_cmp cr_eq (de_var 7) (de_var 2))) (de_var 8))
    (dss_cons (ds_if (dt_cmp cr_eq (de_len g_len (da_cons (de_var 3) da_nil)) de_int) (dss_one (ds_raise0 x_NoValue m_NoValue ft_fam)) dss_nil)
    (dss_cons (ds_set 4 (de_lst da_nil))
    (dss_cons (ds_for (di_enum g_enumerate (da_cons (de_ix (de_var 3) de_int) da_nil)) (dg_tup (n := 2) (dgs_cons (dg_name 5) (dgs_cons (dg_name 6) dgs_nil))) (dss_cons (ds_expr (de_methD [true, false] (k_ValueText_sign.mono (by omega)) q_ValueText ft_fam (de_var 0) (da_cons (de_ix de_str (de_intc g_int (da_cons (de_cmp cr_gt (de_var 5) de_int) da_nil))) da_nil)))
    (dss_one (ds_expr (de_app (de_var 4) (de_methD [true, false] (k_ValueText_value_of.mono (by omega)) q_ValueText ft_fam (de_var 0) (da_cons (de_var 6) da_nil)))))))
    (dss_cons (ds_if (dt_cmp cr_gt (de_len g_len (da_cons (de_var 4) da_nil)) de_int) (dss_one (ds_expr (de_methD [true, false] (k_ValueText_sign.mono (by omega)) q_ValueText ft_fam (de_var 0) (da_cons de_str da_nil)))) dss_nil)
    (dss_one (ds_ret (de_tup (da_cons (de_var 2) (da_cons (de_tuplec g_tuple (da_cons (de_var 4) da_nil)) da_nil)))))))))))
    exact h
theorem sc_read_value : FnScope ["kinds", "kind", "text", "reader", "value"] ["kinds", "kind", "text"] (defScope (top 9)) := fnC_ok (by decide +kernel)
theorem ok_read_value (F : FunD K "read_value" "read_value" (defArgs (top 9)) (defBody (top 9)) (defScope (top 9)) [] [] f fd) (hm : mg "read_value" = some (.ref f)) (g_len : mg "len" = none) (k_ValueText___init__ : MethK P w K mg base 1 "ValueText" "__init__" 3 f_ValueText___init__) (k_ValueText_value_of : MethK P w K mg base 81 "ValueText" "value_of" 2 f_ValueText_value_of) (mk_ValueText : (He.Fa.mkr "ValueText").ok K = true) (m_ValueText : mg "ValueText" = some (.ref (He.ga K "ValueText"))) (q_ValueText : (He.Fa.cls "ValueText").ok K = true) (na_ValueText_at : (He.Fa.noat "ValueText" "at").ok K = true) (x_NoValue : (He.Fa.exc "NoValue").ok K = true) (m_NoValue : mg "NoValue" = some (.ref (He.ga K "NoValue"))) : DefK P w K mg base 82 "read_value" 3 f_read_value := by
  refine def_k F hm (F.bindsN fun _ _ _ _ _ _ us hl => match us, hl with | [_, _, _], _ => by kernel_rfl) sc_read_value rfl (by decide) fun E => ?_
  have h : DSs (famOf P w K mg base 81 ["kinds", "kind", "text", "reader", "value"] sc_read_value.nd "read_value" (defScope (top 9)) f E) (fun c d _ H' => E c d H') [] (defBody (top 9)) _ := (dss_cons (ds_set 3 (de_mk [false, false] k_ValueText___init__ (by decide) mk_ValueText m_ValueText ft_fam (da_cons (de_var 0) (da_cons (de_var 2) da_nil))))
    (dss_cons (ds_set 4 (de_methD [true, false] (k_ValueText_value_of.mono (by decide)) q_ValueText ft_fam (de_var 3) (da_cons (de_var 1) da_nil)))
    (dss_cons (ds_if (dt_cmp cr_ne (de_fld q_ValueText na_ValueText_at (de_var 3)) (de_len g_len (da_cons (de_var 2) da_nil))) (dss_one (ds_raise0 x_NoValue m_NoValue ft_fam)) dss_nil)
    (dss_one (ds_ret (de_var 4))))))
  exact h
theorem sc_law_deal : FnScope ["_law_script", "_law_base", "_law_cells", "_law_number", "_law_cell"] ["_law_script", "_law_base"] (defScope (top 11)) := fnC_ok (by decide +kernel)
theorem ok_law_deal (F : FunD K "_law_deal" "_law_deal" (defArgs (top 11)) (defBody (top 11)) (defScope (top 11)) [] [] f fd) (hm : mg "_law_deal" = some (.ref f)) (g_max : mg "max" = none) (g_list : mg "list" = none) (g_reversed : mg "reversed" = none) : DefK P w K mg base 1 "_law_deal" 2 f_law_deal := by
  refine def_k F hm (F.bindsN fun _ _ _ _ _ _ us hl => match us, hl with | [_, _], _ => by kernel_rfl) sc_law_deal rfl (by decide) fun E => ?_
  have h : DSs (famOf P w K mg base 0 ["_law_script", "_law_base", "_law_cells", "_law_number", "_law_cell"] sc_law_deal.nd "_law_deal" (defScope (top 11)) f E) (fun c d _ H' => E c d H') [] (defBody (top 11)) _ := (dss_cons (ds_setLc 2 [("_law_cell", 4)] (di_seq (de_sl (de_var 0) (do_some (dn_var 1)) (do_some dn_int))) (dg_name 4) dts_nil (de_max2 g_max (da_cons (de_var 4) (da_cons (de_sub de_int (de_var 4)) da_nil))))
    (dss_cons (ds_set 3 (de_add de_int (de_var 1)))
    (dss_cons (ds_for (di_seq (de_var 2)) (dg_name 4) (dss_one (ds_set 3 (de_mod (de_add (de_mul (de_var 3) de_int) (de_mod (de_var 4) de_int)) de_int))))
    (dss_one (ds_ret (de_dict (dps_cons de_str (de_var 3) (dps_cons de_str de_int (dps_cons de_str (de_listRev g_list g_reversed (de_lc [("_law_cell", 4)] (di_seq (de_var 2)) (dg_name 4) (dts_one (dt_cmp cr_ge (de_var 4) (de_pow de_int de_int))) (de_var 4))) dps_nil)))))))))
  exact h
theorem sc_law_draw : FnScope ["_law_deal_here", "_law_many", "_law_number", "_law_one", "_law_other"] ["_law_deal_here", "_law_many"] (defScope (top 12)) := fnC_ok (by decide +kernel)
theorem ok_law_draw (F : FunD K "_law_draw" "_law_draw" (defArgs (top 12)) (defBody (top 12)) (defScope (top 12)) [] [] f fd) (hm : mg "_law_draw" = some (.ref f)) (g_len : mg "len" = none) : DefK P w K mg base 1 "_law_draw" 2 f_law_draw := by
  refine def_k F hm (F.bindsN fun _ _ _ _ _ _ us hl => match us, hl with | [_, _], _ => by kernel_rfl) sc_law_draw rfl (by decide) fun E => ?_
  have h : DSs (famOf P w K mg base 0 ["_law_deal_here", "_law_many", "_law_number", "_law_one", "_law_other"] sc_law_draw.nd "_law_draw" (defScope (top 12)) f E) (fun c d _ H' => E c d H') [0] (defBody (top 12)) _ := (dss_cons (ds_while (dt_w (dw_and (dt_cmp cr_eq (de_ix (de_var 0) de_str) de_int) (dw_and1 (dt_cmp cr_gt (de_len g_len (da_cons (de_ix (de_var 0) de_str) da_nil)) de_int)))) (dss_one (ds_setIx (de_pop (de_ix (de_var 0) de_str)) (de_var 0) de_str)))
    (dss_cons (ds_set 2 (de_ix (de_var 0) de_str))
    (dss_cons (ds_if (dt_cmp cr_gt (de_var 2) de_int) (dss_cons (ds_setIx (de_div (de_var 2) (de_var 1)) (de_var 0) de_str)
    (dss_one (ds_ret (de_mod (de_var 2) (de_var 1))))) dss_nil)
    (dss_cons (ds_set 3 (de_mod (de_add (de_mul (de_ix (de_var 0) de_str) de_int) de_int) de_int))
    (dss_cons (ds_setIx (de_mod (de_add (de_mul (de_var 3) de_int) de_int) de_int) (de_var 0) de_str)
    (dss_cons (ds_set 4 (de_mod (de_mul (de_ix (de_var 0) de_str) (de_ix (de_var 0) de_str)) de_int))
    (dss_one (ds_ret (de_mod (de_add (de_mul (de_mod (de_mul (de_var 3) (de_var 3)) de_int) de_int) (de_var 4)) (de_var 1))))))))))
  exact h
theorem sc_law_words : FnScope ["_law_deal_here", "_law_many", "_law_letters", "_law_core", "_law_at", "_law_turn", "_law_found", "_law_k", "_law_own", "_law_word", "_law_near"] ["_law_deal_here", "_law_many"] (defScope (top 13)) := fnC_ok (by decide +kernel)
theorem ok_law_words (F : FunD K "_law_words" "_law_words" (defArgs (top 13)) (defBody (top 13)) (defScope (top 13)) [] [] f fd) (hm : mg "_law_words" = some (.ref f)) (g_range : mg "range" = none) (g_len : mg "len" = none) (k_law_draw : DefK P w K mg base 1 "_law_draw" 2 f_law_draw) : DefK P w K mg base 2 "_law_words" 2 f_law_words := by
  refine def_k F hm (F.bindsN fun _ _ _ _ _ _ us hl => match us, hl with | [_, _], _ => by kernel_rfl) sc_law_words rfl (by decide) fun E => ?_
  have h : DSs (famOf P w K mg base 1 ["_law_deal_here", "_law_many", "_law_letters", "_law_core", "_law_at", "_law_turn", "_law_found", "_law_k", "_law_own", "_law_word", "_law_near"] sc_law_words.nd "_law_words" (defScope (top 13)) f E) (fun c d _ H' => E c d H') [0] (defBody (top 13)) _ := (dss_cons (ds_set 2 de_str)
    (dss_cons (ds_set 3 (de_join de_str (da_cons (de_lc [("_law_k", 7)] (di_rg1 g_range (da_cons (de_call [true, false] (k_law_draw.mono (by decide)) ft_fam (da_cons (de_var 0) (da_cons de_int da_nil))) da_nil)) (dg_name 7) dts_nil (de_ix (de_var 2) (de_call [true, false] (k_law_draw.mono (by decide)) ft_blk (da_cons (de_var 0) (da_cons de_int da_nil))))) da_nil)))
    (dss_cons (ds_set 4 (de_call [true, false] (k_law_draw.mono (by decide)) ft_fam (da_cons (de_var 0) (da_cons (de_add (de_len g_len (da_cons (de_var 3) da_nil)) de_int) da_nil))))
    (dss_cons (ds_set 5 (de_call [true, false] (k_law_draw.mono (by decide)) ft_fam (da_cons (de_var 0) (da_cons de_int da_nil))))
    (dss_cons (ds_set 6 (de_lst da_nil))
    (dss_cons (ds_for (di_rg1 g_range (da_cons (de_var 1) da_nil)) (dg_name 7) (dss_cons (ds_set 8 (de_ix (de_var 2) (de_mod (de_add (de_var 5) (de_mulA de_int (de_var 7))) de_int)))
    (dss_cons (ds_set 9 (de_add (de_add (de_add (de_add (de_sl (de_var 3) do_none (do_some (dn_var 4))) (de_var 8)) (de_sl (de_var 3) (do_some (dn_var 4)) do_none)) (de_mulA de_str (de_mod (de_var 7) de_int))) (de_mulA de_str (de_div (de_var 7) de_int))))
    (dss_cons (ds_if (dt_cmp cr_in (de_var 9) (de_tup (da_cons de_str (da_cons de_str (da_cons de_str (da_cons de_str (da_cons de_str (da_cons de_str da_nil)))))))) (dss_one (ds_set 9 (de_add (de_var 9) de_str))) dss_nil)
    (dss_cons (ds_if (dt_cmp cr_in (de_var 9) (de_tup (da_cons de_str (da_cons de_str (da_cons de_str (da_cons de_str (da_cons de_str (da_cons de_str da_nil)))))))) (dss_one (ds_set 9 (de_add (de_var 9) de_str))) dss_nil)
    (dss_one (ds_expr (de_app (de_var 6) (de_var 9)))))))))
    (dss_cons (ds_set 10 (de_lst (da_cons de_str (da_cons de_str (da_cons de_str (da_cons de_str (da_cons de_str (da_cons de_str da_nil))))))))
    (dss_cons (ds_set 10 (de_add (de_var 10) (de_lst (da_cons de_str (da_cons de_str (da_cons de_str (da_cons de_str (da_cons de_str (da_cons de_str da_nil)))))))))
    (dss_cons (ds_set 9 (de_ix (de_var 10) (de_call [true, false] (k_law_draw.mono (by decide)) ft_fam (da_cons (de_var 0) (da_cons de_int da_nil)))))
    (dss_cons (ds_if (dt_w (dw_and (dt_cmp cr_eq (de_call [true, false] (k_law_draw.mono (by decide)) ft_fam (da_cons (de_var 0) (da_cons de_int da_nil))) de_int) (dw_and1 (dt_cmp cr_nin (de_var 9) (de_var 6))))) (dss_one (ds_setIx (de_var 9) (de_var 6) (de_call [true, false] (k_law_draw.mono (by decide)) ft_fam (da_cons (de_var 0) (da_cons (de_var 1) da_nil))))) dss_nil)
    (dss_one (ds_ret (de_var 6)))))))))))))
  exact h
theorem sc_law_kinds : FnScope ["_law_deal_here", "_law_words_here", "_law_form", "_law_a", "_law_b", "_law_m", "_law_found", "_law_many", "_law_made", "_law_k", "_law_makers", "_law_j", "_law_wide", "_law_fields", "_law_i"] ["_law_deal_here", "_law_words_here"] (defScope (top 14)) := fnC_ok (by decide +kernel)
theorem ok_law_kinds (F : FunD K "_law_kinds" "_law_kinds" (defArgs (top 14)) (defBody (top 14)) (defScope (top 14)) [] [] f fd) (hm : mg "_law_kinds" = some (.ref f)) (g_range : mg "range" = none) (g_int : mg "int" = none) (g_tuple : mg "tuple" = none) (k_law_draw : DefK P w K mg base 1 "_law_draw" 2 f_law_draw) : DefK P w K mg base 2 "_law_kinds" 2 f_law_kinds := by
  refine def_k F hm (F.bindsN fun _ _ _ _ _ _ us hl => match us, hl with | [_, _], _ => by kernel_rfl) sc_law_kinds rfl (by decide) fun E => ?_
  have h : DSs (famOf P w K mg base 1 ["_law_deal_here", "_law_words_here", "_law_form", "_law_a", "_law_b", "_law_m", "_law_found", "_law_many", "_law_made", "_law_k", "_law_makers", "_law_j", "_law_wide", "_law_fields", "_law_i"] sc_law_kinds.nd "_law_kinds" (defScope (top 14)) f E) (fun c d _ H' => E c d H') [0] (defBody (top 14)) _ := (dss_cons (ds_set 2 (de_call [true, false] (k_law_draw.mono (by decide)) ft_fam (da_cons (de_var 0) (da_cons de_int da_nil))))
    (dss_cons (ds_par2 3 4 (da_cons (de_ix (de_var 1) de_int) (da_cons (de_ix (de_var 1) de_int) da_nil)))
    (dss_cons (ds_set 5 (de_add (de_sl (de_var 1) (do_some dn_int) do_none) (de_sl (de_var 1) do_none (do_some dn_int))))
    (dss_cons (ds_if (dt_cmp cr_eq (de_var 2) de_int) (dss_one (ds_ret (de_tup (da_cons (de_tup (da_cons (de_var 3) (da_cons (de_tup (da_cons (de_tup (da_cons (de_ix (de_var 5) de_int) (da_cons (de_tup da_nil) da_nil))) (da_cons (de_tup (da_cons (de_ix (de_var 5) de_int) (da_cons (de_tup (da_cons (de_var 3) da_nil)) da_nil))) da_nil))) da_nil))) da_nil)))) dss_nil)
    (dss_cons (ds_if (dt_cmp cr_eq (de_var 2) de_int) (dss_one (ds_ret (de_tup (da_cons (de_tup (da_cons (de_var 3) (da_cons (de_tup (da_cons (de_tup (da_cons (de_ix (de_var 5) de_int) (da_cons (de_tup da_nil) da_nil))) (da_cons (de_tup (da_cons (de_ix (de_var 5) de_int) (da_cons (de_tup (da_cons (de_var 3) da_nil)) da_nil))) (da_cons (de_tup (da_cons (de_ix (de_var 5) de_int) (da_cons (de_tup (da_cons (de_var 3) da_nil)) da_nil))) da_nil)))) da_nil))) da_nil)))) dss_nil)
    (dss_cons (ds_if (dt_cmp cr_eq (de_var 2) de_int) (dss_one (ds_ret (de_tup (da_cons (de_tup (da_cons (de_var 3) (da_cons (de_tup (da_cons (de_tup (da_cons (de_ix (de_var 5) de_int) (da_cons (de_tup da_nil) da_nil))) (da_cons (de_tup (da_cons (de_ix (de_var 5) de_int) (da_cons (de_tup da_nil) da_nil))) da_nil))) da_nil))) (da_cons (de_tup (da_cons (de_var 4) (da_cons (de_tup (da_cons (de_tup (da_cons (de_ix (de_var 5) de_int) (da_cons (de_tup da_nil) da_nil))) (da_cons (de_tup (da_cons (de_ix (de_var 5) de_int) (da_cons (de_tup (da_cons (de_var 3) (da_cons (de_var 4) da_nil))) da_nil))) da_nil))) da_nil))) da_nil))))) dss_nil)
    (dss_cons (ds_if (dt_cmp cr_eq (de_var 2) de_int) (dss_one (ds_ret (de_tup (da_cons (de_tup (da_cons (de_var 3) (da_cons (de_tup (da_cons (de_tup (da_cons (de_ix (de_var 5) de_int) (da_cons (de_tup da_nil) da_nil))) (da_cons (de_tup (da_cons (de_ix (de_var 5) de_int) (da_cons (de_tup (da_cons (de_var 3) (da_cons (de_var 3) da_nil))) da_nil))) da_nil))) da_nil))) da_nil)))) dss_nil)
    (dss_cons (ds_if (dt_cmp cr_eq (de_var 2) de_int) (dss_one (ds_ret (de_tup (da_cons (de_tup (da_cons (de_var 3) (da_cons (de_tup (da_cons (de_tup (da_cons (de_ix (de_var 5) de_int) (da_cons (de_tup da_nil) da_nil))) (da_cons (de_tup (da_cons (de_ix (de_var 5) de_int) (da_cons (de_tup (da_cons (de_var 4) da_nil)) da_nil))) da_nil))) da_nil))) (da_cons (de_tup (da_cons (de_var 4) (da_cons (de_tup (da_cons (de_tup (da_cons (de_ix (de_var 5) de_int) (da_cons (de_tup (da_cons (de_var 3) da_nil)) da_nil))) da_nil)) da_nil))) da_nil))))) dss_nil)
    (dss_cons (ds_set 6 (de_lst da_nil))
    (dss_cons (ds_set 7 (de_add de_int (de_call [true, false] (k_law_draw.mono (by decide)) ft_fam (da_cons (de_var 0) (da_cons de_int da_nil)))))
    (dss_cons (ds_set 8 de_int)
    (dss_cons (ds_for (di_rg1 g_range (da_cons (de_var 7) da_nil)) (dg_name 9) (dss_cons (ds_set 10 (de_lst da_nil))
    (dss_cons (ds_for (di_rg1 g_range (da_cons (de_add de_int (de_call [true, false] (k_law_draw.mono (by decide)) ft_fam (da_cons (de_var 0) (da_cons (de_ix (de_lst (da_cons de_int (da_cons de_int da_nil))) (de_intc g_int (da_cons (de_cmp cr_eq (de_var 7) de_int) da_nil))) da_nil)))) da_nil)) (dg_name 11) (dss_cons (ds_set 12 (de_mulA (de_call [true, false] (k_law_draw.mono (by decide)) ft_fam (da_cons (de_var 0) (da_cons (de_ix (de_lst (da_cons de_int (da_cons de_int (da_cons de_int da_nil)))) (de_call [true, false] (k_law_draw.mono (by decide)) ft_fam (da_cons (de_var 0) (da_cons de_int da_nil)))) da_nil))) (de_intc g_int (da_cons (de_cmp cr_gt (de_add (de_var 9) (de_var 11)) de_int) da_nil))))
    (dss_cons (ds_setLc 13 [("_law_i", 14)] (di_rg1 g_range (da_cons (de_var 12) da_nil)) (dg_name 14) dts_nil (de_ix (de_var 1) (de_call [true, false] (k_law_draw.mono (by decide)) ft_blk (da_cons (de_var 0) (da_cons (de_var 7) da_nil)))))
    (dss_cons (ds_expr (de_app (de_var 10) (de_tup (da_cons (de_ix (de_var 5) (de_var 8)) (da_cons (de_tuplec g_tuple (da_cons (de_var 13) da_nil)) da_nil)))))
    (dss_one (ds_set 8 (de_add (de_var 8) de_int)))))))
    (dss_one (ds_expr (de_app (de_var 6) (de_tup (da_cons (de_ix (de_var 1) (de_var 9)) (da_cons (de_tuplec g_tuple (da_cons (de_var 10) da_nil)) da_nil)))))))))
    (dss_one (ds_ret (de_tuplec g_tuple (da_cons (de_var 6) da_nil))))))))))))))))
  exact h
theorem sc_law_leasts : FnScope ["_law_kinds_here", "_law_found", "_law_turn", "_law_kind", "_law_makers", "_law_maker", "_law_fields", "_law_many", "_law_field"] ["_law_kinds_here"] (defScope (top 15)) := fnC_ok (by decide +kernel)
theorem ok_law_leasts (F : FunD K "_law_leasts" "_law_leasts" (defArgs (top 15)) (defBody (top 15)) (defScope (top 15)) [] [] f fd) (hm : mg "_law_leasts" = some (.ref f)) (g_range : mg "range" = none) (g_len : mg "len" = none) (g_all : mg "all" = none) (g_sum : mg "sum" = none) (g_min : mg "min" = none) : DefK P w K mg base 1 "_law_leasts" 1 f_law_leasts := by
  refine def_k F hm (F.bindsN fun _ _ _ _ _ _ us hl => match us, hl with | [_], _ => by kernel_rfl) sc_law_leasts rfl (by decide) fun E => ?_
  have h : DSs (famOf P w K mg base 0 ["_law_kinds_here", "_law_found", "_law_turn", "_law_kind", "_law_makers", "_law_maker", "_law_fields", "_law_many", "_law_field"] sc_law_leasts.nd "_law_leasts" (defScope (top 15)) f E) (fun c d _ H' => E c d H') [] (defBody (top 15)) _ := (dss_cons (ds_set 1 de_dict0)
    (dss_cons (ds_for (di_rg1 g_range (da_cons (de_add (de_len g_len (da_cons (de_var 0) da_nil)) de_int) da_nil)) (dg_name 2) (dss_one (ds_for (di_seq (de_var 0)) (dg_tup (n := 2) (dgs_cons (dg_name 3) (dgs_cons (dg_name 4) dgs_nil))) (dss_one (ds_for (di_seq (de_var 4)) (dg_tup (n := 2) (dgs_cons (dg_name 5) (dgs_cons (dg_name 6) dgs_nil))) (dss_one (ds_if (dt_val (de_all g_all (da_cons (de_lc [("_law_field", 8)] (di_seq (de_var 6)) (dg_name 8) dts_nil (de_cmp cr_in (de_var 8) (de_var 1))) da_nil))) (dss_cons (ds_set 7 (de_add de_int (de_sum g_sum (da_cons (de_lc [("_law_field", 8)] (di_seq (de_var 6)) (dg_name 8) dts_nil (de_ix (de_var 1) (de_var 8))) da_nil))))
    (dss_one (ds_setIx (de_min2 g_min (da_cons (de_get2 (de_var 1) (da_cons (de_var 3) (da_cons (de_var 7) da_nil))) (da_cons (de_var 7) da_nil))) (de_var 1) (de_var 3)))) dss_nil)))))))
    (dss_one (ds_ret (de_var 1)))))
  exact h
theorem sc_law_value : FnScope ["_law_deal_here", "_law_kinds_here", "_law_leasts_here", "_law_kind", "_law_room", "_law_some", "_law_maker", "_law_fields", "_law_spare", "_law_parts", "_law_field", "_law_more"] ["_law_deal_here", "_law_kinds_here", "_law_leasts_here", "_law_kind", "_law_room"] (defScope (top 16)) := fnC_ok (by decide +kernel)
theorem ok_law_value (F : FunD K "_law_value" "_law_value" (defArgs (top 16)) (defBody (top 16)) (defScope (top 16)) [] [] f fd) (hm : mg "_law_value" = some (.ref f)) (g_dict : mg "dict" = none) (g_all : mg "all" = none) (g_sum : mg "sum" = none) (g_len : mg "len" = none) (g_max : mg "max" = none) (g_tuple : mg "tuple" = none) (k_law_draw : DefK P w K mg base 1 "_law_draw" 2 f_law_draw) : ∀ n, DefK P w K mg base (1 + n) "_law_value" 5 (r_law_value n)
  | 0 => def_bad (N := []) (ps := ["_law_deal_here", "_law_kinds_here", "_law_leasts_here", "_law_kind", "_law_room"]) F hm (F.bindsN fun _ _ _ _ _ _ us hl => match us, hl with | [_, _, _, _, _], _ => by kernel_rfl) rfl
  | n + 1 => by
    have k_law_value := ok_law_value F hm g_dict g_all g_sum g_len g_max g_tuple k_law_draw n
    refine def_k F hm (F.bindsN fun _ _ _ _ _ _ us hl => match us, hl with | [_, _, _, _, _], _ => by kernel_rfl) sc_law_value rfl (by decide) fun E => ?_
    have h : DSs (famOf P w K mg base (1 + n) ["_law_deal_here", "_law_kinds_here", "_law_leasts_here", "_law_kind", "_law_room", "_law_some", "_law_maker", "_law_fields", "_law_spare", "_law_parts", "_law_field", "_law_more"] sc_law_value.nd "_law_value" (defScope (top 16)) f E) (fun c d _ H' => E c d H') [0] (defBody (top 16)) _ := (dss_cons (ds_set 5 (de_lst da_nil))
    (dss_cons (ds_for (di_seq (de_ix (de_dictc g_dict (da_cons (de_var 1) da_nil)) (de_var 3))) (dg_tup (n := 2) (dgs_cons (dg_name 6) (dgs_cons (dg_name 7) dgs_nil))) (dss_one (ds_if (dt_val (de_all g_all (da_cons (de_lc [("_law_field", 10)] (di_seq (de_var 7)) (dg_name 10) dts_nil (de_cmp cr_in (de_var 10) (de_var 2))) da_nil))) (dss_one (ds_if (dt_cmp cr_le (de_add de_int (de_sum g_sum (da_cons (de_lc [("_law_field", 10)] (di_seq (de_var 7)) (dg_name 10) dts_nil (de_ix (de_var 2) (de_var 10))) da_nil))) (de_var 4)) (dss_one (ds_expr (de_app (de_var 5) (de_tup (da_cons (de_var 6) (da_cons (de_var 7) da_nil)))))) dss_nil)) dss_nil)))
    (dss_cons (ds_asg (de_ix (de_var 5) (de_max2 g_max (da_cons (de_call [true, false] (k_law_draw.mono (by omega)) ft_fam (da_cons (de_var 0) (da_cons (de_len g_len (da_cons (de_var 5) da_nil)) da_nil))) (da_cons (de_call [true, false] (k_law_draw.mono (by omega)) ft_fam (da_cons (de_var 0) (da_cons (de_len g_len (da_cons (de_var 5) da_nil)) da_nil))) da_nil)))) (dg_tup (n := 2) (dgs_cons (dg_name 6) (dgs_cons (dg_name 7) dgs_nil))))
    (dss_cons (ds_set 8 (de_sub (de_sub (de_var 4) de_int) (de_sum g_sum (da_cons (de_lc [("_law_field", 10)] (di_seq (de_var 7)) (dg_name 10) dts_nil (de_ix (de_var 2) (de_var 10))) da_nil))))
    (dss_cons (ds_set 9 (de_lst da_nil))
    (dss_cons (ds_for (di_seq (de_var 7)) (dg_name 10) (dss_cons (ds_set 11 (de_call [true, false] (k_law_draw.mono (by omega)) ft_fam (da_cons (de_var 0) (da_cons (de_add (de_var 8) de_int) da_nil))))
    (dss_cons (ds_set 8 (de_sub (de_var 8) (de_var 11)))
    (dss_one (ds_expr (de_app (de_var 9) (de_call [true, false, false, false, false] (k_law_value.mono (by omega)) ft_fam (da_cons (de_var 0) (da_cons (de_var 1) (da_cons (de_var 2) (da_cons (de_var 10) (da_cons (de_add (de_ix (de_var 2) (de_var 10)) (de_var 11)) da_nil))))))))))))
    (dss_one (ds_ret (de_tup (da_cons (de_var 6) (da_cons (de_tuplec g_tuple (da_cons (de_var 9) da_nil)) da_nil)))))))))))
    exact h
theorem sc_law_text : FnScope ["_law_value_here", "_law_text_here", "_law_k", "_law_part"] ["_law_value_here"] (defScope (top 17)) := fnC_ok (by decide +kernel)
theorem ok_law_text (F : FunD K "_law_text" "_law_text" (defArgs (top 17)) (defBody (top 17)) (defScope (top 17)) [] [] f fd) (hm : mg "_law_text" = some (.ref f)) (g_enumerate : mg "enumerate" = none) (g_int : mg "int" = none) (g_len : mg "len" = none) : ∀ n, DefK P w K mg base (0 + n) "_law_text" 1 (r_law_text n)
  | 0 => def_bad (N := []) (ps := ["_law_value_here"]) F hm (F.bindsN fun _ _ _ _ _ _ us hl => match us, hl with | [_], _ => by kernel_rfl) rfl
  | n + 1 => by
    have k_law_text := ok_law_text F hm g_enumerate g_int g_len n
    refine def_k F hm (F.bindsN fun _ _ _ _ _ _ us hl => match us, hl with | [_], _ => by kernel_rfl) sc_law_text rfl (by decide) fun E => ?_
    have h : DSs (famOf P w K mg base (0 + n) ["_law_value_here", "_law_text_here", "_law_k", "_law_part"] sc_law_text.nd "_law_text" (defScope (top 17)) f E) (fun c d _ H' => E c d H') [] (defBody (top 17)) _ := (dss_cons (ds_set 1 (de_ix (de_var 0) de_int))
    (dss_cons (ds_for (di_enum g_enumerate (da_cons (de_ix (de_var 0) de_int) da_nil)) (dg_tup (n := 2) (dgs_cons (dg_name 2) (dgs_cons (dg_name 3) dgs_nil))) (dss_one (ds_set 1 (de_add (de_add (de_var 1) (de_ix de_str (de_intc g_int (da_cons (de_cmp cr_gt (de_var 2) de_int) da_nil)))) (de_call [false] (k_law_text.mono (by omega)) ft_fam (da_cons (de_var 3) da_nil))))))
    (dss_one (ds_ret (de_add (de_var 1) (de_mulA de_str (de_intc g_int (da_cons (de_cmp cr_gt (de_len g_len (da_cons (de_ix (de_var 0) de_int) da_nil)) de_int) da_nil))))))))
    exact h
theorem sc_law_read : FnScope ["_law_kinds_here", "_law_kind", "_law_text_here", "_law_found"] ["_law_kinds_here", "_law_kind", "_law_text_here"] (defScope (top 18)) := fnC_ok (by decide +kernel)
theorem ok_law_read (F : FunD K "_law_read" "_law_read" (defArgs (top 18)) (defBody (top 18)) (defScope (top 18)) [] [] f fd) (hm : mg "_law_read" = some (.ref f)) (k_read_value : DefK P w K mg base 82 "read_value" 3 f_read_value) (y_NoValue_NoValue : (He.Fa.exm "NoValue" "NoValue" true).ok K = true) (m_NoValue : mg "NoValue" = some (.ref (He.ga K "NoValue"))) : DefK P w K mg base 83 "_law_read" 3 f_law_read := by
  refine def_k F hm (F.bindsN fun _ _ _ _ _ _ us hl => match us, hl with | [_, _, _], _ => by kernel_rfl) sc_law_read rfl (by decide) fun E => ?_
  have h : DSs (famOf P w K mg base 82 ["_law_kinds_here", "_law_kind", "_law_text_here", "_law_found"] sc_law_read.nd "_law_read" (defScope (top 18)) f E) (fun c d _ H' => E c d H') [] (defBody (top 18)) _ := (dss_cons (ds_set 3 de_non)
    (dss_cons (ds_try1 [("NoValue", true)] (fun _ => (dss_one (ds_set 3 (de_call [false, false, false] (k_read_value.mono (by decide)) ft_tr (da_cons (de_var 0) (da_cons (de_var 1) (da_cons (de_var 2) da_nil))))))) (dss_one (ds_set 3 de_non)) ft_fam m_NoValue (tab_cons (He.exm_ok y_NoValue_NoValue) tab_nil))
    (dss_one (ds_ret (de_var 3)))))
  exact h
theorem sc_law_alike : FnScope ["_law_found", "_law_due", "_law_one", "_law_other"] ["_law_found", "_law_due"] (defScope (top 19)) := fnC_ok (by decide +kernel)
theorem ok_law_alike (F : FunD K "_law_alike" "_law_alike" (defArgs (top 19)) (defBody (top 19)) (defScope (top 19)) [] [] f fd) (hm : mg "_law_alike" = some (.ref f)) (g_isinstance : mg "isinstance" = none) (g_tuple : mg "tuple" = none) (g_len : mg "len" = none) (g_zip : mg "zip" = none) (g_all : mg "all" = none) : ∀ n, DefK P w K mg base (0 + n) "_law_alike" 2 (r_law_alike n)
  | 0 => def_bad (N := []) (ps := ["_law_found", "_law_due"]) F hm (F.bindsN fun _ _ _ _ _ _ us hl => match us, hl with | [_, _], _ => by kernel_rfl) rfl
  | n + 1 => by
    have k_law_alike := ok_law_alike F hm g_isinstance g_tuple g_len g_zip g_all n
    refine def_k F hm (F.bindsN fun _ _ _ _ _ _ us hl => match us, hl with | [_, _], _ => by kernel_rfl) sc_law_alike rfl (by decide) fun E => ?_
    have h : DSs (famOf P w K mg base (0 + n) ["_law_found", "_law_due", "_law_one", "_law_other"] sc_law_alike.nd "_law_alike" (defScope (top 19)) f E) (fun c d _ H' => E c d H') [] (defBody (top 19)) _ := (dss_cons (ds_if (dt_w (dw_or (dt_not (dt_val (de_isi (T := "tuple") g_isinstance g_tuple (de_var 0)))) (dw_or (dt_cmp cr_ne (de_len g_len (da_cons (de_var 0) da_nil)) de_int) (dw_or (dt_cmp cr_ne (de_ix (de_var 0) de_int) (de_ix (de_var 1) de_int)) (dw_or1 (dt_not (dt_val (de_isi (T := "tuple") g_isinstance g_tuple (de_ix (de_var 0) de_int))))))))) (dss_one (ds_ret de_bl)) dss_nil)
    (dss_cons (ds_if (dt_cmp cr_ne (de_len g_len (da_cons (de_ix (de_var 0) de_int) da_nil)) (de_len g_len (da_cons (de_ix (de_var 1) de_int) da_nil))) (dss_one (ds_ret de_bl)) dss_nil)
    (dss_one (ds_ret (de_all g_all (da_cons (de_lc [("_law_one", 2), ("_law_other", 3)] (di_zip g_zip (da_cons (de_ix (de_var 0) de_int) (da_cons (de_ix (de_var 1) de_int) da_nil))) (dg_tup (n := 2) (dgs_cons (dg_name 2) (dgs_cons (dg_name 3) dgs_nil))) dts_nil (de_call [false, false] (k_law_alike.mono (by omega)) ft_blk (da_cons (de_var 2) (da_cons (de_var 3) da_nil)))) da_nil))))))
    exact h
theorem sc_law : FnScope ["_law_script", "_law_deal_here", "_law_words_here", "_law_kinds_here", "_law_leasts_here", "_law_some", "_law_seen", "_law_k", "_law_kind", "_law_room", "_law_value_here", "_law_other", "_law_makers", "_law_found"] ["_law_script"] (defScope (top 20)) := fnC_ok (by decide +kernel)
theorem ok_law (F : FunD K "law" "law" (defArgs (top 20)) (defBody (top 20)) (defScope (top 20)) [] [] f fd) (g_range : mg "range" = none) (g_len : mg "len" = none) (g_min : mg "min" = none) (g_int : mg "int" = none) (g_max : mg "max" = none) (k_law_deal : DefK P w K mg base 1 "_law_deal" 2 f_law_deal) (k_law_words : DefK P w K mg base 2 "_law_words" 2 f_law_words) (k_law_kinds : DefK P w K mg base 2 "_law_kinds" 2 f_law_kinds) (k_law_leasts : DefK P w K mg base 1 "_law_leasts" 1 f_law_leasts) (k_law_draw : DefK P w K mg base 1 "_law_draw" 2 f_law_draw) (k_law_value : DefK P w K mg base 81 "_law_value" 5 f_law_value) (k_show_value : DefK P w K mg base 80 "show_value" 1 f_show_value) (k_law_text : DefK P w K mg base 80 "_law_text" 1 f_law_text) (k_law_read : DefK P w K mg base 83 "_law_read" 3 f_law_read) (k_law_alike : DefK P w K mg base 80 "_law_alike" 2 f_law_alike) : FnOk P w K mg base (L2.CX P w) 84 f fd ["_law_script"] (SpD K 1 f_law) := by
  refine def_ok F sc_law rfl (by decide) fun E => ?_
  have h : DSs (famOf P w K mg base 83 ["_law_script", "_law_deal_here", "_law_words_here", "_law_kinds_here", "_law_leasts_here", "_law_some", "_law_seen", "_law_k", "_law_kind", "_law_room", "_law_value_here", "_law_other", "_law_makers", "_law_found"] sc_law.nd "law" (defScope (top 20)) f E) (fun c d _ H' => E c d H') [] (defBody (top 20)) _ := (dss_cons (ds_set 1 (de_call [false, false] (k_law_deal.mono (by decide)) ft_fam (da_cons (de_var 0) (da_cons de_int da_nil))))
    (dss_cons (ds_set 2 (de_call [true, false] (k_law_words.mono (by decide)) ft_fam (da_cons (de_var 1) (da_cons de_int da_nil))))
    (dss_cons (ds_set 3 (de_call [true, false] (k_law_kinds.mono (by decide)) ft_fam (da_cons (de_var 1) (da_cons (de_var 2) da_nil))))
    (dss_cons (ds_set 4 (de_fz (de_call [false] (k_law_leasts.mono (by decide)) ft_fam (da_cons (de_var 3) da_nil))))
    (dss_cons (ds_setLc 5 [("_law_kind", 8), ("_law_makers", 12)] (di_seq (de_var 3)) (dg_tup (n := 2) (dgs_cons (dg_name 8) (dgs_cons (dg_name 12) dgs_nil))) (dts_one (dt_cmp cr_in (de_var 8) (de_var 4))) (de_var 8))
    (dss_cons (ds_set 6 (de_lst da_nil))
    (dss_cons (ds_for (di_rg1 g_range (da_cons (de_mulA (de_min2 g_min (da_cons de_int (da_cons (de_add de_int (de_len g_len (da_cons (de_var 0) da_nil))) da_nil))) (de_intc g_int (da_cons (de_cmp cr_ne (de_var 5) (de_lst da_nil)) da_nil))) da_nil)) (dg_name 7) (dss_cons (ds_set 8 (de_ix (de_var 5) (de_call [true, false] (k_law_draw.mono (by decide)) ft_fam (da_cons (de_var 1) (da_cons (de_len g_len (da_cons (de_var 5) da_nil)) da_nil)))))
    (dss_cons (ds_set 9 (de_max2 g_max (da_cons (de_ix (de_var 4) (de_var 8)) (da_cons (de_add de_int (de_call [true, false] (k_law_draw.mono (by decide)) ft_fam (da_cons (de_var 1) (da_cons (de_ix (de_lst (da_cons de_int (da_cons de_int da_nil))) (de_call [true, false] (k_law_draw.mono (by decide)) ft_fam (da_cons (de_var 1) (da_cons de_int da_nil)))) da_nil)))) da_nil))))
    (dss_cons (ds_set 10 (de_call [true, false, false, false, false] (k_law_value.mono (by decide)) ft_fam (da_cons (de_var 1) (da_cons (de_var 3) (da_cons (de_var 4) (da_cons (de_var 8) (da_cons (de_var 9) da_nil)))))))
    (dss_cons (ds_expr (de_app (de_var 6) (de_tup (da_cons (de_var 8) (da_cons (de_var 10) da_nil)))))
    (dss_one (ds_if (dt_cmp cr_ne (de_call [false] (k_show_value.mono (by decide)) ft_fam (da_cons (de_var 10) da_nil)) (de_call [false] (k_law_text.mono (by decide)) ft_fam (da_cons (de_var 10) da_nil))) (dss_one (ds_ret de_bl)) dss_nil)))))))
    (dss_cons (ds_for (di_seq (de_add (de_var 6) (de_sl (de_var 6) do_none (do_some dn_int)))) (dg_tup (n := 2) (dgs_cons (dg_name 8) (dgs_cons (dg_name 10) dgs_nil))) (dss_one (ds_for (di_seq (de_var 3)) (dg_tup (n := 2) (dgs_cons (dg_name 11) (dgs_cons (dg_name 12) dgs_nil))) (dss_cons (ds_set 13 (de_call [false, false, false] (k_law_read.mono (by decide)) ft_fam (da_cons (de_var 3) (da_cons (de_var 11) (da_cons (de_call [false] (k_law_text.mono (by decide)) ft_fam (da_cons (de_var 10) da_nil)) da_nil)))))
    (dss_cons (ds_if (dt_w (dw_and (dt_cmp cr_eq (de_var 11) (de_var 8)) (dw_and1 (dt_w (dw_or (dt_cmp cr_is (de_var 13) de_non) (dw_or1 (dt_not (dt_val (de_call [false, false] (k_law_alike.mono (by decide)) ft_fam (da_cons (de_var 13) (da_cons (de_var 10) da_nil))))))))))) (dss_one (ds_ret de_bl)) dss_nil)
    (dss_one (ds_if (dt_w (dw_and (dt_cmp cr_ne (de_var 11) (de_var 8)) (dw_and1 (dt_cmp cr_isnot (de_var 13) de_non)))) (dss_one (ds_ret de_bl)) dss_nil)))))))
    (dss_one (ds_ret de_bl))))))))))
  exact h
end
end G_k14

set_option Elab.async false
set_option linter.all false
set_option maxRecDepth 100000
set_option maxHeartbeats 0
/-! the head and the end -/
namespace G_k14
open PySem PySem.Spec PyProof.Rows L2 DL
def d_law_deal : He.DefD := ⟨("_law_deal", none), "_law_deal", "_law_deal", defArgs (top 11), defBody (top 11), defScope (top 11), [], []⟩
def d_law_draw : He.DefD := ⟨("_law_draw", none), "_law_draw", "_law_draw", defArgs (top 12), defBody (top 12), defScope (top 12), [], []⟩
def d_law_words : He.DefD := ⟨("_law_words", none), "_law_words", "_law_words", defArgs (top 13), defBody (top 13), defScope (top 13), [], []⟩
def d_law_kinds : He.DefD := ⟨("_law_kinds", none), "_law_kinds", "_law_kinds", defArgs (top 14), defBody (top 14), defScope (top 14), [], []⟩
def d_law_leasts : He.DefD := ⟨("_law_leasts", none), "_law_leasts", "_law_leasts", defArgs (top 15), defBody (top 15), defScope (top 15), [], []⟩
def d_law_value : He.DefD := ⟨("_law_value", none), "_law_value", "_law_value", defArgs (top 16), defBody (top 16), defScope (top 16), [], []⟩
def d_show_value : He.DefD := ⟨("show_value", none), "show_value", "show_value", defArgs (top 7), defBody (top 7), defScope (top 7), [], []⟩
def d_law_text : He.DefD := ⟨("_law_text", none), "_law_text", "_law_text", defArgs (top 17), defBody (top 17), defScope (top 17), [], []⟩
def d_ValueText___init__ : He.DefD := ⟨("ValueText", some "__init__"), "__init__", "ValueText.__init__", defArgs (inClass (top 8) 0), defBody (inClass (top 8) 0), defScope (inClass (top 8) 0), [], []⟩
def d_ValueText_maker_name : He.DefD := ⟨("ValueText", some "maker_name"), "maker_name", "ValueText.maker_name", defArgs (inClass (top 8) 2), defBody (inClass (top 8) 2), defScope (inClass (top 8) 2), [], []⟩
def d_makers_of : He.DefD := ⟨("makers_of", none), "makers_of", "makers_of", defArgs (top 4), defBody (top 4), defScope (top 4), [], []⟩
def d_ValueText_sign : He.DefD := ⟨("ValueText", some "sign"), "sign", "ValueText.sign", defArgs (inClass (top 8) 1), defBody (inClass (top 8) 1), defScope (inClass (top 8) 1), [], []⟩
def d_ValueText_value_of : He.DefD := ⟨("ValueText", some "value_of"), "value_of", "ValueText.value_of", defArgs (inClass (top 8) 3), defBody (inClass (top 8) 3), defScope (inClass (top 8) 3), [], []⟩
def d_read_value : He.DefD := ⟨("read_value", none), "read_value", "read_value", defArgs (top 9), defBody (top 9), defScope (top 9), [], []⟩
def d_law_read : He.DefD := ⟨("_law_read", none), "_law_read", "_law_read", defArgs (top 18), defBody (top 18), defScope (top 18), [], []⟩
def d_law_alike : He.DefD := ⟨("_law_alike", none), "_law_alike", "_law_alike", defArgs (top 19), defBody (top 19), defScope (top 19), [], []⟩
def d_law : He.DefD := ⟨("law", none), "law", "law", defArgs (top 20), defBody (top 20), defScope (top 20), [], []⟩
def fn : List He.DefD := [d_law_deal, d_law_draw, d_law_words, d_law_kinds, d_law_leasts, d_law_value, d_show_value, d_law_text, d_ValueText___init__, d_ValueText_maker_name, d_makers_of, d_ValueText_sign, d_ValueText_value_of, d_read_value, d_law_read, d_law_alike, d_law]
def fa : List He.Fa := [.glo "_law_deal", .glo "_law_draw", .glo "_law_words", .glo "_law_kinds", .glo "_law_leasts", .glo "_law_value", .glo "show_value", .glo "_law_text", .glo "makers_of", .glo "read_value", .glo "_law_read", .glo "_law_alike", .glo "law", .free "max", .free "list", .free "reversed", .free "len", .free "range", .free "int", .free "tuple", .free "all", .free "sum", .free "min", .free "dict", .free "enumerate", .free "isinstance", .free "zip", .str "LETTERS" "abcdefghijklmnopqrstuvwxyz", .meth "ValueText" "__init__", .cls "ValueText", .noat "ValueText" "kinds", .noat "ValueText" "text", .noat "ValueText" "at", .meth "ValueText" "maker_name", .meth "ValueText" "sign", .exc "NoValue", .glo "NoValue", .meth "ValueText" "value_of", .mkr "ValueText", .glo "ValueText", .exm "NoValue" "NoValue" true]
def ex (K : PySem.W.Frag) : Bool := true
abbrev R : PySem.W.OpenRow := PySem.W.OpenLaw.row PySem.Challenge.rw_pursewright_k14_values_written_and_read
abbrev hk : PySem.W.Hook := He.hookX 4 fa fn [] [] ex
def ob (s : PySem.W.SharedT) : He.AlX := He.obsX 4 fa fn [] [] ex (HandSHeadRun.getT s)
theorem ob_eq (s : PySem.W.SharedT) : ob s = hk.obs s.abs := He.obsX_eq (HandSHeadRun.getT_eq s)
def loose0 : List Str := ["__name__", "PurseError", "NoValue", "makers_of", "LETTERS", "show_value", "ValueText", "read_value", "_law_deal", "_law_draw", "_law_words", "_law_kinds", "_law_leasts", "_law_value", "_law_text", "_law_read", "_law_alike"]
def loose : List Str := loose0
theorem run (w : World) : HandSHeadRun.RunEq R (PySem.W.view R.prog [20]) hk ob 4000 loose w := by
  intro os
  kernel_rfl
theorem facts {w : World} {K : PySem.W.Frag} {h hp : Heap} {mg : Str → Option Value} {f : Addr} (X : K.In h) (G : h.Ns mainGlobals mg) (hfa : mg ("law" : Str) = some (.ref f)) (s : He.SaysX fa fn [] [] ex w h K) (T : LawT f_law) : LamX.LawAtS PySem.Challenge.rw_pursewright_k14_values_written_and_read w K (L2.CX (PySem.Challenge.rw_pursewright_k14_values_written_and_read).prog w) 84 63 "_law_script" mg f hp := by
  have c := s.t.d
  obtain ⟨fd_law_deal, F_law_deal⟩ := c.def_ 0 (d := d_law_deal) rfl
  obtain ⟨fd_law_draw, F_law_draw⟩ := c.def_ 1 (d := d_law_draw) rfl
  obtain ⟨fd_law_words, F_law_words⟩ := c.def_ 2 (d := d_law_words) rfl
  obtain ⟨fd_law_kinds, F_law_kinds⟩ := c.def_ 3 (d := d_law_kinds) rfl
  obtain ⟨fd_law_leasts, F_law_leasts⟩ := c.def_ 4 (d := d_law_leasts) rfl
  obtain ⟨fd_law_value, F_law_value⟩ := c.def_ 5 (d := d_law_value) rfl
  obtain ⟨fd_show_value, F_show_value⟩ := c.def_ 6 (d := d_show_value) rfl
  obtain ⟨fd_law_text, F_law_text⟩ := c.def_ 7 (d := d_law_text) rfl
  obtain ⟨fd_ValueText___init__, F_ValueText___init__⟩ := c.def_ 8 (d := d_ValueText___init__) rfl
  obtain ⟨fd_ValueText_maker_name, F_ValueText_maker_name⟩ := c.def_ 9 (d := d_ValueText_maker_name) rfl
  obtain ⟨fd_makers_of, F_makers_of⟩ := c.def_ 10 (d := d_makers_of) rfl
  obtain ⟨fd_ValueText_sign, F_ValueText_sign⟩ := c.def_ 11 (d := d_ValueText_sign) rfl
  obtain ⟨fd_ValueText_value_of, F_ValueText_value_of⟩ := c.def_ 12 (d := d_ValueText_value_of) rfl
  obtain ⟨fd_read_value, F_read_value⟩ := c.def_ 13 (d := d_read_value) rfl
  obtain ⟨fd_law_read, F_law_read⟩ := c.def_ 14 (d := d_law_read) rfl
  obtain ⟨fd_law_alike, F_law_alike⟩ := c.def_ 15 (d := d_law_alike) rfl
  obtain ⟨fd_law, F_law⟩ := c.def_ 16 (d := d_law) rfl
  have m_law_deal := He.glo_ok X G (c.fact 0 (f := .glo "_law_deal") rfl)
  have m_law_draw := He.glo_ok X G (c.fact 1 (f := .glo "_law_draw") rfl)
  have m_law_words := He.glo_ok X G (c.fact 2 (f := .glo "_law_words") rfl)
  have m_law_kinds := He.glo_ok X G (c.fact 3 (f := .glo "_law_kinds") rfl)
  have m_law_leasts := He.glo_ok X G (c.fact 4 (f := .glo "_law_leasts") rfl)
  have m_law_value := He.glo_ok X G (c.fact 5 (f := .glo "_law_value") rfl)
  have m_show_value := He.glo_ok X G (c.fact 6 (f := .glo "show_value") rfl)
  have m_law_text := He.glo_ok X G (c.fact 7 (f := .glo "_law_text") rfl)
  have m_makers_of := He.glo_ok X G (c.fact 8 (f := .glo "makers_of") rfl)
  have m_read_value := He.glo_ok X G (c.fact 9 (f := .glo "read_value") rfl)
  have m_law_read := He.glo_ok X G (c.fact 10 (f := .glo "_law_read") rfl)
  have m_law_alike := He.glo_ok X G (c.fact 11 (f := .glo "_law_alike") rfl)
  have m_law := He.glo_ok X G (c.fact 12 (f := .glo "law") rfl)
  have g_max := He.free_ok X G (c.fact 13 (f := .free "max") rfl)
  have g_list := He.free_ok X G (c.fact 14 (f := .free "list") rfl)
  have g_reversed := He.free_ok X G (c.fact 15 (f := .free "reversed") rfl)
  have g_len := He.free_ok X G (c.fact 16 (f := .free "len") rfl)
  have g_range := He.free_ok X G (c.fact 17 (f := .free "range") rfl)
  have g_int := He.free_ok X G (c.fact 18 (f := .free "int") rfl)
  have g_tuple := He.free_ok X G (c.fact 19 (f := .free "tuple") rfl)
  have g_all := He.free_ok X G (c.fact 20 (f := .free "all") rfl)
  have g_sum := He.free_ok X G (c.fact 21 (f := .free "sum") rfl)
  have g_min := He.free_ok X G (c.fact 22 (f := .free "min") rfl)
  have g_dict := He.free_ok X G (c.fact 23 (f := .free "dict") rfl)
  have g_enumerate := He.free_ok X G (c.fact 24 (f := .free "enumerate") rfl)
  have g_isinstance := He.free_ok X G (c.fact 25 (f := .free "isinstance") rfl)
  have g_zip := He.free_ok X G (c.fact 26 (f := .free "zip") rfl)
  have c_LETTERS : GK K mg "LETTERS" c_LETTERS := gk_str X G (c.fact 27 (f := .str "LETTERS" "abcdefghijklmnopqrstuvwxyz") rfl)
  have mm_ValueText___init__ : (He.Fa.meth "ValueText" "__init__").ok K = true := c.fact 28 (f := .meth "ValueText" "__init__") rfl
  have q_ValueText : (He.Fa.cls "ValueText").ok K = true := c.fact 29 (f := .cls "ValueText") rfl
  have na_ValueText_kinds : (He.Fa.noat "ValueText" "kinds").ok K = true := c.fact 30 (f := .noat "ValueText" "kinds") rfl
  have na_ValueText_text : (He.Fa.noat "ValueText" "text").ok K = true := c.fact 31 (f := .noat "ValueText" "text") rfl
  have na_ValueText_at : (He.Fa.noat "ValueText" "at").ok K = true := c.fact 32 (f := .noat "ValueText" "at") rfl
  have mm_ValueText_maker_name : (He.Fa.meth "ValueText" "maker_name").ok K = true := c.fact 33 (f := .meth "ValueText" "maker_name") rfl
  have mm_ValueText_sign : (He.Fa.meth "ValueText" "sign").ok K = true := c.fact 34 (f := .meth "ValueText" "sign") rfl
  have x_NoValue : (He.Fa.exc "NoValue").ok K = true := c.fact 35 (f := .exc "NoValue") rfl
  have m_NoValue := He.glo_ok X G (c.fact 36 (f := .glo "NoValue") rfl)
  have mm_ValueText_value_of : (He.Fa.meth "ValueText" "value_of").ok K = true := c.fact 37 (f := .meth "ValueText" "value_of") rfl
  have mk_ValueText : (He.Fa.mkr "ValueText").ok K = true := c.fact 38 (f := .mkr "ValueText") rfl
  have m_ValueText := He.glo_ok X G (c.fact 39 (f := .glo "ValueText") rfl)
  have y_NoValue_NoValue : (He.Fa.exm "NoValue" "NoValue" true).ok K = true := c.fact 40 (f := .exm "NoValue" "NoValue" true) rfl
  have em := hfa.symm.trans m_law
  cases em
  have b := FunD.bindsA (ps := ["_law_script"]) F_law fun _ _ _ _ _ _ us hl => match us, hl with | [_], _ => rfl
  refine law_at T F_law (fun s v => b s [v] rfl) fun base _ _ => ?_
  have k_law_deal : DefK (PySem.Challenge.rw_pursewright_k14_values_written_and_read).prog w K mg base 1 "_law_deal" 2 f_law_deal := ok_law_deal F_law_deal m_law_deal g_max g_list g_reversed
  have k_law_draw : DefK (PySem.Challenge.rw_pursewright_k14_values_written_and_read).prog w K mg base 1 "_law_draw" 2 f_law_draw := ok_law_draw F_law_draw m_law_draw g_len
  have k_law_words : DefK (PySem.Challenge.rw_pursewright_k14_values_written_and_read).prog w K mg base 2 "_law_words" 2 f_law_words := ok_law_words F_law_words m_law_words g_range g_len k_law_draw
  have k_law_kinds : DefK (PySem.Challenge.rw_pursewright_k14_values_written_and_read).prog w K mg base 2 "_law_kinds" 2 f_law_kinds := ok_law_kinds F_law_kinds m_law_kinds g_range g_int g_tuple k_law_draw
  have k_law_leasts : DefK (PySem.Challenge.rw_pursewright_k14_values_written_and_read).prog w K mg base 1 "_law_leasts" 1 f_law_leasts := ok_law_leasts F_law_leasts m_law_leasts g_range g_len g_all g_sum g_min
  have k_law_value : DefK (PySem.Challenge.rw_pursewright_k14_values_written_and_read).prog w K mg base 81 "_law_value" 5 f_law_value := ok_law_value F_law_value m_law_value g_dict g_all g_sum g_len g_max g_tuple k_law_draw 80
  have k_show_value : DefK (PySem.Challenge.rw_pursewright_k14_values_written_and_read).prog w K mg base 80 "show_value" 1 f_show_value := ok_show_value F_show_value m_show_value g_len 80
  have k_law_text : DefK (PySem.Challenge.rw_pursewright_k14_values_written_and_read).prog w K mg base 80 "_law_text" 1 f_law_text := ok_law_text F_law_text m_law_text g_enumerate g_int g_len 80
  have k_ValueText___init__ : MethK (PySem.Challenge.rw_pursewright_k14_values_written_and_read).prog w K mg base 1 "ValueText" "__init__" 3 f_ValueText___init__ := ok_ValueText___init__ F_ValueText___init__  mm_ValueText___init__ q_ValueText na_ValueText_kinds na_ValueText_text na_ValueText_at
  have k_ValueText_maker_name : MethK (PySem.Challenge.rw_pursewright_k14_values_written_and_read).prog w K mg base 1 "ValueText" "maker_name" 1 f_ValueText_maker_name := ok_ValueText_maker_name F_ValueText_maker_name  g_len c_LETTERS mm_ValueText_maker_name q_ValueText na_ValueText_at na_ValueText_text
  have k_makers_of : DefK (PySem.Challenge.rw_pursewright_k14_values_written_and_read).prog w K mg base 1 "makers_of" 2 f_makers_of := ok_makers_of F_makers_of m_makers_of 
  have k_ValueText_sign : MethK (PySem.Challenge.rw_pursewright_k14_values_written_and_read).prog w K mg base 1 "ValueText" "sign" 2 f_ValueText_sign := ok_ValueText_sign F_ValueText_sign  g_len mm_ValueText_sign q_ValueText na_ValueText_at na_ValueText_text x_NoValue m_NoValue
  have k_ValueText_value_of : MethK (PySem.Challenge.rw_pursewright_k14_values_written_and_read).prog w K mg base 81 "ValueText" "value_of" 2 f_ValueText_value_of := ok_ValueText_value_of F_ValueText_value_of  g_len g_enumerate g_int g_tuple k_ValueText_maker_name k_makers_of k_ValueText_sign mm_ValueText_value_of q_ValueText na_ValueText_kinds x_NoValue m_NoValue 80
  have k_read_value : DefK (PySem.Challenge.rw_pursewright_k14_values_written_and_read).prog w K mg base 82 "read_value" 3 f_read_value := ok_read_value F_read_value m_read_value g_len k_ValueText___init__ k_ValueText_value_of mk_ValueText m_ValueText q_ValueText na_ValueText_at x_NoValue m_NoValue
  have k_law_read : DefK (PySem.Challenge.rw_pursewright_k14_values_written_and_read).prog w K mg base 83 "_law_read" 3 f_law_read := ok_law_read F_law_read m_law_read k_read_value y_NoValue_NoValue m_NoValue
  have k_law_alike : DefK (PySem.Challenge.rw_pursewright_k14_values_written_and_read).prog w K mg base 80 "_law_alike" 2 f_law_alike := ok_law_alike F_law_alike m_law_alike g_isinstance g_tuple g_len g_zip g_all 80
  exact ok_law F_law g_range g_len g_min g_int g_max k_law_deal k_law_words k_law_kinds k_law_leasts k_law_draw k_law_value k_show_value k_law_text k_law_read k_law_alike
end G_k14
open PySem PySem.W PySem.Calls PyProof.Rows in
theorem G_k14.fin (T : DL.LawT G_k14.f_law) : PySem.Challenge.rw_pursewright_k14_values_written_and_read.Holds := by
  w_on; o_law
  refine HandSHeadRun.head_any (r := OpenLaw.row PySem.Challenge.rw_pursewright_k14_values_written_and_read) (q := view (OpenLaw.row PySem.Challenge.rw_pursewright_k14_values_written_and_read).prog [20]) (H := G_k14.hk) (ob := G_k14.ob) (M := 4000) (loose := G_k14.loose) (d := HandSHeadRun.topDef (OpenLaw.row PySem.Challenge.rw_pursewright_k14_values_written_and_read).prog 20) (kwd := []) G_k14.ob_eq
    (by kernel_rfl) (fun s => by kernel_rfl) G_k14.run (by kernel_rfl) (by kernel_rfl) (by kernel_rfl) (by rfl) (by first | assumption | decide +kernel) (by decide +kernel) ⟨rfl, rfl, rfl, rfl, rfl, by decide +kernel⟩ ?hw ?hc
  case hw => w_witness2
  case hc =>
    refine LamX.walk_ofTsE (l := PySem.Challenge.rw_pursewright_k14_values_written_and_read) (n := 63) (k := 84) (x := "_law_script") (CX := fun w => L2.CX (PySem.Challenge.rw_pursewright_k14_values_written_and_read).prog w) rfl (by decide) (by kernel_rfl) ⟨rfl, by decide, by decide⟩ ?F (fun w => DL.cx_none w)
    intro w mg fa h Y G hmg0
    obtain ⟨K, KX, c⟩ := Y
    have hmg : mg ("law" : PySem.Str) = some (.ref fa) := by
      have e : (HandSHeadRun.topDef (OpenLaw.row PySem.Challenge.rw_pursewright_k14_values_written_and_read).prog 20).name = ("law" : PySem.Str) := by kernel_rfl
      rw [← e]
      exact hmg0
    exact ⟨K, KX, G_k14.facts KX G hmg c T⟩

set_option Elab.async false
set_option linter.all false
set_option maxRecDepth 100000
namespace G_k14
open PySem DL PP PV
mutual
/-- the codes of a value's text -/
def tx : Va → List Nat
  | .mk m [] => cs m
  | .mk m (p :: r) => cs m ++ 40 :: (tx p ++ (tl r ++ [41]))
def tl : List Va → List Nat
  | [] => []
  | q :: r => 44 :: (tx q ++ tl r)
end
def tS (v : Va) : Str := ⟨(tx v).toArray⟩
theorem cs_tS {v : Va} : cs (tS v) = tx v := by simp [cs, tS]
mutual
theorem tx_len {ks : List Kd} (gk : GK ks) : ∀ {k : Str} {v : Va}, Wf ks k v → (tx v).length + 1 ≤ 16 * sz v
  | k, _, .mk (m := m) (fs := fs) (ps := ps) hm hp => by
    obtain ⟨q, hq, _, hmq⟩ := mkOf_mem hm
    have hl := ((gk.tx q hq).2 _ hmq).1
    have hm' : (cs m).length ≤ 13 := by rw [cs_len]; exact hl
    match hp with
    | .nil => rw [tx, sz, szs]; omega
    | .cons (v := v) (vs := vs) h t =>
      have h1 := tx_len gk h
      have h2 := tl_len gk t
      rw [tx, sz, szs]
      simp only [List.length_append, List.length_cons, List.length_nil]
      omega
theorem tl_len {ks : List Kd} (gk : GK ks) : ∀ {fs : List Str} {vs : List Va}, Wfs ks fs vs → (tl vs).length ≤ 16 * szs vs
  | _, _, .nil => by rw [tl]; simp
  | _, _, .cons (v := v) (vs := vs) h t => by
    have h1 := tx_len gk h
    have h2 := tl_len gk t
    rw [tl, szs]
    simp only [List.length_append, List.length_cons]
    omega
end
theorem join_cs : ∀ {r : List Va} {p : Va}, cs (Str.join (Str.ofString ",") ((p :: r).map tS)) = tx p ++ tl r
  | [], p => by
    have : Str.join (Str.ofString ",") ([p].map tS) = tS p := rfl
    rw [this, cs_tS, tl, List.append_nil]
  | q :: r, p => by
    have : Str.join (Str.ofString ",") ((p :: q :: r).map tS) = tS p ++ Str.ofString "," ++ Str.join (Str.ofString ",") ((q :: r).map tS) := rfl
    have e : cs (Str.ofString ",") = [44] := by decide +kernel
    rw [this, cs_app, cs_app, join_cs, cs_tS, e, tl]
    simp
theorem wfs_mem {ks : List Kd} : ∀ {fs : List Str} {vs : List Va}, Wfs ks fs vs → ∀ v ∈ vs, ∃ f, Wf ks f v
  | _, _, .nil => by intro v h; cases h
  | _, _, .cons (v := w) (vs := vs) h t => by
    intro v hv
    rcases List.mem_cons.mp hv with rfl | hv
    · exact ⟨_, h⟩
    · exact wfs_mem t v hv
theorem sz_le : ∀ {vs : List Va} {v : Va}, v ∈ vs → sz v ≤ szs vs
  | [], _, h => by cases h
  | w :: vs, v, h => by
    rw [szs]
    rcases List.mem_cons.mp h with rfl | h
    · omega
    · have := sz_le h; omega
theorem szs_len : ∀ {vs : List Va}, vs.length ≤ szs vs
  | [] => Nat.zero_le _
  | .mk m ps :: vs => by
    have := szs_len (vs := vs)
    rw [szs, sz, List.length_cons]
    omega
theorem tS_lens {ks : List Kd} (gk : GK ks) : ∀ {fs : List Str} {vs : List Va}, Wfs ks fs vs → (vs.map fun v => (tS v).length).sum ≤ 16 * szs vs
  | _, _, .nil => by simp
  | _, _, .cons (v := v) (vs := vs) h t => by
    have h1 := tx_len gk h
    have h2 := tS_lens gk t
    have e : (tS v).length = (tx v).length := by rw [← cs_tS, cs_len]
    rw [List.map_cons, List.sum_cons, szs, e]
    omega
theorem filt_some {α β : Type} {f : α → β} {l : List α} : l.filterMap (fun x => some (f x)) = l.map f := by
  induction l with
  | nil => rfl
  | cons x l ih => simp [ih]
theorem show_wp {ks : List Kd} (gk : GK ks) : ∀ (n : Nat) {k : Str} {v : Va} {Q : M → List M → Prop} {E : Xv → List M → Prop}, Wf ks k v → sz v ≤ n → n ≤ 90 →
    Q (.dat (.str (tS v))) [.dat (eVa v)] → wpF (r_show_value n) [.dat (eVa v)] ⟨Q, E⟩ .mk := by
  intro n
  induction n with
  | zero => intro k v Q E h hn; cases h; rw [sz] at hn; omega
  | succ n ih =>
    intro k v Q E hw hn hn2 h
    have hz := line_big
    cases hw with
    | @mk _ m fs ps hm hp =>
    rw [sz] at hn
    obtain ⟨q, hq, rfl, hmq⟩ := mkOf_mem hm
    have hmx := (gk.tx q hq).2 _ hmq
    have hpl := szs_len (vs := ps)
    have hml : m.length ≤ 13 := hmx.1
    rw [eVa_mk] at h ⊢
    rw [r_show_value, wp_fn]
    refine ⟨⟨rfl, rfl⟩, ?_⟩
    unfold b_show_value
    simp [-List.map_map]
    cases ps with
    | nil =>
      have e : tS (.mk m []) = m := cs_inj.mp (by rw [cs_tS, tx])
      rw [e] at h
      simpa using h
    | cons p r =>
      have hsum := tS_lens gk hp
      have l1 : (Str.ofString "(").length = 1 := by decide +kernel
      have l2 : (Str.ofString ")").length = 1 := by decide +kernel
      have l3 : (Str.ofString ",").length = 1 := by decide +kernel
      rw [if_neg (by simp)]
      refine ⟨by omega, by omega, comp_map (p :: r) eVa (fun v => some (tS v)) .str (fun v hv => ?_) ?_⟩
      · simp
        obtain ⟨f, hf⟩ := wfs_mem hp v hv
        have := sz_le hv
        refine ih hf (by omega) (by omega) ?_
        simp
      · rw [filt_some]
        simp [-List.map_map, -List.map_cons]
        have hj := join_len (a := Str.ofString ",") (ys := (p :: r).map tS)
        have hsum' : (((p :: r).map tS).map fun x => x.length).sum ≤ 16 * szs (p :: r) := by rw [List.map_map]; exact hsum
        have hll : ((p :: r).map tS).length = (p :: r).length := List.length_map ..
        have hfin : tS (.mk m (p :: r)) = m ++ Str.ofString "(" ++ Str.join (Str.ofString ",") ((p :: r).map tS) ++ Str.ofString ")" := by
          apply cs_inj.mp
          have e1 : cs (Str.ofString "(") = [40] := by decide +kernel
          have e2 : cs (Str.ofString ")") = [41] := by decide +kernel
          rw [cs_tS, tx, cs_app, cs_app, cs_app, e1, e2, join_cs]
          simp
        rw [hfin] at h
        have hpl' : r.length + 1 ≤ 90 := by simp at hpl; omega
        rw [hll, l3] at hj
        simp only [List.length_cons] at hj
        refine ⟨by rw [l3]; omega, ?_, ?_, h⟩
        · rw [len_app, l1]; omega
        · rw [len_app, len_app, l1, l2]; omega
theorem tl_snoc : ∀ {vs : List Va} {v : Va}, tl (vs ++ [v]) = tl vs ++ 44 :: tx v
  | [], v => by rw [List.nil_append, tl, tl, tl]; simp
  | w :: vs, v => by rw [List.cons_append, tl, tl_snoc, tl]; simp
/-- the text begun by a maker and some parts -/
def beg (m : Str) : List Va → List Nat
  | [] => cs m
  | p :: r => cs m ++ 40 :: (tx p ++ tl r)
theorem beg_snoc {m : Str} {v : Va} : ∀ {ps : List Va}, beg m (ps ++ [v]) = beg m ps ++ (if ps.length > 0 then 44 else 40) :: tx v
  | [] => by simp [beg, tl]
  | p :: r => by simp [beg, tl_snoc]
theorem tx_beg {m : Str} {ps : List Va} : tx (.mk m ps) = beg m ps ++ (if ps.length > 0 then [41] else []) := by
  cases ps with
  | nil => simp [beg, tx]
  | cons p r => simp [beg, tx]
theorem beg_len {ks : List Kd} (gk : GK ks) {m : Str} {fs : List Str} {ps : List Va} (hm : m.length ≤ 13) (h : Wfs ks fs ps) : (beg m ps).length ≤ 14 + 16 * szs ps := by
  have hm' : (cs m).length ≤ 13 := by rw [cs_len]; exact hm
  match h with
  | .nil => rw [beg]; omega
  | .cons (v := v) (vs := vs) h t =>
    have h1 := tx_len gk h
    have h2 := tl_len gk t
    rw [beg, szs]
    simp only [List.length_append, List.length_cons]
    omega
end G_k14

set_option Elab.async false
set_option linter.all false
set_option maxRecDepth 100000
namespace G_k14
open PySem DL PP PV
theorem zip_at {α : Type} : ∀ {xs : List α} {n : Nat} {p r : List (α × Nat)} {x : α × Nat}, xs.zipIdx n = p ++ x :: r → x.2 = n + p.length ∧ xs = p.map (·.1) ++ x.1 :: r.map (·.1)
  | [], n, p, r, x, h => by simp at h
  | y :: xs, n, [], r, x, h => by
    rw [List.zipIdx_cons, List.nil_append] at h
    injection h with h1 h2
    subst h1
    refine ⟨rfl, ?_⟩
    rw [← h2]
    simp
  | y :: xs, n, q :: p, r, x, h => by
    rw [List.zipIdx_cons, List.cons_append] at h
    injection h with h1 h2
    obtain ⟨e1, e2⟩ := zip_at h2
    subst h1
    refine ⟨by rw [e1, List.length_cons]; omega, ?_⟩
    rw [e2]
    simp
theorem Wfs.pre {ks : List Kd} : ∀ {fs : List Str} {ps : List Va} {v : Va} {r : List Va}, Wfs ks fs (ps ++ v :: r) → ∃ f1 f, Wfs ks f1 ps ∧ Wf ks f v ∧ szs ps + sz v ≤ szs (ps ++ v :: r)
  | _, [], v, r, .cons (f := f) h t => ⟨[], f, .nil, h, by rw [List.nil_append, szs, szs]; omega⟩
  | _, p :: ps, v, r, .cons (f := f0) h t => by
    obtain ⟨f1, f, h1, h2, h3⟩ := Wfs.pre t
    refine ⟨f0 :: f1, f, .cons h h1, h2, ?_⟩
    rw [List.cons_append, szs, szs]
    omega
theorem text_wp {ks : List Kd} (gk : GK ks) : ∀ (n : Nat) {k : Str} {v : Va} {Q : M → List M → Prop} {E : Xv → List M → Prop}, Wf ks k v → sz v ≤ n → n ≤ 90 →
    Q (.dat (.str (tS v))) [.dat (eVa v)] → wpF (r_law_text n) [.dat (eVa v)] ⟨Q, E⟩ .mk := by
  intro n
  induction n with
  | zero => intro k v Q E h hn; cases h; rw [sz] at hn; omega
  | succ n ih =>
    intro k v Q E hw hn hn2 h
    have hz := line_big
    cases hw with
    | @mk _ m fs ps hm hp =>
    rw [sz] at hn
    obtain ⟨q, hq, rfl, hmq⟩ := mkOf_mem hm
    have hmx := (gk.tx q hq).2 _ hmq
    have hml : m.length ≤ 13 := hmx.1
    have hpl := szs_len (vs := ps)
    rw [eVa_mk] at h ⊢
    rw [r_law_text, wp_fn]
    refine ⟨⟨rfl, rfl⟩, ?_⟩
    unfold b_law_text
    simp [-List.map_map, enD_map]
    refine for_ty (ps.zipIdx 0) (fun p => wkT [.int (p.2 : Nat), eVa p.1]) (fun p ρ => ∃ t x2 x3, cs t = beg m (p.map (·.1)) ∧ ρ = [some (.dat (.tuple [.str m, .tuple (ps.map eVa)])), some (.dat (.str t)), x2, x3]) ⟨m, none, none, rfl, rfl⟩ (fun p x r e ρ hI J hJ => ?_) (fun ρ1 hI => ?_)
    · obtain ⟨t, x2, x3, ht, rfl⟩ := hI
      obtain ⟨e1, e2⟩ := zip_at e
      rw [Nat.zero_add] at e1
      rw [e2] at hp
      obtain ⟨f1, f, w1, w2, w3⟩ := Wfs.pre hp
      have hb := beg_len gk hml w1
      rw [← ht, cs_len] at hb
      have hx := tx_len gk w2
      rw [← e2] at w3
      simp [wkT]
      have lo : (Str.ofString "(,").length = 2 := by decide +kernel
      have at0' : L2.atI (Str.ofString "(,").cps.toList 0 = some 40 := by decide +kernel
      have at1' : L2.atI (Str.ofString "(,").cps.toList 1 = some 44 := by decide +kernel
      have hat : L2.atI (Str.ofString "(,").cps.toList (if 0 < x.2 then 1 else 0) = some (if (p.map (·.1)).length > 0 then 44 else 40) := by
        have el : (p.map (·.1)).length = x.2 := by rw [List.length_map, e1]
        rw [el]
        by_cases h0 : 0 < x.2
        · rw [if_pos h0, if_pos h0]; exact at1'
        · rw [if_neg h0, if_neg h0]; exact at0'
      have lc : ∀ c : Nat, (⟨#[c]⟩ : Str).length = 1 := fun _ => rfl
      refine ⟨by omega, _, hat, by rw [lc]; omega, ?_⟩
      refine ih w2 (by omega) (by omega) ?_
      have hx2 : (tS x.1).length = (tx x.1).length := by rw [← cs_tS, cs_len]
      simp
      rw [len_app, lc]
      refine ⟨by omega, hJ _ ⟨_, _, _, ?_, rfl⟩⟩
      rw [List.map_append, List.map_cons, List.map_nil, beg_snoc, cs_app, cs_app, ht, cs_tS, cs_one]
      simp
    · obtain ⟨t, x2, x3, ht, rfl⟩ := hI
      have et : (ps.zipIdx 0).map (·.1) = ps := by simp
      rw [et] at ht
      have hb := beg_len gk hml hp
      rw [← ht, cs_len] at hb
      have ec : Str.ofString ")" = ⟨#[41]⟩ := by decide +kernel
      have lc : (Str.ofString ")").length = 1 := by decide +kernel
      have hfin : t ++ repS (Str.ofString ")") (if 0 < ps.length then 1 else 0) = tS (.mk m ps) := by
        apply cs_inj.mp
        rw [cs_app, ec, cs_rep, ht, cs_tS, tx_beg]
        by_cases h0 : 0 < ps.length
        · rw [if_pos h0, if_pos h0]; rfl
        · rw [if_neg h0, if_neg h0]; rfl
      simp
      rw [hfin]
      have hl2 : (repS (Str.ofString ")") (if 0 < ps.length then 1 else 0)).length ≤ 1 := by
        rw [← cs_len, ec, cs_rep, List.length_replicate]
        split <;> simp
      refine ⟨⟨by split <;> omega, by split <;> omega, by rw [lc]; split <;> simp⟩, by omega, h⟩
end G_k14

set_option Elab.async false
set_option linter.all false
set_option maxRecDepth 100000
namespace G_k14
open PySem DL PP PV
theorem alike_wp {ks : List Kd} (gk : GK ks) : ∀ (n : Nat) {k : Str} {v : Va} {Q : M → List M → Prop} {E : Xv → List M → Prop}, Wf ks k v → sz v ≤ n → n ≤ 90 →
    Q (.dat (.bool true)) [.dat (eVa v), .dat (eVa v)] → wpF (r_law_alike n) [.dat (eVa v), .dat (eVa v)] ⟨Q, E⟩ .mk := by
  intro n
  induction n with
  | zero => intro k v Q E h hn; cases h; rw [sz] at hn; omega
  | succ n ih =>
    intro k v Q E hw hn hn2 h
    have hz := line_big
    cases hw with
    | @mk _ m fs ps hm hp =>
    rw [sz] at hn
    obtain ⟨q, hq, rfl, hmq⟩ := mkOf_mem hm
    have hmx := (gk.tx q hq).2 _ hmq
    have hml : m.length ≤ 13 := hmx.1
    have hpl := szs_len (vs := ps)
    rw [eVa_mk] at h ⊢
    rw [r_law_alike, wp_fn]
    refine ⟨⟨rfl, rfl⟩, ?_⟩
    unfold b_law_alike
    simp [-List.map_map, hmx.2, zipD_map]
    have hzl : (ps.zip ps).length = ps.length := by rw [List.length_zip]; omega
    refine ⟨by omega, comp_map (ps.zip ps) (fun p => wkT [eVa p.1, eVa p.2]) (fun _ => some true) .bool (fun p hp' => ?_) ?_⟩
    · have e12 : p.1 = p.2 := by
        obtain ⟨i, hi⟩ := List.getElem?_of_mem hp'
        rw [List.getElem?_zip_eq_some] at hi
        have := hi.1.symm.trans hi.2
        exact Option.some.inj this
      have h1 := List.of_mem_zip hp'
      obtain ⟨f, hf⟩ := wfs_mem hp _ h1.1
      have := sz_le h1.1
      simp [wkT]
      rw [← e12]
      refine ih hf (by omega) (by omega) ?_
      simp
    · simp [filt_some, -List.map_map]
      have e : ((ps.zip ps).all fun _ => true) = true := by simp [List.all_eq_true]
      rw [e]
      exact h
end G_k14

set_option Elab.async false
set_option linter.all false
set_option maxRecDepth 100000
namespace G_k14
open PySem DL PP PV
/-- a reader -/
def sv (ks : PyData) (T : Str) (a : Int) : M := .ins "ValueText" ["kinds", "text", "at"] [.dat ks, .dat (.str T), .dat (.int a)]
section
variable {ks : PyData} {T : Str} {a b : Int} {k : M → Prop}
@[simp] theorem sv_kinds : fldV "ValueText" "kinds" (sv ks T a) = some (.dat ks) := rfl
@[simp] theorem sv_text : fldV "ValueText" "text" (sv ks T a) = some (.dat (.str T)) := rfl
@[simp] theorem sv_at : fldV "ValueText" "at" (sv ks T a) = some (.dat (.int a)) := rfl
@[simp] theorem sv_put : putV "ValueText" "at" (.dat (.int b)) (sv ks T a) = some (sv ks T b) := rfl
@[simp] theorem sv_c1 : isCls "ValueText" "maker_name" (sv ks T a) = true := rfl
@[simp] theorem sv_c2 : isCls "ValueText" "sign" (sv ks T a) = true := rfl
@[simp] theorem sv_c3 : isCls "ValueText" "value_of" (sv ks T a) = true := rfl
@[simp] theorem sv_vl {i : Nat} : vlAt i (sv ks T a) = .plc i [] := rfl
@[simp] theorem sv_scr : isScr (sv ks T a) = false := rfl
end
@[simp] theorem iv_kinds {m : M} : putV "ValueText" "kinds" m (.ins "ValueText" [] []) = some (.ins "ValueText" ["kinds"] [m]) := rfl
@[simp] theorem iv_text {m x : M} : putV "ValueText" "text" m (.ins "ValueText" ["kinds"] [x]) = some (.ins "ValueText" ["kinds", "text"] [x, m]) := rfl
@[simp] theorem iv_at {i : Int} {ks : PyData} {T : Str} : putV "ValueText" "at" (.dat (.int i)) (.ins "ValueText" ["kinds", "text"] [.dat ks, .dat (.str T)]) = some (sv ks T i) := rfl
theorem init_wp {ks : PyData} {T : Str} {Q : M → List M → Prop} {E : Xv → List M → Prop} (h : Q (sv ks T 0) [.dat ks, .dat (.str T)]) : wpF (mkF "ValueText" f_ValueText___init__) [.dat ks, .dat (.str T)] ⟨Q, E⟩ .mk := by
  refine wp_mkF ?_
  unfold f_ValueText___init__
  rw [wp_fn]
  refine ⟨⟨rfl, rfl⟩, ?_⟩
  unfold b_ValueText___init__
  simp
  exact ⟨_, _, ⟨rfl, rfl⟩, h⟩
/-- the sign that is due, or NoValue -/
theorem sign_wp {ks : PyData} {T : Str} {a : Nat} {c : Nat} {Q : M → List M → Prop} {E : Xv → List M → Prop} (hT : T.length ≤ 100000) (ho : PyData.strOk T = true) (hc : PyData.strOk ⟨#[c]⟩ = true) (ha : a ≤ T.length)
    (h : (cs T)[a]? = some c → Q (.dat .none) [sv ks T (a + 1 : Nat), .dat (.str ⟨#[c]⟩)]) (hx : (cs T)[a]? ≠ some c → E ⟨"NoValue", none⟩ [sv ks T a, .dat (.str ⟨#[c]⟩)]) :
    wpF f_ValueText_sign [sv ks T a, .dat (.str ⟨#[c]⟩)] ⟨Q, E⟩ .mk := by
  have hz := line_big
  unfold f_ValueText_sign
  rw [wp_fn]
  refine ⟨⟨rfl, rfl⟩, ?_⟩
  unfold b_ValueText_sign
  simp
  have hl : T.length = (cs T).length := cs_len.symm
  refine ⟨by omega, ?_⟩
  by_cases e : a = T.length
  · rw [if_pos (by omega)]
    refine hx ?_
    rw [List.getElem?_eq_none (by omega)]
    simp
  · rw [if_neg (by omega)]
    obtain ⟨c1, e1, e2⟩ := atI_get (xs := cs T) (v := (a : Int)) (by omega) (by omega)
    have e2 : (cs T)[a]? = some c1 := e2
    refine ⟨by omega, c1, e1, ⟨strOk_one ho e1, hc⟩, ?_⟩
    by_cases hcc : c1 = c
    · subst hcc
      exact .inl ⟨rfl, h e2⟩
    · refine .inr ⟨hcc, hx ?_⟩
      rw [e2]
      simpa using hcc
theorem drop_cons {l : List Nat} {a : Nat} {c : Nat} {r : List Nat} (h : l.drop a = c :: r) : l[a]? = some c ∧ l.drop (a + 1) = r := by
  constructor
  · rw [← List.head?_drop, h]; rfl
  · rw [← List.drop_drop, h]; rfl
def isLt (c : Nat) : Bool := decide (97 ≤ c ∧ c ≤ 122)
theorem inS_let0 : ∀ c, c < 128 → inS ⟨#[c]⟩ (Str.ofString "abcdefghijklmnopqrstuvwxyz") = isLt c := by decide +kernel
theorem in_let {c : Nat} {k : M → Prop} (hc : c < 128) : wpB (opIn false (.dat (.str ⟨#[c]⟩)) (.dat c_LETTERS)) ⟨k⟩ .mk ↔ k (.dat (.bool (isLt c))) := by
  unfold c_LETTERS
  rw [wp_inS, inS_let0 c hc]
  rfl
@[simp] theorem n_at {ks : PyData} {T : Str} {a : Int} {r : Rho} : nFld "ValueText" "at" 0 (some (sv ks T a) :: r) = some (.int a) := rfl
theorem cutL_mid {α : Type} {xs : List α} {a b : Nat} (h0 : a ≤ b) (h1 : b ≤ xs.length) : cutL xs (some (a : Int)) (some (b : Int)) = (xs.drop a).take (b - a) := by
  unfold cutL HT.sIx
  simp only
  rw [if_neg (by omega), if_neg (by omega)]
  have e1 : min ((a : Int)).toNat xs.length = a := by omega
  have e2 : min ((b : Int)).toNat xs.length = b := by omega
  rw [e1, e2]
theorem maker_wp {ks : PyData} {T : Str} {a : Nat} {w rest : List Nat} {Q : M → List M → Prop} {E : Xv → List M → Prop} (hT : T.length ≤ 100000) (hw : (cs T).drop a = w ++ rest) (hl : ∀ c ∈ w, isLt c = true) (hr : ∀ c r, rest = c :: r → isLt c = false ∧ c < 128) (ha : a ≤ T.length)
    (h : ∀ u, cs u = w → Q (.dat (.str u)) [sv ks T (a + w.length : Nat)]) :
    wpF f_ValueText_maker_name [sv ks T a] ⟨Q, E⟩ .mk := by
  have hz := line_big
  unfold f_ValueText_maker_name
  rw [wp_fn]
  refine ⟨⟨rfl, rfl⟩, ?_⟩
  unfold b_ValueText_maker_name
  simp
  have hwl : w.length + a ≤ T.length := by
    have := congrArg List.length hw
    rw [List.length_drop, List.length_append, cs_len] at this
    omega
  have hla : T.length = (cs T).length := cs_len.symm
  have hdrop : ∀ j, j ≤ w.length → (cs T).drop (a + j) = w.drop j ++ rest := fun j hj => by
    rw [← List.drop_drop, hw, List.drop_append_of_le_length hj]
  refine while_wp (n := fuel) (fun m ρ => ∃ j, j ≤ w.length ∧ m = w.length - j ∧ ρ = [some (sv ks T ((a + j : Nat) : Int)), some (.dat (.int a))]) (m := w.length) ⟨0, by omega, by omega, rfl⟩ (by unfold fuel; omega) (fun m ρ hI J hJ => ?_)
  obtain ⟨j, hj, rfl, rfl⟩ := hI
  simp
  refine ⟨by omega, ?_⟩
  have fin : j = w.length → Q (.dat (.str (L2.cutS T (some (a : Int)) (some ((a : Int) + j))))) [sv ks T (a + w.length : Nat)] := fun ej => by
    refine h _ ?_
    have e1 : (a : Int) + j = ((a + j : Nat) : Int) := by omega
    rw [cs_cut, e1, cutL_mid (by omega) (by omega)]
    have e2 : a + j - a = w.length := by omega
    rw [e2, hw, List.take_left]
  have hd := hdrop j hj
  by_cases hjw : j < w.length
  · obtain ⟨c, r, hc⟩ : ∃ c r, w.drop j = c :: r := by
      cases e : w.drop j with
      | nil =>
        have := congrArg List.length e
        rw [List.length_drop] at this
        simp at this
        omega
      | cons c r => exact ⟨c, r, rfl⟩
    have hcm : c ∈ w := List.mem_of_mem_drop (by rw [hc]; exact List.mem_cons_self)
    rw [hc, List.cons_append] at hd
    have hat := (drop_cons hd).1
    have e1 : (a : Int) + j = ((a + j : Nat) : Int) := by omega
    rw [if_pos (by omega)]
    refine ⟨by omega, c, ?_, ?_⟩
    · obtain ⟨c', q1, q2⟩ := atI_get (xs := cs T) (v := ((a + j : Nat) : Int)) (by omega) (by omega)
      have q2 : (cs T)[a + j]? = some c' := q2
      rw [hat] at q2
      cases q2
      rw [e1]
      exact q1
    · have hlc := hl c hcm
      have hc128 : c < 128 := by unfold isLt at hlc; simp at hlc; omega
      rw [in_let hc128]
      simp [hlc]
      exact hJ (w.length - (j + 1)) _ (by omega) ⟨j + 1, by omega, rfl, by rw [show ((a + (j + 1) : Nat) : Int) = (a : Int) + j + 1 by omega]⟩
  · have ej : j = w.length := by omega
    have fin := fin ej
    rw [ej, List.drop_length, List.nil_append] at hd
    have ef : ((a : Int) + j) = ((a + w.length : Nat) : Int) := by omega
    by_cases hlt : (a : Int) + j < T.length
    · rw [if_pos hlt]
      obtain ⟨c, q1, q2⟩ := atI_get (xs := cs T) (v := ((a + j : Nat) : Int)) (by omega) (by omega)
      have q2 : (cs T)[a + j]? = some c := q2
      have hrest : ∃ r, rest = c :: r := by
        cases er : rest with
        | nil =>
          rw [er] at hd
          have := congrArg List.length hd
          rw [List.length_drop] at this
          simp at this
          omega
        | cons c' r =>
          rw [er] at hd
          have := (drop_cons hd).1
          rw [ej, this] at q2
          cases q2
          exact ⟨r, rfl⟩
      obtain ⟨r, er⟩ := hrest
      refine ⟨by omega, c, by rw [show (a : Int) + j = ((a + j : Nat) : Int) by omega]; exact q1, ?_⟩
      rw [in_let (hr c r er).2]
      simp [(hr c r er).1]
      refine ⟨by omega, ?_⟩
      have e9 : (a : Int) + j = ((a + w.length : Nat) : Int) := by omega
      rw [e9] at fin ⊢
      exact fin
    · rw [if_neg hlt]
      refine ⟨by omega, ?_⟩
      have e9 : (a : Int) + j = ((a + w.length : Nat) : Int) := by omega
      rw [e9] at fin ⊢
      exact fin
end G_k14

set_option Elab.async false
set_option linter.all false
set_option maxRecDepth 100000
namespace G_k14
open PySem DL PP PV
@[simp] theorem e_mak : f_makers_of = PP.f_makers_of := rfl
def sep (p : List Va) : Nat := if p.length > 0 then 44 else 40
theorem tx_mid {m : Str} {p r : List Va} {v : Va} : tx (.mk m (p ++ v :: r)) = beg m p ++ sep p :: (tx v ++ (tl r ++ [41])) := by
  have tla : ∀ {p : List Va}, tl (p ++ v :: r) = tl p ++ 44 :: (tx v ++ tl r) := by
    intro p
    induction p with
    | nil => rw [List.nil_append, tl, tl]; simp
    | cons w p ih => rw [List.cons_append, tl, ih, tl]; simp
  cases p with
  | nil => simp [tx, beg, sep]
  | cons w p => simp [tx, beg, sep, tla]
theorem one_maker {ks : List Kd} (gk : GK ks) {k : Str} {m : Str} {fs : List Str} (hm : (m, fs) ∈ mkOf ks k) : (mkOf ks k).filterMap (fun q => if q.1 = m then some q.2 else none) = [fs] := by
  have hn : ((mkOf ks k).map (·.1)).Nodup := by
    have h0 := gk.mn
    have : ∀ l : List Kd, (mkNames l).Nodup → ((mkOf l k).map (·.1)).Nodup := by
      intro l
      induction l with
      | nil => intro _; simp [mkOf]
      | cons q l ih =>
        intro h
        simp only [mkNames, List.flatMap_cons] at h
        rw [List.nodup_append] at h
        rw [mkOf]
        split
        · exact h.1
        · exact ih h.2.1
    exact this ks h0
  have no : ∀ l : List Mkr, m ∉ l.map (·.1) → l.filterMap (fun q => if q.1 = m then some q.2 else none) = [] := by
    intro l
    induction l with
    | nil => intro _; rfl
    | cons q l ih =>
      intro h
      rw [List.map_cons, List.mem_cons, not_or] at h
      have h1 : ¬ q.1 = m := fun e => h.1 e.symm
      rw [List.filterMap_cons_none (by simp [h1])]
      exact ih h.2
  generalize mkOf ks k = l at hm hn
  induction l with
  | nil => cases hm
  | cons q l ih =>
    rw [List.map_cons, List.nodup_cons] at hn
    rcases List.mem_cons.mp hm with rfl | hm
    · rw [List.filterMap_cons_some (b := fs) (by simp), no l hn.1]
    · have h1 : ¬ q.1 = m := fun e => hn.1 (by rw [e]; exact List.mem_map.mpr ⟨_, hm, rfl⟩)
      rw [List.filterMap_cons_none (by simp [h1])]
      exact ih hm hn.2
theorem Wfs.cut {ks : List Kd} : ∀ {f1 : List Str} {f : Str} {f2 : List Str} {ps : List Va}, Wfs ks (f1 ++ f :: f2) ps → ∃ p1 v p2, ps = p1 ++ v :: p2 ∧ p1.length = f1.length ∧ Wf ks f v
  | [], f, f2, _, .cons (v := v) (vs := vs) h t => ⟨[], v, vs, rfl, rfl, h⟩
  | g :: f1, f, f2, _, .cons (v := v) (vs := vs) h t => by
    obtain ⟨p1, w, p2, e1, e2, e3⟩ := Wfs.cut t
    exact ⟨v :: p1, w, p2, by rw [e1]; rfl, by rw [List.length_cons, List.length_cons, e2], e3⟩
def okR (rest : List Nat) : Prop := ∀ c r, rest = c :: r → isLt c = false ∧ c < 128
theorem value_of_wp {ks : List Kd} (gk : GK ks) (hlw : ∀ q ∈ ks, ∀ m ∈ q.2, Lw m.1) {T : Str} (hT : T.length ≤ 100000) (ho : PyData.strOk T = true) : ∀ (n : Nat) {k : Str} {v : Va} {a : Nat} {rest : List Nat} {Q : M → List M → Prop} {E : Xv → List M → Prop}, Wf ks k v → sz v ≤ n → n ≤ 90 → PyData.strOk k = true →
    (cs T).drop a = tx v ++ rest → okR rest → a ≤ T.length → Q (.dat (eVa v)) [sv (eKds ks) T (a + (tx v).length : Nat), .dat (.str k)] → wpF (r_ValueText_value_of n) [sv (eKds ks) T a, .dat (.str k)] ⟨Q, E⟩ .mk := by
  intro n
  induction n with
  | zero => intro k v a rest Q E h hn; cases h; rw [sz] at hn; omega
  | succ n ih =>
    intro k v a rest Q E hw hn hn2 hk hd hr ha h
    have hz := line_big
    cases hw with
    | @mk _ m fs ps hm hp =>
    rw [sz] at hn
    obtain ⟨q, hq, rfl, hmq⟩ := mkOf_mem hm
    have hmx := (gk.tx q hq).2 _ hmq
    have hml : m.length ≤ 13 := hmx.1
    have hmw := hlw q hq _ hmq
    have hpl := szs_len (vs := ps)
    rw [r_ValueText_value_of, wp_fn]
    refine ⟨⟨rfl, rfl⟩, ?_⟩
    unfold b_ValueText_value_of
    simp
    obtain ⟨aft, haft, hokaft⟩ : ∃ aft, tx (.mk m ps) ++ rest = cs m ++ aft ∧ okR aft := by
      cases ps with
      | nil => exact ⟨rest, by rw [tx], hr⟩
      | cons p r => exact ⟨_, by rw [tx, List.append_assoc], fun c r e => by cases e; decide⟩
    refine maker_wp hT (hd.trans haft) (fun c hc => by have := hmw.2 c hc; unfold isLt; simpa using this) hokaft ha fun u hu => ?_
    have eu : u = m := cs_inj.mp hu
    subst eu
    simp
    refine makers_of_wp gk.ok hk ?_
    simp [eMks]
    have ml : (mkOf ks q.1).length ≤ 6 := by rw [gk.mkOf_mem hq]; exact (gk.l2 q hq).2
    have hfl : fs.length ≤ 4 := gk.l3 q hq _ hmq
    refine ⟨by omega, comp_map (mkOf ks q.1) eMk (fun x => if x.1 = u then some x.2 else none) eStrs (fun x hx => ?_) ?_⟩
    · obtain ⟨q2, hq2, _, hx2⟩ := mkOf_mem hx
      have hx3 := (gk.tx q2 hq2).2 _ hx2
      simp [eMk, hx3.2, hmx.2]
      by_cases hxu : x.1 = u
      · simp [hxu, eStrs]
      · simp [hxu]
    · rw [one_maker gk hm]
      simp [-wp_ixLM, lM_nil (e := eVa)]
      have est : eStrs fs = .tuple (fs.map .str) := rfl
      rw [est]
      simp [enD_map, -List.map_map]
      refine for_ty (fs.zipIdx 0) (fun p => wkT [.int (p.2 : Nat), .str p.1]) (fun p ρ => ∃ p1 p2 x5 x6, ps = p1 ++ p2 ∧ p1.length = p.length ∧ ρ = [some (sv (eKds ks) T (a + (beg u p1).length : Nat)), some (.dat (.str q.1)), some (.dat (.str u)), some (lM eStrs [fs]), some (lM eVa p1), x5, x6, none, none]) ⟨[], ps, none, none, rfl, rfl, rfl⟩ (fun p x r e ρ hI J hJ => ?_) (fun ρ1 hI => ?_)
      · obtain ⟨p1, p2', x5, x6, e3, e4, rfl⟩ := hI
        obtain ⟨e1, e2⟩ := zip_at e
        rw [Nat.zero_add] at e1
        have hp0 := hp
        rw [e2] at hp0
        obtain ⟨p1', v, p2, q1, q2, hvf⟩ := Wfs.cut hp0
        rw [List.length_map] at q2
        have q3 : p1 = p1' := (List.append_inj (e3.symm.trans q1) (by omega)).1
        subst q3
        have hdx : (cs T).drop (a + (beg u p1).length) = sep p1 :: (tx v ++ (tl p2 ++ 41 :: rest)) := by
          rw [← List.drop_drop, hd, q1, tx_mid, List.append_assoc, List.drop_left]
          simp
        have hlen : a + (beg u p1).length + 1 + (tx v).length ≤ T.length := by
          have := congrArg List.length hdx
          rw [List.length_drop, cs_len] at this
          simp only [List.length_cons, List.length_append] at this
          omega
        have hxf : x.1 ∈ fs := by rw [e2]; simp
        have hxn := gk.fi q hq _ hmq x.1 hxf
        obtain ⟨q5, hq5, eq5⟩ := List.mem_map.mp hxn
        have hxo : PyData.strOk x.1 = true := by rw [← eq5]; exact (gk.tx q5 hq5).1.2
        have lo : (Str.ofString "(,").length = 2 := by decide +kernel
        have at0' : L2.atI (Str.ofString "(,").cps.toList 0 = some 40 := by decide +kernel
        have at1' : L2.atI (Str.ofString "(,").cps.toList 1 = some 44 := by decide +kernel
        have hat : L2.atI (Str.ofString "(,").cps.toList (if 0 < x.2 then 1 else 0) = some (sep p1) := by
          unfold sep
          by_cases h0 : 0 < x.2
          · rw [if_pos h0, if_pos (by omega)]; exact at1'
          · rw [if_neg h0, if_neg (by omega)]; exact at0'
        simp [wkT]
        refine ⟨by omega, _, hat, ?_⟩
        have e9 : (a : Int) + ((beg u p1).length : Int) = ((a + (beg u p1).length : Nat) : Int) := by omega
        rw [e9]
        refine sign_wp hT ho (by unfold sep; split <;> decide +kernel) (by omega) (fun _ => ?_) (fun hx => absurd (drop_cons hdx).1 hx)
        simp
        have e10 : (a : Int) + ((beg u p1).length : Int) + 1 = ((a + (beg u p1).length + 1 : Nat) : Int) := by omega
        rw [e10]
        have hvm : v ∈ ps := by rw [q1]; simp
        have hsv := sz_le hvm
        have hp1 : p1.length ≤ ps.length := by rw [q1, List.length_append]; omega
        refine ih hvf (by omega) (by omega) hxo (drop_cons hdx).2 (fun c r er => ?_) (by omega) ?_
        · cases p2 with
          | nil => rw [tl, List.nil_append] at er; cases er; decide
          | cons w p2 => rw [tl, List.cons_append] at er; cases er; decide
        · simp
          have e11 : a + (beg u (p1 ++ [v])).length = a + (beg u p1).length + 1 + (tx v).length := by
            rw [beg_snoc, List.length_append, List.length_cons]
            omega
          have e12 : (a : Int) + ((beg u p1).length : Int) + 1 + ((tx v).length : Int) = ((a + (beg u (p1 ++ [v])).length : Nat) : Int) := by omega
          refine ⟨by omega, hJ _ ⟨p1 ++ [v], p2, _, _, by rw [q1]; simp, by simp [q2], by rw [e12]⟩⟩
      · obtain ⟨p1, p2, x5, x6, e3, e4, rfl⟩ := hI
        have hlen := hp.len
        have ep2 : p2 = [] := by
          have := congrArg List.length e3
          rw [List.length_append] at this
          rw [List.length_zipIdx] at e4
          exact List.eq_nil_of_length_eq_zero (by omega)
        subst ep2
        rw [List.append_nil] at e3
        subst e3
        rw [eVa_mk] at h
        simp
        by_cases h0 : 0 < ps.length
        · rw [if_pos h0]
          have etx : tx (.mk u ps) = beg u ps ++ [41] := by rw [tx_beg, if_pos h0]
          rw [etx, List.append_assoc] at hd
          have hdx : (cs T).drop (a + (beg u ps).length) = 41 :: rest := by
            rw [← List.drop_drop, hd, List.drop_left]
            rfl
          have hl2 : a + (beg u ps).length + 1 ≤ T.length := by
            have := congrArg List.length hdx
            rw [List.length_drop, cs_len] at this
            simp only [List.length_cons] at this
            omega
          have ec : Str.ofString ")" = ⟨#[41]⟩ := by decide +kernel
          have e9 : (a : Int) + ((beg u ps).length : Int) = ((a + (beg u ps).length : Nat) : Int) := by omega
          rw [ec, e9]
          refine sign_wp hT ho (by decide +kernel) (by omega) (fun _ => ?_) (fun hx => absurd (drop_cons hdx).1 hx)
          rw [etx] at h
          simp at h ⊢
          first | exact h | (trace_state; skip)
        · rw [if_neg h0]
          have etx : tx (.mk u ps) = beg u ps := by rw [tx_beg, if_neg h0, List.append_nil]
          rw [etx] at h
          simpa using h
end G_k14

set_option Elab.async false
set_option linter.all false
set_option maxRecDepth 100000
namespace G_k14
open PySem DL PP PV
theorem mk_unlike {k k' : Str} (hk : k ≠ k') {x y : Mkr} : ∀ {ks : List Kd}, (mkNames ks).Nodup → x ∈ mkOf ks k → y ∈ mkOf ks k' → x.1 ≠ y.1 := by
  have sub : ∀ {ks : List Kd} {k : Str} {x : Mkr}, x ∈ mkOf ks k → x.1 ∈ mkNames ks := fun h => by
    obtain ⟨q, hq, _, hm⟩ := mkOf_mem h
    exact List.mem_flatMap.mpr ⟨q, hq, List.mem_map.mpr ⟨_, hm, rfl⟩⟩
  intro ks
  induction ks with
  | nil => intro _ h; cases h
  | cons q ks ih =>
    intro hn hx hy
    simp only [mkNames, List.flatMap_cons] at hn
    rw [List.nodup_append] at hn
    rw [mkOf] at hx hy
    by_cases h1 : q.1 = k
    · have h2 : ¬ q.1 = k' := fun e => hk (h1 ▸ e)
      rw [if_pos h1] at hx
      rw [if_neg h2] at hy
      exact hn.2.2 _ (List.mem_map.mpr ⟨x, hx, rfl⟩) _ (sub hy)
    · rw [if_neg h1] at hx
      by_cases h2 : q.1 = k'
      · rw [if_pos h2] at hy
        exact fun e => hn.2.2 _ (List.mem_map.mpr ⟨y, hy, rfl⟩) _ (sub hx) e.symm
      · rw [if_neg h2] at hy
        exact ih hn.2.1 hx hy
theorem value_of_no {ks : List Kd} (gk : GK ks) (hlw : ∀ q ∈ ks, ∀ m ∈ q.2, Lw m.1) {T : Str} (hT : T.length ≤ 100000) (ho : PyData.strOk T = true) {n : Nat} {k k' : Str} {v : Va} {Q : M → List M → Prop} {E : Xv → List M → Prop} (hw : Wf ks k v) (hkk : k ≠ k') (hk : PyData.strOk k' = true)
    (hd : cs T = tx v) (h : ∀ b : Int, E ⟨"NoValue", none⟩ [sv (eKds ks) T b, .dat (.str k')]) : wpF (r_ValueText_value_of (n + 1)) [sv (eKds ks) T (0 : Nat), .dat (.str k')] ⟨Q, E⟩ .mk := by
  have hz := line_big
  cases hw with
  | @mk _ m fs ps hm hp =>
  obtain ⟨q, hq, rfl, hmq⟩ := mkOf_mem hm
  have hmx := (gk.tx q hq).2 _ hmq
  have hmw := hlw q hq _ hmq
  rw [r_ValueText_value_of, wp_fn]
  refine ⟨⟨rfl, rfl⟩, ?_⟩
  unfold b_ValueText_value_of
  simp
  obtain ⟨aft, haft, hokaft⟩ : ∃ aft, tx (.mk m ps) = cs m ++ aft ∧ okR aft := by
    cases ps with
    | nil => exact ⟨[], by rw [tx, List.append_nil], fun c r e => by cases e⟩
    | cons p r => exact ⟨_, by rw [tx], fun c r e => by cases e; decide⟩
  have hd0 : (cs T).drop 0 = cs m ++ aft := by rw [List.drop_zero, hd, haft]
  refine maker_wp (a := 0) hT hd0 (fun c hc => by have := hmw.2 c hc; unfold isLt; simpa using this) hokaft (by omega) fun u hu => ?_
  have eu : u = m := cs_inj.mp hu
  subst eu
  simp
  refine makers_of_wp gk.ok hk ?_
  simp [eMks]
  have ml : (mkOf ks k').length ≤ 6 := by
    by_cases hkn : k' ∈ names ks
    · obtain ⟨q2, hq2, e⟩ := List.mem_map.mp hkn
      rw [← e, gk.mkOf_mem hq2]
      exact (gk.l2 q2 hq2).2
    · rw [mkOf_none fun q2 hq2 e => hkn (List.mem_map.mpr ⟨q2, hq2, e⟩)]
      simp
  refine ⟨by omega, comp_map (mkOf ks k') eMk (fun x => none) eStrs (fun x hx => ?_) ?_⟩
  · obtain ⟨q2, hq2, _, hx2⟩ := mkOf_mem hx
    have hx3 := (gk.tx q2 hq2).2 _ hx2
    have hxu : ¬ x.1 = u := fun e => mk_unlike hkk gk.mn hm hx e.symm
    simp [eMk, hx3.2, hmx.2, hxu]
  · have e0 : (mkOf ks k').filterMap (fun _ => (none : Option (List Str))) = [] := by
      generalize mkOf ks k' = l
      induction l with
      | nil => rfl
      | cons x l ih => rw [List.filterMap_cons_none rfl]; exact ih
    rw [e0]
    simp
    exact h _
theorem read_wp {ks : List Kd} (gk : GK ks) (hlw : ∀ q ∈ ks, ∀ m ∈ q.2, Lw m.1) {k k' : Str} {v : Va} {Q : M → List M → Prop} {E : Xv → List M → Prop} (hw : Wf ks k v) (hs : sz v ≤ 80) (hk : PyData.strOk k' = true) (ho : PyData.strOk (tS v) = true)
    (h1 : k' = k → Q (.dat (eVa v)) [.dat (eKds ks), .dat (.str k'), .dat (.str (tS v))]) (h2 : k' ≠ k → Q (.dat .none) [.dat (eKds ks), .dat (.str k'), .dat (.str (tS v))]) : wpF f_law_read [.dat (eKds ks), .dat (.str k'), .dat (.str (tS v))] ⟨Q, E⟩ .mk := by
  have hz := line_big
  have hlen := tx_len gk hw
  have hT : (tS v).length ≤ 100000 := by rw [← cs_len, cs_tS]; omega
  unfold f_law_read
  rw [wp_fn]
  refine ⟨⟨rfl, rfl⟩, ?_⟩
  unfold b_law_read
  simp
  unfold f_read_value
  rw [wp_fn]
  refine ⟨⟨rfl, rfl⟩, ?_⟩
  unfold b_read_value
  simp
  refine init_wp ?_
  simp
  unfold f_ValueText_value_of
  by_cases e : k' = k
  · subst e
    refine value_of_wp gk hlw hT ho 80 (a := 0) (rest := []) hw (by omega) (by omega) hk (by rw [List.drop_zero, cs_tS, List.append_nil]) (fun c r e => by cases e) (by omega) ?_
    simp
    have el : ((tx v).length : Int) = ((tS v).length : Int) := by rw [← cs_len (a := tS v), cs_tS]
    exact ⟨by omega, .inl ⟨el, h1 rfl⟩⟩
  · refine value_of_no gk hlw hT ho (n := 79) hw (fun z => e z.symm) hk cs_tS fun b => ?_
    simp
    exact h2 e
end G_k14

set_option Elab.async false
set_option linter.all false
set_option maxRecDepth 100000
namespace G_k14
open PySem DL PP PV
@[simp] theorem e_drw : f_law_draw = DL.f_draw := rfl
@[simp] theorem e_wrd : f_law_words = PV.f_law_words := rfl
@[simp] theorem e_knd : f_law_kinds = PV.f_law_kinds := rfl
@[simp] theorem e_lst : f_law_leasts = PV.f_law_leasts := rfl
@[simp] theorem e_dea : f_law_deal = DL.f_deal := rfl
theorem e_val : f_law_value = PV.r_law_value 80 := rfl
theorem e_shw : f_show_value = r_show_value 80 := rfl
theorem e_txt : f_law_text = r_law_text 80 := rfl
theorem e_alk : f_law_alike = r_law_alike 80 := rfl
theorem tS_cons {m : Str} {p : Va} {r : List Va} : tS (.mk m (p :: r)) = m ++ Str.ofString "(" ++ Str.join (Str.ofString ",") ((p :: r).map tS) ++ Str.ofString ")" := by
  apply cs_inj.mp
  have e1 : cs (Str.ofString "(") = [40] := by decide +kernel
  have e2 : cs (Str.ofString ")") = [41] := by decide +kernel
  rw [cs_tS, tx, cs_app, cs_app, cs_app, e1, e2, join_cs]
  simp
theorem tS_ok {ks : List Kd} (gk : GK ks) : ∀ (n : Nat) {k : Str} {v : Va}, Wf ks k v → sz v ≤ n → PyData.strOk (tS v) = true := by
  intro n
  induction n with
  | zero => intro k v h hn; cases h; rw [sz] at hn; omega
  | succ n ih =>
    intro k v hw hn
    cases hw with
    | @mk _ m fs ps hm hp =>
    rw [sz] at hn
    obtain ⟨q, hq, rfl, hmq⟩ := mkOf_mem hm
    have hmx := (gk.tx q hq).2 _ hmq
    cases ps with
    | nil =>
      have e : tS (.mk m []) = m := cs_inj.mp (by rw [cs_tS, tx])
      rw [e]; exact hmx.2
    | cons p r =>
      rw [tS_cons]
      refine strOk_app (strOk_app (strOk_app hmx.2 strOk_ofString) (join_ok strOk_ofString fun y hy => ?_)) strOk_ofString
      obtain ⟨v, hv, rfl⟩ := List.mem_map.mp hy
      obtain ⟨f, hf⟩ := wfs_mem hp v hv
      have := sz_le hv
      exact ih hf (by omega)
end G_k14

set_option Elab.async false
set_option linter.all false
set_option maxRecDepth 100000
namespace G_k14
open PySem DL PP PV
def eKV (p : Str × Va) : PyData := .tuple [.str p.1, eVa p.2]
@[simp] theorem sl_scr {ns : List Int} {lo hi : Option Int} : opSl (.scr ns) lo hi = some (lM .int (cutL ns lo hi)) := by
  show some (M.lst ((cutD (ns.map .int) lo hi).map M.dat)) = _
  rw [cutD_map]
  rfl
theorem cutL_len {α : Type} {xs : List α} {lo hi : Option Int} : (cutL xs lo hi).length ≤ xs.length := by
  unfold cutL
  rw [List.length_take, List.length_drop]
  omega
@[simp] theorem isN_eVa {b : Bool} {v : Va} : opIsN b (.dat (eVa v)) (.dat .none) = some (.dat (.bool b)) := by
  cases v
  rw [eVa_mk]
  rfl
theorem law_t : LawT f_law := by
  intro ns hn hb
  have z : wpF f_law [.scr ns] ⟨fun r fin => r = .dat (.bool true), fun _ _ => False⟩ .mk := by
    have hz := line_big
    unfold f_law
    rw [wp_fn]
    refine ⟨⟨rfl, rfl⟩, ?_⟩
    unfold b_law
    simp
    refine deal_wp hn (by omega) (by omega) fun d => ?_
    simp
    refine words_wp (n := 30) (by omega) (by omega) fun W d1 gw => ?_
    simp
    refine kinds_wp gw fun ks d2 gk k3 kw => ?_
    simp
    have L := @leasts_wp ks
    generalize PV.f_law_leasts = FF at L ⊢
    refine L gk fun N g li zr => ?_
    clear L FF
    have hl0 := gk.l0
    simp [fzO_dkM, eKds]
    refine ⟨by omega, comp_map ks eKd (fun q => if q.1 ∈ N then some q.1 else none) .str (fun q hq => ?_) ?_⟩
    · simp [eKd]
    obtain ⟨S, hS⟩ : ∃ S, S = ks.filterMap (fun q => if q.1 ∈ N then some q.1 else none) := ⟨_, rfl⟩
    rw [← hS]
    have hSm : ∀ k ∈ S, k ∈ N ∧ k ∈ names ks := fun k hk => by
      rw [hS] at hk
      obtain ⟨q, hq, e⟩ := List.mem_filterMap.mp hk
      by_cases h : q.1 ∈ N
      · rw [if_pos h] at e
        cases e
        exact ⟨h, List.mem_map.mpr ⟨q, hq, rfl⟩⟩
      · rw [if_neg h] at e
        cases e
    have hStx : ∀ k ∈ S, Tx 13 k := fun k hk => by
      obtain ⟨q, hq, e⟩ := List.mem_map.mp (hSm k hk).2
      rw [← e]
      exact (gk.tx q hq).1
    have hSl : S.length ≤ 3 := by
      rw [hS]
      exact Nat.le_trans (List.length_filterMap_le _ _) k3
    have hS1 : Shp 1 (.list (S.map PyData.str)) := Shp.lst (Shp.map fun k hk => Shp.str (hStx k hk).2)
    have hlw : ∀ q ∈ ks, ∀ m ∈ q.2, Lw m.1 := fun q hq m hm => (gw.2.2 _ ((kw q hq).2 m hm)).2
    have f0 : M.frz (lM eKV []) = some (.list []) := frz_lM
    have ene : PyData.eqv (.list (S.map PyData.str)) (.list []) = decide (S = []) := by
      rw [eqv_ll]
      cases S with
      | nil => simp
      | cons _ _ => simp
    simp [lM_nil (e := eKV)]
    rw [wp_neF frz_lM f0]
    refine ⟨⟨hS1.shaped (by omega), (Shp.lst (n := 0) (by simp)).shaped (by omega)⟩, ?_⟩
    rw [ene]
    simp
    obtain ⟨c1, hc1⟩ : ∃ c1 : Int, c1 = min 10 (3 + (ns.length : Int)) := ⟨_, rfl⟩
    rw [← hc1]
    have hc0 : 0 ≤ c1 ∧ c1 ≤ 10 := by omega
    obtain ⟨c2, hc2⟩ : ∃ c2 : Int, c2 = (if S = [] then 0 else 1) := ⟨_, rfl⟩
    rw [← hc2]
    have hc3 : 0 ≤ c2 ∧ c2 ≤ 1 := by rw [hc2]; split <;> omega
    have hc5 : c1 * c2 ≤ 10 ∧ 0 ≤ c1 * c2 := by
      rcases (show c2 = 0 ∨ c2 = 1 by omega) with h | h
      · rw [h, Int.mul_zero]; omega
      · rw [h, Int.mul_one]; omega
    have hcS : S = [] → c1 * c2 = 0 := fun h => by simp [hc2, h]
    have hNl : N.length ≤ 3 := by
      have := subset_len li.nd li.up
      simp [names] at this
      omega
    have hbd : bd N.length ≤ 21 := Nat.le_trans (bd_mono hNl) (by decide)
    refine ⟨fits_small (by omega) (by omega) (by omega) (by omega), ⟨by omega, by omega⟩, ?_⟩
    unfold rngD
    refine for_ty (List.range (c1 * c2).toNat) (fun i => .int (0 + (i : Int))) (fun p ρ => ∃ seen : List (Str × Va), ∃ d' x7 x8 x9 x10, seen.length ≤ p.length ∧ (∀ y ∈ seen, y.1 ∈ S ∧ Wf ks y.1 y.2 ∧ sz y.2 ≤ 40) ∧ ρ = [some (.scr ns), some (Deal.m d'), some (.dat (.list (W.map .str))), some (.dat (.tuple (ks.map eKd))), some (.dat (lD N g)), some (lM .str S), some (lM eKV seen), x7, x8, x9, x10, none, none, none]) ⟨[], d2, none, none, none, none, by simp, by simp, rfl⟩ (fun p x r e ρ hI J hJ => ?_) (fun ρ1 hI => ?_)
    · obtain ⟨seen, d', x7, x8, x9, x10, hsl, hsn, rfl⟩ := hI
      have hpl : p.length < 10 := by
        have := congrArg List.length e
        rw [List.length_range, List.length_append, List.length_cons] at this
        omega
      have hSne : S ≠ [] := fun h => by
        have := congrArg List.length e
        rw [List.length_range, List.length_append, List.length_cons, hcS h] at this
        simp at this
      have hS0 : 0 < S.length := List.length_pos_iff.mpr hSne
      simp [e_val, e_shw, e_txt]
      refine draw_wp (by omega) (by omega) fun t d3 h0 h1 => ?_
      obtain ⟨own, ho1, ho2⟩ := atI_get (xs := S) (v := t) (by omega) (by omega)
      simp
      refine ⟨t.toNat, by rw [ixN_nat (by omega) (by omega)], own, ho2, ?_⟩
      have hoS := List.mem_of_getElem? ho2
      have hoN := (hSm own hoS).1
      simp [lD, hoN]
      refine draw_wp (by omega) (by omega) fun u d4 h20 h21 => ?_
      simp [-wp_ixL]
      refine pick_wp (f := fun i => M.dat (.int i)) [8, 40] rfl h20 (by simpa using h21) fun lim hlim st => ?_
      have hlim' : 8 ≤ lim ∧ lim ≤ 40 := by simp at hlim; omega
      simp
      refine draw_wp (by omega) (by omega) fun u2 d5 h30 h31 => ?_
      simp
      obtain ⟨room, hroom⟩ : ∃ room : Nat, max ((g own : Nat) : Int) (1 + u2) = (room : Nat) := ⟨max (g own) (1 + u2).toNat, by omega⟩
      rw [hroom]
      have hgo := (li.lo own hoN).2
      have hgb : bd N.length ≤ 21 := hbd
      have V := fun Q E => @value_wp ks N g gk li 80 room d5 own Q E (by omega) (by omega) hoN (by omega)
      generalize PV.r_law_value 80 = FF at V ⊢
      refine V _ _ fun v d6 hw hs => ?_
      clear V FF
      have hv40 : sz v ≤ 40 := by omega
      simp
      have V := fun Q E => @show_wp ks gk 80 own v Q E hw (by omega) (by omega)
      generalize r_show_value 80 = FF at V ⊢
      refine ⟨by omega, V _ _ ?_⟩
      clear V FF
      simp
      have V := fun Q E => @text_wp ks gk 80 own v Q E hw (by omega) (by omega)
      generalize r_law_text 80 = FF at V ⊢
      refine V _ _ ?_
      clear V
      have hok := tS_ok gk 80 hw (by omega)
      have eL : M.lst (lMs eKV seen ++ [.dat (.tuple [.str own, eVa v])]) = lM eKV (seen ++ [(own, v)]) := lM_snoc (e := eKV) (x := (own, v))
      simp [hok]
      refine hJ _ ⟨seen ++ [(own, v)], d6, _, _, _, _, by simp; omega, fun y hy => ?_, by rw [eL]; rfl⟩
      rcases List.mem_append.mp hy with z | z
      · exact hsn y z
      · rw [List.mem_singleton.mp z]; exact ⟨hoS, hw, hv40⟩
    · obtain ⟨seen, d', x7, x8, x9, x10, hsl, hsn, rfl⟩ := hI
      rw [List.length_range] at hsl
      simp
      have hcl := cutL_len (xs := seen) (lo := none) (hi := some 1)
      refine ⟨by omega, ?_⟩
      have hall : ∀ y ∈ seen ++ cutL seen none (some 1), y.1 ∈ S ∧ Wf ks y.1 y.2 ∧ sz y.2 ≤ 40 := fun y hy => by
        rcases List.mem_append.mp hy with z | z
        · exact hsn y z
        · exact hsn y (List.mem_of_mem_drop (List.mem_of_mem_take z))
      rw [← List.map_append]
      generalize seen ++ cutL seen none (some 1) = T at hall ⊢
      refine for_ty T eKV (fun p ρ => ∃ x7 x8 x9 x10 x11 x12 x13, ρ = [some (.scr ns), some (Deal.m d'), some (.dat (.list (W.map .str))), some (.dat (.tuple (ks.map eKd))), some (.dat (lD N g)), some (lM .str S), some (lM eKV seen), x7, x8, x9, x10, x11, x12, x13]) ⟨x7, x8, x9, x10, none, none, none, rfl⟩ (fun p y r e ρ hI J hJ => ?_) (fun ρ1 hI => ?_)
      · obtain ⟨x7, x8, x9, x10, x11, x12, x13, rfl⟩ := hI
        obtain ⟨hyS, hyw, hys⟩ := hall y (by rw [e]; simp)
        simp [eKV]
        refine for_ty ks eKd (fun p ρ => ∃ x11 x12 x13, ρ = [some (.scr ns), some (Deal.m d'), some (.dat (.list (W.map .str))), some (.dat (.tuple (ks.map eKd))), some (.dat (lD N g)), some (lM .str S), some (lM eKV seen), x7, some (.dat (.str y.1)), x9, some (.dat (eVa y.2)), x11, x12, x13]) ⟨x11, x12, x13, rfl⟩ (fun p q r e ρ hI J2 hJ2 => ?_) (fun ρ1 hI => ?_)
        · obtain ⟨x11, x12, x13, rfl⟩ := hI
          have hq : q ∈ ks := by rw [e]; simp
          simp [eKd, e_txt]
          have V := fun Q E => @text_wp ks gk 80 y.1 y.2 Q E hyw (by omega) (by omega)
          generalize r_law_text 80 = FF at V ⊢
          refine V _ _ ?_
          clear V FF
          simp
          have V := fun Q E => @read_wp ks gk hlw y.1 q.1 y.2 Q E hyw (by omega) (gk.tx q hq).1.2 (tS_ok gk 80 hyw (by omega))
          generalize f_law_read = FF at V ⊢
          have hyo : PyData.strOk y.1 = true := (hStx y.1 hyS).2
          have hqo : PyData.strOk q.1 = true := (gk.tx q hq).1.2
          refine V _ _ (fun ek => ?_) (fun ek => ?_)
          · clear V FF
            simp [hyo, hqo, ek, e_alk]
            have V := fun Q E => @alike_wp ks gk 80 y.1 y.2 Q E hyw (by omega) (by omega)
            generalize r_law_alike 80 = FF at V ⊢
            refine V _ _ ?_
            clear V FF
            simp [hyo, hqo, ek]
            exact hJ2 _ ⟨_, _, _, rfl⟩
          · clear V FF
            simp [hyo, hqo, ek]
            exact hJ2 _ ⟨_, _, _, rfl⟩
        · obtain ⟨x11, x12, x13, rfl⟩ := hI
          exact hJ _ ⟨_, _, _, _, _, _, _, rfl⟩
      · obtain ⟨x7, x8, x9, x10, x11, x12, x13, rfl⟩ := hI
        simp
  obtain ⟨r, fin, e, rfl⟩ := wpF_get z
  exact ⟨fin, e⟩
end G_k14

theorem PySem.Challenge.cw_pursewright_k14_values_written_and_read_holds : PySem.Challenge.rw_pursewright_k14_values_written_and_read.Holds := by
  exact G_k14.fin G_k14.law_t
