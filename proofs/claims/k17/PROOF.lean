import PyProof.Rows.All
import Wide.All
import OpenK.AllK
import Wide.FinOn
import HandS.ForMost
import HandS.IsInst
import HandS.SetFor
import PyProof.StrLawsRepr
import KE.LtData
import KE.SortData
import HandS.DictComp
import HandS.More
import KE.KUnpackStar
import HandS.ExcOwn
import HandS.ExcValue
import HandS.Exc
import HandS.ExcInit
import HandS.ExcField
import HandS.TryOnly
import HandS.TryMany
import HandS.ExcIs
import HandS.Small
import HandS.TupLe
import KE.KExcIs
import PyProof.ReprReads
import PyProof.ReprRoads
import HandS.Dict
import PyProof.NeKinds
import HandS.Conv
import HandS.HotCalls
import HandS.RaiseMore
import PyProof.EqAt
import PySem.Challenge.RW_placedworks_k17_refusals_apart
set_option Elab.async false
set_option linter.all false
set_option maxRecDepth 100000
set_option maxHeartbeats 4000000
namespace Dm
open PySem L2

/-! ### values, owned objects, and how they stand in the heap -/
inductive Wv where
  | d (x : PyData)
  | c (x : PyData)
  | v (x : V)
  | o (k : Nat)
inductive OO where
  | lst (xs : List Wv)
  | tup (xs : List Wv)
  | dk (kvs : List (Key × Wv))
  | dt (kvs : List (List Key × Wv))
  | ins (C : Addr) (fs : List (Str × Wv))
  | dkL (od : Obj) (ys : List (Key × V)) (kvs : List (Key × Wv))
  | gone
abbrev Rho := List (Option Wv)
abbrev Sto := List OO

section
variable {K : PySem.W.Frag} {G F F' F2 H H' : Hp} {μ μ' μ2 : List Addr}
mutual
theorem dp_mono (e : Same F F') : ∀ {v : V} {d : PyData}, Dp K F v d → Dp K F' v d
  | _, _, .non => .non
  | _, _, .bl b => .bl b
  | _, _, .int i => .int i
  | _, _, .str x => .str x
  | _, _, .lst h a => .lst (e.seq h) (dpAll_mono e a)
  | _, _, .tup (a := a) (xs := xs) h q => .tup (by
      rcases h with (h | ⟨o, h⟩) | h
      · exact .inl (.inl (e _ _ h))
      · exact .inl (.inr ⟨o, e _ _ h⟩)
      · exact .inr h) (dpAll_mono e q)
theorem dpAll_mono (e : Same F F') : ∀ {vs : List V} {ds : List PyData}, DpAll K F vs ds → DpAll K F' vs ds
  | _, _, .nil => .nil
  | _, _, .cons h t => .cons (dp_mono e h) (dpAll_mono e t)
end
theorem same_t (e : Same F F') {a : Addr} {xs : List V} (h : SqT K F a xs) : SqT K F' a xs := by
  rcases h with (h | ⟨o, h⟩) | h
  · exact .inl (.inl (e _ _ h))
  · exact .inl (.inr ⟨o, e _ _ h⟩)
  · exact .inr h

/-- the plain values of a dict that is never written to -/
def plainV : PyData → V
  | .bool b => .bl b
  | .int i => .int i
  | .str x => .str x
  | _ => .non
def plainP : PyData → Bool
  | .none => true
  | .bool _ => true
  | .int _ => true
  | .str _ => true
  | _ => false
def keyP : Key → PyData
  | .inl i => .int i
  | .inr x => .str x
/-- data all of whose lists and tuples are objects of the call -/
inductive Dq (F : Hp) : V → PyData → Prop where
  | non : Dq F .non .none
  | bl (b : Bool) : Dq F (.bl b) (.bool b)
  | int (i : Int) : Dq F (.int i) (.int i)
  | str (x : Str) : Dq F (.str x) (.str x)
  | lst {a : Addr} {xs : List V} {ds : List PyData} : F a = some (.lst xs) → Paired (Dq F) xs ds → Dq F (.ref a) (.list ds)
  | tup {a : Addr} {xs : List V} {ds : List PyData} : F a = some (.tup xs) → Paired (Dq F) xs ds → Dq F (.ref a) (.tuple ds)
  | dct {a : Addr} {fs : List (Key × PyData)} {kvs : List (PyData × PyData)} : F a = some (.dK (fs.map fun p => (p.1, plainV p.2))) → kvs = fs.map (fun p => (keyP p.1, p.2)) → (∀ p ∈ fs, plainP p.2 = true) → Dq F (.ref a) (.dict kvs)
mutual
theorem dq_mono (e : Same F F') : ∀ (d : PyData) {v : V}, Dq F v d → Dq F' v d
  | .none, _, .non => .non
  | .bool _, _, .bl b => .bl b
  | .int _, _, .int i => .int i
  | .str _, _, .str x => .str x
  | .list ds, _, .lst h a => .lst (e _ _ h) (dqs_mono e ds a)
  | .tuple ds, _, .tup h q => .tup (e _ _ h) (dqs_mono e ds q)
  | .dict _, _, .dct h q f => .dct (e _ _ h) q f
theorem dqs_mono (e : Same F F') : ∀ (ds : List PyData) {vs : List V}, Paired (Dq F) vs ds → Paired (Dq F') vs ds
  | [], _, .nil => .nil
  | d :: ds, _, .cons h t => .cons (dq_mono e d h) (dqs_mono e ds t)
end
mutual
theorem dq_dp (K : PySem.W.Frag) : ∀ (d : PyData) {v : V}, d.hasDict = false → Dq F v d → Dp K F v d
  | .none, _, _, .non => .non
  | .bool _, _, _, .bl b => .bl b
  | .int _, _, _, .int i => .int i
  | .str _, _, _, .str x => .str x
  | .list ds, _, n, .lst h a => .lst (.inl (.inl h)) (dqs_dp K ds (by simpa only [PyData.hasDict] using n) a)
  | .tuple ds, _, n, .tup h q => .tup (.inl (.inl h)) (dqs_dp K ds (by simpa only [PyData.hasDict] using n) q)
  | .dict _, _, n, _ => by simp only [PyData.hasDict] at n; exact absurd n (by decide)
theorem dqs_dp (K : PySem.W.Frag) : ∀ (ds : List PyData) {vs : List V}, PyData.hasDictAll ds = false → Paired (Dq F) vs ds → DpAll K F vs ds
  | [], _, _, .nil => .nil
  | d :: ds, _, n, .cons h t => by
    simp only [PyData.hasDictAll, Bool.or_eq_false_iff] at n
    exact .cons (dq_dp K d n.1 h) (dqs_dp K ds n.2 t)
end
inductive RW (K : PySem.W.Frag) (F : Hp) (μ : List Addr) : V → Wv → Prop where
  | d {v x} : Dq F v x → RW K F μ v (.d x)
  | c {v x} : Dp K F v x → RW K F μ v (.c x)
  | v {x} : RW K F μ x (.v x)
  | o {k : Nat} {a : Addr} : μ[k]? = some a → RW K F μ (.ref a) (.o k)
structure Ext (μ : List Addr) (F : Hp) (μ' : List Addr) (F' : Hp) : Prop where
  pre : μ <+: μ'
  same : Same F F'
theorem Ext.refl : Ext μ F μ F := ⟨List.prefix_refl _, Same.refl _⟩
theorem Ext.trans (a : Ext μ F μ' F') (b : Ext μ' F' μ2 F2) : Ext μ F μ2 F2 := ⟨a.pre.trans b.pre, a.same.trans b.same⟩
theorem pre_get {α : Type} {l l' : List α} (h : l <+: l') {k : Nat} {a : α} (e : l[k]? = some a) : l'[k]? = some a := by
  obtain ⟨t, rfl⟩ := h
  rw [List.getElem?_append_left (List.getElem?_eq_some_iff.mp e).1]
  exact e
theorem RW.mono (e : Ext μ F μ' F') {v : V} {w : Wv} : RW K F μ v w → RW K F' μ' v w
  | .d h => .d (dq_mono e.same _ h)
  | .c h => .c (dp_mono e.same h)
  | .v => .v
  | .o h => .o (pre_get e.pre h)
abbrev RWs (K : PySem.W.Frag) (F : Hp) (μ : List Addr) : List V → List Wv → Prop := Paired (RW K F μ)
theorem paired_imp {α β : Type} {R R' : α → β → Prop} (h : ∀ a b, R a b → R' a b) {l : List α} {m : List β} (p : Paired R l m) : Paired R' l m := by
  induction p with
  | nil => exact .nil
  | cons r _ ih => exact .cons (h _ _ r) ih
theorem RWs.mono (e : Ext μ F μ' F') {vs : List V} {ws : List Wv} (h : RWs K F μ vs ws) : RWs K F' μ' vs ws := paired_imp (fun _ _ r => r.mono e) h
abbrev RKV {κ : Type} (K : PySem.W.Frag) (F : Hp) (μ : List Addr) : List (κ × V) → List (κ × Wv) → Prop := Paired fun p q => p.1 = q.1 ∧ RW K F μ p.2 q.2
theorem RKV.mono {κ : Type} (e : Ext μ F μ' F') {vs : List (κ × V)} {ws : List (κ × Wv)} (h : RKV K F μ vs ws) : RKV K F' μ' vs ws := paired_imp (fun _ _ r => ⟨r.1, r.2.mono e⟩) h

/-- an owned object as it stands -/
def OR (K : PySem.W.Frag) (F : Hp) (μ : List Addr) (H : Hp) (a : Addr) : OO → Prop
  | .lst ws => ∃ xs, H a = some (.lst xs) ∧ RWs K F μ xs ws
  | .tup ws => ∃ xs, H a = some (.tup xs) ∧ RWs K F μ xs ws
  | .dk kvs => ∃ ys, H a = some (.dK ys) ∧ RKV K F μ ys kvs
  | .dt kvs => ∃ ys, H a = some (.dT ys) ∧ RKV K F μ ys kvs
  | .ins C fs => ∃ dx ys, H a = some (.ins C dx ys) ∧ RKV K F μ ys fs
  | .dkL od ys kvs => H a = some (.frz od (.dK ys)) ∧ RKV K F μ ys kvs
  | .gone => ∃ o, H a = some o
theorem OR.mono (e : Ext μ F μ' F') {a : Addr} {o : OO} (he : H' a = H a) (h : OR K F μ H a o) : OR K F' μ' H' a o := by
  cases o with
  | lst ws => obtain ⟨xs, q, r⟩ := h; exact ⟨xs, he.trans q, r.mono e⟩
  | tup ws => obtain ⟨xs, q, r⟩ := h; exact ⟨xs, he.trans q, r.mono e⟩
  | dk ws => obtain ⟨xs, q, r⟩ := h; exact ⟨xs, he.trans q, r.mono e⟩
  | dt ws => obtain ⟨xs, q, r⟩ := h; exact ⟨xs, he.trans q, r.mono e⟩
  | ins C ws => obtain ⟨dx, xs, q, r⟩ := h; exact ⟨dx, xs, he.trans q, r.mono e⟩
  | dkL od ys ws => obtain ⟨q, r⟩ := h; exact ⟨he.trans q, r.mono e⟩
  | gone => obtain ⟨xs, q⟩ := h; exact ⟨xs, he.trans q⟩
theorem OR.some {a : Addr} {o : OO} (h : OR K F μ H a o) : ∃ u, H a = some u := by
  cases o with
  | lst ws => obtain ⟨xs, q, _⟩ := h; exact ⟨_, q⟩
  | tup ws => obtain ⟨xs, q, _⟩ := h; exact ⟨_, q⟩
  | dk ws => obtain ⟨xs, q, _⟩ := h; exact ⟨_, q⟩
  | dt ws => obtain ⟨xs, q, _⟩ := h; exact ⟨_, q⟩
  | ins C ws => obtain ⟨dx, xs, q, _⟩ := h; exact ⟨_, q⟩
  | dkL od ys ws => exact ⟨_, h.1⟩
  | gone => exact h
/-- the store S stands in the heap H behind the settled part F -/
structure SI (K : PySem.W.Frag) (G : Hp) (μ : List Addr) (S : Sto) (F H : Hp) : Prop where
  fr : Same F H
  gh : ∀ a o, G a = some o → H a = some o ∧ F a = none ∧ a ∉ μ
  len : μ.length = S.length
  nd : μ.Nodup
  cell : ∀ (k : Nat) a o, μ[k]? = some a → S[k]? = some o → OR K F μ H a o ∧ (o ≠ OO.gone → F a = none)
structure ER (K : PySem.W.Frag) (F : Hp) (μ : List Addr) (σ : L2.St) (ρ : Rho) : Prop where
  len : σ.length = ρ.length
  val : ∀ (i : Nat) w, ρ[i]? = some (some w) → ∃ v, σ[i]? = some (some v) ∧ RW K F μ v w
theorem ER.mono (e : Ext μ F μ' F') {σ : L2.St} {ρ : Rho} (h : ER K F μ σ ρ) : ER K F' μ' σ ρ := ⟨h.len, fun i w q => let ⟨v, a, b⟩ := h.val i w q; ⟨v, a, b.mono e⟩⟩
theorem ER.set {σ : L2.St} {ρ : Rho} (h : ER K F μ σ ρ) (i : Nat) {v : V} {w : Wv} (r : RW K F μ v w) : ER K F μ (σ.set i (some v)) (ρ.set i (some w)) := by
  refine ⟨by simpa using h.len, fun j u q => ?_⟩
  by_cases e : i = j
  · subst e
    rw [List.getElem?_set_self'] at q
    have hi : i < ρ.length := by
      cases z : ρ[i]? with
      | none => rw [z] at q; cases q
      | some _ => exact (List.getElem?_eq_some_iff.mp z).1
    have z : ρ[i]? = some ρ[i] := List.getElem?_eq_getElem hi
    rw [z] at q
    cases q
    exact ⟨v, by rw [List.getElem?_set_self (by rw [h.len]; exact hi)], r⟩
  · rw [List.getElem?_set_ne e] at q
    obtain ⟨u', a, b⟩ := h.val j u q
    exact ⟨u', by rw [List.getElem?_set_ne e]; exact a, b⟩

/-! ### what the store knows -/
theorem SI.at' {S : Sto} (I : SI K G μ S F H) {k : Nat} {o : OO} (h : S[k]? = some o) : ∃ a, μ[k]? = some a := by
  have := (List.getElem?_eq_some_iff.mp h).1
  rw [← I.len] at this
  exact ⟨_, List.getElem?_eq_getElem this⟩
theorem SI.ref {S : Sto} (I : SI K G μ S F H) {v : V} {k : Nat} {o : OO} (r : RW K F μ v (.o k)) (h : S[k]? = some o) : ∃ a, v = .ref a ∧ μ[k]? = some a ∧ OR K F μ H a o ∧ (o ≠ OO.gone → F a = none) := by
  cases r with
  | o e => exact ⟨_, rfl, e, I.cell _ _ _ e h⟩
theorem SI.dq {S : Sto} (I : SI K G μ S F H) {v : V} {x : PyData} (r : RW K F μ v (.d x)) : Dq H v x := by
  cases r with
  | d h => exact dq_mono I.fr _ h
theorem SI.dc {S : Sto} (I : SI K G μ S F H) {v : V} {x : PyData} (r : RW K F μ v (.c x)) : Dp K H v x := by
  cases r with
  | c h => exact dp_mono I.fr h
/-- an address of the store is known -/
theorem SI.known {S : Sto} (I : SI K G μ S F H) {a : Addr} (h : a ∈ μ) : ∃ u, H a = some u := by
  obtain ⟨k, hk⟩ := List.mem_iff_getElem?.mp h
  have hl : k < S.length := by rw [← I.len]; exact (List.getElem?_eq_some_iff.mp hk).1
  exact (I.cell k a _ hk (List.getElem?_eq_getElem hl)).1.some
theorem SI.fresh {S : Sto} (I : SI K G μ S F H) {p : Addr} (hp : H p = none) : p ∉ μ ∧ F p = none := by
  refine ⟨fun h => ?_, I.fr.free hp⟩
  obtain ⟨u, q⟩ := I.known h
  rw [hp] at q; cases q
/-- what is new is settled data -/
theorem SI.data {S : Sto} (I : SI K G μ S F H) {p : Addr} {o : HO} (hp : H p = none) : SI K G μ S (upd F p o) (upd H p o) ∧ Ext μ F μ (upd F p o) := by
  obtain ⟨h1, h2⟩ := I.fresh hp
  have sF : Same F (upd F p o) := fun b u q => by rw [upd_ne (ne_of_none q h2)]; exact q
  refine ⟨⟨fun b u q => ?_, fun b u q => ?_, I.len, I.nd, fun k a u hk hS => ?_⟩, ⟨List.prefix_refl _, sF⟩⟩
  · by_cases e : b = p
    · subst e; rw [upd_same] at q ⊢; exact q
    · rw [upd_ne e] at q ⊢; exact I.fr _ _ q
  · obtain ⟨g1, g2, g3⟩ := I.gh b u q
    have e : b ≠ p := ne_of_none g1 hp
    exact ⟨by rw [upd_ne e]; exact g1, by rw [upd_ne e]; exact g2, g3⟩
  · have hne : a ≠ p := fun z => h1 (z ▸ List.mem_of_getElem? hk)
    obtain ⟨c1, c2⟩ := I.cell k a u hk hS
    exact ⟨c1.mono ⟨List.prefix_refl _, sF⟩ (upd_ne hne), fun z => by rw [upd_ne hne]; exact c2 z⟩
/-- what is new is owned -/
theorem SI.own {S : Sto} (I : SI K G μ S F H) {p : Addr} {o : HO} {u : OO} (hp : H p = none) (h : ∀ H2, H2 p = some o → OR K F (μ ++ [p]) H2 p u) : SI K G (μ ++ [p]) (S ++ [u]) F (upd H p o) ∧ Ext μ F (μ ++ [p]) F := by
  obtain ⟨h1, h2⟩ := I.fresh hp
  have ex : Ext μ F (μ ++ [p]) F := ⟨List.prefix_append _ _, Same.refl _⟩
  refine ⟨⟨fun b u q => ?_, fun b u q => ?_, by simp [I.len], ?_, fun k a u' hk hS => ?_⟩, ex⟩
  · rw [upd_ne (fun z => by subst z; rw [h2] at q; cases q)]; exact I.fr _ _ q
  · obtain ⟨g1, g2, g3⟩ := I.gh b u q
    have e : b ≠ p := ne_of_none g1 hp
    refine ⟨by rw [upd_ne e]; exact g1, g2, fun z => ?_⟩
    rcases List.mem_append.mp z with z | z
    · exact g3 z
    · exact e (List.mem_singleton.mp z)
  · refine List.nodup_append.mpr ⟨I.nd, by simp, fun a ha b hb => ?_⟩
    rw [List.mem_singleton] at hb
    subst hb
    exact fun z => h1 (z ▸ ha)
  · by_cases hkl : k < μ.length
    · rw [List.getElem?_append_left hkl] at hk
      rw [List.getElem?_append_left (by rw [← I.len]; exact hkl)] at hS
      obtain ⟨c1, c2⟩ := I.cell k a u' hk hS
      have hne : a ≠ p := fun z => h1 (z ▸ List.mem_of_getElem? hk)
      exact ⟨c1.mono ex (upd_ne hne), c2⟩
    · have hk2 : k = μ.length := by
        have := (List.getElem?_eq_some_iff.mp hk).1
        simp at this
        omega
      subst hk2
      rw [List.getElem?_append_right (Nat.le_refl _)] at hk
      rw [I.len, List.getElem?_append_right (Nat.le_refl _)] at hS
      simp at hk hS
      subst hk; subst hS
      exact ⟨h _ upd_same, fun _ => h2⟩
/-- an owned object is changed -/
theorem SI.put {S : Sto} (I : SI K G μ S F H) {k : Nat} {a : Addr} {o : OO} {ho : HO} {u : OO} (hk : μ[k]? = some a) (hS : S[k]? = some o) (hg : o ≠ OO.gone) (h : ∀ H2, H2 a = some ho → OR K F μ H2 a u) : SI K G μ (S.set k u) F (upd H a ho) := by
  obtain ⟨c1, c2⟩ := I.cell k a o hk hS
  have hF := c2 hg
  refine ⟨fun b q e => ?_, fun b q e => ?_, by simpa using I.len, I.nd, fun j b q hj hq => ?_⟩
  · rw [upd_ne (fun z => by subst z; rw [hF] at e; cases e)]; exact I.fr _ _ e
  · obtain ⟨g1, g2, g3⟩ := I.gh b q e
    exact ⟨by rw [upd_ne (fun z => by subst z; exact g3 (List.mem_of_getElem? hk))]; exact g1, g2, g3⟩
  · by_cases e : k = j
    · subst e
      rw [hk] at hj; cases hj
      rw [List.getElem?_set_self (List.getElem?_eq_some_iff.mp hS).1] at hq
      cases hq
      exact ⟨h _ upd_same, fun _ => hF⟩
    · rw [List.getElem?_set_ne e] at hq
      obtain ⟨d1, d2⟩ := I.cell j b q hj hq
      have hne : b ≠ a := fun z => by
        subst z
        obtain ⟨h1, e1⟩ := List.getElem?_eq_some_iff.mp hk
        obtain ⟨h2, e2⟩ := List.getElem?_eq_some_iff.mp hj
        exact e ((List.getElem_inj I.nd).mp (e1.trans e2.symm))
      exact ⟨d1.mono Ext.refl (upd_ne hne), d2⟩
/-- an owned list is settled: it is data from then on -/
theorem SI.settle {S : Sto} (I : SI K G μ S F H) {k : Nat} {a : Addr} {o : OO} {ho : HO} (hk : μ[k]? = some a) (hS : S[k]? = some o) (hg : o ≠ OO.gone) (hH : H a = some ho) : SI K G μ (S.set k .gone) (upd F a ho) H ∧ Ext μ F μ (upd F a ho) := by
  obtain ⟨c1, c2⟩ := I.cell k a o hk hS
  have hF := c2 hg
  have sF : Same F (upd F a ho) := fun b u q => by rw [upd_ne (ne_of_none q hF)]; exact q
  refine ⟨⟨fun b q e => ?_, fun b q e => ?_, by simpa using I.len, I.nd, fun j b q hj hq => ?_⟩, ⟨List.prefix_refl _, sF⟩⟩
  · by_cases z : b = a
    · subst z; rw [upd_same] at e; cases e; exact hH
    · rw [upd_ne z] at e; exact I.fr _ _ e
  · obtain ⟨g1, g2, g3⟩ := I.gh b q e
    exact ⟨g1, by rw [upd_ne (fun z => by subst z; exact g3 (List.mem_of_getElem? hk))]; exact g2, g3⟩
  · by_cases e : k = j
    · subst e
      rw [hk] at hj; cases hj
      rw [List.getElem?_set_self (List.getElem?_eq_some_iff.mp hS).1] at hq
      cases hq
      exact ⟨⟨_, hH⟩, fun z => absurd rfl z⟩
    · rw [List.getElem?_set_ne e] at hq
      obtain ⟨d1, d2⟩ := I.cell j b q hj hq
      have hne : b ≠ a := fun z => by
        subst z
        obtain ⟨h1, e1⟩ := List.getElem?_eq_some_iff.mp hk
        obtain ⟨h2, e2⟩ := List.getElem?_eq_some_iff.mp hj
        exact e ((List.getElem_inj I.nd).mp (e1.trans e2.symm))
      exact ⟨d1.mono ⟨List.prefix_refl _, sF⟩ rfl, fun z => by rw [upd_ne hne]; exact d2 z⟩
end

section
variable {K : PySem.W.Frag} {G F H : Hp} {μ : List Addr} {S : Sto} {p : Addr} {o : HO}
/-- a new object that the store does not know is kept aside -/
theorem SI.aside (I : SI K G μ S F H) (hp : H p = none) : SI K (upd G p o) μ S F (upd H p o) := by
  obtain ⟨h1, h2⟩ := I.fresh hp
  refine ⟨fun b u q => ?_, fun b u q => ?_, I.len, I.nd, fun k a u hk hS => ?_⟩
  · rw [upd_ne (fun z => by subst z; rw [h2] at q; cases q)]; exact I.fr _ _ q
  · by_cases e : b = p
    · subst e
      rw [upd_same] at q ⊢
      exact ⟨q, h2, h1⟩
    · rw [upd_ne e] at q ⊢
      exact I.gh b u q
  · obtain ⟨c1, c2⟩ := I.cell k a u hk hS
    exact ⟨c1.mono Ext.refl (upd_ne fun z => h1 (z ▸ List.mem_of_getElem? hk)), c2⟩
/-- what is kept aside may be changed -/
theorem SI.turn (I : SI K G μ S F H) {u : HO} (hp : G p = some u) : SI K (upd G p o) μ S F (upd H p o) := by
  obtain ⟨g1, g2, g3⟩ := I.gh p u hp
  refine ⟨fun b u q => ?_, fun b u q => ?_, I.len, I.nd, fun k a u hk hS => ?_⟩
  · rw [upd_ne (fun z => by subst z; rw [g2] at q; cases q)]; exact I.fr _ _ q
  · by_cases e : b = p
    · subst e
      rw [upd_same] at q ⊢
      exact ⟨q, g2, g3⟩
    · rw [upd_ne e] at q ⊢
      exact I.gh b u q
  · obtain ⟨c1, c2⟩ := I.cell k a u hk hS
    exact ⟨c1.mono Ext.refl (upd_ne fun z => g3 (z ▸ List.mem_of_getElem? hk)), c2⟩
/-- what was kept aside is settled -/
theorem SI.back (I : SI K (upd G p o) μ S F H) (hp : G p = none) : SI K G μ S (upd F p o) H ∧ Ext μ F μ (upd F p o) := by
  obtain ⟨g1, g2, g3⟩ := I.gh p o upd_same
  have sF : Same F (upd F p o) := fun b u q => by rw [upd_ne (ne_of_none q g2)]; exact q
  refine ⟨⟨fun b u q => ?_, fun b u q => ?_, I.len, I.nd, fun k a u hk hS => ?_⟩, ⟨List.prefix_refl _, sF⟩⟩
  · by_cases e : b = p
    · subst e; rw [upd_same] at q; cases q; exact g1
    · rw [upd_ne e] at q; exact I.fr _ _ q
  · have e : b ≠ p := ne_of_none q hp
    obtain ⟨a1, a2, a3⟩ := I.gh b u (by rw [upd_ne e]; exact q)
    exact ⟨a1, by rw [upd_ne e]; exact a2, a3⟩
  · obtain ⟨c1, c2⟩ := I.cell k a u hk hS
    have hne : a ≠ p := fun z => g3 (z ▸ List.mem_of_getElem? hk)
    exact ⟨c1.mono ⟨List.prefix_refl _, sF⟩ rfl, fun z => by rw [upd_ne hne]; exact c2 z⟩
/-- what was kept aside is forgotten -/
theorem SI.forget (I : SI K (upd G p o) μ S F H) (hp : G p = none) : SI K G μ S F H :=
  ⟨I.fr, fun b u q => I.gh b u (by rw [upd_ne (ne_of_none q hp)]; exact q), I.len, I.nd, I.cell⟩
theorem SI.noG (I : SI K G μ S F H) (hp : H p = none) : G p = none := by
  cases q : G p with
  | none => rfl
  | some u => rw [(I.gh p u q).1] at hp; cases hp
end

/-! ### readings over data -/
abbrev DTE := Rho → Sto → (Wv → Sto → Prop) → Prop
abbrev DTT := Rho → Sto → (Bool → Sto → Prop) → Prop
abbrev DTA := Rho → Sto → (List Wv → Sto → Prop) → Prop
structure DEnds where
  nx : Rho → Sto → Prop
  rt : Wv → Sto → Prop
  bk : Rho → Sto → Prop := fun _ _ => False
  ct : Rho → Sto → Prop := fun _ _ => False
abbrev DTS := DEnds → Rho → Sto → Prop

/-- the end of an expression -/
def KE (K : PySem.W.Frag) (G : Hp) (μ : List Addr) (F : Hp) (Qd : Wv → Sto → Prop) (Q : VK) : Prop :=
  ∀ μ' F' S' H' v w, Ext μ F μ' F' → SI K G μ' S' F' H' → RW K F' μ' v w → Qd w S' → Q v H'
theorem KE.mono {K : PySem.W.Frag} {G : Hp} {μ μ' : List Addr} {F F' : Hp} {Qd : Wv → Sto → Prop} {Q : VK} (e : Ext μ F μ' F') (h : KE K G μ F Qd Q) : KE K G μ' F' Qd Q := fun μ2 F2 S2 H2 v w x => h μ2 F2 S2 H2 v w (e.trans x)
def SimE (K : PySem.W.Frag) (t : TE) (f : DTE) : Prop := ∀ (G : Hp) (μ : List Addr) (F : Hp) (S : Sto) (H : Hp) (σ : L2.St) (ρ : Rho) (Qd : Wv → Sto → Prop) (Q : VK), SI K G μ S F H → ER K F μ σ ρ → f ρ S Qd → KE K G μ F Qd Q → t σ H Q
def SimT (K : PySem.W.Frag) (t : TT) (f : DTT) : Prop := ∀ (G : Hp) (μ : List Addr) (F : Hp) (S : Sto) (H : Hp) (σ : L2.St) (ρ : Rho) (Qd : Bool → Sto → Prop) (Q : Bool → Hp → Prop), SI K G μ S F H → ER K F μ σ ρ → f ρ S Qd →
  (∀ μ' F' S' H' b, Ext μ F μ' F' → SI K G μ' S' F' H' → Qd b S' → Q b H') → t σ H Q
def SimA (K : PySem.W.Frag) (t : TA) (f : DTA) : Prop := ∀ (G : Hp) (μ : List Addr) (F : Hp) (S : Sto) (H : Hp) (σ : L2.St) (ρ : Rho) (Qd : List Wv → Sto → Prop) (Q : List V → Hp → Prop), SI K G μ S F H → ER K F μ σ ρ → f ρ S Qd →
  (∀ μ' F' S' H' vs ws, Ext μ F μ' F' → SI K G μ' S' F' H' → RWs K F' μ' vs ws → Qd ws S' → Q vs H') → t σ H Q
/-- the ends of a statement -/
structure KS (K : PySem.W.Frag) (G : Hp) (μ : List Addr) (F : Hp) (Dd : DEnds) (D : Ends) : Prop where
  nx : ∀ μ' F' S' H' σ ρ, Ext μ F μ' F' → SI K G μ' S' F' H' → ER K F' μ' σ ρ → Dd.nx ρ S' → D.nx σ H'
  rt : ∀ μ' F' S' H' v w, Ext μ F μ' F' → SI K G μ' S' F' H' → RW K F' μ' v w → Dd.rt w S' → D.rt v H'
  bk : ∀ μ' F' S' H' σ ρ, Ext μ F μ' F' → SI K G μ' S' F' H' → ER K F' μ' σ ρ → Dd.bk ρ S' → D.bk σ H'
  ct : ∀ μ' F' S' H' σ ρ, Ext μ F μ' F' → SI K G μ' S' F' H' → ER K F' μ' σ ρ → Dd.ct ρ S' → D.ct σ H'
theorem KS.mono {K : PySem.W.Frag} {G : Hp} {μ μ' : List Addr} {F F' : Hp} {Dd : DEnds} {D : Ends} (e : Ext μ F μ' F') (h : KS K G μ F Dd D) : KS K G μ' F' Dd D :=
  ⟨fun a b c d f g x => h.nx a b c d f g (e.trans x), fun a b c d f g x => h.rt a b c d f g (e.trans x), fun a b c d f g x => h.bk a b c d f g (e.trans x), fun a b c d f g x => h.ct a b c d f g (e.trans x)⟩
def SimS (K : PySem.W.Frag) (t : TS) (f : DTS) : Prop := ∀ (G : Hp) (μ : List Addr) (F : Hp) (S : Sto) (H : Hp) (σ : L2.St) (ρ : Rho) (Dd : DEnds) (D : Ends), SI K G μ S F H → ER K F μ σ ρ → f Dd ρ S → KS K G μ F Dd D → t D σ H

def DE (X : Cx) (e : Expr) (f : DTE) : Prop := ∃ t, PE X e t ∧ SimE X.K t f
def DT (X : Cx) (e : Expr) (f : DTT) : Prop := ∃ t, PT X e t ∧ SimT X.K t f
def DA (X : Cx) (es : List Expr) (f : DTA) : Prop := ∃ t, PA X es t ∧ SimA X.K t f
def DS (X : Cx) (st : Stmt) (f : DTS) : Prop := ∃ t, PS X st t ∧ SimS X.K t f
def DSs (X : Cx) (st : List Stmt) (f : DTS) : Prop := ∃ t, PSs X st t ∧ SimS X.K t f

/-! ### names, constants -/
def dVar (i : Nat) : DTE := fun ρ S Q => ∃ w, ρ[i]? = some (some w) ∧ Q w S
def dC (x : PyData) : DTE := fun _ S Q => Q (.d x) S
/-- a constant's value: a list or tuple of the written part, or a plain one -/
def cw : PyData → Wv
  | .none => .d .none
  | .bool b => .d (.bool b)
  | .int i => .d (.int i)
  | .str x => .d (.str x)
  | x => .c x
theorem rw_cw {K : PySem.W.Frag} {F : Hp} {μ : List Addr} {v : V} {x : PyData} (h : Dp K F v x) : RW K F μ v (cw x) := by
  cases h with
  | non => exact .d .non
  | bl b => exact .d (.bl b)
  | int i => exact .d (.int i)
  | str z => exact .d (.str z)
  | lst a b => exact .c (.lst a b)
  | tup a b => exact .c (.tup a b)
def dCw (x : PyData) : DTE := fun _ S Q => Q (cw x) S
section
variable {X : Cx}
theorem de_var (i : Nat) {x : Str} {pos : Pos} (hN : X.N[i]? = some x := by rfl) (hv : Vis X.env.scope x := by first | exact Or.inl rfl | exact Or.inr (Or.inl rfl) | exact Or.inr (Or.inr rfl)) (hd : (x == ("__debug__" : Str)) = false := by decide)
    (hcd : (x == ("__classdict__" : Str)) = false := by decide) : DE X (.Name x pos) (dVar i) := by
  refine ⟨_, pe_var hN hv hd hcd, fun G μ F S H σ ρ Qd Q I R ⟨w, e, h⟩ k => ?_⟩
  obtain ⟨v, q, r⟩ := R.val i w e
  exact ⟨v, q, k μ F S H v w Ext.refl I r h⟩
theorem sim_c {K : PySem.W.Frag} {v : V} {x : PyData} (h : ∀ H, Dq H v x) : SimE K (tC v) (dC x) := fun G μ F S H σ ρ Qd Q I R h' k => k μ F S H v (.d x) Ext.refl I (.d (h F)) h'
theorem de_int {i j pos} : DE X (.Constant (.int i) j pos) (dC (.int i)) := ⟨_, pe_int, sim_c fun _ => .int i⟩
theorem de_bl {b j pos} : DE X (.Constant (.bool b) j pos) (dC (.bool b)) := ⟨_, pe_bl, sim_c fun _ => .bl b⟩
theorem de_non {j pos} : DE X (.Constant .none j pos) (dC .none) := ⟨_, pe_non, sim_c fun _ => .non⟩
theorem de_str {x j pos} : DE X (.Constant (.str x) j pos) (dC (.str x)) := ⟨_, pe_str, sim_c fun _ => .str x⟩
/-- a module's constant -/
theorem de_glob {x : Str} {v : V} {d : PyData} {u : Value} {pos : Pos} (hg : Gl X x) (hm : X.mg x = some u) (r : RelV v u) (hd : ∀ H, Dp X.K H v d) (hdb : (x == ("__debug__" : Str)) = false := by decide) : DE X (.Name x pos) (dCw d) :=
  ⟨_, pe_glob hg hm r hdb, fun G μ F S H σ ρ Qd Q I R h' k => k μ F S H v (cw d) Ext.refl I (rw_cw (hd F)) h'⟩
end

section
variable {X : Cx}
/-- a built-in type, a class, as a value -/
def dV (x : V) : DTE := fun _ S Q => Q (.v x) S
theorem de_bltn {x : Str} {v : V} {u : Value} {pos : Pos} (hg : Gl X x) (hm : X.mg x = none) (hv : bootBuiltins x = some u) (r : RelV v u) (hn : x ≠ "__name__" := by decide) (hd : (x == ("__debug__" : Str)) = false := by decide) : DE X (.Name x pos) (dV v) :=
  ⟨_, pe_bltn hg hm hv r hn hd, fun G μ F S H σ ρ Qd Q I R h' k => k μ F S H v (.v v) Ext.refl I .v h'⟩
theorem de_cls {x : Str} {v : V} {u : Value} {pos : Pos} (hg : Gl X x) (hm : X.mg x = some u) (r : RelV v u) (hdb : (x == ("__debug__" : Str)) = false := by decide) : DE X (.Name x pos) (dV v) :=
  ⟨_, pe_glob hg hm r hdb, fun G μ F S H σ ρ Qd Q I R h' k => k μ F S H v (.v v) Ext.refl I .v h'⟩
end

/-! ### operators on values -/
abbrev DR2 := Wv → Wv → Sto → (Wv → Sto → Prop) → Prop
abbrev DR1 := Wv → Sto → (Wv → Sto → Prop) → Prop
def SimR2 (K : PySem.W.Frag) (r : R2) (g : DR2) : Prop := ∀ (G : Hp) (μ : List Addr) (F : Hp) (S : Sto) (H : Hp) (x y : V) (a b : Wv) (Qd : Wv → Sto → Prop) (Q : VK), SI K G μ S F H → RW K F μ x a → RW K F μ y b → g a b S Qd → KE K G μ F Qd Q → r x y H Q
def SimR1 (K : PySem.W.Frag) (r : V → Hp → VK → Prop) (g : DR1) : Prop := ∀ (G : Hp) (μ : List Addr) (F : Hp) (S : Sto) (H : Hp) (x : V) (a : Wv) (Qd : Wv → Sto → Prop) (Q : VK), SI K G μ S F H → RW K F μ x a → g a S Qd → KE K G μ F Qd Q → r x H Q
def dOp (g : DR2) (fa fb : DTE) : DTE := fun ρ S Q => fa ρ S fun x S1 => fb ρ S1 fun y S2 => g x y S2 Q
def dUn (g : DR1) (fa : DTE) : DTE := fun ρ S Q => fa ρ S fun x S1 => g x S1 Q
theorem sim_op {K : PySem.W.Frag} {r : R2} {g : DR2} {ta tb : TE} {fa fb : DTE} (hr : SimR2 K r g) (ha : SimE K ta fa) (hb : SimE K tb fb) : SimE K (tOp r ta tb) (dOp g fa fb) := fun G μ F S H σ ρ Qd Q I R h k =>
  ha G μ F S H σ ρ _ _ I R h fun μ1 F1 S1 H1 x a e1 I1 r1 h1 => hb G μ1 F1 S1 H1 σ ρ _ _ I1 (R.mono e1) h1 fun μ2 F2 S2 H2 y b e2 I2 r2 h2 => hr G μ2 F2 S2 H2 x y a b Qd Q I2 (r1.mono e2) r2 h2 (k.mono (e1.trans e2))
theorem sim_un {K : PySem.W.Frag} {r : V → Hp → VK → Prop} {g : DR1} {ta : TE} {fa : DTE} (hr : SimR1 K r g) (ha : SimE K ta fa) : SimE K (tUn r ta) (dUn g fa) := fun G μ F S H σ ρ Qd Q I R h k =>
  ha G μ F S H σ ρ _ _ I R h fun μ1 F1 S1 H1 x a e1 I1 r1 h1 => hr G μ1 F1 S1 H1 x a Qd Q I1 r1 h1 (k.mono e1)
/-- an operation with its reading over data -/
def DOpR (X : Cx) (f : Value → Value → Sem Value) (g : DR2) : Prop := ∃ r, OpR X f r ∧ SimR2 X.K r g
def DUnR (X : Cx) (f : Value → Sem Value) (g : DR1) : Prop := ∃ r, UnR X f r ∧ SimR1 X.K r g
section
variable {X : Cx} {a b c : Expr} {fa fb fc : DTE} {pos : Pos}
theorem de_op {op : Operator} {g : DR2} (ho : DOpR X (binaryOp op) g) (ha : DE X a fa) (hb : DE X b fb) : DE X (.BinOp a op b pos) (dOp g fa fb) :=
  let ⟨_, o1, o2⟩ := ho; let ⟨_, a1, a2⟩ := ha; let ⟨_, b1, b2⟩ := hb; ⟨_, pe_op o1 a1 b1, sim_op o2 a2 b2⟩
theorem de_un {op : UnaryOp} {g : DR1} (ho : DUnR X (unaryOp op) g) (ha : DE X a fa) : DE X (.UnaryOp op a pos) (dUn g fa) :=
  let ⟨_, o1, o2⟩ := ho; let ⟨_, a1, a2⟩ := ha; ⟨_, pe_un o1 a1, sim_un o2 a2⟩
theorem de_cmp {op : CmpOp} {g : DR2} (ho : DOpR X (compareOp op) g) (ha : DE X a fa) (hb : DE X b fb) (hm : behindInMarks op b = false := by first | rfl | exact nomark _) : DE X (.Compare a [op] [b] pos) (dOp g fa fb) :=
  let ⟨_, o1, o2⟩ := ho; let ⟨_, a1, a2⟩ := ha; let ⟨_, b1, b2⟩ := hb; ⟨_, pe_cmpR o1 a1 b1 hm, sim_op o2 a2 b2⟩
/-- two ways for one operation -/
theorem DOpR.or {f : Value → Value → Sem Value} {g g' : DR2} (h : DOpR X f g) (h' : DOpR X f g') : DOpR X f (fun x y S Q => g x y S Q ∨ g' x y S Q) :=
  let ⟨_, o1, o2⟩ := h; let ⟨_, p1, p2⟩ := h'; ⟨_, OpR.or o1 p1, fun G μ F S H x y a b Qd Q I ra rb z k => z.elim (fun z => .inl (o2 G μ F S H x y a b Qd Q I ra rb z k)) fun z => .inr (p2 G μ F S H x y a b Qd Q I ra rb z k)⟩
theorem DOpR.of {f : Value → Value → Sem Value} {g g' : DR2} (h : DOpR X f g) (i : ∀ x y S Q, g' x y S Q → g x y S Q) : DOpR X f g' :=
  let ⟨_, o1, o2⟩ := h; ⟨_, o1, fun G μ F S H x y a b Qd Q I ra rb z k => o2 G μ F S H x y a b Qd Q I ra rb (i _ _ _ _ z) k⟩
end
end Dm

namespace Dm
open PySem L2 PySem.Spec PyProof.Rows

/-! ### room for calls, and no repr in progress -/
structure RG (k : Nat) (A : Around) : Prop where
  room : Room k A
  gd : A.guards = some []
theorem RG.mono {j k : Nat} {A : Around} (r : RG k A) (h : j ≤ k) : RG j A := ⟨r.room.mono h, r.gd⟩
theorem RG.deeper {k : Nat} {A : Around} (r : RG (k + 1) A) (env : Env) : RG k (A.deeper env) := ⟨r.room.deeper env, r.gd⟩
theorem make_guards {A : Around} {C : Addr} {us : List Value} {kw : List (Str × Value)} : (A.under (.builtin "type.__call__" ⟨.ref C :: us, kw⟩)).guards = A.guards := by
  have e : (Code.builtin "type.__call__" ⟨.ref C :: us, kw⟩).guards = [] := by
    unfold Code.guards
    rw [if_neg]
    show ¬ (guardIds.contains "type.__call__") = true
    decide +kernel
  unfold Around.under
  simp only [e, pushGuards]
theorem RG.make {k : Nat} {A : Around} (r : RG (k + 1) A) (C : Addr) (us : List Value) (kw : List (Str × Value)) : RG k (A.under (.builtin "type.__call__" ⟨.ref C :: us, kw⟩)) :=
  ⟨r.room.make C us kw, make_guards.trans r.gd⟩

theorem RG.u1 {k : Nat} {A : Around} (r : RG k A) : A.units + 1 < cLine := by have := r.room.un; omega
theorem RG.u64 {k : Nat} {A : Around} (r : RG k A) : A.units + 64 < cLine := by have := r.room.un; omega
theorem RG.u65 {k : Nat} {A : Around} (r : RG k A) : A.units + 65 < cLine := by have := r.room.un; omega
/-- a def keeps its promise wherever no repr is in progress -/
structure FnG (P : Program) (w : World) (K : PySem.W.Frag) (mg : Str → Option Value) (base : Heap) (CX : CXT) (k : Nat) (f : Addr) (fd : FuncData) (ps : List Str) (sp : Sp) : Prop where
  len : ∀ vs H Q E, sp vs H Q E → vs.length = ps.length
  run : ∀ (A : Around) (outer : List Env) (s : Shared) (H : Hp) (args : Args) (us : List Value) (vs : List V) (Q : VK) (E : XK), RG k A →
    Env0 P w K mg base A outer s H → BindsTo s fd args (ps.zip us) →
    Vals vs us → sp vs H Q E → codeAny (model P w) A (.call (.ref f) args) (CR CX outer P w H s Q E) s
theorem FnG.mono {P : Program} {w : World} {K : PySem.W.Frag} {mg : Str → Option Value} {base : Heap} {CX : CXT} {j k : Nat} {f : Addr} {fd : FuncData} {ps : List Str} {sp : Sp}
    (F : FnG P w K mg base CX j f fd ps sp) (h : j ≤ k) : FnG P w K mg base CX k f fd ps sp :=
  ⟨F.len, fun A outer s H args us vs Q E hr => F.run A outer s H args us vs Q E (hr.mono h)⟩

section
variable {X : Cx} {CX : CXT} {k : Nat} {f C : Addr} {fd : FuncData} {ps : List Str} {sp : Sp} {E : XK} {x m : Str} {p pos apos : Pos} {e o : Expr} {es : List Expr} {ta : TE} {t : TA} {dvs : List V} {ds : List Value}
variable {pins : List (Addr × Obj)} {σ : L2.St} {H : Hp} {s : Shared} {Q : VK} {us : List Value} {vs : List V}
/-- what comes of a result -/
theorem of_result {H1 : Hp} {s0 : Shared} {σ' : L2.St} {Q1 : VK} {R : Result → Shared → Prop} {M : Model} {A : Around} {c : Code}
    (run : codeAny M A c (CR CX X.stack X.prog X.w H1 s0 Q1 E) s0) (I : Inv X pins σ' H1 s0) (he : ∀ ev s', CX X.stack H1 s0 E ev s' → R (.error ev) s')
    (hv : ∀ u s', EP X pins σ' Q1 u s' → R (.ok (.ret u)) s') : codeAny M A c R s0 := by
  refine codeAny_mono run fun r s' hq => ?_
  match r, hq with
  | .error ev, hq => exact he ev s' hq
  | .ok (.ret u), hq => exact hv u s' (I.after hq)
  | .ok .next, hq => exact hq.elim
  | .ok .brk, hq => exact hq.elim
  | .ok .cont, hq => exact hq.elim
theorem runG (F : FnG X.prog X.w X.K X.mg X.base CX k f fd ps sp) (hr : RG k X.A) (hb : Binds X.K fd ps ds) (hd : Vals dvs ds) (hx : Passes CX X E) (I : Inv X pins σ H s) (r : Vals vs us) (h : sp (vs ++ dvs) H Q E) :
    wpAny (model X.prog X.w) X.A (call (.ref f) us) (EP X pins σ Q) X.xe s := by
  have r2 := r.append hd
  have hl : (us ++ ds).length = ps.length := r2.length.symm.trans (F.len _ _ _ _ h)
  have go := F.run X.A X.stack s H ⟨us, []⟩ _ _ Q E hr I.env0 (hb s us I.kIn hl) r2 h
  exact wpAny_call (of_result (R := fun r s' => match r with | .ok (.ret u) => EP X pins σ Q u s' | .ok _ => False | .error ev => X.xe ev s') go I (fun ev s' q => hx pins σ H s ev s' I q) fun u s' q => q) 
theorem pe_callG (F : FnG X.prog X.w X.K X.mg X.base CX k f fd ps sp) (hr : RG k X.A) (hg : Gl X x) (hm : X.mg x = some (.ref f)) (hk : PySem.W.keepIn X.K (.ref f) = true) (hb : Binds X.K fd ps ds) (hd : Vals dvs ds) (hx : Passes CX X E)
    (ha : PA X (e :: es) t) (hdb : (x == ("__debug__" : Str)) = false := by decide)
    (he : starEach (e :: es) X.env = (false, eval e X.env) :: starEach es X.env := by rfl)
    (hpl : (backTo pos (starEach es X.env)).any (·.1) = false := by rfl) : PE X (.Call (.Name x p) (e :: es) [] pos) (tCall sp dvs E t) :=
  ⟨fun pins s σ H Q I h => wpAny_Call_Name_kw (ld_glob I hg hm (PySem.W.callWith_K (h₀ := X.base) I.ok.mod.kin hk (thn (ha.run pos pins s σ H _ I h) fun us s1 ⟨vs, H1, I1, r, q⟩ => ⟨I1.kIn, runG F hr hb hd hx I1 r q⟩) he hpl) hdb)⟩
theorem pe_callG0 (F : FnG X.prog X.w X.K X.mg X.base CX k f fd ps sp) (hr : RG k X.A) (hg : Gl X x) (hm : X.mg x = some (.ref f)) (hk : PySem.W.keepIn X.K (.ref f) = true) (hb : Binds X.K fd ps ds) (hd : Vals dvs ds) (hx : Passes CX X E)
    (hdb : (x == ("__debug__" : Str)) = false := by decide) : PE X (.Call (.Name x p) [] [] pos) (tCall sp dvs E tNil) :=
  ⟨fun pins s σ H Q I h => wpAny_Call_Name_kw (ld_glob I hg hm (PySem.W.callWith_K0 I.kIn hk (runG (us := []) F hr hb hd hx I .nil h)) hdb)⟩
/-- the tree of o.m(..) -/
abbrev MethTree (X : Cx) (o : Expr) (m : Str) (apos pos : Pos) (es : List Expr) (pl : Sem Bool) : Prop :=
  eval (.Call (.Attribute o m apos) es [] pos) X.env = (do
      let ov ← eval o X.env
      standAt apos.atName
      let (f, first) ← holding [ov] (getMethod ov m pl)
      callWith pos f first (backTo pos (starEach es X.env)) (backToKw pos (keywordEach [] X.env)))
theorem pe_methG {pl : Sem Bool} (he : PE X o ta) (c : Cls X.K C) (hm : Meth X.K C m f) (F : FnG X.prog X.w X.K X.mg X.base CX k f fd ps sp) (hr : RG k X.A) (hb : Binds X.K fd ps ds) (hd : Vals dvs ds) (hx : Passes CX X E) (ha : PA X (e :: es) t)
    (hst : starEach (e :: es) X.env = (false, eval e X.env) :: starEach es X.env := by rfl)
    (hpl : (backTo pos (starEach es X.env)).any (·.1) = false := by rfl) (ht : MethTree X o m apos pos (e :: es) pl := by rfl) : PE X (.Call (.Attribute o m apos) (e :: es) [] pos) (tMeth C m sp dvs E ta t) := by
  constructor
  intro pins s σ H Q I h
  refine PySem.W.methodCall_KW (pl := pl) (thn (he.run pins s σ H _ I h) ?_) ht
  rintro u s1 ⟨x, H1, I1, rx, a, dx, fs, rfl, ea, l, q⟩
  obtain rfl : u = Value.ref a := rx
  refine getmeth_ok I1 ea c hm l (PySem.W.callWith_K (first := [.ref a]) (h₀ := X.base) I.ok.mod.kin hm.kp (thn (ha.run pos pins s1 σ H1 _ I1 q) ?_) hst hpl)
  rintro us s2 ⟨vs, H2, I2, r, q2⟩
  exact ⟨I2.kIn, runG (us := .ref a :: us) (vs := .ref a :: vs) F hr hb hd hx I2 (.cons rfl r) q2⟩
theorem pe_methG0 {pl : Sem Bool} (he : PE X o ta) (c : Cls X.K C) (hm : Meth X.K C m f) (F : FnG X.prog X.w X.K X.mg X.base CX k f fd ps sp) (hr : RG k X.A) (hb : Binds X.K fd ps ds) (hd : Vals dvs ds) (hx : Passes CX X E)
    (ht : MethTree X o m apos pos [] pl := by rfl) : PE X (.Call (.Attribute o m apos) [] [] pos) (tMeth C m sp dvs E ta tNil) := by
  constructor
  intro pins s σ H Q I h
  refine PySem.W.methodCall_KW (pl := pl) (thn (he.run pins s σ H _ I h) ?_) ht
  rintro u s1 ⟨x, H1, I1, rx, a, dx, fs, rfl, ea, l, q⟩
  obtain rfl : u = Value.ref a := rx
  exact getmeth_ok I1 ea c hm l (PySem.W.callWith_K0 (first := [.ref a]) I1.kIn hm.kp (runG (us := [.ref a]) (vs := [.ref a]) F hr hb hd hx I1 (.cons rfl .nil) q))
/-- C(..) -/
theorem makeG (M : Mk X.K C f) (F : FnG X.prog X.w X.K X.mg X.base CX k f fd ps sp) (hr : RG (k + 1) X.A) (hb : Binds X.K fd ps ds) (hd : Vals dvs ds) (hx : Passes CX X E) (I : Inv X pins σ H s) (r : Vals vs us)
    (h : ∀ x dx, H x = none → H dx = none → dx ≠ x → sp (.ref x :: (vs ++ dvs)) (upd (upd H dx (.own x)) x (.ins C dx [])) (fun v H2 => v = .non ∧ Q (.ref x) H2) E) :
    wpAny (model X.prog X.w) X.A (call (.ref C) us) (EP X pins σ Q) X.xe s := by
  have n0 := I.hok.fresh (Nat.le_refl s.heap.objs.size)
  have n1 := I.hok.fresh (Nat.le_succ s.heap.objs.size)
  have hq := h _ _ n1 n0 (Nat.ne_of_lt (Nat.lt_succ_self _))
  have I2 := Inv.made (C := C) I
  have r2 : Vals (V.ref (s.heap.objs.size + 1) :: (vs ++ dvs)) (Value.ref (s.heap.objs.size + 1) :: (us ++ ds)) := .cons rfl (r.append hd)
  have hl := r2.length.symm.trans (F.len _ _ _ _ hq)
  have go := F.run _ X.stack _ _ ⟨Value.ref (s.heap.objs.size + 1) :: us, []⟩ _ _ _ E (hr.make C us []) (I2.env0.make C us []) (hb _ (Value.ref (s.heap.objs.size + 1) :: us) I2.kIn hl) r2 hq
  refine wpAny_call (make_map (f := f) I.kIn M.makes M.init (beq_iff_eq.mp M.fn) (of_result go I2 (fun ev s' q => hx pins σ _ _ ev s' I2 q) ?_))
  rintro u s' ⟨v, H', I3, rv, rfl, q3⟩
  exact ⟨rv, ⟨V.ref (s.heap.objs.size + 1), H', I3, rfl, q3⟩⟩
theorem pe_makeG (M : Mk X.K C f) (F : FnG X.prog X.w X.K X.mg X.base CX k f fd ps sp) (hr : RG (k + 1) X.A) (hg : Gl X x) (hm : X.mg x = some (.ref C)) (hb : Binds X.K fd ps ds) (hd : Vals dvs ds) (hx : Passes CX X E)
    (ha : PA X (e :: es) t) (hdb : (x == ("__debug__" : Str)) = false := by decide)
    (he : starEach (e :: es) X.env = (false, eval e X.env) :: starEach es X.env := by rfl)
    (hpl : (backTo pos (starEach es X.env)).any (·.1) = false := by rfl) : PE X (.Call (.Name x p) (e :: es) [] pos) (tMake C sp dvs E t) :=
  ⟨fun pins s σ H Q I h => wpAny_Call_Name_kw (ld_glob I hg hm (PySem.W.callWith_K (h₀ := X.base) I.ok.mod.kin M.kp (thn (ha.run pos pins s σ H _ I h) fun us s1 ⟨vs, H1, I1, r, q⟩ => ⟨I1.kIn, makeG M F hr hb hd hx I1 r q⟩) he hpl) hdb)⟩
theorem pe_makeG0 (M : Mk X.K C f) (F : FnG X.prog X.w X.K X.mg X.base CX k f fd ps sp) (hr : RG (k + 1) X.A) (hg : Gl X x) (hm : X.mg x = some (.ref C)) (hb : Binds X.K fd ps ds) (hd : Vals dvs ds) (hx : Passes CX X E)
    (hdb : (x == ("__debug__" : Str)) = false := by decide) : PE X (.Call (.Name x p) [] [] pos) (tMake C sp dvs E tNil) :=
  ⟨fun pins s σ H Q I h => wpAny_Call_Name_kw (ld_glob I hg hm (PySem.W.callWith_K0 I.kIn M.kp (makeG (us := []) M F hr hb hd hx I .nil h)) hdb)⟩
end

/-! ### a def of the text -/
section
variable {P : Program} {w : World} {K : PySem.W.Frag} {mg : Str → Option Value} {base : Heap} {CX : CXT}
theorem fnG_of {x qual : Str} {st : Stmt} {f : Addr} {fd : FuncData} {N ps : List Str} {k : Nat} {sp : Sp} (F : Fun K x qual st f fd) (S : FnScope N ps (defScope st)) (len : ∀ vs H Q E, sp vs H Q E → vs.length = ps.length)
    (hbody : ∀ (cdv : Value) (A : Around) (outer : List Env) (s : Shared) (H : Hp) (vs : List V) (Q : VK) (E : XK), RG k (A.deeper (envOfC qual (defScope st) s.heap.objs.size f cdv)) → sp vs H Q E →
      ∃ t, PSs (cxOf CX P w K mg base N qual (defScope st) f cdv A outer s H E) (defBody st) t ∧ t { nx := fun _ H' => Q .non H', rt := Q } (L2.start N vs) H) : FnG P w K mg base CX (k + 1) f fd ps sp := by
  obtain ⟨oc, od, kV, doc, pm, an, cdv, ct, osl, rfl, lk, hcd⟩ := F.ex
  refine ⟨len, fun A outer s H args us vs Q E hr e0 hb r hsp => ?_⟩
  have KX : K.In s.heap := e0.mod.kin.keeps fun b o e => (e0.bs b o e).1
  have lim : s.heap.NoLimit := e0.mod.nolimit.keeps fun b o e => (e0.bs b o e).1
  have hkind : ∀ y ∈ ps.zip us, (defScope st).names.lookup y.1 = some .local ∨ ((defScope st).names.lookup y.1 = some .cell ∧ ((cellsFrom (s.heap.objs.size + 1) (defScope st).names []).lookup y.1).isSome = true) := by
    rintro ⟨n, v⟩ hy
    exact (S.par n (List.of_mem_zip hy).1).imp id fun q => ⟨q, PySem.W.cellsFrom_some _ _ _ (.inl q)⟩
  refine codeAny_call_function hr.room.depth (KX _ _ lk) rfl S.co S.gen rfl (PySem.W.codeRec_of KX hcd) (hb _ _ _ _ (wpAny_newFunctionEnv_cells S.kind hkind ?_))
  rintro env rfl s1 x
  refine ⟨lim.keeps x.toInCall.keep, codeAny_func ?_⟩
  obtain ⟨t, ht, hq⟩ := hbody cdv A outer s H vs Q E (hr.deeper _) hsp
  have I := inv_start (CX := CX) (E := E) S hr.room.hd e0 (len _ _ _ _ hsp) r x
  refine wpAny_mono (ht.run [] s1 (L2.start N vs) H _ I hq) ?_ fun e s' hs => hs
  intro fl s' hs
  match fl, hs with
  | .ret u, ⟨v, σ', H', J, rv, q⟩ => exact ⟨v, H', J.os, J.bare, J.base, J.hok, rv, q⟩
  | .next, ⟨σ', H', J, q⟩ => exact ⟨.non, H', J.os, J.bare, J.base, J.hok, rfl, q⟩
  | .brk, ⟨_, _, _, q⟩ => exact q.elim
  | .cont, ⟨_, _, _, q⟩ => exact q.elim
end

/-! ### the law -/
/-- nothing but the script is known at first -/
def H0 (K : PySem.W.Frag) (a : Addr) (ob : Obj) (xs : List V) : Hp := fun b => if b = a ∧ K.lookup a = none then some (.frz ob (.lst xs)) else none
theorem h0_some {K : PySem.W.Frag} {a b : Addr} {ob : Obj} {xs : List V} {u : HO} (h : H0 K a ob xs b = some u) : b = a ∧ K.lookup a = none ∧ u = .frz ob (.lst xs) := by
  unfold H0 at h
  split at h
  · rename_i c
    cases h
    exact ⟨c.1, c.2, rfl⟩
  · cases h
theorem lawG {P : Program} {w : World} {K : PySem.W.Frag} {mg mb : Str → Option Value} {k : Nat} {fa a : Addr} {fd : FuncData} {x : Str} {sp : Sp} {s₁ : Shared} {vs : List Value} {ns : List Int}
    (KX : K.In s₁.heap) (hns : s₁.heap.Ns mainGlobals mg) (hb : s₁.heap.Ns builtinsNs mb) (hbb : ∀ x : Str, x ≠ "__name__" → mb x = bootBuiltins x) (hlim : s₁.heap.NoLimit) (hg : s₁.gens = #[])
    (ha : s₁.heap.get? a = some { cls := .type "list", data := .seq vs.toArray }) (hi : IntsAre vs ns) (hl : ns.length ≤ sizeLine) (hr : RG k callerA)
    (F : ∀ base : Heap, K.In base → base.Ns mainGlobals mg → FnG P w K mg base CX0 k fa fd [x] sp) (hbind : ∀ (s : Shared) (u : Value), BindsTo s fd ⟨[u], []⟩ [(x, u)])
    (hsp : ∀ H : Hp, SqL K H a (ns.map V.int) → sp [.ref a] H (fun v _ => v = .bl true) fun _ _ _ => False) :
    codeAny (model P w) callerA (.call (.ref fa) ⟨[.ref a], []⟩) (fun r s' => r = .ok (.ret (.bool true)) ∧ OldK s₁.heap s'.heap ∧ s'.os = s₁.os ∧ AllBare s'.gens) s₁ := by
  have rv := vals_ints hi
  have lenV := hi.length
  generalize hob : ({ cls := .type "list", data := .seq vs.toArray } : Obj) = ob at ha
  generalize hHH : H0 K a ob (ns.map V.int) = H
  have known : ∀ {b : Addr} {u : HO}, H b = some u → b = a ∧ K.lookup a = none ∧ u = .frz ob (.lst (ns.map V.int)) := fun {b u} z => by rw [← hHH] at z; exact h0_some z
  have hS : SqL K H a (ns.map V.int) := by
    cases hk : K.lookup a with
    | some o =>
      have e := KX a o hk
      rw [ha] at e
      cases e
      subst hob
      exact .inr ⟨_, vs.toArray, _, hk, rfl, rfl, rfl, by rw [List.size_toArray, lenV]; exact hl, by simpa using rv⟩
    | none => exact .inl (.inr ⟨ob, by rw [← hHH]; exact if_pos ⟨rfl, hk⟩⟩)
  have hok : HOk P w H s₁.heap := fun b u z => by
    obtain ⟨rfl, _, rfl⟩ := known z
    subst hob
    exact ⟨ha, by rw [List.length_map]; exact hl, vs, _, rv, ha⟩
  have free : ∀ {b : Addr}, b ≠ a → H b = none := fun {b} hne => by
    cases q : H b with
    | none => rfl
    | some u => exact absurd (known q).1 hne
  have freeK : ∀ {b : Addr} {o : Obj}, K.lookup b = some o → H b = none := fun {b o} hk => by
    cases q : H b with
    | none => rfl
    | some u =>
      obtain ⟨rfl, n, _⟩ := known q
      rw [hk] at n; cases n
  have nsK : ∀ {b : Addr} {m : Str → Option Value}, s₁.heap.Ns b m → (hidT s₁.heap H).Ns b m := by
    rintro b m ⟨o, es, ep, e, d, r⟩
    refine ⟨o, es, ep, hidT_get e (free fun z => ?_), d, r⟩
    subst z
    rw [ha] at e
    cases e
    subst hob
    cases d
  have hKb : K.In (hidT s₁.heap H) := fun b o e => hidT_get (KX b o e) (freeK e)
  have hM : Mod K mg (hidT s₁.heap H) := ⟨hKb, nsK hns, ⟨mb, nsK hb, hbb⟩, hlim.imp fun _ h => ⟨nsK h.1, h.2⟩⟩
  have e0 : Env0 P w K mg (hidT s₁.heap H) callerA [] s₁ H := ⟨rfl, hM, fun b o e => of_hidT e, Nat.le_of_eq (hidT_size _ _), trivial, (fun b hb => by cases hb), hok, .of_eq hg⟩
  refine codeAny_mono ((F _ hKb (nsK hns)).run callerA [] s₁ H ⟨[.ref a], []⟩ [.ref a] [.ref a] _ _ hr e0 (hbind s₁ (.ref a)) (.cons rfl .nil) (hsp H hS)) ?_
  intro r s' h
  match r, h with
  | .error e, h => exact h.elim
  | .ok .next, h => exact h.elim
  | .ok .brk, h => exact h.elim
  | .ok .cont, h => exact h.elim
  | .ok (.ret u), ⟨v, H', os, bare, un, hok', r', q⟩ =>
    have q' : v = .bl true := q
    subst q'
    obtain rfl : u = Value.bool true := r'
    refine ⟨rfl, OldK.of_keep fun b o e => ?_, os, bare⟩
    cases q : H b with
    | none => exact un.keep b o e q (fun z => by cases z) (by simp)
    | some u =>
      obtain ⟨rfl, _, rfl⟩ := known q
      have z2 := un.frzs _ _ _ q
      rw [ha] at e
      cases e
      exact (hok' _ _ z2).1
theorem walkG {l : PySem.W.OpenLaw} {n k : Nat} {q : Program} {loose : List Str} {XP : (Str → Option Value) → Heap → Prop} {YP : World → Heap → Prop} {d : DefRec} {K : Params → PySem.W.Frag} {sp : PySem.W.Frag → Sp} {x : Str}
    (hn : l.most = some n) (hn2 : n ≤ sizeLine) (hdf : d.params.defaults = []) (hr : RG k callerA) (hY : ∀ (w : World) (h : Heap), YP w h → (K w.params).In h)
    (F : ∀ (w : World) (mg : Str → Option Value) (fa : Addr) (h : Heap), (K w.params).In h → h.Ns mainGlobals mg → mg d.name = some (.ref fa) →
      ∃ fd : FuncData, (∀ (s : Shared) (u : Value), BindsTo s fd ⟨[u], []⟩ [(x, u)]) ∧ ∀ base : Heap, (K w.params).In base → base.Ns mainGlobals mg → FnG l.prog w (K w.params) mg base CX0 k fa fd [x] (sp (K w.params)))
    (hsp : ∀ (K : PySem.W.Frag) (H : Hp) (a : Addr) (ns : List Int), ns.length ≤ n → SqL K H a (ns.map V.int) → sp K [.ref a] H (fun v _ => v = .bl true) fun _ _ _ => False) :
    PySem.W.WalkO q loose XP YP l.row.toRowW d [] (fun f vs => PySem.call f vs) := by
  refine Att.attach_call hn hdf fun w s₀ s₁ mg mb fa o pm cd doc a vs ns G Y ho hd hcd hmg hobj hints hlen hg => ?_
  obtain ⟨fd, hb, hF⟩ := F w mg fa _ (hY w _ Y) G.T.g hmg
  exact lawG (hY w _ Y) G.T.g G.T.b G.T.builtins G.T.nolimit hg hobj hints (Nat.le_trans hlen hn2) hr hF hb fun H hS => hsp _ H a ns hlen hS

/-! ### promises over data -/
abbrev DSp := List Wv → Sto → (Wv → Sto → Prop) → Prop
/-- the promise of a def, over data -/
def lift (K : PySem.W.Frag) (g : DSp) : Sp := fun vs H Q _ => ∃ G μ F S ws Qd, SI K G μ S F H ∧ RWs K F μ vs ws ∧ g ws S Qd ∧ KE K G μ F Qd Q
structure FnD (P : Program) (w : World) (K : PySem.W.Frag) (mg : Str → Option Value) (base : Heap) (k : Nat) (f : Addr) (fd : FuncData) (ps : List Str) (g : DSp) : Prop where
  fn : FnG P w K mg base CX0 k f fd ps (lift K g)
theorem FnD.mono {P : Program} {w : World} {K : PySem.W.Frag} {mg : Str → Option Value} {base : Heap} {j k : Nat} {f : Addr} {fd : FuncData} {ps : List Str} {g : DSp} (F : FnD P w K mg base j f fd ps g) (h : j ≤ k) : FnD P w K mg base k f fd ps g := ⟨F.fn.mono h⟩
/-- a weaker promise -/
theorem FnD.imp {P : Program} {w : World} {K : PySem.W.Frag} {mg : Str → Option Value} {base : Heap} {k : Nat} {f : Addr} {fd : FuncData} {ps : List Str} {g g' : DSp} (F : FnD P w K mg base k f fd ps g) (h : ∀ ws S Q, g' ws S Q → g ws S Q) : FnD P w K mg base k f fd ps g' :=
  ⟨⟨fun vs H Q E ⟨G, μ, F', S, ws, Qd, a, b, c, d⟩ => F.fn.len vs H Q E ⟨G, μ, F', S, ws, Qd, a, b, h _ _ _ c, d⟩, fun A outer s H args us vs Q E hr e0 hb r ⟨G, μ, F', S, ws, Qd, a, b, c, d⟩ => F.fn.run A outer s H args us vs Q E hr e0 hb r ⟨G, μ, F', S, ws, Qd, a, b, h _ _ _ c, d⟩⟩⟩
def dstart (n : Nat) (ws : List Wv) : Rho := ws.map some ++ List.replicate (n - ws.length) none
theorem er_start {K : PySem.W.Frag} {F : Hp} {μ : List Addr} {N : List Str} {vs : List V} {ws : List Wv} (h : RWs K F μ vs ws) : ER K F μ (L2.start N vs) (dstart N.length ws) := by
  have hl := h.length
  refine ⟨by simp [L2.start, dstart, hl], fun i w q => ?_⟩
  unfold dstart at q
  unfold L2.start
  have get : ∀ {vs : List V} {ws : List Wv}, RWs K F μ vs ws → ∀ (i : Nat) w, ws[i]? = some w → ∃ v, vs[i]? = some v ∧ RW K F μ v w := by
    intro vs ws h
    induction h with
    | nil => intro i w q; simp at q
    | cons r _ ih =>
      intro i w q
      cases i with
      | zero => simp at q; subst q; exact ⟨_, rfl, r⟩
      | succ i => simpa using ih i w (by simpa using q)
  by_cases hi : i < ws.length
  · rw [List.getElem?_append_left (by simpa using hi), List.getElem?_map] at q
    cases z : ws[i]? with
    | none => rw [z] at q; cases q
    | some u =>
      rw [z] at q
      cases q
      obtain ⟨v, e, r⟩ := get h i _ z
      exact ⟨v, by rw [List.getElem?_append_left (by simpa [hl] using hi), List.getElem?_map, e]; rfl, r⟩
  · rw [List.getElem?_append_right (by simpa using Nat.le_of_not_lt hi)] at q
    rw [List.getElem?_replicate] at q
    split at q <;> cases q
section
variable {P : Program} {w : World} {K : PySem.W.Frag} {mg : Str → Option Value} {base : Heap}
/-- THE RULE for a def: its body read over data -/
theorem fnD_of {x qual : Str} {st : Stmt} {f : Addr} {fd : FuncData} {N ps : List Str} {k : Nat} {g : DSp} {n : Nat} (F : Fun K x qual st f fd) (S : FnScope N ps (defScope st)) (hn : N.length = n) (len : ∀ ws S Q, g ws S Q → ws.length = ps.length)
    (hbody : ∀ (cdv : Value) (A : Around) (outer : List Env) (s : Shared) (H : Hp) (E : XK), RG k (A.deeper (envOfC qual (defScope st) s.heap.objs.size f cdv)) →
      ∃ b, DSs (cxOf CX0 P w K mg base N qual (defScope st) f cdv A outer s H E).nox (defBody st) b ∧ ∀ ws S Qd, g ws S Qd → b { nx := fun _ S' => Qd (.d .none) S', rt := Qd } (dstart n ws) S) : FnD P w K mg base (k + 1) f fd ps g := by
  refine ⟨fnG_of F S ?_ ?_⟩
  · rintro vs H Q E ⟨G, μ, F', S', ws, Qd, a, b, c, d⟩
    rw [b.length]
    exact len _ _ _ c
  · intro cdv A outer s H vs Q E hr ⟨G, μ, F', S', ws, Qd, a, b, c, d⟩
    obtain ⟨bd, ⟨t, p, q⟩, h⟩ := hbody cdv A outer s H E hr
    subst hn
    refine ⟨t, p.nox, q G μ F' S' H _ _ _ _ a (er_start b) (h ws S' Qd c) ⟨?_, ?_, fun _ _ _ _ _ _ _ _ _ z => z, fun _ _ _ _ _ _ _ _ _ z => z⟩⟩
    · intro μ' F2 S2 H2 σ ρ e I R z
      exact d μ' F2 S2 H2 .non (.d .none) e I (.d .non) z
    · intro μ' F2 S2 H2 v w' e I R z
      exact d μ' F2 S2 H2 v w' e I R z
end
/-- the law's end: over data the script is a list of ints -/
theorem walkD {l : PySem.W.OpenLaw} {k : Nat} {q : Program} {loose : List Str} {XP : (Str → Option Value) → Heap → Prop} {YP : World → Heap → Prop} {d : DefRec} {K : Params → PySem.W.Frag} {g : DSp} {x : Str}
    (hn : l.most = some 63) (hdf : d.params.defaults = []) (hr : RG k callerA) (hY : ∀ (w : World) (h : Heap), YP w h → (K w.params).In h)
    (F : ∀ (w : World) (mg : Str → Option Value) (fa : Addr) (h : Heap), (K w.params).In h → h.Ns mainGlobals mg → mg d.name = some (.ref fa) →
      ∃ fd : FuncData, (∀ (s : Shared) (u : Value), BindsTo s fd ⟨[u], []⟩ [(x, u)]) ∧ ∀ base : Heap, (K w.params).In base → base.Ns mainGlobals mg → FnD l.prog w (K w.params) mg base k fa fd [x] g)
    (hg : ∀ ns : List Int, ns.length ≤ 63 → g [.c (.list (ns.map PyData.int))] [] (fun w _ => w = .d (.bool true))) :
    PySem.W.WalkO q loose XP YP l.row.toRowW d [] (fun f vs => PySem.call f vs) := by
  refine walkG (x := x) (sp := fun K => lift K g) hn (by decide) hdf hr hY (fun w mg fa h a b c => ?_) fun K H a ns hl hS => ?_
  · obtain ⟨fd, h1, h2⟩ := F w mg fa h a b c
    exact ⟨fd, h1, fun base p q => (h2 base p q).fn⟩
  · have all : ∀ ns : List Int, DpAll K H (ns.map V.int) (ns.map PyData.int) := by
      intro ns
      induction ns with
      | nil => exact .nil
      | cons n r ih => exact .cons (.int n) ih
    refine ⟨fun _ => none, [], H, [], [.c (.list (ns.map PyData.int))], fun w _ => w = .d (.bool true), ⟨Same.refl _, (fun _ _ z => nomatch z), rfl, .nil, fun k a o e => by simp at e⟩, .cons (.c (.lst hS (all ns))) .nil, hg ns hl, ?_⟩
    rintro μ' F' S' H' v w e I R rfl
    cases R with
    | d h => cases h; rfl
end Dm

namespace Dm
open PySem L2 PySem.Spec PyProof.Rows

section
variable {K : PySem.W.Frag} {G F F' H : Hp} {μ : List Addr} {S : Sto}
/-! ### views of a value as data, as a sequence -/
mutual
inductive Dat (S : Sto) : Wv → PyData → Prop where
  | d (x : PyData) : Dat S (.d x) x
  | c (x : PyData) : Dat S (.c x) x
  | lst {k : Nat} {ws : List Wv} {ds : List PyData} : S[k]? = some (.lst ws) → Dats S ws ds → Dat S (.o k) (.list ds)
  | tup {k : Nat} {ws : List Wv} {ds : List PyData} : S[k]? = some (.tup ws) → Dats S ws ds → Dat S (.o k) (.tuple ds)
inductive Dats (S : Sto) : List Wv → List PyData → Prop where
  | nil : Dats S [] []
  | cons {w : Wv} {ws : List Wv} {d : PyData} {ds : List PyData} : Dat S w d → Dats S ws ds → Dats S (w :: ws) (d :: ds)
end
theorem dats_map (ds : List PyData) : Dats S (ds.map .d) ds := by
  induction ds with
  | nil => exact .nil
  | cons d r ih => exact .cons (.d d) ih
mutual
theorem dat_dp (I : SI K G μ S F H) : ∀ (d : PyData) {v : V} {w : Wv}, d.hasDict = false → RW K F μ v w → Dat S w d → Dp K H v d
  | .none, v, w, n, r, h => by
    cases h with
    | d => exact dq_dp K _ n (I.dq r)
    | c => exact I.dc r
  | .bool b, v, w, n, r, h => by
    cases h with
    | d => exact dq_dp K _ n (I.dq r)
    | c => exact I.dc r
  | .int i, v, w, n, r, h => by
    cases h with
    | d => exact dq_dp K _ n (I.dq r)
    | c => exact I.dc r
  | .str x, v, w, n, r, h => by
    cases h with
    | d => exact dq_dp K _ n (I.dq r)
    | c => exact I.dc r
  | .dict kvs, v, w, n, r, h => by
    simp only [PyData.hasDict] at n
    exact absurd n (by decide)
  | .list ds, v, w, n, r, h => by
    cases h with
    | d => exact dq_dp K _ n (I.dq r)
    | c => exact I.dc r
    | lst h1 h2 =>
      obtain ⟨a, rfl, _, ⟨xs, e, rs⟩, _⟩ := I.ref r h1
      exact .lst (.inl (.inl e)) (dats_dp I ds (by simpa only [PyData.hasDict] using n) rs h2)
  | .tuple ds, v, w, n, r, h => by
    cases h with
    | d => exact dq_dp K _ n (I.dq r)
    | c => exact I.dc r
    | tup h1 h2 =>
      obtain ⟨a, rfl, _, ⟨xs, e, rs⟩, _⟩ := I.ref r h1
      exact .tup (.inl (.inl e)) (dats_dp I ds (by simpa only [PyData.hasDict] using n) rs h2)
theorem dats_dp (I : SI K G μ S F H) : ∀ (ds : List PyData) {vs : List V} {ws : List Wv}, PyData.hasDictAll ds = false → RWs K F μ vs ws → Dats S ws ds → DpAll K H vs ds
  | [], _, _, n, r, h => by
    cases h
    cases r
    exact .nil
  | d :: ds, _, _, n, r, h => by
    simp only [PyData.hasDictAll, Bool.or_eq_false_iff] at n
    cases h with
    | cons h1 h2 =>
      cases r with
      | cons r1 r2 => exact .cons (dat_dp I d n.1 r1 h1) (dats_dp I ds n.2 r2 h2)
end
theorem nodict_shaped {d : PyData} (h : SeqAt.shaped d = true) : d.hasDict = false := PyData.hasDict_of_canLay d (SeqAt.canLay_of_shaped h)
theorem nodict_all : ∀ {ds : List PyData}, ds.all PyData.canLay0 = true → PyData.hasDictAll ds = false
  | [], _ => rfl
  | d :: ds, h => by
    rw [List.all_cons, Bool.and_eq_true] at h
    simp only [PyData.hasDictAll, PyData.hasDict_of_canLay d h.1, nodict_all h.2, Bool.or_self]
/-- a list or a tuple (true), item by item -/
inductive Seq (S : Sto) : Wv → Bool → List Wv → Prop where
  | dl (ds : List PyData) : Seq S (.d (.list ds)) false (ds.map .d)
  | dt (ds : List PyData) : Seq S (.d (.tuple ds)) true (ds.map .d)
  | cl (ds : List PyData) : Seq S (.c (.list ds)) false (ds.map cw)
  | ct (ds : List PyData) : Seq S (.c (.tuple ds)) true (ds.map cw)
  | ol {k : Nat} {ws : List Wv} : S[k]? = some (.lst ws) → Seq S (.o k) false ws
  | ot {k : Nat} {ws : List Wv} : S[k]? = some (.tup ws) → Seq S (.o k) true ws
def SqB (K : PySem.W.Frag) (H : Hp) (a : Addr) (b : Bool) (xs : List V) : Prop := if b = true then SqT K H a xs else SqL K H a xs
theorem rws_d : ∀ {vs : List V} {ds : List PyData}, Paired (Dq F) vs ds → RWs K F μ vs (ds.map .d)
  | _, _, .nil => .nil
  | _, _, .cons h t => .cons (.d h) (rws_d t)
theorem d_rws : ∀ {vs : List V} {ds : List PyData}, RWs K F μ vs (ds.map .d) → Paired (Dq F) vs ds
  | _, [], .nil => .nil
  | _, _ :: _, .cons (.d h) t => .cons h (d_rws t)
theorem rws_c : ∀ {vs : List V} {ds : List PyData}, DpAll K F vs ds → RWs K F μ vs (ds.map cw)
  | _, _, .nil => .nil
  | _, _, .cons h t => .cons (rw_cw h) (rws_c t)
theorem same_b {a : Addr} {b : Bool} {xs : List V} (e : Same F H) (h : SqB K F a b xs) : SqB K H a b xs := by
  unfold SqB at h ⊢
  cases b with
  | true => exact same_t e h
  | false => exact e.seq h
theorem seq_at (I : SI K G μ S F H) {v : V} {w : Wv} {b : Bool} {ws : List Wv} (r : RW K F μ v w) (h : Seq S w b ws) : ∃ a xs, v = .ref a ∧ SqB K H a b xs ∧ RWs K F μ xs ws := by
  cases h with
  | dl ds =>
    cases r with
    | d h => cases h with | lst e p => exact ⟨_, _, rfl, .inl (.inl (I.fr _ _ e)), rws_d p⟩
  | dt ds =>
    cases r with
    | d h => cases h with | tup e p => exact ⟨_, _, rfl, .inl (.inl (I.fr _ _ e)), rws_d p⟩
  | cl ds =>
    cases r with
    | c h => cases h with | lst e p => exact ⟨_, _, rfl, I.fr.seq e, rws_c p⟩
  | ct ds =>
    cases r with
    | c h => cases h with | tup e p => exact ⟨_, _, rfl, same_t I.fr e, rws_c p⟩
  | ol hk =>
    obtain ⟨a, rfl, _, ⟨xs, e, rs⟩, _⟩ := I.ref r hk
    exact ⟨_, _, rfl, .inl (.inl e), rs⟩
  | ot hk =>
    obtain ⟨a, rfl, _, ⟨xs, e, rs⟩, _⟩ := I.ref r hk
    exact ⟨_, _, rfl, .inl (.inl e), rs⟩

/-! ### the ends of operations -/
theorem KE.val {Qd : Wv → Sto → Prop} {Q : VK} (k : KE K G μ F Qd Q) (I : SI K G μ S F H) {v : V} {w : Wv} (r : RW K F μ v w) (q : Qd w S) : Q v H := k μ F S H v w Ext.refl I r q
theorem KE.int {Qd : Wv → Sto → Prop} {Q : VK} (k : KE K G μ F Qd Q) (I : SI K G μ S F H) {i : Int} (q : Qd (.d (.int i)) S) : Q (.int i) H := k.val I (.d (.int i)) q
theorem KE.bl {Qd : Wv → Sto → Prop} {Q : VK} (k : KE K G μ F Qd Q) (I : SI K G μ S F H) {i : Bool} (q : Qd (.d (.bool i)) S) : Q (.bl i) H := k.val I (.d (.bl i)) q
theorem KE.str {Qd : Wv → Sto → Prop} {Q : VK} (k : KE K G μ F Qd Q) (I : SI K G μ S F H) {i : Str} (q : Qd (.d (.str i)) S) : Q (.str i) H := k.val I (.d (.str i)) q
theorem KE.non {Qd : Wv → Sto → Prop} {Q : VK} (k : KE K G μ F Qd Q) (I : SI K G μ S F H) (q : Qd (.d .none) S) : Q .non H := k.val I (.d .non) q
/-- a new list, a new tuple, of data -/
theorem KE.lst {Qd : Wv → Sto → Prop} {Q : VK} (k : KE K G μ F Qd Q) (I : SI K G μ S F H) {p : Addr} {xs : List V} {ds : List PyData} (hp : H p = none) (h : Paired (Dq F) xs ds) (q : Qd (.d (.list ds)) S) : Q (.ref p) (upd H p (.lst xs)) := by
  obtain ⟨I2, e⟩ := I.data (o := .lst xs) hp
  exact k μ _ S _ _ _ e I2 (.d (.lst upd_same (dqs_mono e.same ds h))) q
theorem KE.tup {Qd : Wv → Sto → Prop} {Q : VK} (k : KE K G μ F Qd Q) (I : SI K G μ S F H) {p : Addr} {xs : List V} {ds : List PyData} (hp : H p = none) (h : Paired (Dq F) xs ds) (q : Qd (.d (.tuple ds)) S) : Q (.ref p) (upd H p (.tup xs)) := by
  obtain ⟨I2, e⟩ := I.data (o := .tup xs) hp
  exact k μ _ S _ _ _ e I2 (.d (.tup upd_same (dqs_mono e.same ds h))) q
/-- a new list that is owned -/
theorem KE.olst {Qd : Wv → Sto → Prop} {Q : VK} (k : KE K G μ F Qd Q) (I : SI K G μ S F H) {p : Addr} {xs : List V} {ws : List Wv} (hp : H p = none) (h : RWs K F μ xs ws) (q : Qd (.o S.length) (S ++ [.lst ws])) : Q (.ref p) (upd H p (.lst xs)) := by
  have ex : Ext μ F (μ ++ [p]) F := ⟨List.prefix_append _ _, Same.refl _⟩
  obtain ⟨I2, e⟩ := I.own (o := .lst xs) (u := .lst ws) hp fun H2 z => ⟨xs, z, h.mono ex⟩
  refine k _ _ _ _ _ _ e I2 (.o ?_) q
  rw [← I.len]
  simp
theorem KE.otup {Qd : Wv → Sto → Prop} {Q : VK} (k : KE K G μ F Qd Q) (I : SI K G μ S F H) {p : Addr} {xs : List V} {ws : List Wv} (hp : H p = none) (h : RWs K F μ xs ws) (q : Qd (.o S.length) (S ++ [.tup ws])) : Q (.ref p) (upd H p (.tup xs)) := by
  have ex : Ext μ F (μ ++ [p]) F := ⟨List.prefix_append _ _, Same.refl _⟩
  obtain ⟨I2, e⟩ := I.own (o := .tup xs) (u := .tup ws) hp fun H2 z => ⟨xs, z, h.mono ex⟩
  refine k _ _ _ _ _ _ e I2 (.o ?_) q
  rw [← I.len]
  simp
theorem KE.odk {Qd : Wv → Sto → Prop} {Q : VK} (k : KE K G μ F Qd Q) (I : SI K G μ S F H) {p : Addr} {xs : List (Key × V)} {ws : List (Key × Wv)} (hp : H p = none) (h : RKV K F μ xs ws) (q : Qd (.o S.length) (S ++ [.dk ws])) : Q (.ref p) (upd H p (.dK xs)) := by
  have ex : Ext μ F (μ ++ [p]) F := ⟨List.prefix_append _ _, Same.refl _⟩
  obtain ⟨I2, e⟩ := I.own (o := .dK xs) (u := .dk ws) hp fun H2 z => ⟨xs, z, h.mono ex⟩
  refine k _ _ _ _ _ _ e I2 (.o ?_) q
  rw [← I.len]
  simp
theorem KE.odt {Qd : Wv → Sto → Prop} {Q : VK} (k : KE K G μ F Qd Q) (I : SI K G μ S F H) {p : Addr} {xs : List (List Key × V)} {ws : List (List Key × Wv)} (hp : H p = none) (h : RKV K F μ xs ws) (q : Qd (.o S.length) (S ++ [.dt ws])) : Q (.ref p) (upd H p (.dT xs)) := by
  have ex : Ext μ F (μ ++ [p]) F := ⟨List.prefix_append _ _, Same.refl _⟩
  obtain ⟨I2, e⟩ := I.own (o := .dT xs) (u := .dt ws) hp fun H2 z => ⟨xs, z, h.mono ex⟩
  refine k _ _ _ _ _ _ e I2 (.o ?_) q
  rw [← I.len]
  simp
theorem of_int {v : V} {i : Int} (r : RW K F μ v (.d (.int i))) : v = .int i := by
  cases r with | d h => cases h; rfl
theorem of_str {v : V} {i : Str} (r : RW K F μ v (.d (.str i))) : v = .str i := by
  cases r with | d h => cases h; rfl
theorem of_bl {v : V} {i : Bool} (r : RW K F μ v (.d (.bool i))) : v = .bl i := by
  cases r with | d h => cases h; rfl
theorem of_non {v : V} (r : RW K F μ v (.d .none)) : v = .non := by
  cases r with | d h => cases h; rfl
theorem of_lst {v : V} {ds : List PyData} (r : RW K F μ v (.d (.list ds))) : ∃ a xs, v = .ref a ∧ F a = some (.lst xs) ∧ Paired (Dq F) xs ds := by
  cases r with | d h => cases h with | lst e p => exact ⟨_, _, rfl, e, p⟩
theorem of_tup {v : V} {ds : List PyData} (r : RW K F μ v (.d (.tuple ds))) : ∃ a xs, v = .ref a ∧ F a = some (.tup xs) ∧ Paired (Dq F) xs ds := by
  cases r with | d h => cases h with | tup e p => exact ⟨_, _, rfl, e, p⟩
theorem paired_append {α β : Type} {R : α → β → Prop} {a b : List α} {c d : List β} (h : Paired R a c) (h' : Paired R b d) : Paired R (a ++ b) (c ++ d) := by
  induction h with
  | nil => exact h'
  | cons r _ ih => exact .cons r ih
theorem paired_get {α β : Type} {R : α → β → Prop} {l : List α} {m : List β} (h : Paired R l m) : ∀ {i : Nat} {b : β}, m[i]? = some b → ∃ a, l[i]? = some a ∧ R a b := by
  induction h with
  | nil => intro i b e; simp at e
  | cons r _ ih =>
    intro i b e
    cases i with
    | zero => simp at e; subst e; exact ⟨_, rfl, r⟩
    | succ i => simpa using ih (by simpa using e)
theorem paired_get' {α β : Type} {R : α → β → Prop} {l : List α} {m : List β} (h : Paired R l m) : ∀ {i : Nat} {a : α}, l[i]? = some a → ∃ b, m[i]? = some b ∧ R a b := by
  induction h with
  | nil => intro i b e; simp at e
  | cons r _ ih =>
    intro i b e
    cases i with
    | zero => simp at e; subst e; exact ⟨_, rfl, r⟩
    | succ i => simpa using ih (by simpa using e)
theorem paired_take {α β : Type} {R : α → β → Prop} {l : List α} {m : List β} (h : Paired R l m) : ∀ n, Paired R (l.take n) (m.take n) := by
  induction h with
  | nil => intro n; simp; exact .nil
  | cons r _ ih =>
    intro n
    cases n with
    | zero => exact .nil
    | succ n => exact .cons r (ih n)
theorem paired_drop {α β : Type} {R : α → β → Prop} {l : List α} {m : List β} (h : Paired R l m) : ∀ n, Paired R (l.drop n) (m.drop n) := by
  induction h with
  | nil => intro n; simp; exact .nil
  | cons r t ih =>
    intro n
    cases n with
    | zero => exact .cons r t
    | succ n => exact ih n
theorem paired_set {α β : Type} {R : α → β → Prop} {l : List α} {m : List β} (h : Paired R l m) {a : α} {b : β} (r : R a b) : ∀ n, Paired R (l.set n a) (m.set n b) := by
  induction h with
  | nil => intro n; exact .nil
  | cons r' t ih =>
    intro n
    cases n with
    | zero => exact .cons r t
    | succ n => exact .cons r' (ih n)
theorem paired_rev {α β : Type} {R : α → β → Prop} {l : List α} {m : List β} (h : Paired R l m) : Paired R l.reverse m.reverse := by
  induction h with
  | nil => exact .nil
  | cons r _ ih =>
    rw [List.reverse_cons, List.reverse_cons]
    exact paired_append ih (.cons r .nil)
theorem paired_rep {α β : Type} {R : α → β → Prop} {l : List α} {m : List β} (h : Paired R l m) : ∀ n, Paired R (List.replicate n l).flatten (List.replicate n m).flatten := by
  intro n
  induction n with
  | zero => exact .nil
  | succ n ih =>
    rw [List.replicate_succ, List.replicate_succ, List.flatten_cons, List.flatten_cons]
    exact paired_append h ih
end

/-! ### arithmetic -/
def gAdd : DR2 := fun x y S Q => match x, y with
  | .d (.int i), .d (.int j) => Q (.d (.int (i + j))) S
  | .d (.str a), .d (.str b) => a.length + b.length ≤ sizeLine ∧ Q (.d (.str (a ++ b))) S
  | .d (.list a), .d (.list b) => a.length + b.length ≤ sizeLine ∧ Q (.d (.list (a ++ b))) S
  | .d (.tuple a), .d (.tuple b) => (a ≠ [] ∧ b ≠ []) ∧ a.length + b.length ≤ sizeLine ∧ Q (.d (.tuple (a ++ b))) S
  | _, _ => False
def gSub : DR2 := fun x y S Q => match x, y with
  | .d (.int i), .d (.int j) => Q (.d (.int (i - j))) S
  | _, _ => False
def gMul : DR2 := fun x y S Q => match x, y with
  | .d (.int i), .d (.int j) => CMul i j ∧ Q (.d (.int (i * j))) S
  | .d (.list a), .d (.int k) => (-(2 ^ 63) ≤ k ∧ k < 2 ^ 63) ∧ a.length * k.toNat ≤ sizeLine ∧ Q (.d (.list (List.replicate k.toNat a).flatten)) S
  | _, _ => False
def gDiv : DR2 := fun x y S Q => match x, y with
  | .d (.int i), .d (.int j) => CDiv i j ∧ Q (.d (.int (i / j))) S
  | _, _ => False
def gMod : DR2 := fun x y S Q => match x, y with
  | .d (.int i), .d (.int j) => 0 < j ∧ Q (.d (.int (i % j))) S
  | _, _ => False
def gPow : DR2 := fun x y S Q => match x, y with
  | .d (.int i), .d (.int j) => CPow i j ∧ Q (.d (.int (i ^ j.toNat))) S
  | _, _ => False
section
variable {X : Cx}
theorem dop_add : DOpR X (binaryOp .Add) gAdd := by
  refine ⟨_, (op_add.or (op_add_str.or (op_cat.or op_catT))), ?_⟩
  intro G μ F S H x y a b Qd Q I ra rb h k
  unfold gAdd at h
  split at h
  · obtain rfl := of_int ra
    obtain rfl := of_int rb
    exact .inl ⟨_, _, rfl, rfl, k.int I h⟩
  · obtain rfl := of_str ra
    obtain rfl := of_str rb
    exact .inr (.inl ⟨_, _, rfl, rfl, h.1, k.str I h.2⟩)
  · obtain ⟨p, xs, rfl, ea, pa⟩ := of_lst ra
    obtain ⟨q, ys, rfl, eb, pb⟩ := of_lst rb
    refine .inr (.inr (.inl ⟨_, _, _, _, rfl, rfl, I.fr _ _ ea, I.fr _ _ eb, by rw [pa.length, pb.length]; exact h.1, fun z hz => k.lst I hz (paired_append pa pb) h.2⟩))
  · obtain ⟨p, xs, rfl, ea, pa⟩ := of_tup ra
    obtain ⟨q, ys, rfl, eb, pb⟩ := of_tup rb
    have n1 : xs ≠ [] := fun z => by subst z; cases pa; exact h.1.1 rfl
    have n2 : ys ≠ [] := fun z => by subst z; cases pb; exact h.1.2 rfl
    exact .inr (.inr (.inr ⟨_, _, _, _, rfl, rfl, .inl (.inl (I.fr _ _ ea)), .inl (.inl (I.fr _ _ eb)), n1, by rw [pa.length, pb.length]; exact h.2.1, fun z => absurd z n2, fun _ z hz => k.tup I hz (paired_append pa pb) h.2.2⟩))
  · exact h.elim
theorem dop_sub : DOpR X (binaryOp .Sub) gSub := by
  refine ⟨_, op_sub, ?_⟩
  intro G μ F S H x y a b Qd Q I ra rb h k
  unfold gSub at h
  split at h
  · obtain rfl := of_int ra
    obtain rfl := of_int rb
    exact ⟨_, _, rfl, rfl, k.int I h⟩
  · exact h.elim
theorem dop_mul : DOpR X (binaryOp .Mult) gMul := by
  refine ⟨_, op_mul.or op_rep, ?_⟩
  intro G μ F S H x y a b Qd Q I ra rb h k
  unfold gMul at h
  split at h
  · obtain rfl := of_int ra
    obtain rfl := of_int rb
    exact .inl ⟨_, _, rfl, rfl, h.1, k.int I h.2⟩
  · obtain ⟨p, xs, rfl, ea, pa⟩ := of_lst ra
    obtain rfl := of_int rb
    exact .inr ⟨_, _, _, rfl, rfl, I.fr _ _ ea, h.1.1, h.1.2, by rw [pa.length]; exact h.2.1, fun z hz => k.lst I hz (paired_rep pa _) h.2.2⟩
  · exact h.elim
theorem dop_div : DOpR X (binaryOp .FloorDiv) gDiv := by
  refine ⟨_, op_fdiv, ?_⟩
  intro G μ F S H x y a b Qd Q I ra rb h k
  unfold gDiv at h
  split at h
  · obtain rfl := of_int ra
    obtain rfl := of_int rb
    exact ⟨_, _, rfl, rfl, h.1, k.int I h.2⟩
  · exact h.elim
theorem dop_mod : DOpR X (binaryOp .Mod) gMod := by
  refine ⟨_, op_mod, ?_⟩
  intro G μ F S H x y a b Qd Q I ra rb h k
  unfold gMod at h
  split at h
  · obtain rfl := of_int ra
    obtain rfl := of_int rb
    exact ⟨_, _, rfl, rfl, h.1, k.int I h.2⟩
  · exact h.elim
theorem dop_pow : DOpR X (binaryOp .Pow) gPow := by
  refine ⟨_, op_pow, ?_⟩
  intro G μ F S H x y a b Qd Q I ra rb h k
  unfold gPow at h
  split at h
  · obtain rfl := of_int ra
    obtain rfl := of_int rb
    exact ⟨_, _, rfl, rfl, h.1, k.int I h.2⟩
  · exact h.elim
def gNeg : DR1 := fun x S Q => match x with
  | .d (.int i) => Q (.d (.int (-i))) S
  | _ => False
theorem dun_neg : DUnR X (unaryOp .USub) gNeg := by
  refine ⟨_, un_neg, ?_⟩
  intro G μ F S H x a Qd Q I ra h k
  unfold gNeg at h
  split at h
  · obtain rfl := of_int ra
    exact ⟨_, rfl, k.int I h⟩
  · exact h.elim

/-! ### comparisons -/
def gEqD (neg : Bool) : DR2 := fun x y S Q => ∃ d e, Dat S x d ∧ Dat S y e ∧ SeqAt.shaped d = true ∧ SeqAt.shaped e = true ∧ Q (.d (.bool (if neg then !PyData.eqv d e else PyData.eqv d e))) S
def gEq : DR2 := fun x y S Q => match x, y with
  | .d (.int i), .d (.int j) => Q (.d (.bool (decide (i = j)))) S
  | .d (.str i), .d (.str j) => Q (.d (.bool (decide (i = j)))) S
  | .d (.bool i), .d (.bool j) => Q (.d (.bool (decide (i = j)))) S
  | x, y => gEqD false x y S Q
def gNe : DR2 := fun x y S Q => match x, y with
  | .d (.int i), .d (.int j) => Q (.d (.bool (!decide (i = j)))) S
  | .d (.str i), .d (.str j) => Q (.d (.bool (!decide (i = j)))) S
  | .d (.bool i), .d (.bool j) => Q (.d (.bool (!decide (i = j)))) S
  | x, y => gEqD true x y S Q
theorem dec_i (i j : Int) : decide (V.int i = V.int j) = decide (i = j) := by simp
theorem dec_s (i j : Str) : decide (V.str i = V.str j) = decide (i = j) := by simp
theorem dec_b (i j : Bool) : decide (V.bl i = V.bl j) = decide (i = j) := by simp
theorem dop_eq (hu : X.A.units + 64 < cLine) : DOpR X (compareOp .Eq) gEq := by
  refine ⟨_, op_eq.or (op_eqD hu), ?_⟩
  intro G μ F S H x y a b Qd Q I ra rb h k
  unfold gEq at h
  split at h
  · obtain rfl := of_int ra
    obtain rfl := of_int rb
    exact .inl ⟨rfl, by rw [dec_i]; exact k.bl I h⟩
  · obtain rfl := of_str ra
    obtain rfl := of_str rb
    exact .inl ⟨rfl, by rw [dec_s]; exact k.bl I h⟩
  · obtain rfl := of_bl ra
    obtain rfl := of_bl rb
    exact .inl ⟨rfl, by rw [dec_b]; exact k.bl I h⟩
  · obtain ⟨d, e, hd, he, sd, se, q⟩ := h
    exact .inr ⟨d, e, dat_dp I d (nodict_shaped sd) ra hd, dat_dp I e (nodict_shaped se) rb he, sd, se, k.bl I q⟩
theorem dop_ne (hu : X.A.units + 64 < cLine) : DOpR X (compareOp .NotEq) gNe := by
  refine ⟨_, op_ne.or (op_neD hu), ?_⟩
  intro G μ F S H x y a b Qd Q I ra rb h k
  unfold gNe at h
  split at h
  · obtain rfl := of_int ra
    obtain rfl := of_int rb
    exact .inl ⟨rfl, by rw [dec_i]; exact k.bl I h⟩
  · obtain rfl := of_str ra
    obtain rfl := of_str rb
    exact .inl ⟨rfl, by rw [dec_s]; exact k.bl I h⟩
  · obtain rfl := of_bl ra
    obtain rfl := of_bl rb
    exact .inl ⟨rfl, by rw [dec_b]; exact k.bl I h⟩
  · obtain ⟨d, e, hd, he, sd, se, q⟩ := h
    exact .inr ⟨d, e, dat_dp I d (nodict_shaped sd) ra hd, dat_dp I e (nodict_shaped se) rb he, sd, se, k.bl I q⟩
def gCmp (p : Int → Int → Bool) (q : Str → Str → Bool) : DR2 := fun x y S Q => match x, y with
  | .d (.int i), .d (.int j) => Q (.d (.bool (p i j))) S
  | .d (.str i), .d (.str j) => Q (.d (.bool (q i j))) S
  | _, _ => False
abbrev gLt : DR2 := gCmp (fun i j => decide (i < j)) fun i j => decide (i.cps.toList < j.cps.toList)
abbrev gLe : DR2 := gCmp (fun i j => decide (i ≤ j)) fun i j => !decide (j.cps.toList < i.cps.toList)
abbrev gGt : DR2 := gCmp (fun i j => decide (j < i)) fun i j => decide (j.cps.toList < i.cps.toList)
abbrev gGe : DR2 := gCmp (fun i j => decide (j ≤ i)) fun i j => !decide (i.cps.toList < j.cps.toList)
theorem dop_cmp {op : CmpOp} {p : Int → Int → Bool} {q : Str → Str → Bool} (h1 : OpR X (compareOp op) (rI0 fun i j => .bl (p i j))) (h2 : OpR X (compareOp op) (fun x y H Q => ∃ i j, x = .str i ∧ y = .str j ∧ Q (.bl (q i j)) H)) : DOpR X (compareOp op) (gCmp p q) := by
  refine ⟨_, h1.or h2, ?_⟩
  intro G μ F S H x y a b Qd Q I ra rb h k
  unfold gCmp at h
  split at h
  · obtain rfl := of_int ra
    obtain rfl := of_int rb
    exact .inl ⟨_, _, rfl, rfl, k.bl I h⟩
  · obtain rfl := of_str ra
    obtain rfl := of_str rb
    exact .inr ⟨_, _, rfl, rfl, k.bl I h⟩
  · exact h.elim
theorem dop_lt : DOpR X (compareOp .Lt) gLt := dop_cmp op_lt op_lt_str
theorem dop_le : DOpR X (compareOp .LtE) gLe := dop_cmp op_le op_le_str
theorem dop_gt : DOpR X (compareOp .Gt) gGt := dop_cmp op_gt op_gt_str
theorem dop_ge : DOpR X (compareOp .GtE) gGe := dop_cmp op_ge op_ge_str
def isNone : Wv → Bool
  | .d .none => true
  | .c .none => true
  | .v x => decide (x = .non)
  | _ => false
theorem isNone_is {K : PySem.W.Frag} {F : Hp} {μ : List Addr} {v : V} {w : Wv} (r : RW K F μ v w) : decide (v = .non) = isNone w := by
  cases r with
  | d h => cases h <;> rfl
  | c h => cases h <;> rfl
  | v => rfl
  | o h => rfl
def gIs : DR2 := fun x y S Q => y = .d .none ∧ Q (.d (.bool (isNone x))) S
def gIsnt : DR2 := fun x y S Q => y = .d .none ∧ Q (.d (.bool (!isNone x))) S
theorem dop_is : DOpR X (compareOp .Is) gIs := by
  refine ⟨_, op_isN, ?_⟩
  rintro G μ F S H x y a b Qd Q I ra rb ⟨rfl, h⟩ k
  exact ⟨of_non rb, by rw [isNone_is ra]; exact k.bl I h⟩
theorem dop_isnt : DOpR X (compareOp .IsNot) gIsnt := by
  refine ⟨_, op_notN, ?_⟩
  rintro G μ F S H x y a b Qd Q I ra rb ⟨rfl, h⟩ k
  exact ⟨of_non rb, by rw [isNone_is ra]; exact k.bl I h⟩

/-! ### in -/
def rInD (K : PySem.W.Frag) (neg : Bool) : R2 := fun x y H Q => ∃ d ds p xs b, Dp K H x d ∧ y = .ref p ∧ SqB K H p b xs ∧ DpAll K H xs ds ∧ SeqAt.shaped d = true ∧ ds.all PyData.canLay0 = true ∧ Q (.bl (if neg then !ds.any (fun e => PyData.eqv e d) else ds.any fun e => PyData.eqv e d)) H
open Classical in
noncomputable def inE (h : Heap) (d : PyData) (u : Value) : Bool := decide (∃ e as, Reads h u e as ∧ PyData.eqv e d = true)
open Classical in
theorem inE_of {h : Heap} {d e : PyData} {u : Value} {as : List Addr} (r : Reads h u e as) : inE h d u = PyData.eqv e d := by
  unfold inE
  cases q : PyData.eqv e d with
  | true => exact decide_eq_true ⟨e, as, r, q⟩
  | false =>
    refine decide_eq_false fun ⟨e', as', r', q'⟩ => ?_
    have z := (r.unique _ _ r').1
    subst z
    rw [q] at q'; cases q'
theorem any_inE {h : Heap} {d : PyData} : ∀ {us : List Value} {ds : List PyData} {as : List Addr}, ReadsAll h us ds as → us.any (inE h d) = ds.any fun e => PyData.eqv e d
  | _, _, _, .nil => rfl
  | _, _, _, .cons r t => by rw [List.any_cons, List.any_cons, inE_of r, any_inE t]
theorem all_reads {h : Heap} : ∀ {us : List Value} {ds : List PyData} {as : List Addr}, ReadsAll h us ds as → ∀ u ∈ us, ∃ d as, d ∈ ds ∧ Reads h u d as
  | _, _, _, .nil, u, hu => by cases hu
  | _, _, _, .cons r t, u, hu => by
    rcases List.mem_cons.mp hu with rfl | hu
    · exact ⟨_, _, List.mem_cons_self, r⟩
    · obtain ⟨d, as, hd, q⟩ := all_reads t u hu
      exact ⟨d, as, List.mem_cons_of_mem _ hd, q⟩
theorem op_inD (hu : X.A.units + 65 < cLine) (neg : Bool) : OpR X (compareOp (if neg then .NotIn else .In)) (rInD X.K neg) := by
  intro pins s σ H x y v u Q I rx ry ⟨d, ds, p, xs, b, hd, e, hs, ha, sd, cs, q⟩
  subst e
  cases ry
  obtain ⟨as, rd⟩ := Dp.reads I d x v hd rx
  have each : ∀ {its : List Value}, Vals xs its → ∃ bs, ReadsAll s.heap its ds bs ∧ ∀ z ∈ its, SeqAt.EqAt X.A.in1 s z v (inE s.heap d z) := by
    intro its rv
    obtain ⟨bs, ra⟩ := Dp.readsAll I ds xs its ha rv
    refine ⟨bs, ra, fun z hz => ?_⟩
    obtain ⟨e, bs', he, re⟩ := all_reads ra z hz
    rw [inE_of re]
    refine SeqAt.eqAt_reads e d X.A.in1 s z v _ _ re rd (List.all_eq_true.mp cs e he) (SeqAt.canLay_of_shaped sd) ?_
    have h1 := SeqAt.depth_of_shaped sd
    have h2 : min e.depth d.depth ≤ d.depth := Nat.min_le_right _ _
    show X.A.units + 1 + min e.depth d.depth < cLine
    omega
  cases b with
  | false =>
    obtain ⟨its, rv, pl, _⟩ := I.list (show SqL X.K H p xs from hs)
    obtain ⟨bs, ra, ea⟩ := each rv
    cases neg with
    | false =>
      refine SeqAt.in_listAt (inE s.heap d) pl.isList (fun z hz => ea z (by simpa using hz)) ⟨.bl _, H, I, rfl, ?_⟩
      rw [List.any_toArray, any_inE ra]
      exact q
    | true =>
      refine SeqAt.notIn_listAt (inE s.heap d) pl.isList (fun z hz => ea z (by simpa using hz)) ⟨.bl _, H, I, rfl, ?_⟩
      rw [List.any_toArray, any_inE ra]
      exact q
  | true =>
    obtain ⟨its, rv, pl, _⟩ := I.tuple (show SqT X.K H p xs from hs)
    obtain ⟨bs, ra, ea⟩ := each rv
    cases neg with
    | false =>
      refine SeqAt.in_tupleAt (inE s.heap d) pl (fun z hz => ea z (by simpa using hz)) ⟨.bl _, H, I, rfl, ?_⟩
      rw [List.any_toArray, any_inE ra]
      exact q
    | true =>
      refine SeqAt.notIn_tupleAt (inE s.heap d) pl (fun z hz => ea z (by simpa using hz)) ⟨.bl _, H, I, rfl, ?_⟩
      rw [List.any_toArray, any_inE ra]
      exact q
/-- x in a text (one sign), a list, a tuple -/
def gIn (neg : Bool) : DR2 := fun x y S Q =>
  (∃ c z, x = .d (.str ⟨#[c]⟩) ∧ y = .d (.str z) ∧ Q (.d (.bool (if neg then !decide (c ∈ z.cps.toList) else decide (c ∈ z.cps.toList)))) S) ∨
  ∃ d b ws ds, Dat S x d ∧ Seq S y b ws ∧ Dats S ws ds ∧ SeqAt.shaped d = true ∧ ds.all PyData.canLay0 = true ∧ Q (.d (.bool (if neg then !ds.any (fun e => PyData.eqv e d) else ds.any fun e => PyData.eqv e d))) S
theorem dop_in (hu : X.A.units + 65 < cLine) : DOpR X (compareOp .In) (gIn false) := by
  refine ⟨_, op_in_sign.or (op_inD hu false), ?_⟩
  rintro G μ F S H x y a b Qd Q I ra rb (⟨c, z, rfl, rfl, h⟩ | ⟨d, b', ws, ds, hd, hs, hds, sd, cs, h⟩) k
  · exact .inl ⟨c, z, of_str ra, of_str rb, k.bl I h⟩
  · obtain ⟨p, xs, rfl, hq, rs⟩ := seq_at I rb hs
    exact .inr ⟨d, ds, p, xs, b', dat_dp I d (nodict_shaped sd) ra hd, rfl, hq, dats_dp I ds (nodict_all cs) rs hds, sd, cs, k.bl I h⟩
theorem dop_notin (hu : X.A.units + 65 < cLine) : DOpR X (compareOp .NotIn) (gIn true) := by
  refine ⟨_, op_notIn_sign.or (op_inD hu true), ?_⟩
  rintro G μ F S H x y a b Qd Q I ra rb (⟨c, z, rfl, rfl, h⟩ | ⟨d, b', ws, ds, hd, hs, hds, sd, cs, h⟩) k
  · exact .inl ⟨c, z, of_str ra, of_str rb, k.bl I h⟩
  · obtain ⟨p, xs, rfl, hq, rs⟩ := seq_at I rb hs
    exact .inr ⟨d, ds, p, xs, b', dat_dp I d (nodict_shaped sd) ra hd, rfl, hq, dats_dp I ds (nodict_all cs) rs hds, sd, cs, k.bl I h⟩
end
end Dm

namespace Dm
open PySem L2 PySem.Spec PyProof.Rows

/-! ### subscripts and slices -/
theorem paired_atI {α β : Type} {R : α → β → Prop} {l : List α} {m : List β} (h : Paired R l m) {i : Int} {b : β} (e : atI m i = some b) : ∃ a, atI l i = some a ∧ R a b := by
  unfold atI at e ⊢
  rw [h.length]
  cases z : ixN m.length i with
  | none => rw [z] at e; cases e
  | some j =>
    rw [z] at e
    obtain ⟨a, q, r⟩ := paired_get h (show m[j]? = some b from e)
    exact ⟨a, q, r⟩
theorem atI_map {α β : Type} (f : α → β) (l : List α) (i : Int) : atI (l.map f) i = (atI l i).map f := by
  unfold atI
  rw [List.length_map]
  cases ixN l.length i with
  | none => rfl
  | some j => simp
def gIx : DR2 := fun x y S Q => match x, y with
  | .d (.list ds), .d (.int i) => ∃ d, atI ds i = some d ∧ Q (.d d) S
  | .d (.tuple ds), .d (.int i) => ∃ d, atI ds i = some d ∧ Q (.d d) S
  | .c (.list ds), .d (.int i) => ∃ d, atI ds i = some d ∧ Q (cw d) S
  | .c (.tuple ds), .d (.int i) => ∃ d, atI ds i = some d ∧ Q (cw d) S
  | .d (.str z), .d (.int i) => ∃ c, z.length ≤ sizeLine ∧ atI z.cps.toList i = some c ∧ Q (.d (.str ⟨#[c]⟩)) S
  | .o k, .d (.int i) => ∃ ws w, (S[k]? = some (.lst ws) ∨ S[k]? = some (.tup ws)) ∧ atI ws i = some w ∧ Q w S
  | _, _ => False
section
variable {K : PySem.W.Frag}
theorem sim_ix : SimR2 K (rIx K) gIx := by
  intro G μ F S H x y a b Qd Q I ra rb h k
  have go : ∀ {ws : List Wv} {bb : Bool} {i : Int} {w : Wv}, Seq S a bb ws → b = .d (.int i) → atI ws i = some w → Qd w S → rIx K x y H Q := by
    rintro ws bb i w hs rfl hi q
    obtain ⟨p, xs, rfl, hq, rs⟩ := seq_at I ra hs
    obtain rfl := of_int rb
    obtain ⟨v, hv, rv⟩ := paired_atI rs hi
    cases bb with
    | false => exact .inl ⟨p, xs, i, v, rfl, rfl, hq, hv, k.val I rv q⟩
    | true => exact .inr (.inl ⟨p, xs, i, v, rfl, rfl, hq, hv, k.val I rv q⟩)
  unfold gIx at h
  split at h
  · obtain ⟨d, e, q⟩ := h
    exact go (.dl _) rfl (by rw [atI_map, e]; rfl) q
  · obtain ⟨d, e, q⟩ := h
    exact go (.dt _) rfl (by rw [atI_map, e]; rfl) q
  · obtain ⟨d, e, q⟩ := h
    exact go (.cl _) rfl (by rw [atI_map, e]; rfl) q
  · obtain ⟨d, e, q⟩ := h
    exact go (.ct _) rfl (by rw [atI_map, e]; rfl) q
  · obtain ⟨c, z, e, q⟩ := h
    obtain rfl := of_str ra
    obtain rfl := of_int rb
    exact .inr (.inr ⟨_, _, c, rfl, rfl, z, e, k.str I q⟩)
  · obtain ⟨ws, w, e | e, hi, q⟩ := h
    · exact go (.ol e) rfl hi q
    · exact go (.ot e) rfl hi q
  · exact h.elim
end
abbrev DTO := Rho → Sto → (Option Int → Sto → Prop) → Prop
def SimO (K : PySem.W.Frag) (t : TO) (f : DTO) : Prop := ∀ (G : Hp) (μ : List Addr) (F : Hp) (S : Sto) (H : Hp) (σ : L2.St) (ρ : Rho) (Qd : Option Int → Sto → Prop) (Q : Option Int → Hp → Prop), SI K G μ S F H → ER K F μ σ ρ → f ρ S Qd →
  (∀ μ' F' S' H' b, Ext μ F μ' F' → SI K G μ' S' F' H' → Qd b S' → Q b H') → t σ H Q
def DO (X : Cx) (e : Option Expr) (f : DTO) : Prop := ∃ t, PO X e t ∧ SimO X.K t f
def dNo : DTO := fun _ S Q => Q none S
def dPart (f : DTE) : DTO := fun ρ S Q => f ρ S fun w S1 => ∃ i, w = .d (.int i) ∧ Q (some i) S1
def cutL {α : Type} (xs : List α) (lo hi : Option Int) : List α := (xs.drop (HT.sIx xs.length 0 lo)).take (HT.sIx xs.length xs.length hi - HT.sIx xs.length 0 lo)
theorem paired_cut {α β : Type} {R : α → β → Prop} {l : List α} {m : List β} (h : Paired R l m) (lo hi : Option Int) : Paired R (cutL l lo hi) (cutL m lo hi) := by
  unfold cutL
  rw [h.length]
  exact paired_take (paired_drop h _) _
def flatP : PyData → Bool
  | .none => true
  | .bool _ => true
  | .int _ => true
  | .str _ => true
  | _ => false
theorem dq_flat {K : PySem.W.Frag} {F : Hp} {v : V} {d : PyData} (h : Dp K F v d) (f : flatP d = true) : Dq F v d := by
  cases h with
  | non => exact .non
  | bl b => exact .bl b
  | int i => exact .int i
  | str z => exact .str z
  | lst a b => cases f
  | tup a b => cases f
theorem dqs_flat {K : PySem.W.Frag} {F : Hp} : ∀ {vs : List V} {ds : List PyData}, DpAll K F vs ds → ds.all flatP = true → Paired (Dq F) vs ds
  | _, _, .nil, _ => .nil
  | _, _, .cons h t, f => by
    rw [List.all_cons, Bool.and_eq_true] at f
    exact .cons (dq_flat h f.1) (dqs_flat t f.2)
/-- all of it is data -/
def allD : List Wv → Option (List PyData)
  | [] => some []
  | .d x :: r => (allD r).map (x :: ·)
  | _ :: _ => none
theorem allD_of : ∀ {ws : List Wv} {ds : List PyData}, allD ws = some ds → ws = ds.map .d
  | [], ds, h => by cases h; rfl
  | .d x :: r, ds, h => by
    unfold allD at h
    cases z : allD r with
    | none => rw [z] at h; cases h
    | some es =>
      rw [z] at h
      cases h
      rw [List.map_cons, ← allD_of z]
  | .c x :: r, ds, h => by cases h
  | .v x :: r, ds, h => by cases h
  | .o x :: r, ds, h => by cases h
theorem allD_map (ds : List PyData) : allD (ds.map .d) = some ds := by
  induction ds with
  | nil => rfl
  | cons d r ih => rw [List.map_cons, allD, ih]; rfl
def gSl (x : Wv) (lo hi : Option Int) (S : Sto) (Q : Wv → Sto → Prop) : Prop := match x with
  | .d (.list ds) => Q (.d (.list (cutL ds lo hi))) S
  | .d (.tuple ds) => ¬ (HT.sIx ds.length 0 lo = 0 ∧ HT.sIx ds.length ds.length hi = ds.length) ∧ Q (.d (.tuple (cutL ds lo hi))) S
  | .c (.list ds) => ds.all flatP = true ∧ Q (.d (.list (cutL ds lo hi))) S
  | .d (.str z) => z.length ≤ sizeLine ∧ Q (.d (.str (cutS z lo hi))) S
  | .o k => ∃ ws ds, S[k]? = some (.lst ws) ∧ allD ws = some ds ∧ Q (.d (.list (cutL ds lo hi))) S
  | _ => False
def dSl (f : DTE) (lo hi : DTO) : DTE := fun ρ S Q => f ρ S fun x S1 => lo ρ S1 fun l S2 => hi ρ S2 fun u S3 => gSl x l u S3 Q
section
variable {X : Cx} {a b c e : Expr} {fa fb fc fe : DTE} {pos p2 : Pos}
theorem do_none : DO X none dNo := ⟨_, po_none, fun G μ F S H σ ρ Qd Q I R h k => k μ F S H none Ext.refl I h⟩
theorem do_some (he : DE X e fe) : DO X (some e) (dPart fe) := by
  obtain ⟨t, p, q⟩ := he
  refine ⟨_, po_some p, fun G μ F S H σ ρ Qd Q I R h k => q G μ F S H σ ρ _ _ I R h ?_⟩
  rintro μ' F' S' H' v w x I' r ⟨i, rfl, z⟩
  exact ⟨i, of_int r, k _ _ _ _ _ x I' z⟩
theorem de_ix (ha : DE X a fa) (hb : DE X b fb) (hs : PlainIx b := by exact fun _ _ => rfl) : DE X (.Subscript a b pos) (dOp gIx fa fb) :=
  let ⟨_, a1, a2⟩ := ha; let ⟨_, b1, b2⟩ := hb; ⟨_, pe_ix ix_seq a1 b1 hs, sim_op sim_ix a2 b2⟩
theorem de_slice {lo hi : Option Expr} {fl fh : DTO} (ha : DE X a fa) (hl : DO X lo fl) (hh : DO X hi fh) : DE X (.Subscript a (.Slice lo hi none p2) pos) (dSl fa fl fh) := by
  obtain ⟨_, a1, a2⟩ := ha
  obtain ⟨_, l1, l2⟩ := hl
  obtain ⟨_, h1, h2⟩ := hh
  refine ⟨_, pe_slice (sl_list.or (sl_tup.or sl_str)) a1 l1 h1, fun G μ F S H σ ρ Qd Q I R h k => a2 G μ F S H σ ρ _ _ I R h ?_⟩
  intro μ1 F1 S1 H1 v w x1 I1 r1 z1
  refine l2 G μ1 F1 S1 H1 σ ρ _ _ I1 (R.mono x1) z1 fun μ2 F2 S2 H2 l x2 I2 z2 => ?_
  refine h2 G μ2 F2 S2 H2 σ ρ _ _ I2 (R.mono (x1.trans x2)) z2 fun μ3 F3 S3 H3 u x3 I3 z3 => ?_
  have k3 := k.mono ((x1.trans x2).trans x3)
  have r3 := r1.mono (x2.trans x3)
  unfold gSl at z3
  split at z3
  · obtain ⟨p, xs, rfl, ea, pa⟩ := of_lst r3
    exact .inl ⟨_, _, rfl, .inl (.inl (I3.fr _ _ ea)), fun q hq => k3.lst I3 hq (paired_cut pa l u) z3⟩
  · obtain ⟨p, xs, rfl, ea, pa⟩ := of_tup r3
    exact .inr (.inl ⟨_, _, rfl, .inl (.inl (I3.fr _ _ ea)), by rw [pa.length]; exact z3.1, fun q hq => k3.tup I3 hq (paired_cut pa l u) z3.2⟩)
  · cases r3 with
    | c h => cases h with | lst hs ha => exact .inl ⟨_, _, rfl, I3.fr.seq hs, fun q hq => k3.lst I3 hq (paired_cut (dqs_flat ha z3.1) l u) z3.2⟩
  · obtain rfl := of_str r3
    exact .inr (.inr ⟨_, rfl, z3.1, k3.str I3 z3.2⟩)
  · obtain ⟨ws, ds, e, ha, q⟩ := z3
    obtain ⟨p, rfl, _, ⟨xs, ex, rs⟩, _⟩ := I3.ref r3 e
    rw [allD_of ha] at rs
    exact .inl ⟨_, _, rfl, .inl (.inl ex), fun q' hq => k3.lst I3 hq (paired_cut (d_rws rs) l u) q⟩
  · exact z3.elim

/-! ### tests -/
def dTest (f : DTE) : DTT := fun ρ S Q => f ρ S fun w S1 => ∃ b, w = .d (.bool b) ∧ Q b S1
theorem sim_test {K : PySem.W.Frag} {t : TE} {f : DTE} (h : SimE K t f) : SimT K (tTest t) (dTest f) := fun G μ F S H σ ρ Qd Q I R h' k =>
  h G μ F S H σ ρ _ _ I R h' fun μ' F' S' H' v w x I' r ⟨b, e, q⟩ => ⟨b, of_bl (e ▸ r), k _ _ _ _ _ x I' q⟩
theorem dt_cmp {op : CmpOp} {g : DR2} (ho : DOpR X (compareOp op) g) (ha : DE X a fa) (hb : DE X b fb) (hm : behindInMarks op b = false := by first | rfl | exact nomark _) : DT X (.Compare a [op] [b] pos) (dTest (dOp g fa fb)) :=
  let ⟨_, o1, o2⟩ := ho; let ⟨_, a1, a2⟩ := ha; let ⟨_, b1, b2⟩ := hb; ⟨_, pt_cmpR o1 a1 b1 hm, sim_test (sim_op o2 a2 b2)⟩
theorem dt_val (he : DE X e fe) (hi : ∀ whole, isTrue e X.env whole = (do let v ← whole; standAt e.pos; holding [v] (truthy v)) := by intro _; rfl) : DT X e (dTest fe) :=
  let ⟨_, p, q⟩ := he; ⟨_, pt_val p hi, sim_test q⟩
def dChain (g g' : DR2) (fa fb fc : DTE) : DTE := fun ρ S Q => fa ρ S fun x S1 => fb ρ S1 fun y S2 => g x y S2 fun z S3 => ∃ k, z = .d (.bool k) ∧ (if k = true then fc ρ S3 fun w S4 => g' y w S4 Q else Q (.d (.bool false)) S3)
theorem sim_chain {K : PySem.W.Frag} {r r' : R2} {g g' : DR2} {ta tb tc : TE} (h : SimR2 K r g) (h' : SimR2 K r' g') (ha : SimE K ta fa) (hb : SimE K tb fb) (hc : SimE K tc fc) : SimE K (tChain r r' ta tb tc) (dChain g g' fa fb fc) := by
  intro G μ F S H σ ρ Qd Q I R z k
  refine ha G μ F S H σ ρ _ _ I R z fun μ1 F1 S1 H1 x a e1 I1 r1 z1 => hb G μ1 F1 S1 H1 σ ρ _ _ I1 (R.mono e1) z1 fun μ2 F2 S2 H2 y b e2 I2 r2 z2 => h G μ2 F2 S2 H2 x y a b _ _ I2 (r1.mono e2) r2 z2 fun μ3 F3 S3 H3 v w e3 I3 r3 z3 => ?_
  obtain ⟨kk, rfl, q⟩ := z3
  refine ⟨kk, of_bl r3, ?_⟩
  cases kk with
  | false => exact (k.mono ((e1.trans e2).trans e3)).bl I3 q
  | true => exact hc G μ3 F3 S3 H3 σ ρ _ _ I3 (R.mono ((e1.trans e2).trans e3)) q fun μ4 F4 S4 H4 u d e4 I4 r4 z4 => h' G μ4 F4 S4 H4 y u b d Qd Q I4 (r2.mono (e3.trans e4)) r4 z4 (k.mono (((e1.trans e2).trans e3).trans e4))
theorem de_chain {op op' : CmpOp} {g g' : DR2} (ho : DOpR X (compareOp op) g) (ho' : DOpR X (compareOp op') g') (ha : DE X a fa) (hb : DE X b fb) (hc : DE X c fc) (hm : lastMarks [op, op'] [b, c] = false := by with_unfolding_all rfl) : DE X (.Compare a [op, op'] [b, c] pos) (dChain g g' fa fb fc) :=
  let ⟨_, o1, o2⟩ := ho; let ⟨_, p1, p2⟩ := ho'; let ⟨_, a1, a2⟩ := ha; let ⟨_, b1, b2⟩ := hb; let ⟨_, c1, c2⟩ := hc; ⟨_, pe_chain o1 p1 a1 b1 c1 hm, sim_chain o2 p2 a2 b2 c2⟩
theorem dt_chain {op op' : CmpOp} {g g' : DR2} (ho : DOpR X (compareOp op) g) (ho' : DOpR X (compareOp op') g') (ha : DE X a fa) (hb : DE X b fb) (hc : DE X c fc) (hm : lastMarks [op, op'] [b, c] = false := by with_unfolding_all rfl) : DT X (.Compare a [op, op'] [b, c] pos) (dTest (dChain g g' fa fb fc)) :=
  let ⟨_, o1, o2⟩ := ho; let ⟨_, p1, p2⟩ := ho'; let ⟨_, a1, a2⟩ := ha; let ⟨_, b1, b2⟩ := hb; let ⟨_, c1, c2⟩ := hc; ⟨_, pt_chain o1 p1 a1 b1 c1 hm, sim_test (sim_chain o2 p2 a2 b2 c2)⟩
/-- and, or, not in tests -/
def DW (X : Cx) (e : Expr) (f : DTT) : Prop := ∃ t, PW X e t ∧ SimT X.K t f
def dAnd (f g : DTT) : DTT := fun ρ S Q => f ρ S fun c S1 => if c = true then g ρ S1 Q else Q false S1
def dOr (f g : DTT) : DTT := fun ρ S Q => f ρ S fun c S1 => if c = true then Q true S1 else g ρ S1 Q
def dNot (f : DTT) : DTT := fun ρ S Q => f ρ S fun c S1 => Q (!c) S1
variable {ta tb : DTT} {rest : List Expr}
theorem dw_and1 (h : DT X a ta) : DW X (.BoolOp .And [a] pos) ta := let ⟨_, p, q⟩ := h; ⟨_, pw_and1 p, q⟩
theorem dw_or1 (h : DT X a ta) : DW X (.BoolOp .Or [a] pos) ta := let ⟨_, p, q⟩ := h; ⟨_, pw_or1 p, q⟩
theorem dw_and (h : DT X a ta) (h' : DW X (.BoolOp .And (b :: rest) pos) tb) : DW X (.BoolOp .And (a :: b :: rest) pos) (dAnd ta tb) := by
  obtain ⟨_, p, q⟩ := h
  obtain ⟨_, p', q'⟩ := h'
  refine ⟨_, pw_and p p', fun G μ F S H σ ρ Qd Q I R z k => q G μ F S H σ ρ _ _ I R z fun μ1 F1 S1 H1 bb e1 I1 z1 => ?_⟩
  cases bb with
  | true => exact q' G μ1 F1 S1 H1 σ ρ _ _ I1 (R.mono e1) z1 fun μ2 F2 S2 H2 b2 e2 I2 z2 => k _ _ _ _ _ (e1.trans e2) I2 z2
  | false => exact k _ _ _ _ _ e1 I1 z1
theorem dw_or (h : DT X a ta) (h' : DW X (.BoolOp .Or (b :: rest) pos) tb) : DW X (.BoolOp .Or (a :: b :: rest) pos) (dOr ta tb) := by
  obtain ⟨_, p, q⟩ := h
  obtain ⟨_, p', q'⟩ := h'
  refine ⟨_, pw_or p p', fun G μ F S H σ ρ Qd Q I R z k => q G μ F S H σ ρ _ _ I R z fun μ1 F1 S1 H1 bb e1 I1 z1 => ?_⟩
  cases bb with
  | true => exact k _ _ _ _ _ e1 I1 z1
  | false => exact q' G μ1 F1 S1 H1 σ ρ _ _ I1 (R.mono e1) z1 fun μ2 F2 S2 H2 b2 e2 I2 z2 => k _ _ _ _ _ (e1.trans e2) I2 z2
theorem dt_w (h : DW X e ta) : DT X e ta := let ⟨_, p, q⟩ := h; ⟨_, p.pt, q⟩
theorem dt_not (h : DT X a ta) : DT X (.UnaryOp .Not a pos) (dNot ta) := by
  obtain ⟨_, p, q⟩ := h
  exact ⟨_, pt_not p, fun G μ F S H σ ρ Qd Q I R z k => q G μ F S H σ ρ _ _ I R z fun μ1 F1 S1 H1 bb e1 I1 z1 => k _ _ _ _ _ e1 I1 z1⟩
/-- the same as values -/
def dAndV (f g : DTE) : DTE := fun ρ S Q => f ρ S fun x S1 => ∃ c, x = .d (.bool c) ∧ if c = true then g ρ S1 Q else Q (.d (.bool false)) S1
def dOrV (f g : DTE) : DTE := fun ρ S Q => f ρ S fun x S1 => ∃ c, x = .d (.bool c) ∧ if c = true then Q (.d (.bool true)) S1 else g ρ S1 Q
def dNotV (f : DTE) : DTE := fun ρ S Q => f ρ S fun x S1 => ∃ c, x = .d (.bool c) ∧ Q (.d (.bool (!c))) S1
theorem de_bool1 {op : BoolOp} (h : DE X a fa) : DE X (.BoolOp op [a] pos) fa := let ⟨_, p, q⟩ := h; ⟨_, pe_one p, q⟩
theorem de_and (h : DE X a fa) (h' : DE X (.BoolOp .And (b :: rest) pos) fb) : DE X (.BoolOp .And (a :: b :: rest) pos) (dAndV fa fb) := by
  obtain ⟨_, p, q⟩ := h
  obtain ⟨_, p', q'⟩ := h'
  refine ⟨_, pe_and p p', fun G μ F S H σ ρ Qd Q I R z k => q G μ F S H σ ρ _ _ I R z ?_⟩
  rintro μ1 F1 S1 H1 v w e1 I1 r1 ⟨c, rfl, z1⟩
  refine ⟨c, of_bl r1, ?_⟩
  cases c with
  | true => exact q' G μ1 F1 S1 H1 σ ρ _ _ I1 (R.mono e1) z1 (k.mono e1)
  | false => exact (k.mono e1).bl I1 z1
theorem de_or (h : DE X a fa) (h' : DE X (.BoolOp .Or (b :: rest) pos) fb) : DE X (.BoolOp .Or (a :: b :: rest) pos) (dOrV fa fb) := by
  obtain ⟨_, p, q⟩ := h
  obtain ⟨_, p', q'⟩ := h'
  refine ⟨_, pe_or p p', fun G μ F S H σ ρ Qd Q I R z k => q G μ F S H σ ρ _ _ I R z ?_⟩
  rintro μ1 F1 S1 H1 v w e1 I1 r1 ⟨c, rfl, z1⟩
  refine ⟨c, of_bl r1, ?_⟩
  cases c with
  | true => exact (k.mono e1).bl I1 z1
  | false => exact q' G μ1 F1 S1 H1 σ ρ _ _ I1 (R.mono e1) z1 (k.mono e1)
theorem de_not (h : DE X a fa) : DE X (.UnaryOp .Not a pos) (dNotV fa) := by
  obtain ⟨_, p, q⟩ := h
  refine ⟨_, pe_not p, fun G μ F S H σ ρ Qd Q I R z k => q G μ F S H σ ρ _ _ I R z ?_⟩
  rintro μ1 F1 S1 H1 v w e1 I1 r1 ⟨c, rfl, z1⟩
  exact ⟨c, of_bl r1, (k.mono e1).bl I1 z1⟩
def dIf (c : DTT) (f g : DTE) : DTE := fun ρ S Q => c ρ S fun b S1 => if b = true then f ρ S1 Q else g ρ S1 Q
theorem de_if {tc : DTT} (hc : DT X c tc) (ha : DE X a fa) (hb : DE X b fb) : DE X (.IfExp c a b pos) (dIf tc fa fb) := by
  obtain ⟨_, c1, c2⟩ := hc
  obtain ⟨_, a1, a2⟩ := ha
  obtain ⟨_, b1, b2⟩ := hb
  refine ⟨_, pe_ifExp c1 a1 b1, fun G μ F S H σ ρ Qd Q I R z k => c2 G μ F S H σ ρ _ _ I R z fun μ1 F1 S1 H1 bb e1 I1 z1 => ?_⟩
  cases bb with
  | true => exact a2 G μ1 F1 S1 H1 σ ρ _ _ I1 (R.mono e1) z1 (k.mono e1)
  | false => exact b2 G μ1 F1 S1 H1 σ ρ _ _ I1 (R.mono e1) z1 (k.mono e1)

/-! ### arguments, displays -/
variable {es : List Expr} {fs : DTA}
def dNil : DTA := fun _ S Q => Q [] S
def dCons (f : DTE) (g : DTA) : DTA := fun ρ S Q => f ρ S fun w S1 => g ρ S1 fun ws S2 => Q (w :: ws) S2
theorem da_nil : DA X [] dNil := ⟨_, pa_nil, fun G μ F S H σ ρ Qd Q I R h k => k μ F S H [] [] Ext.refl I .nil h⟩
theorem da_cons (ha : DE X a fa) (hr : DA X es fs) (hs : starEach (a :: es) X.env = (false, eval a X.env) :: starEach es X.env := by rfl) : DA X (a :: es) (dCons fa fs) := by
  obtain ⟨_, a1, a2⟩ := ha
  obtain ⟨_, b1, b2⟩ := hr
  refine ⟨_, pa_cons a1 b1 hs, fun G μ F S H σ ρ Qd Q I R z k => a2 G μ F S H σ ρ _ _ I R z fun μ1 F1 S1 H1 v w e1 I1 r1 z1 => b2 G μ1 F1 S1 H1 σ ρ _ _ I1 (R.mono e1) z1 fun μ2 F2 S2 H2 vs ws e2 I2 r2 z2 => k _ _ _ _ _ _ (e1.trans e2) I2 (.cons (r1.mono e2) r2) z2⟩
def dTupD (f : DTA) : DTE := fun ρ S Q => f ρ S fun ws S1 => ∃ ds, allD ws = some ds ∧ ds.length ≤ sizeLine ∧ Q (.d (.tuple ds)) S1
def dLstD (f : DTA) : DTE := fun ρ S Q => f ρ S fun ws S1 => ∃ ds, allD ws = some ds ∧ ds.length ≤ sizeLine ∧ Q (.d (.list ds)) S1
def dTupO (f : DTA) : DTE := fun ρ S Q => f ρ S fun ws S1 => ws.length ≤ sizeLine ∧ Q (.o S1.length) (S1 ++ [.tup ws])
def dLstO (f : DTA) : DTE := fun ρ S Q => f ρ S fun ws S1 => ws.length ≤ sizeLine ∧ Q (.o S1.length) (S1 ++ [.lst ws])
theorem de_tup {n : Nat} (h : DA X es fs) : DE X (.Tuple es n pos) (dTupD fs) := by
  obtain ⟨_, p, q⟩ := h
  refine ⟨_, pe_tup p, fun G μ F S H σ ρ Qd Q I R z k => q G μ F S H σ ρ _ _ I R z ?_⟩
  rintro μ1 F1 S1 H1 vs ws e1 I1 r1 ⟨ds, hd, hl, z1⟩
  rw [allD_of hd] at r1
  have r2 := d_rws r1
  exact ⟨by rw [r2.length]; exact hl, fun p hp => (k.mono e1).tup I1 hp r2 z1⟩
theorem de_lst (h : DA X es fs) : DE X (.List es pos) (dLstD fs) := by
  obtain ⟨_, p, q⟩ := h
  refine ⟨_, pe_lst p, fun G μ F S H σ ρ Qd Q I R z k => q G μ F S H σ ρ _ _ I R z ?_⟩
  rintro μ1 F1 S1 H1 vs ws e1 I1 r1 ⟨ds, hd, hl, z1⟩
  rw [allD_of hd] at r1
  have r2 := d_rws r1
  exact ⟨by rw [r2.length]; exact hl, fun p hp => (k.mono e1).lst I1 hp r2 z1⟩
theorem de_tupO {n : Nat} (h : DA X es fs) : DE X (.Tuple es n pos) (dTupO fs) := by
  obtain ⟨_, p, q⟩ := h
  refine ⟨_, pe_tup p, fun G μ F S H σ ρ Qd Q I R z k => q G μ F S H σ ρ _ _ I R z ?_⟩
  rintro μ1 F1 S1 H1 vs ws e1 I1 r1 ⟨hl, z1⟩
  exact ⟨by rw [r1.length]; exact hl, fun p hp => (k.mono e1).otup I1 hp r1 z1⟩
theorem de_lstO (h : DA X es fs) : DE X (.List es pos) (dLstO fs) := by
  obtain ⟨_, p, q⟩ := h
  refine ⟨_, pe_lst p, fun G μ F S H σ ρ Qd Q I R z k => q G μ F S H σ ρ _ _ I R z ?_⟩
  rintro μ1 F1 S1 H1 vs ws e1 I1 r1 ⟨hl, z1⟩
  exact ⟨by rw [r1.length]; exact hl, fun p hp => (k.mono e1).olst I1 hp r1 z1⟩
def dDk : DTE := fun _ S Q => Q (.o S.length) (S ++ [.dk []])
def dDt : DTE := fun _ S Q => Q (.o S.length) (S ++ [.dt []])
theorem de_dk : DE X (.Dict [] [] pos) dDk := ⟨_, pe_dnewK, fun G μ F S H σ ρ Qd Q I R z k p hp => k.odk I hp .nil z⟩
theorem de_dt : DE X (.Dict [] [] pos) dDt := ⟨_, pe_dnewT, fun G μ F S H σ ρ Qd Q I R z k p hp => k.odt I hp .nil z⟩

/-! ### calls of built-ins -/
abbrev DRC := List Wv → Sto → (Wv → Sto → Prop) → Prop
def SimC (K : PySem.W.Frag) (r : List V → Hp → VK → Prop) (g : DRC) : Prop := ∀ (G : Hp) (μ : List Addr) (F : Hp) (S : Sto) (H : Hp) (vs : List V) (ws : List Wv) (Qd : Wv → Sto → Prop) (Q : VK), SI K G μ S F H → RWs K F μ vs ws → g ws S Qd → KE K G μ F Qd Q → r vs H Q
def DCallR (X : Cx) (f : Value) (g : DRC) : Prop := ∃ r, CallR X f r ∧ SimC X.K r g
def dCB (g : DRC) (f : DTA) : DTE := fun ρ S Q => f ρ S fun ws S1 => g ws S1 Q
variable {x : Str} {p : Pos}
theorem de_callB {id : String} {g : DRC} (hc : DCallR X (.builtin id) g) (hg : Gl X x) (hm : X.mg x = none) (hv : bootBuiltins x = some (.builtin id)) (ha : DA X (e :: es) fs) (hn : x ≠ "__name__" := by decide) (hdb : (x == ("__debug__" : Str)) = false := by decide)
    (he : starEach (e :: es) X.env = (false, eval e X.env) :: starEach es X.env := by rfl) (hpl : (backTo pos (starEach es X.env)).any (·.1) = false := by rfl) : DE X (.Call (.Name x p) (e :: es) [] pos) (dCB g fs) := by
  obtain ⟨_, c1, c2⟩ := hc
  obtain ⟨_, a1, a2⟩ := ha
  exact ⟨_, pe_callB c1 hg hm hv a1 hn hdb he hpl, fun G μ F S H σ ρ Qd Q I R z k => a2 G μ F S H σ ρ _ _ I R z fun μ1 F1 S1 H1 vs ws e1 I1 r1 z1 => c2 G μ1 F1 S1 H1 vs ws Qd Q I1 r1 z1 (k.mono e1)⟩
theorem de_callTy {T : String} {g : DRC} (hc : DCallR X (.type T) g) (hg : Gl X x) (hm : X.mg x = none) (hv : bootBuiltins x = some (.type T)) (ha : DA X (e :: es) fs) (hn : x ≠ "__name__" := by decide) (hdb : (x == ("__debug__" : Str)) = false := by decide)
    (he : starEach (e :: es) X.env = (false, eval e X.env) :: starEach es X.env := by rfl) (hpl : (backTo pos (starEach es X.env)).any (·.1) = false := by rfl) : DE X (.Call (.Name x p) (e :: es) [] pos) (dCB g fs) := by
  obtain ⟨_, c1, c2⟩ := hc
  obtain ⟨_, a1, a2⟩ := ha
  exact ⟨_, pe_callTy c1 hg hm hv a1 hn hdb he hpl, fun G μ F S H σ ρ Qd Q I R z k => a2 G μ F S H σ ρ _ _ I R z fun μ1 F1 S1 H1 vs ws e1 I1 r1 z1 => c2 G μ1 F1 S1 H1 vs ws Qd Q I1 r1 z1 (k.mono e1)⟩
def cLen : DRC := fun ws S Q => match ws with
  | [.d (.list l)] => Q (.d (.int l.length)) S
  | [.d (.tuple l)] => Q (.d (.int l.length)) S
  | [.c (.list l)] => Q (.d (.int l.length)) S
  | [.c (.tuple l)] => Q (.d (.int l.length)) S
  | [.d (.str z)] => z.length ≤ sizeLine ∧ Q (.d (.int z.length)) S
  | [.o k] => ∃ l, (S[k]? = some (.lst l) ∨ S[k]? = some (.tup l)) ∧ Q (.d (.int l.length)) S
  | _ => False
theorem rws1 {K : PySem.W.Frag} {F : Hp} {μ : List Addr} {vs : List V} {w : Wv} (h : RWs K F μ vs [w]) : ∃ v, vs = [v] ∧ RW K F μ v w := by
  cases h with | cons r t => cases t; exact ⟨_, rfl, r⟩
theorem rws2 {K : PySem.W.Frag} {F : Hp} {μ : List Addr} {vs : List V} {w u : Wv} (h : RWs K F μ vs [w, u]) : ∃ v x, vs = [v, x] ∧ RW K F μ v w ∧ RW K F μ x u := by
  cases h with | cons r t => cases t with | cons r' t' => cases t'; exact ⟨_, _, rfl, r, r'⟩
theorem dc_len : DCallR X (.builtin "len") cLen := by
  refine ⟨_, call_len, ?_⟩
  intro G μ F S H vs ws Qd Q I r h k
  have go : ∀ {w : Wv} {l : List Wv} {b : Bool}, ws = [w] → Seq S w b l → Qd (.d (.int l.length)) S → ∃ x n, vs = [x] ∧ LenV X.K x H n ∧ Q (.int n) H := by
    rintro w l b rfl hs q
    obtain ⟨v, rfl, rv⟩ := rws1 r
    obtain ⟨a, xs, rfl, hq, rs⟩ := seq_at I rv hs
    refine ⟨_, l.length, rfl, ?_, k.int I q⟩
    cases b with
    | false => exact .inl ⟨xs, hq, rs.length.symm⟩
    | true => exact .inr ⟨xs, hq, rs.length.symm⟩
  unfold cLen at h
  split at h
  · exact go rfl (.dl _) (by rw [List.length_map]; exact h)
  · exact go rfl (.dt _) (by rw [List.length_map]; exact h)
  · exact go rfl (.cl _) (by rw [List.length_map]; exact h)
  · exact go rfl (.ct _) (by rw [List.length_map]; exact h)
  · obtain ⟨v, rfl, rv⟩ := rws1 r
    obtain rfl := of_str rv
    exact ⟨_, _, rfl, ⟨h.1, rfl⟩, k.int I h.2⟩
  · obtain ⟨l, e | e, q⟩ := h
    · exact go rfl (.ol e) q
    · exact go rfl (.ot e) q
  · exact h.elim
def cAbs : DRC := fun ws S Q => match ws with
  | [.d (.int i)] => Q (.d (.int (if i < 0 then -i else i))) S
  | _ => False
theorem dc_abs : DCallR X (.builtin "abs") cAbs := by
  refine ⟨_, call_abs, ?_⟩
  intro G μ F S H vs ws Qd Q I r h k
  unfold cAbs at h
  split at h
  · obtain ⟨v, rfl, rv⟩ := rws1 r
    obtain rfl := of_int rv
    exact ⟨_, rfl, k.int I h⟩
  · exact h.elim
def cMax2 : DRC := fun ws S Q => match ws with
  | [.d (.int i), .d (.int j)] => Q (.d (.int (if j > i then j else i))) S
  | _ => False
theorem dc_max2 (hc : X.calm = true) : DCallR X (.builtin "max") cMax2 := by
  refine ⟨_, call_max2 hc, ?_⟩
  intro G μ F S H vs ws Qd Q I r h k
  unfold cMax2 at h
  split at h
  · obtain ⟨v, u, rfl, rv, ru⟩ := rws2 r
    obtain rfl := of_int rv
    obtain rfl := of_int ru
    exact ⟨_, _, rfl, k.int I h⟩
  · exact h.elim
def cMin2 : DRC := fun ws S Q => match ws with
  | [.d (.int i), .d (.int j)] => Q (.d (.int (if j < i then j else i))) S
  | _ => False
theorem dc_min2 (hc : X.calm = true) : DCallR X (.builtin "min") cMin2 := by
  refine ⟨_, call_min2 hc, ?_⟩
  intro G μ F S H vs ws Qd Q I r h k
  unfold cMin2 at h
  split at h
  · obtain ⟨v, u, rfl, rv, ru⟩ := rws2 r
    obtain rfl := of_int rv
    obtain rfl := of_int ru
    exact ⟨_, _, rfl, k.int I h⟩
  · exact h.elim
def cInt : DRC := fun ws S Q => match ws with
  | [.d (.int i)] => Q (.d (.int i)) S
  | [.d (.bool b)] => Q (.d (.int (if b then 1 else 0))) S
  | _ => False
theorem dc_int : DCallR X (.type "int") cInt := by
  refine ⟨_, call_int1, ?_⟩
  intro G μ F S H vs ws Qd Q I r h k
  unfold cInt at h
  split at h
  · obtain ⟨v, rfl, rv⟩ := rws1 r
    obtain rfl := of_int rv
    exact .inl ⟨_, rfl, k.int I h⟩
  · obtain ⟨v, rfl, rv⟩ := rws1 r
    obtain rfl := of_bl rv
    exact .inr ⟨_, rfl, k.int I h⟩
  · exact h.elim
/-- list(xs): a new list, of data; owned -/
def cListD : DRC := fun ws S Q => match ws with
  | [.d (.list l)] => Q (.d (.list l)) S
  | [.d (.tuple l)] => Q (.d (.list l)) S
  | [.c (.list l)] => l.all flatP = true ∧ Q (.d (.list l)) S
  | [.c (.tuple l)] => l.all flatP = true ∧ Q (.d (.list l)) S
  | [.o k] => ∃ l ds, (S[k]? = some (.lst l) ∨ S[k]? = some (.tup l)) ∧ allD l = some ds ∧ Q (.d (.list ds)) S
  | _ => False
theorem cw_flat {l : List PyData} (h : l.all flatP = true) : l.map cw = l.map .d := by
  induction l with
  | nil => rfl
  | cons d r ih =>
    rw [List.all_cons, Bool.and_eq_true] at h
    rw [List.map_cons, List.map_cons, ih h.2]
    congr 1
    cases d <;> first | rfl | (have z := h.1; cases z)
theorem dc_list : DCallR X (.type "list") cListD := by
  refine ⟨_, call_list_of, ?_⟩
  intro G μ F S H vs ws Qd Q I r h k
  have go : ∀ {w : Wv} {l : List PyData} {b : Bool}, ws = [w] → Seq S w b (l.map .d) → Qd (.d (.list l)) S → ∃ p ys, vs = [.ref p] ∧ (SqL X.K H p ys ∨ SqT X.K H p ys) ∧ ∀ l, H l = none → Q (.ref l) (upd H l (.lst ys)) := by
    rintro w l b rfl hs q
    obtain ⟨v, rfl, rv⟩ := rws1 r
    obtain ⟨a, xs, rfl, hq, rs⟩ := seq_at I rv hs
    refine ⟨a, xs, rfl, ?_, fun z hz => k.lst I hz (d_rws rs) q⟩
    cases b with
    | false => exact .inl hq
    | true => exact .inr hq
  unfold cListD at h
  split at h
  · exact go rfl (.dl _) h
  · exact go rfl (.dt _) h
  · exact go rfl (by rw [← cw_flat h.1]; exact Seq.cl _) h.2
  · exact go rfl (by rw [← cw_flat h.1]; exact Seq.ct _) h.2
  · obtain ⟨l, ds, e, ha, q⟩ := h
    obtain rfl := allD_of ha
    rcases e with e | e
    · exact go rfl (.ol e) q
    · exact go rfl (.ot e) q
  · exact h.elim
def cListO : DRC := fun ws S Q => ∃ w b l, ws = [w] ∧ Seq S w b l ∧ Q (.o S.length) (S ++ [.lst l])
theorem dc_listO : DCallR X (.type "list") cListO := by
  refine ⟨_, call_list_of, ?_⟩
  rintro G μ F S H vs ws Qd Q I r ⟨w, b, l, rfl, hs, q⟩ k
  obtain ⟨v, rfl, rv⟩ := rws1 r
  obtain ⟨a, xs, rfl, hq, rs⟩ := seq_at I rv hs
  refine ⟨a, xs, rfl, ?_, fun z hz => k.olst I hz rs q⟩
  cases b with
  | false => exact .inl hq
  | true => exact .inr hq
/-- sum, any, all, max, min of lists of plain data -/
def ints? : List PyData → Option (List Int)
  | [] => some []
  | .int i :: r => (ints? r).map (i :: ·)
  | _ :: _ => none
theorem ints_of : ∀ {ds : List PyData} {ns : List Int}, ints? ds = some ns → ds = ns.map .int
  | [], _, h => by cases h; rfl
  | d :: r, ns, h => by
    cases d <;> try (cases h; done)
    unfold ints? at h
    cases z : ints? r with
    | none => rw [z] at h; cases h
    | some es => rw [z] at h; cases h; rw [List.map_cons, ← ints_of z]
theorem ints_map (ns : List Int) : ints? (ns.map .int) = some ns := by
  induction ns with
  | nil => rfl
  | cons n r ih => rw [List.map_cons, ints?, ih]; rfl
def bools? : List PyData → Option (List Bool)
  | [] => some []
  | .bool i :: r => (bools? r).map (i :: ·)
  | _ :: _ => none
theorem bools_of : ∀ {ds : List PyData} {ns : List Bool}, bools? ds = some ns → ds = ns.map .bool
  | [], _, h => by cases h; rfl
  | d :: r, ns, h => by
    cases d <;> try (cases h; done)
    unfold bools? at h
    cases z : bools? r with
    | none => rw [z] at h; cases h
    | some es => rw [z] at h; cases h; rw [List.map_cons, ← bools_of z]
theorem bools_map (ns : List Bool) : bools? (ns.map .bool) = some ns := by
  induction ns with
  | nil => rfl
  | cons n r ih => rw [List.map_cons, bools?, ih]; rfl
def strs? : List PyData → Option (List Str)
  | [] => some []
  | .str i :: r => (strs? r).map (i :: ·)
  | _ :: _ => none
theorem strs_of : ∀ {ds : List PyData} {ns : List Str}, strs? ds = some ns → ds = ns.map .str
  | [], _, h => by cases h; rfl
  | d :: r, ns, h => by
    cases d <;> try (cases h; done)
    unfold strs? at h
    cases z : strs? r with
    | none => rw [z] at h; cases h
    | some es => rw [z] at h; cases h; rw [List.map_cons, ← strs_of z]
theorem strs_map (ns : List Str) : strs? (ns.map .str) = some ns := by
  induction ns with
  | nil => rfl
  | cons n r ih => rw [List.map_cons, strs?, ih]; rfl
theorem dq_ints {F : Hp} : ∀ {vs : List V} {ns : List Int}, Paired (Dq F) vs (ns.map .int) → vs = ns.map .int
  | _, [], .nil => rfl
  | _, _ :: _, .cons h t => by cases h; rw [dq_ints t]; rfl
theorem dq_bools {F : Hp} : ∀ {vs : List V} {ns : List Bool}, Paired (Dq F) vs (ns.map .bool) → vs = ns.map .bl
  | _, [], .nil => rfl
  | _, _ :: _, .cons h t => by cases h; rw [dq_bools t]; rfl
theorem dq_strs {F : Hp} : ∀ {vs : List V} {ns : List Str}, Paired (Dq F) vs (ns.map .str) → vs = ns.map .str
  | _, [], .nil => rfl
  | _, _ :: _, .cons h t => by cases h; rw [dq_strs t]; rfl
theorem ints_dq {F : Hp} (ns : List Int) : Paired (Dq F) (ns.map V.int) (ns.map .int) := by
  induction ns with
  | nil => exact .nil
  | cons n r ih => exact .cons (.int n) ih
theorem strs_dq {F : Hp} (ns : List Str) : Paired (Dq F) (ns.map V.str) (ns.map .str) := by
  induction ns with
  | nil => exact .nil
  | cons n r ih => exact .cons (.str n) ih
/-- the one argument is a list of data -/
def one (ws : List Wv) (S : Sto) : Option (List PyData) := match ws with
  | [.d (.list l)] => some l
  | [.o k] => match S[k]? with
    | some (.lst l) => allD l
    | _ => none
  | _ => none
theorem one_at {K : PySem.W.Frag} {G F H : Hp} {μ : List Addr} {S : Sto} {vs : List V} {ws : List Wv} {l : List PyData} (I : SI K G μ S F H) (r : RWs K F μ vs ws) (h : one ws S = some l) : ∃ a xs, vs = [.ref a] ∧ H a = some (.lst xs) ∧ Paired (Dq F) xs l := by
  unfold one at h
  split at h
  · cases h
    obtain ⟨v, rfl, rv⟩ := rws1 r
    obtain ⟨p, xs, rfl, ea, pa⟩ := of_lst rv
    exact ⟨p, xs, rfl, I.fr _ _ ea, pa⟩
  · split at h
    · rename_i e
      obtain ⟨v, rfl, rv⟩ := rws1 r
      obtain ⟨p, rfl, _, ⟨xs, ex, rs⟩, _⟩ := I.ref rv e
      rw [allD_of h] at rs
      exact ⟨p, xs, rfl, ex, d_rws rs⟩
    · cases h
  · cases h
def cSum : DRC := fun ws S Q => ∃ l ns, one ws S = some l ∧ ints? l = some ns ∧ Q (.d (.int ns.sum)) S
theorem dc_sum (hc : X.calm = true) : DCallR X (.builtin "sum") cSum := by
  refine ⟨_, cr_sum hc, ?_⟩
  rintro G μ F S H vs ws Qd Q I r ⟨l, ns, h1, h2, q⟩ k
  obtain ⟨a, xs, rfl, e, p⟩ := one_at I r h1
  obtain rfl := ints_of h2
  obtain rfl := dq_ints p
  exact ⟨a, ns, rfl, .inl (.inl e), k.int I q⟩
def cAny : DRC := fun ws S Q => ∃ l ns, one ws S = some l ∧ bools? l = some ns ∧ Q (.d (.bool (ns.any id))) S
theorem dc_any (hc : X.calm = true) : DCallR X (.builtin "any") cAny := by
  refine ⟨_, cr_any hc, ?_⟩
  rintro G μ F S H vs ws Qd Q I r ⟨l, ns, h1, h2, q⟩ k
  obtain ⟨a, xs, rfl, e, p⟩ := one_at I r h1
  obtain rfl := bools_of h2
  obtain rfl := dq_bools p
  exact ⟨a, ns, rfl, .inl (.inl e), k.bl I q⟩
def cAll : DRC := fun ws S Q => ∃ l ns, one ws S = some l ∧ bools? l = some ns ∧ Q (.d (.bool (ns.all id))) S
theorem dc_all (hc : X.calm = true) : DCallR X (.builtin "all") cAll := by
  refine ⟨_, cr_all hc, ?_⟩
  rintro G μ F S H vs ws Qd Q I r ⟨l, ns, h1, h2, q⟩ k
  obtain ⟨a, xs, rfl, e, p⟩ := one_at I r h1
  obtain rfl := bools_of h2
  obtain rfl := dq_bools p
  exact ⟨a, ns, rfl, .inl (.inl e), k.bl I q⟩
def cMaxL : DRC := fun ws S Q => ∃ l ns, one ws S = some l ∧ ints? l = some ns ∧ 0 < ns.length ∧ ∀ m, m ∈ ns → (∀ y, y ∈ ns → y ≤ m) → Q (.d (.int m)) S
theorem dc_maxL (hc : X.calm = true) : DCallR X (.builtin "max") cMaxL := by
  refine ⟨_, cr_max hc, ?_⟩
  rintro G μ F S H vs ws Qd Q I r ⟨l, ns, h1, h2, h0, q⟩ k
  obtain ⟨a, xs, rfl, e, p⟩ := one_at I r h1
  obtain rfl := ints_of h2
  obtain rfl := dq_ints p
  exact ⟨a, ns, rfl, .inl (.inl e), h0, fun m m1 m2 => k.int I (q m m1 m2)⟩
def cMinL : DRC := fun ws S Q => ∃ l ns, one ws S = some l ∧ ints? l = some ns ∧ 0 < ns.length ∧ ∀ m, m ∈ ns → (∀ y, y ∈ ns → m ≤ y) → Q (.d (.int m)) S
theorem dc_minL (hc : X.calm = true) : DCallR X (.builtin "min") cMinL := by
  refine ⟨_, cr_min hc, ?_⟩
  rintro G μ F S H vs ws Qd Q I r ⟨l, ns, h1, h2, h0, q⟩ k
  obtain ⟨a, xs, rfl, e, p⟩ := one_at I r h1
  obtain rfl := ints_of h2
  obtain rfl := dq_ints p
  exact ⟨a, ns, rfl, .inl (.inl e), h0, fun m m1 m2 => k.int I (q m m1 m2)⟩
def cSortI : DRC := fun ws S Q => ∃ l ns, one ws S = some l ∧ ints? l = some ns ∧ ns.length < 64 ∧ ∀ ns' : List Int, ns'.Perm ns → ns'.Pairwise (· ≤ ·) → Q (.d (.list (ns'.map .int))) S
theorem dc_sortI : DCallR X (.builtin "sorted") cSortI := by
  refine ⟨_, cr_sorted, ?_⟩
  rintro G μ F S H vs ws Qd Q I r ⟨l, ns, h1, h2, h0, q⟩ k
  obtain ⟨a, xs, rfl, e, p⟩ := one_at I r h1
  obtain rfl := ints_of h2
  obtain rfl := dq_ints p
  exact ⟨a, ns, rfl, .inl (.inl e), h0, fun ns' p m1 m2 hp => k.lst I hp (ints_dq ns') (q ns' m1 m2)⟩
def cSortS : DRC := fun ws S Q => ∃ l ns, one ws S = some l ∧ strs? l = some ns ∧ ns.length < 64 ∧ ∀ ns' : List Str, ns'.Perm ns → sortedS ns' = true → Q (.d (.list (ns'.map .str))) S
theorem dc_sortS : DCallR X (.builtin "sorted") cSortS := by
  refine ⟨_, cr_sortedS, ?_⟩
  rintro G μ F S H vs ws Qd Q I r ⟨l, ns, h1, h2, h0, q⟩ k
  obtain ⟨a, xs, rfl, e, p⟩ := one_at I r h1
  obtain rfl := strs_of h2
  obtain rfl := dq_strs p
  exact ⟨a, ns, rfl, .inl (.inl e), h0, fun ns' p m1 m2 hp => k.lst I hp (strs_dq ns') (q ns' m1 m2)⟩
/-- the same, the new list owned -/
theorem rws_ints {K : PySem.W.Frag} {F : Hp} {μ : List Addr} (ns : List Int) : RWs K F μ (ns.map V.int) (ns.map fun i => .d (.int i)) := by
  induction ns with
  | nil => exact .nil
  | cons n r ih => exact .cons (.d (.int n)) ih
theorem rws_strs {K : PySem.W.Frag} {F : Hp} {μ : List Addr} (ns : List Str) : RWs K F μ (ns.map V.str) (ns.map fun i => .d (.str i)) := by
  induction ns with
  | nil => exact .nil
  | cons n r ih => exact .cons (.d (.str n)) ih
def cSortIO : DRC := fun ws S Q => ∃ l ns, one ws S = some l ∧ ints? l = some ns ∧ ns.length < 64 ∧ ∀ ns' : List Int, ns'.Perm ns → ns'.Pairwise (· ≤ ·) → Q (.o S.length) (S ++ [.lst (ns'.map fun i => .d (.int i))])
theorem dc_sortIO : DCallR X (.builtin "sorted") cSortIO := by
  refine ⟨_, cr_sorted, ?_⟩
  rintro G μ F S H vs ws Qd Q I r ⟨l, ns, h1, h2, h0, q⟩ k
  obtain ⟨a, xs, rfl, e, p⟩ := one_at I r h1
  obtain rfl := ints_of h2
  obtain rfl := dq_ints p
  exact ⟨a, ns, rfl, .inl (.inl e), h0, fun ns' p m1 m2 hp => k.olst I hp (rws_ints ns') (q ns' m1 m2)⟩
def cSortSO : DRC := fun ws S Q => ∃ l ns, one ws S = some l ∧ strs? l = some ns ∧ ns.length < 64 ∧ ∀ ns' : List Str, ns'.Perm ns → sortedS ns' = true → Q (.o S.length) (S ++ [.lst (ns'.map fun i => .d (.str i))])
theorem dc_sortSO : DCallR X (.builtin "sorted") cSortSO := by
  refine ⟨_, cr_sortedS, ?_⟩
  rintro G μ F S H vs ws Qd Q I r ⟨l, ns, h1, h2, h0, q⟩ k
  obtain ⟨a, xs, rfl, e, p⟩ := one_at I r h1
  obtain rfl := strs_of h2
  obtain rfl := dq_strs p
  exact ⟨a, ns, rfl, .inl (.inl e), h0, fun ns' p m1 m2 hp => k.olst I hp (rws_strs ns') (q ns' m1 m2)⟩
end
end Dm

namespace Dm
open PySem L2 PySem.Spec PyProof.Rows

/-! ### targets -/
abbrev DTG := Wv → Rho → Sto → (Rho → Sto → Prop) → Prop
def SimG (K : PySem.W.Frag) (vs : List Nat) (g : TG) (f : DTG) : Prop := ∀ (G : Hp) (μ : List Addr) (F : Hp) (S : Sto) (H : Hp) (σ : L2.St) (ρ : Rho) (x : V) (w : Wv) (Qd : Rho → Sto → Prop) (Q : L2.St → Hp → Prop), SI K G μ S F H → ER K F μ σ ρ → RW K F μ x w → f w ρ S Qd →
  (∀ μ' F' S' H' σ' ρ', Ext μ F μ' F' → SI K G μ' S' F' H' → ER K F' μ' σ' ρ' → wipe σ' vs = wipe σ vs → Qd ρ' S' → Q σ' H') → g x σ H Q
def DG (X : Cx) (tg : Expr) (vs : List Nat) (f : DTG) : Prop := ∃ g, PG X tg g ∧ SimG X.K vs g f
abbrev DTGs := List Wv → Rho → Sto → (Rho → Sto → Prop) → Prop
def SimGs (K : PySem.W.Frag) (vs : List Nat) (g : TGs) (f : DTGs) : Prop := ∀ (G : Hp) (μ : List Addr) (F : Hp) (S : Sto) (H : Hp) (σ : L2.St) (ρ : Rho) (x : List V) (w : List Wv) (Qd : Rho → Sto → Prop) (Q : L2.St → Hp → Prop), SI K G μ S F H → ER K F μ σ ρ → RWs K F μ x w → f w ρ S Qd →
  (∀ μ' F' S' H' σ' ρ', Ext μ F μ' F' → SI K G μ' S' F' H' → ER K F' μ' σ' ρ' → wipe σ' vs = wipe σ vs → Qd ρ' S' → Q σ' H') → g x σ H Q
def DGs (X : Cx) (tg : List Expr) (vs : List Nat) (f : DTGs) : Prop := ∃ g, PGs X tg g ∧ SimGs X.K vs g f
theorem wipe_set {σ : L2.St} {i : Nat} {v : Option V} : ∀ {vs : List Nat}, i ∈ vs → wipe (σ.set i v) vs = wipe σ vs
  | j :: vs, h => by
    unfold wipe
    have comm : ∀ vs : List Nat, i ∉ vs → wipe (σ.set i v) vs = (wipe σ vs).set i v := by
      intro vs
      induction vs with
      | nil => intro _; rfl
      | cons u us ih =>
        intro h
        unfold wipe
        rw [ih (fun z => h (List.mem_cons_of_mem _ z)), List.set_comm]
        exact fun z => h (z ▸ List.mem_cons_self)
    by_cases hm : i ∈ vs
    · rw [wipe_set hm]
    · rw [comm vs hm]
      rcases List.mem_cons.mp h with rfl | z
      · rw [List.set_set]
      · exact absurd z hm
def dwipe (ρ : Rho) : List Nat → Rho
  | [] => ρ
  | v :: vs => (dwipe ρ vs).set v none
theorem ER.none {K : PySem.W.Frag} {F : Hp} {μ : List Addr} {σ : L2.St} {ρ : Rho} (h : ER K F μ σ ρ) (i : Nat) : ER K F μ (σ.set i Option.none) (ρ.set i Option.none) := by
  refine ⟨by simpa using h.len, fun j u q => ?_⟩
  by_cases e : i = j
  · subst e
    rw [List.getElem?_set_self'] at q
    cases z : ρ[i]? with
    | none => rw [z] at q; cases q
    | some _ => rw [z] at q; cases q
  · rw [List.getElem?_set_ne e] at q
    obtain ⟨u', a, b⟩ := h.val j u q
    exact ⟨u', by rw [List.getElem?_set_ne e]; exact a, b⟩
theorem ER.wipe {K : PySem.W.Frag} {F : Hp} {μ : List Addr} {σ : L2.St} {ρ : Rho} (h : ER K F μ σ ρ) : ∀ vs : List Nat, ER K F μ (L2.wipe σ vs) (dwipe ρ vs)
  | [] => h
  | v :: vs => (ER.wipe h vs).none v
def dgName (i : Nat) : DTG := fun w ρ S Q => Q (ρ.set i (some w)) S
def dgNil : DTGs := fun ws ρ S Q => ws = [] ∧ Q ρ S
def dgCons (f : DTG) (g : DTGs) : DTGs := fun ws ρ S Q => ∃ w r, ws = w :: r ∧ f w ρ S fun ρ' S' => g r ρ' S' Q
/-- the items of a tuple -/
def tupOf (w : Wv) (S : Sto) : Option (List Wv) := match w with
  | .d (.tuple ds) => some (ds.map .d)
  | .c (.tuple ds) => some (ds.map cw)
  | .o k => match S[k]? with
    | some (.tup ws) => some ws
    | _ => none
  | _ => none
def dgTup (n : Nat) (f : DTGs) : DTG := fun w ρ S Q => ∃ ws, tupOf w S = some ws ∧ ws.length = n ∧ f ws ρ S Q
theorem tup_at {K : PySem.W.Frag} {G F H : Hp} {μ : List Addr} {S : Sto} {v : V} {w : Wv} {ws : List Wv} (I : SI K G μ S F H) (r : RW K F μ v w) (h : tupOf w S = some ws) : ∃ a xs, v = .ref a ∧ SqT K H a xs ∧ RWs K F μ xs ws := by
  unfold tupOf at h
  split at h
  · cases h; exact seq_at I r (.dt _)
  · cases h; exact seq_at I r (.ct _)
  · split at h
    · rename_i e; cases h; exact seq_at I r (.ot e)
    · cases h
  · cases h
section
variable {X : Cx} {pos : Pos} {vs : List Nat}
theorem dg_name (i : Nat) {x : Str} (hN : X.N.Nodup) (hi : X.N[i]? = some x) (hx : Loc X.env.scope x) (hv : i ∈ vs) (hf : X.fn x = true ∨ X.env.scope.names.lookup x = some .local := by first | exact .inl rfl | exact .inr rfl | assumption) : DG X (.Name x pos) vs (dgName i) :=
  ⟨_, pg_name hN hi hx hf, fun G μ F S H σ ρ x w Qd Q I R r h k => k μ F S H _ _ Ext.refl I (R.set i r) (wipe_set hv) h⟩
theorem dgs_nil : DGs X [] vs dgNil := by
  refine ⟨_, pgs_nil, ?_⟩
  rintro G μ F S H σ ρ x w Qd Q I R r ⟨rfl, h⟩ k
  cases r
  exact ⟨rfl, k μ F S H _ _ Ext.refl I R rfl h⟩
theorem dgs_cons {e : Expr} {es : List Expr} {f : DTG} {g : DTGs} (h1 : DG X e vs f) (h2 : DGs X es vs g)
    (hs : (assignEach (e :: es) X.env).map (·.2) = assign e X.env :: (assignEach es X.env).map (·.2) := by rfl) : DGs X (e :: es) vs (dgCons f g) := by
  obtain ⟨_, a1, a2⟩ := h1
  obtain ⟨_, b1, b2⟩ := h2
  refine ⟨_, pgs_cons a1 b1 hs, ?_⟩
  rintro G μ F S H σ ρ x w Qd Q I R r ⟨u, us, rfl, h⟩ k
  cases r with
  | cons r rr =>
    refine ⟨_, _, rfl, a2 G μ F S H σ ρ _ _ _ _ I R r h fun μ1 F1 S1 H1 σ1 ρ1 e1 I1 R1 w1 z1 => b2 G μ1 F1 S1 H1 σ1 ρ1 _ _ _ _ I1 R1 (RWs.mono e1 rr) z1 fun μ2 F2 S2 H2 σ2 ρ2 e2 I2 R2 w2 z2 => k _ _ _ _ _ _ (e1.trans e2) I2 R2 (w2.trans w1) z2⟩
theorem dg_tup {es : List Expr} {k n : Nat} {f : DTGs} (hc : X.calm = true) (h : DGs X es vs f)
    (hn : (assignEach es X.env).length = n := by rfl) (hst : (assignEach es X.env).findIdx? (·.1) = none := by rfl) : DG X (.Tuple es k pos) vs (dgTup n f) := by
  obtain ⟨_, a1, a2⟩ := h
  refine ⟨_, pg_tup hc a1 hn hst, ?_⟩
  rintro G μ F S H σ ρ x w Qd Q I R r ⟨ws, e, hl, h⟩ k
  obtain ⟨a, xs, rfl, hq, rs⟩ := tup_at I r e
  exact ⟨a, xs, rfl, hq, by rw [rs.length]; exact hl, a2 G μ F S H σ ρ _ _ _ _ I R rs h k⟩
end

/-! ### what is walked -/
abbrev DTI := Rho → Sto → (List Wv → (Sto → Prop) → Sto → Prop) → Prop
/-- the iterator J yields these items while keep holds of the store -/
def ItOk (K : PySem.W.Frag) (J : It) (items : List Wv) (keep : Sto → Prop) (μ : List Addr) (F : Hp) : Prop :=
  ∀ (G2 : Hp) (i : Nat) (μ2 : List Addr) (F2 : Hp) (S2 : Sto) (H2 : Hp), Ext μ F μ2 F2 → SI K G2 μ2 S2 F2 H2 → keep S2 →
    (i < items.length → J.go i H2 ∧ ∀ x H', J.yld i H2 x H' → ∃ F3 w, Ext μ2 F2 μ2 F3 ∧ SI K G2 μ2 S2 F3 H' ∧ items[i]? = some w ∧ RW K F3 μ2 x w) ∧ (items.length ≤ i → J.stop i H2)
def SimI (K : PySem.W.Frag) (wi : TI) (f : DTI) : Prop := ∀ (G : Hp) (μ : List Addr) (F : Hp) (S : Sto) (H : Hp) (σ : L2.St) (ρ : Rho) (R : List Wv → (Sto → Prop) → Sto → Prop) (Q : It → Hp → Prop), SI K G μ S F H → ER K F μ σ ρ → f ρ S R →
  (∀ μ' F' S' H' J items keep, Ext μ F μ' F' → SI K G μ' S' F' H' → ItOk K J items keep μ' F' → R items keep S' → Q J H') → wi σ H Q
def DI (X : Cx) (tg iter : Expr) (f : DTI) : Prop := ∃ wi, PI X tg iter wi ∧ SimI X.K wi f
def anyS : Sto → Prop := fun _ => True
/-- a list, a tuple -/
def srcSeq (b : Bool) (w : Wv) (S1 : Sto) (R : List Wv → (Sto → Prop) → Sto → Prop) : Prop :=
  match w, b with
  | .d (.list ds), false => R (ds.map .d) anyS S1
  | .d (.tuple ds), true => R (ds.map .d) anyS S1
  | .c (.list ds), false => R (ds.map cw) anyS S1
  | .c (.tuple ds), true => R (ds.map cw) anyS S1
  | .o k, false => ∃ ws, S1[k]? = some (.lst ws) ∧ R ws (fun S => S[k]? = some (.lst ws)) S1
  | _, _ => False
def diSeq (b : Bool) (f : DTE) : DTI := fun ρ S R => f ρ S fun w S1 => srcSeq b w S1 R
section
variable {K : PySem.W.Frag} {μ : List Addr} {F : Hp}
theorem itok_list {a : Addr} {xs : List V} {ws : List Wv} {keep : Sto → Prop} (h : ∀ (G2 : Hp) (μ2 : List Addr) (F2 : Hp) (S2 : Sto) (H2 : Hp), Ext μ F μ2 F2 → SI K G2 μ2 S2 F2 H2 → keep S2 → ∃ xs, SqL K H2 a xs ∧ RWs K F2 μ2 xs ws) : ItOk K (Itl K a) ws keep μ F := by
  intro G2 i μ2 F2 S2 H2 e I hk
  obtain ⟨xs, hs, rs⟩ := h G2 μ2 F2 S2 H2 e I hk
  refine ⟨fun hi => ?_, fun hi => ⟨xs, hs, by rw [rs.length]; exact hi⟩⟩
  have hw : ws[i]? = some ws[i] := List.getElem?_eq_getElem hi
  obtain ⟨v, hv, rv⟩ := paired_get rs hw
  refine ⟨⟨xs, v, hs, hv⟩, ?_⟩
  rintro x H' ⟨rfl, hx⟩
  have : some v = some x := hv.symm.trans (hx xs hs)
  cases this
  exact ⟨F2, _, Ext.refl, I, hw, rv⟩
theorem itok_tup {a : Addr} {xs : List V} {ws : List Wv} {keep : Sto → Prop} (h : ∀ (G2 : Hp) (μ2 : List Addr) (F2 : Hp) (S2 : Sto) (H2 : Hp), Ext μ F μ2 F2 → SI K G2 μ2 S2 F2 H2 → keep S2 → ∃ xs, SqT K H2 a xs ∧ RWs K F2 μ2 xs ws) : ItOk K (Itt K a) ws keep μ F := by
  intro G2 i μ2 F2 S2 H2 e I hk
  obtain ⟨xs, hs, rs⟩ := h G2 μ2 F2 S2 H2 e I hk
  refine ⟨fun hi => ?_, fun hi => ⟨xs, hs, by rw [rs.length]; exact hi⟩⟩
  have hw : ws[i]? = some ws[i] := List.getElem?_eq_getElem hi
  obtain ⟨v, hv, rv⟩ := paired_get rs hw
  refine ⟨⟨xs, v, hs, hv⟩, ?_⟩
  rintro x H' ⟨rfl, hx⟩
  have : some v = some x := hv.symm.trans (hx xs hs)
  cases this
  exact ⟨F2, _, Ext.refl, I, hw, rv⟩
end
section
variable {X : Cx} {tg iter e : Expr} {fe : DTE}
theorem di_list (h : DE X e fe) : DI X tg e (diSeq false fe) := by
  obtain ⟨_, p, q⟩ := h
  refine ⟨_, pi_list p, fun G μ F S H σ ρ R Q I RR z k => q G μ F S H σ ρ _ _ I RR z ?_⟩
  intro μ1 F1 S1 H1 v w e1 I1 r1 z1
  unfold srcSeq at z1
  split at z1
  · obtain ⟨a, xs, rfl, ea, pa⟩ := of_lst r1
    exact ⟨a, rfl, ⟨xs, .inl (.inl (I1.fr _ _ ea))⟩, k _ _ _ _ _ _ _ e1 I1 (itok_list (xs := xs) fun G2 μ2 F2 S2 H2 e I hk => ⟨xs, .inl (.inl (I.fr _ _ (e.same _ _ ea))), (rws_d pa).mono e⟩) z1⟩
  · rename_i hb; cases hb
  · cases r1 with
    | c h => cases h with
      | lst hs ha =>
        rename_i ds _ a xs
        exact ⟨a, rfl, ⟨xs, I1.fr.seq hs⟩, k _ _ _ _ _ _ _ e1 I1 (itok_list (xs := xs) fun G2 μ2 F2 S2 H2 e I hk => ⟨xs, (e.same.trans I.fr).seq hs, (rws_c ha).mono e⟩) z1⟩
  · rename_i hb; cases hb
  · obtain ⟨ws, ek, z1⟩ := z1
    obtain ⟨a, rfl, hk, ⟨xs, ex, rs⟩, _⟩ := I1.ref r1 ek
    refine ⟨a, rfl, ⟨xs, .inl (.inl ex)⟩, k _ _ _ _ _ _ _ e1 I1 (itok_list (xs := xs) fun G2 μ2 F2 S2 H2 e I hk2 => ?_) z1⟩
    obtain ⟨⟨xs2, ex2, rs2⟩, _⟩ := I.cell _ _ _ (pre_get e.pre hk) hk2
    exact ⟨xs2, .inl (.inl ex2), rs2⟩
  · exact z1.elim
theorem di_tup (h : DE X e fe) : DI X tg e (diSeq true fe) := by
  obtain ⟨_, p, q⟩ := h
  refine ⟨_, pi_tup p, fun G μ F S H σ ρ R Q I RR z k => q G μ F S H σ ρ _ _ I RR z ?_⟩
  intro μ1 F1 S1 H1 v w e1 I1 r1 z1
  unfold srcSeq at z1
  split at z1
  · rename_i hb; cases hb
  · obtain ⟨a, xs, rfl, ea, pa⟩ := of_tup r1
    exact ⟨a, rfl, ⟨xs, .inl (.inl (I1.fr _ _ ea))⟩, k _ _ _ _ _ _ _ e1 I1 (itok_tup (xs := xs) fun G2 μ2 F2 S2 H2 e I hk => ⟨xs, .inl (.inl (I.fr _ _ (e.same _ _ ea))), (rws_d pa).mono e⟩) z1⟩
  · rename_i hb; cases hb
  · cases r1 with
    | c h => cases h with
      | tup hs ha =>
        rename_i ds _ a xs
        exact ⟨a, rfl, ⟨xs, same_t I1.fr hs⟩, k _ _ _ _ _ _ _ e1 I1 (itok_tup (xs := xs) fun G2 μ2 F2 S2 H2 e I hk => ⟨xs, same_t (e.same.trans I.fr) hs, (rws_c ha).mono e⟩) z1⟩
  · rename_i hb; cases hb
  · exact z1.elim
/-- range -/
def rangeW (lo : Int) (n : Nat) : List Wv := (List.range n).map fun i => .d (.int (lo + (i : Nat)))
theorem itok_range {K : PySem.W.Frag} {μ : List Addr} {F : Hp} (lo : Int) (n : Nat) : ItOk K (Itr lo n) (rangeW lo n) anyS μ F := by
  intro G2 i μ2 F2 S2 H2 e I hk
  have hl : (rangeW lo n).length = n := by simp [rangeW]
  rw [hl]
  refine ⟨fun hi => ⟨hi, ?_⟩, fun hi => hi⟩
  rintro x H' ⟨rfl, rfl⟩
  refine ⟨F2, .d (.int (lo + (i : Nat))), Ext.refl, I, ?_, .d (.int _)⟩
  unfold rangeW
  rw [List.getElem?_map, List.getElem?_range hi]
  rfl
def diRng1 (f : DTA) : DTI := fun ρ S R => f ρ S fun ws S1 => ∃ j : Int, ws = [.d (.int j)] ∧ j < 2 ^ 62 ∧ -(2 ^ 62) ≤ j ∧ R (rangeW 0 j.toNat) anyS S1
def diRng2 (f : DTA) : DTI := fun ρ S R => f ρ S fun ws S1 => ∃ i j : Int, ws = [.d (.int i), .d (.int j)] ∧ (-(2 ^ 62) ≤ i ∧ i < 2 ^ 62 ∧ -(2 ^ 62) ≤ j ∧ j < 2 ^ 62) ∧ R (rangeW i (j - i).toNat) anyS S1
theorem di_range1 {a : Expr} {fa : DTA} {p pos : Pos} (hg : Gl X "range") (hm : X.mg "range" = none) (ha : DA X [a] fa) (hs : starEach [a] X.env = [(false, eval a X.env)] := by rfl) : DI X tg (.Call (.Name "range" p) [a] [] pos) (diRng1 fa) := by
  obtain ⟨_, a1, a2⟩ := ha
  refine ⟨_, pi_range1 hg hm a1 hs, fun G μ F S H σ ρ R Q I RR z k => a2 G μ F S H σ ρ _ _ I RR z ?_⟩
  rintro μ1 F1 S1 H1 v w e1 I1 r1 ⟨j, rfl, h1, h2, z1⟩
  obtain ⟨u, rfl, ru⟩ := rws1 r1
  obtain rfl := of_int ru
  exact ⟨j, rfl, h2, h1, k _ _ _ _ _ _ _ e1 I1 (itok_range 0 _) z1⟩
theorem di_range2 {a b : Expr} {fa : DTA} {p pos : Pos} (hg : Gl X "range") (hm : X.mg "range" = none) (ha : DA X [a, b] fa) (hs : starEach [a, b] X.env = [(false, eval a X.env), (false, eval b X.env)] := by rfl) (hs2 : starEach [b] X.env = [(false, eval b X.env)] := by rfl) :
    DI X tg (.Call (.Name "range" p) [a, b] [] pos) (diRng2 fa) := by
  obtain ⟨_, a1, a2⟩ := ha
  refine ⟨_, pi_range2 hg hm a1 hs hs2, fun G μ F S H σ ρ R Q I RR z k => a2 G μ F S H σ ρ _ _ I RR z ?_⟩
  rintro μ1 F1 S1 H1 v w e1 I1 r1 ⟨i, j, rfl, h1, z1⟩
  obtain ⟨u, x, rfl, ru, rx⟩ := rws2 r1
  obtain rfl := of_int ru
  obtain rfl := of_int rx
  exact ⟨i, j, rfl, h1, k _ _ _ _ _ _ _ e1 I1 (itok_range _ _) z1⟩
/-- a text, sign by sign -/
def diStr (f : DTE) : DTI := fun ρ S R => f ρ S fun w S1 => ∃ z, w = .d (.str z) ∧ R (z.cps.toList.map fun c => .d (.str ⟨#[c]⟩)) anyS S1
theorem di_str (h : DE X e fe) : DI X tg e (diStr fe) := by
  obtain ⟨_, p, q⟩ := h
  refine ⟨_, pi_str p, fun G μ F S H σ ρ R Q I RR z k => q G μ F S H σ ρ _ _ I RR z ?_⟩
  rintro μ1 F1 S1 H1 v w e1 I1 r1 ⟨z, rfl, z1⟩
  obtain rfl := of_str r1
  refine ⟨z, rfl, k _ _ _ _ _ _ _ e1 I1 ?_ z1⟩
  intro G2 i μ2 F2 S2 H2 e I hk
  refine ⟨fun hi => ⟨(show i < z.cps.size by simpa using hi), ?_⟩, fun hi => (show z.cps.size ≤ i by simpa using hi)⟩
  rintro x H' ⟨rfl, c, hc, rfl⟩
  refine ⟨F2, .d (.str ⟨#[c]⟩), Ext.refl, I, ?_, .d (.str _)⟩
  rw [List.getElem?_map, Array.getElem?_toList, hc]
  rfl
/-- zip(xs, ys), enumerate(xs): lists of data -/
def diZip (f : DTA) : DTI := fun ρ S R => f ρ S fun ws S1 => ∃ xs ys, ws = [.d (.list xs), .d (.list ys)] ∧ R ((List.zipWith (fun a b => PyData.tuple [a, b]) xs ys).map .d) anyS S1
theorem di_zip {e2 : Expr} {fa : DTA} {p pos tpos : Pos} {elts : List Expr} {kk : Nat} (hg : Gl X "zip") (hm : X.mg "zip" = none) (ha : DA X [e, e2] fa)
    (hs : starEach [e, e2] X.env = (false, eval e X.env) :: starEach [e2] X.env := by rfl) (hpl : (backTo pos (starEach [e2] X.env)).any (·.1) = false := by rfl) :
    DI X (.Tuple elts kk tpos) (.Call (.Name "zip" p) [e, e2] [] pos) (diZip fa) := by
  obtain ⟨_, a1, a2⟩ := ha
  refine ⟨_, pi_zip hg hm a1 hs hpl, fun G μ F S H σ ρ R Q I RR z k => a2 G μ F S H σ ρ _ _ I RR z ?_⟩
  rintro μ1 F1 S1 H1 v w e1 I1 r1 ⟨ds, es, rfl, z1⟩
  obtain ⟨u, x, rfl, ru, rx⟩ := rws2 r1
  obtain ⟨a, xs, rfl, ea, pa⟩ := of_lst ru
  obtain ⟨b, ys, rfl, eb, pb⟩ := of_lst rx
  refine ⟨a, b, xs, ys, rfl, .inl (.inl (I1.fr _ _ ea)), .inl (.inl (I1.fr _ _ eb)), k _ _ _ _ _ _ _ e1 I1 ?_ z1⟩
  intro G2 i μ2 F2 S2 H2 e I hk
  have s1 : SqL X.K H2 a xs := .inl (.inl (I.fr _ _ (e.same _ _ ea)))
  have s2 : SqL X.K H2 b ys := .inl (.inl (I.fr _ _ (e.same _ _ eb)))
  have l1 := pa.length
  have l2 := pb.length
  rw [List.length_map, List.length_zipWith]
  refine ⟨fun hi => ?_, fun hi => ⟨xs, ys, s1, s2, by omega⟩⟩
  have hx : ds[i]? = some ds[i] := List.getElem?_eq_getElem (by omega)
  have hy : es[i]? = some es[i] := List.getElem?_eq_getElem (by omega)
  obtain ⟨v1, h1, r1⟩ := paired_get pa hx
  obtain ⟨v2, h2, r2⟩ := paired_get pb hy
  refine ⟨⟨xs, ys, v1, v2, s1, s2, h1, h2⟩, ?_⟩
  rintro v H' ⟨T, x, y, rfl, hT, rfl, hx', hy'⟩
  have q1 : some v1 = some x := h1.symm.trans (hx' xs s1)
  have q2 : some v2 = some y := h2.symm.trans (hy' ys s2)
  cases q1
  cases q2
  obtain ⟨I2, e2⟩ := I.data (o := .tup [v1, v2]) hT
  refine ⟨_, .d (.tuple [ds[i], es[i]]), e2, I2, ?_, .d (.tup upd_same (.cons (dq_mono (e.trans e2).same _ r1) (.cons (dq_mono (e.trans e2).same _ r2) .nil)))⟩
  rw [List.getElem?_map, List.getElem?_zipWith, hx, hy]
  rfl
def enumP (ds : List PyData) : List PyData := ds.zipIdx.map fun p => .tuple [.int (p.2 : Nat), p.1]
def diEnum (f : DTA) : DTI := fun ρ S R => f ρ S fun ws S1 => ∃ xs, ws = [.d (.list xs)] ∧ R ((enumP xs).map .d) anyS S1
theorem di_enum {fa : DTA} {p pos tpos : Pos} {elts : List Expr} {kk : Nat} (hg : Gl X "enumerate") (hm : X.mg "enumerate" = none) (ha : DA X [e] fa) (hs : starEach [e] X.env = [(false, eval e X.env)] := by rfl) :
    DI X (.Tuple elts kk tpos) (.Call (.Name "enumerate" p) [e] [] pos) (diEnum fa) := by
  obtain ⟨_, a1, a2⟩ := ha
  refine ⟨_, pi_enum hg hm a1 hs, fun G μ F S H σ ρ R Q I RR z k => a2 G μ F S H σ ρ _ _ I RR z ?_⟩
  rintro μ1 F1 S1 H1 v w e1 I1 r1 ⟨ds, rfl, z1⟩
  obtain ⟨u, rfl, ru⟩ := rws1 r1
  obtain ⟨a, xs, rfl, ea, pa⟩ := of_lst ru
  refine ⟨a, xs, rfl, .inl (.inl (I1.fr _ _ ea)), k _ _ _ _ _ _ _ e1 I1 ?_ z1⟩
  intro G2 i μ2 F2 S2 H2 e I hk
  have s1 : SqL X.K H2 a xs := .inl (.inl (I.fr _ _ (e.same _ _ ea)))
  have l1 := pa.length
  have hl : ((enumP ds).map Wv.d).length = ds.length := by simp [enumP]
  rw [hl]
  refine ⟨fun hi => ?_, fun hi => ⟨xs, s1, by omega⟩⟩
  have hx : ds[i]? = some ds[i] := List.getElem?_eq_getElem (by omega)
  obtain ⟨v1, h1, r1⟩ := paired_get pa hx
  refine ⟨⟨xs, v1, s1, h1⟩, ?_⟩
  rintro v H' ⟨T, x, rfl, hT, rfl, hx'⟩
  have q1 : some v1 = some x := h1.symm.trans (hx' xs s1)
  cases q1
  obtain ⟨I2, e2⟩ := I.data (o := .tup [.int (i : Nat), v1]) hT
  refine ⟨_, .d (.tuple [.int (i : Nat), ds[i]]), e2, I2, ?_, .d (.tup upd_same (.cons (.int _) (.cons (dq_mono (e.trans e2).same _ r1) .nil)))⟩
  unfold enumP
  rw [List.getElem?_map, List.getElem?_map, List.getElem?_zipIdx, hx]
  simp
end

/-! ### comprehensions -/
def tOf (K : PySem.W.Frag) (f : DTE) : TE := fun σ H Q => ∃ G μ F S ρ Qd, SI K G μ S F H ∧ ER K F μ σ ρ ∧ f ρ S Qd ∧ KE K G μ F Qd Q
theorem pe_tOf {X : Cx} {e : Expr} {f : DTE} (h : DE X e f) : PE X e (tOf X.K f) := by
  obtain ⟨t, p, q⟩ := h
  exact ⟨fun pins s σ H Q I ⟨G, μ, F, S, ρ, Qd, a, b, c, d⟩ => p.run pins s σ H Q I (q G μ F S H σ ρ Qd Q a b c d)⟩
theorem sim_tOf {K : PySem.W.Frag} {f : DTE} : SimE K (tOf K f) f := fun G μ F S H σ ρ Qd Q I R h k => ⟨G, μ, F, S, ρ, Qd, I, R, h, k⟩
/-- the tests of a comprehension -/
def DTs (X : Cx) (ifs : List Expr) (f : DTT) : Prop := ∃ t, PTs X ifs t ∧ SimT X.K t f
def dYes : DTT := fun _ S Q => Q true S
theorem dts_nil {X : Cx} : DTs X [] dYes := ⟨_, pts_nil, fun G μ F S H σ ρ Qd Q I R h k => k _ _ _ _ _ Ext.refl I h⟩
theorem dts_one {X : Cx} {c : Expr} {f : DTT} (h : DT X c f) : DTs X [c] f := let ⟨_, p, q⟩ := h; ⟨_, pts_one p, q⟩
def ttOf (K : PySem.W.Frag) (f : DTT) : TT := fun σ H Q => ∃ G μ F S ρ Qd, SI K G μ S F H ∧ ER K F μ σ ρ ∧ f ρ S Qd ∧ ∀ μ' F' S' H' b, Ext μ F μ' F' → SI K G μ' S' F' H' → Qd b S' → Q b H'
theorem pts_tOf {X : Cx} {e : List Expr} {f : DTT} (h : DTs X e f) : PTs X e (ttOf X.K f) := by
  obtain ⟨t, p, q⟩ := h
  exact ⟨fun pins s σ H Q I ⟨G, μ, F, S, ρ, Qd, a, b, c, d⟩ => p.run pins s σ H Q I (q G μ F S H σ ρ Qd Q a b c d)⟩
theorem sim_ttOf {K : PySem.W.Frag} {f : DTT} : SimT K (ttOf K f) f := fun G μ F S H σ ρ Qd Q I R h k => ⟨G, μ, F, S, ρ, Qd, I, R, h, k⟩
def gOf (K : PySem.W.Frag) (vs : List Nat) (f : DTG) : TG := fun x σ H Q => ∃ G μ F S ρ w Qd, SI K G μ S F H ∧ ER K F μ σ ρ ∧ RW K F μ x w ∧ f w ρ S Qd ∧ ∀ μ' F' S' H' σ' ρ', Ext μ F μ' F' → SI K G μ' S' F' H' → ER K F' μ' σ' ρ' → wipe σ' vs = wipe σ vs → Qd ρ' S' → Q σ' H'
theorem pg_gOf {X : Cx} {tg : Expr} {vs : List Nat} {f : DTG} (h : DG X tg vs f) : PG X tg (gOf X.K vs f) := by
  obtain ⟨t, p, q⟩ := h
  exact ⟨fun pins s σ H v u Q I r ⟨G, μ, F, S, ρ, w, Qd, a, b, c, d, e⟩ => p.run pins s σ H v u Q I r (q G μ F S H σ ρ v w Qd Q a b c d e)⟩
theorem sim_gOf {K : PySem.W.Frag} {vs : List Nat} {f : DTG} : SimG K vs (gOf K vs f) f := fun G μ F S H σ ρ x w Qd Q I R r h k => ⟨G, μ, F, S, ρ, w, Qd, I, R, r, h, k⟩
def dLc (src : DTI) (tg : DTG) (tt : DTT) (te : DTE) (vs : List Nat) : DTE := fun ρ S Q => src ρ S fun items keep S1 => ∃ Wd : List Wv → List PyData → Sto → Prop, Wd items [] S1 ∧ (∀ r acc S, Wd r acc S → keep S) ∧
  (∀ x r acc S, Wd (x :: r) acc S → tg x (dwipe ρ vs) S fun ρ2 S2 => tt ρ2 S2 fun b S3 => if b = true then te ρ2 S3 fun y S4 => ∃ d, y = .d d ∧ acc.length < sizeLine ∧ Wd r (acc ++ [d]) S4 else Wd r acc S3) ∧
  ∀ acc S, Wd [] acc S → Q (.d (.list acc)) S
theorem wipe_wipe {σ : L2.St} : ∀ {vs : List Nat}, wipe (wipe σ vs) vs = wipe σ vs := by
  intro vs
  apply List.ext_getElem?
  intro i
  have hl : (wipe (wipe σ vs) vs).length = (wipe σ vs).length := by rw [wipe_length]
  have at_mem : ∀ (σ : L2.St) (vs : List Nat) (i : Nat), i ∈ vs → i < σ.length → (wipe σ vs)[i]? = some none := by
    intro σ vs
    induction vs with
    | nil => intro i h _; cases h
    | cons u us ih =>
      intro i h hi
      unfold wipe
      by_cases e : u = i
      · subst e
        rw [List.getElem?_set_self (by rw [wipe_length]; exact hi)]
      · rw [List.getElem?_set_ne e]
        rcases List.mem_cons.mp h with z | z
        · exact absurd z.symm e
        · exact ih i z hi
  have at_not : ∀ (σ : L2.St) (vs : List Nat) (i : Nat), i ∉ vs → (wipe σ vs)[i]? = σ[i]? := by
    intro σ vs
    induction vs with
    | nil => intro i _; rfl
    | cons u us ih =>
      intro i h
      unfold wipe
      rw [List.getElem?_set_ne (fun z => by subst z; exact h List.mem_cons_self), ih i fun z => h (List.mem_cons_of_mem _ z)]
  by_cases h : i ∈ vs
  · by_cases hi : i < σ.length
    · rw [at_mem _ _ _ h (by rw [wipe_length]; exact hi), at_mem _ _ _ h hi]
    · rw [List.getElem?_eq_none (by rw [wipe_length, wipe_length]; omega), List.getElem?_eq_none (by rw [wipe_length]; omega)]
  · rw [at_not _ _ _ h]
theorem drop_cons {α : Type} {l : List α} {i : Nat} {x : α} (h : l[i]? = some x) : l.drop i = x :: l.drop (i + 1) := by
  obtain ⟨hi, e⟩ := List.getElem?_eq_some_iff.mp h
  rw [List.drop_eq_getElem_cons hi, e]
theorem sim_lc {K : PySem.W.Frag} {wi : TI} {src : DTI} {tg : DTG} {tt : DTT} {te : DTE} {vs : List Nat} (hi : SimI K wi src) : SimE K (tLc wi (gOf K vs tg) (ttOf K tt) (tOf K te) vs) (dLc src tg tt te vs) := by
  intro G μ F S H σ ρ Qd Q I R z k
  refine hi G μ F S H σ ρ _ _ I R z ?_
  rintro μ1 F1 S1 H1 J items keep e1 I1 ok ⟨Wd, w0, hk, step, done⟩ D hD
  have gD : G D = none := I1.noG hD
  refine ⟨fun i m H' => ∃ μ' F' S' acc xs, Ext μ1 F1 μ' F' ∧ SI K (upd G D (.lst xs)) μ' S' F' H' ∧ Paired (Dq F') xs acc ∧ Wd (items.drop i) acc S' ∧ i ≤ items.length ∧ m = items.length - i, ⟨items.length, μ1, F1, S1, [], [], Ext.refl, I1.aside hD, .nil, w0, Nat.zero_le _, rfl⟩, ?_⟩
  rintro i m H' ⟨μ', F', S', acc, xs, e2, I2, pa, wd, hle, rfl⟩
  by_cases hi : i < items.length
  · refine .inr ?_
    obtain ⟨⟨go, yl⟩, _⟩ : (J.go i H' ∧ ∀ x H2, J.yld i H' x H2 → ∃ F3 w, Ext μ' F' μ' F3 ∧ SI K (upd G D (.lst xs)) μ' S' F3 H2 ∧ items[i]? = some w ∧ RW K F3 μ' x w) ∧ True := ⟨(ok _ i μ' F' S' H' e2 I2 (hk _ _ _ wd)).1 hi, trivial⟩
    refine ⟨go, fun H' => ∃ μ' F' S' acc xs, Ext μ1 F1 μ' F' ∧ SI K (upd G D (.lst xs)) μ' S' F' H' ∧ Paired (Dq F') xs acc ∧ Wd (items.drop (i + 1)) acc S', ?_, ?_⟩
    · rintro H3 ⟨μ3, F3, S3, acc3, xs3, a, b, c, d⟩
      exact ⟨items.length - (i + 1), by omega, μ3, F3, S3, acc3, xs3, a, b, c, d, by omega, rfl⟩
    · intro x H2 hy
      obtain ⟨F3, w, e3, I3, hw, rw'⟩ := yl x H2 hy
      rw [drop_cons hw] at wd
      refine ⟨upd G D (.lst xs), μ', F3, S', dwipe ρ vs, w, _, I3, ((R.mono ((e1.trans e2).trans e3)).wipe vs), rw', step _ _ _ _ wd, ?_⟩
      intro μ4 F4 S4 H4 σ4 ρ4 e4 I4 R4 hwp z4
      refine ⟨by rw [hwp, wipe_wipe], _, μ4, F4, S4, ρ4, _, I4, R4, z4, ?_⟩
      intro μ5 F5 S5 H5 b e5 I5 z5
      cases b with
      | false =>
        exact ⟨μ5, F5, S5, acc, xs, (e2.trans e3).trans (e4.trans e5), I5, dqs_mono ((e3.trans e4).trans e5).same _ pa, z5⟩
      | true =>
        refine ⟨_, μ5, F5, S5, ρ4, _, I5, R4.mono e5, z5, ?_⟩
        rintro μ6 F6 S6 H6 v w6 e6 I6 r6 ⟨d, rfl, hl, wd6⟩
        have pa6 := dqs_mono (((e3.trans e4).trans e5).trans e6).same _ pa
        refine ⟨xs, (I6.gh D _ upd_same).1, by rw [pa6.length]; exact hl, μ6, F6, S6, acc ++ [d], xs ++ [v], (e2.trans e3).trans ((e4.trans e5).trans e6), ?_, ?_, wd6⟩
        · have := I6.turn (o := .lst (xs ++ [v])) (p := D) upd_same
          rw [upd_upd] at this
          exact this
        · cases r6 with
          | d h => exact paired_append pa6 (.cons h .nil)
  · have hi' : i = items.length := by omega
    subst hi'
    refine .inl ⟨(ok _ _ μ' F' S' H' e2 I2 (hk _ _ _ wd)).2 (Nat.le_refl _), ?_⟩
    rw [List.drop_length] at wd
    obtain ⟨I3, e3⟩ := I2.back gD
    exact k μ' _ S' H' _ _ ((e1.trans e2).trans e3) I3 (.d (.lst upd_same (dqs_mono e3.same _ pa))) (done _ _ wd)
section
variable {X : Cx} {elt tg iter : Expr} {ifs : List Expr} {scope : Scope} {own : List (Str × Nat)} {pos : Pos} {src : DTI} {g : DTG} {tt : DTT} {te : DTE}
theorem de_lc (hc : X.calm = true) (hN : X.N.Nodup) (hi : DI X tg iter src) (ok : BlkOk X.N X.env.scope scope own)
    (hg : ∀ (s : Shared) (H : Hp) (C : Addr) (cl : List (Str × Addr)) (fp : List Addr), DG (X.blk s H scope (compEnvC scope cl C X.env) fp) tg (own.map (·.2)) g)
    (ht : ∀ (s : Shared) (H : Hp) (C : Addr) (cl : List (Str × Addr)) (fp : List Addr), DTs (X.blk s H scope (compEnvC scope cl C X.env) fp) ifs tt)
    (he : ∀ (s : Shared) (H : Hp) (C : Addr) (cl : List (Str × Addr)) (fp : List Addr), DE (X.blk s H scope (compEnvC scope cl C X.env) fp) elt te)
    (hs : ∀ x, foldedSetIterable iter X.env x = pure x := by intro _; rfl) : DE X (.ListComp elt [⟨tg, iter, ifs, 0⟩] scope pos) (dLc src g tt te (own.map (·.2))) := by
  obtain ⟨wi, p, q⟩ := hi
  exact ⟨_, pe_lc hc hN p ok (fun s H C cl fp => pg_gOf (hg s H C cl fp)) (fun s H C cl fp => pts_tOf (ht s H C cl fp)) (fun s H C cl fp => pe_tOf (he s H C cl fp)) hs, sim_lc q⟩
end
end Dm

namespace Dm
open PySem L2 PySem.Spec PyProof.Rows

/-! ### calls of the text's own defs -/
section
variable {X : Cx} {k : Nat} {f C : Addr} {fd : FuncData} {ps : List Str} {g : DSp} {x m : Str} {p pos apos : Pos} {e o : Expr} {es : List Expr} {fo : DTE} {fa : DTA}
def dCall (g : DSp) (fa : DTA) : DTE := fun ρ S Q => fa ρ S fun ws S1 => g ws S1 Q
theorem sim_call {K : PySem.W.Frag} {t : TA} (ha : SimA K t fa) : SimE K (tCall (lift K g) [] E0 t) (dCall g fa) := fun G μ F S H σ ρ Qd Q I R z k =>
  ha G μ F S H σ ρ _ _ I R z fun μ1 F1 S1 H1 vs ws e1 I1 r1 z1 => ⟨G, μ1, F1, S1, ws, Qd, I1, by rw [List.append_nil]; exact r1, z1, k.mono e1⟩
theorem de_call (F : FnD X.prog X.w X.K X.mg X.base k f fd ps g) (hr : RG k X.A) (hg : Gl X x) (hm : X.mg x = some (.ref f)) (hk : PySem.W.keepIn X.K (.ref f) = true) (hb : Binds X.K fd ps [])
    (ha : DA X (e :: es) fa) (hdb : (x == ("__debug__" : Str)) = false := by decide)
    (he : starEach (e :: es) X.env = (false, eval e X.env) :: starEach es X.env := by rfl)
    (hpl : (backTo pos (starEach es X.env)).any (·.1) = false := by rfl) : DE X (.Call (.Name x p) (e :: es) [] pos) (dCall g fa) :=
  let ⟨_, a1, a2⟩ := ha
  ⟨_, pe_callG F.fn hr hg hm hk hb .nil pass0 a1 hdb he hpl, sim_call a2⟩
theorem de_call0 (F : FnD X.prog X.w X.K X.mg X.base k f fd ps g) (hr : RG k X.A) (hg : Gl X x) (hm : X.mg x = some (.ref f)) (hk : PySem.W.keepIn X.K (.ref f) = true) (hb : Binds X.K fd ps [])
    (hdb : (x == ("__debug__" : Str)) = false := by decide) : DE X (.Call (.Name x p) [] [] pos) (dCall g dNil) :=
  ⟨_, pe_callG0 F.fn hr hg hm hk hb .nil pass0 hdb, sim_call fun G μ F S H σ ρ Qd Q I R h k => k μ F S H [] [] Ext.refl I .nil h⟩
theorem lookup_none {K : PySem.W.Frag} {F : Hp} {μ : List Addr} {f : Str} : ∀ {ys : List (Str × V)} {fs : List (Str × Wv)}, RKV K F μ ys fs → fs.lookup f = none → ys.lookup f = none
  | _, _, .nil, _ => rfl
  | (a, v) :: ys, (b, w) :: fs, .cons r t, h => by
    obtain ⟨e, _⟩ := r
    have e' : a = b := e
    subst e'
    rw [List.lookup_cons] at h ⊢
    cases q : (f == a) with
    | true => rw [q] at h; cases h
    | false => rw [q] at h; exact lookup_none t h
theorem lookup_some {K : PySem.W.Frag} {F : Hp} {μ : List Addr} {f : Str} {w : Wv} : ∀ {ys : List (Str × V)} {fs : List (Str × Wv)}, RKV K F μ ys fs → fs.lookup f = some w → ∃ v, ys.lookup f = some v ∧ RW K F μ v w
  | _, _, .nil, h => by cases h
  | (a, v) :: ys, (b, u) :: fs, .cons r t, h => by
    obtain ⟨e, r2⟩ := r
    have e' : a = b := e
    subst e'
    rw [List.lookup_cons] at h ⊢
    cases q : (f == a) with
    | true => rw [q] at h; cases h; exact ⟨v, rfl, r2⟩
    | false => rw [q] at h; exact lookup_some t h
def dMeth (C : Addr) (m : Str) (g : DSp) (fo : DTE) (fa : DTA) : DTE := fun ρ S Q => fo ρ S fun w S1 => ∃ k fs, w = .o k ∧ S1[k]? = some (.ins C fs) ∧ fs.lookup m = none ∧ fa ρ S1 fun ws S2 => g (w :: ws) S2 Q
theorem sim_meth {K : PySem.W.Frag} {t : TA} {te : TE} (ho : SimE K te fo) (ha : SimA K t fa) : SimE K (tMeth C m (lift K g) [] E0 te t) (dMeth C m g fo fa) := by
  intro G μ F S H σ ρ Qd Q I R z k
  refine ho G μ F S H σ ρ _ _ I R z ?_
  rintro μ1 F1 S1 H1 v w e1 I1 r1 ⟨kk, fs, rfl, hS, hl, z1⟩
  obtain ⟨a, rfl, hk, ⟨dx, ys, ea, rs⟩, _⟩ := I1.ref r1 hS
  refine ⟨a, dx, ys, rfl, ea, lookup_none rs hl, ha G μ1 F1 S1 H1 σ ρ _ _ I1 (R.mono e1) z1 ?_⟩
  intro μ2 F2 S2 H2 vs ws e2 I2 r2 z2
  exact ⟨G, μ2, F2, S2, _, Qd, I2, .cons (r1.mono e2) (by rw [List.append_nil]; exact r2), z2, k.mono (e1.trans e2)⟩
theorem de_meth {pl : Sem Bool} (ho : DE X o fo) (c : Cls X.K C) (hm : Meth X.K C m f) (F : FnD X.prog X.w X.K X.mg X.base k f fd ps g) (hr : RG k X.A) (hb : Binds X.K fd ps []) (ha : DA X (e :: es) fa)
    (hst : starEach (e :: es) X.env = (false, eval e X.env) :: starEach es X.env := by rfl)
    (hpl : (backTo pos (starEach es X.env)).any (·.1) = false := by rfl) (ht : MethTree X o m apos pos (e :: es) pl := by rfl) : DE X (.Call (.Attribute o m apos) (e :: es) [] pos) (dMeth C m g fo fa) :=
  let ⟨_, o1, o2⟩ := ho
  let ⟨_, a1, a2⟩ := ha
  ⟨_, pe_methG o1 c hm F.fn hr hb .nil pass0 a1 hst hpl ht, sim_meth o2 a2⟩
theorem de_meth0 {pl : Sem Bool} (ho : DE X o fo) (c : Cls X.K C) (hm : Meth X.K C m f) (F : FnD X.prog X.w X.K X.mg X.base k f fd ps g) (hr : RG k X.A) (hb : Binds X.K fd ps [])
    (ht : MethTree X o m apos pos [] pl := by rfl) : DE X (.Call (.Attribute o m apos) [] [] pos) (dMeth C m g fo dNil) :=
  let ⟨_, o1, o2⟩ := ho
  ⟨_, pe_methG0 o1 c hm F.fn hr hb .nil pass0 ht, sim_meth o2 fun G μ F S H σ ρ Qd Q I R h k => k μ F S H [] [] Ext.refl I .nil h⟩
def dMake (C : Addr) (g : DSp) (fa : DTA) : DTE := fun ρ S Q => fa ρ S fun ws S1 => g (.o S1.length :: ws) (S1 ++ [.ins C []]) fun w S2 => w = .d .none ∧ Q (.o S1.length) S2
theorem SI.junk {K : PySem.W.Frag} {G F H : Hp} {μ : List Addr} {S : Sto} (I : SI K G μ S F H) {p : Addr} {o : HO} (hp : H p = none) : SI K G μ S F (upd H p o) := by
  obtain ⟨h1, h2⟩ := I.fresh hp
  refine ⟨fun b u q => ?_, fun b u q => ?_, I.len, I.nd, fun k a u hk hS => ?_⟩
  · rw [upd_ne (ne_of_none (I.fr _ _ q) hp)]; exact I.fr _ _ q
  · obtain ⟨g1, g2, g3⟩ := I.gh b u q
    exact ⟨by rw [upd_ne (ne_of_none g1 hp)]; exact g1, g2, g3⟩
  · obtain ⟨c1, c2⟩ := I.cell k a u hk hS
    exact ⟨c1.mono Ext.refl (upd_ne fun z => by subst z; exact h1 (List.mem_of_getElem? hk)), c2⟩
theorem sim_make {K : PySem.W.Frag} {t : TA} (ha : SimA K t fa) : SimE K (tMake C (lift K g) [] E0 t) (dMake C g fa) := by
  intro G μ F S H σ ρ Qd Q I R z k
  refine ha G μ F S H σ ρ _ _ I R z fun μ1 F1 S1 H1 vs ws e1 I1 r1 z1 => ?_
  intro x dx hx hdx hne
  have I2 := I1.junk (o := .own x) hdx
  have hx2 : upd H1 dx (.own x) x = none := by rw [upd_ne (Ne.symm hne)]; exact hx
  obtain ⟨I3, e3⟩ := I2.own (o := .ins C dx []) (u := .ins C []) hx2 fun H2 q => ⟨dx, [], q, .nil⟩
  have hget : (μ1 ++ [x])[S1.length]? = some x := by rw [← I1.len]; simp
  refine ⟨G, μ1 ++ [x], F1, _, _, fun w S2 => w = .d .none ∧ Qd (.o S1.length) S2, I3, .cons (.o hget) (by rw [List.append_nil]; exact r1.mono e3), z1, ?_⟩
  rintro μ' F' S' H' v w e4 I4 r4 ⟨rfl, q⟩
  exact ⟨of_non r4, k μ' F' S' H' _ _ ((e1.trans e3).trans e4) I4 (.o (pre_get e4.pre hget)) q⟩
theorem de_make (M : Mk X.K C f) (F : FnD X.prog X.w X.K X.mg X.base k f fd ps g) (hr : RG (k + 1) X.A) (hg : Gl X x) (hm : X.mg x = some (.ref C)) (hb : Binds X.K fd ps []) (ha : DA X (e :: es) fa) (hdb : (x == ("__debug__" : Str)) = false := by decide)
    (he : starEach (e :: es) X.env = (false, eval e X.env) :: starEach es X.env := by rfl)
    (hpl : (backTo pos (starEach es X.env)).any (·.1) = false := by rfl) : DE X (.Call (.Name x p) (e :: es) [] pos) (dMake C g fa) :=
  let ⟨_, a1, a2⟩ := ha
  ⟨_, pe_makeG M F.fn hr hg hm hb .nil pass0 a1 hdb he hpl, sim_make a2⟩
theorem de_make0 (M : Mk X.K C f) (F : FnD X.prog X.w X.K X.mg X.base k f fd ps g) (hr : RG (k + 1) X.A) (hg : Gl X x) (hm : X.mg x = some (.ref C)) (hb : Binds X.K fd ps []) (hdb : (x == ("__debug__" : Str)) = false := by decide) :
    DE X (.Call (.Name x p) [] [] pos) (dMake C g dNil) :=
  ⟨_, pe_makeG0 M F.fn hr hg hm hb .nil pass0 hdb, sim_make fun G μ F S H σ ρ Qd Q I R h k => k μ F S H [] [] Ext.refl I .nil h⟩
/-- e.f -/
def dFld (C : Addr) (f : Str) (fo : DTE) : DTE := fun ρ S Q => fo ρ S fun w S1 => ∃ k fs u, w = .o k ∧ S1[k]? = some (.ins C fs) ∧ fs.lookup f = some u ∧ Q u S1
theorem de_fld {n : Str} (ho : DE X o fo) (c : Cls X.K C) (na : NoAttr X.K C n) (hb : attributeBase o n X.env (eval o X.env) = eval o X.env := by rfl) : DE X (.Attribute o n pos) (dFld C n fo) := by
  obtain ⟨_, o1, o2⟩ := ho
  refine ⟨_, pe_fld o1 hb, ?_⟩
  intro G μ F S H σ ρ Qd Q I R z k
  refine o2 G μ F S H σ ρ _ _ I R z ?_
  rintro μ1 F1 S1 H1 v w e1 I1 r1 ⟨kk, fs, u, rfl, hS, hl, z1⟩
  obtain ⟨a, rfl, hk, ⟨dx, ys, ea, rs⟩, _⟩ := I1.ref r1 hS
  obtain ⟨v2, h2, r2⟩ := lookup_some rs hl
  exact ⟨a, C, dx, ys, v2, rfl, ea, c, na, h2, (k.mono e1).val I1 r2 z1⟩

/-! ### dicts -/
def keyW : Wv → Option Key
  | .d (.int i) => some (.inl i)
  | .d (.str x) => some (.inr x)
  | _ => none
def keysD : List PyData → Option (List Key)
  | [] => some []
  | .int i :: r => (keysD r).map (Sum.inl i :: ·)
  | .str x :: r => (keysD r).map (Sum.inr x :: ·)
  | _ => none
def keysW : Wv → Option (List Key)
  | .d (.tuple ds) => keysD ds
  | _ => none
section
variable {κ : Type} [DecidableEq κ]
def valW (kvs : List (κ × Wv)) (k : κ) : Option Wv := (kvs.find? fun kv => decide (kv.1 = k)).map (·.2)
def putW (kvs : List (κ × Wv)) (k : κ) (v : Wv) : List (κ × Wv) :=
  if (kvs.any fun kv => decide (kv.1 = k)) = true then kvs.map (fun kv => if kv.1 = k then (kv.1, v) else kv) else kvs ++ [(k, v)]
def dropW (kvs : List (κ × Wv)) (k : κ) : List (κ × Wv) := kvs.filter fun kv => decide (kv.1 ≠ k)
theorem rkv_none {K : PySem.W.Frag} {F : Hp} {μ : List Addr} {k : κ} : ∀ {ys : List (κ × V)} {kvs : List (κ × Wv)}, RKV K F μ ys kvs → valW kvs k = none → valV ys k = none
  | _, _, .nil, _ => rfl
  | (a, v) :: ys, (b, w) :: kvs, .cons r t, h => by
    obtain ⟨e, _⟩ := r
    have e' : a = b := e
    subst e'
    unfold valW at h
    by_cases q : a = k
    · simp [List.find?_cons, q] at h
    · rw [valV_neg (p := (a, v)) q]
      refine rkv_none t ?_
      unfold valW
      simpa [List.find?_cons, q] using h
theorem rkv_some {K : PySem.W.Frag} {F : Hp} {μ : List Addr} {k : κ} {w : Wv} : ∀ {ys : List (κ × V)} {kvs : List (κ × Wv)}, RKV K F μ ys kvs → valW kvs k = some w → ∃ v, valV ys k = some v ∧ RW K F μ v w
  | _, _, .nil, h => by cases h
  | (a, v) :: ys, (b, u) :: kvs, .cons r t, h => by
    obtain ⟨e, r2⟩ := r
    have e' : a = b := e
    subst e'
    unfold valW at h
    by_cases q : a = k
    · simp [List.find?_cons, q] at h
      subst h
      exact ⟨v, valV_pos (p := (a, v)) q, r2⟩
    · rw [valV_neg (p := (a, v)) q]
      refine rkv_some t ?_
      unfold valW
      simpa [List.find?_cons, q] using h
theorem rkv_any {K : PySem.W.Frag} {F : Hp} {μ : List Addr} {k : κ} : ∀ {ys : List (κ × V)} {kvs : List (κ × Wv)}, RKV K F μ ys kvs → (ys.any fun kv => decide (kv.1 = k)) = (kvs.any fun kv => decide (kv.1 = k))
  | _, _, .nil => rfl
  | _, _, .cons r t => by rw [List.any_cons, List.any_cons, r.1, rkv_any t]
theorem rkv_map {K : PySem.W.Frag} {F : Hp} {μ : List Addr} {k : κ} {v : V} {w : Wv} (rw' : RW K F μ v w) : ∀ {ys : List (κ × V)} {kvs : List (κ × Wv)}, RKV K F μ ys kvs → RKV K F μ (ys.map fun kv => if kv.1 = k then (kv.1, v) else kv) (kvs.map fun kv => if kv.1 = k then (kv.1, w) else kv)
  | _, _, .nil => .nil
  | (a, x) :: ys, (b, u) :: kvs, .cons r t => by
    rw [List.map_cons, List.map_cons]
    refine .cons ?_ (rkv_map rw' t)
    obtain ⟨e, r2⟩ := r
    have e' : a = b := e
    subst e'
    by_cases q : a = k
    · rw [if_pos q, if_pos q]; exact ⟨rfl, rw'⟩
    · rw [if_neg q, if_neg q]; exact ⟨rfl, r2⟩
theorem rkv_put {K : PySem.W.Frag} {F : Hp} {μ : List Addr} {k : κ} {v : V} {w : Wv} {ys : List (κ × V)} {kvs : List (κ × Wv)} (h : RKV K F μ ys kvs) (rw' : RW K F μ v w) : RKV K F μ (putK ys k v) (putW kvs k w) := by
  unfold putK putW
  rw [rkv_any h]
  split
  · exact rkv_map rw' h
  · exact paired_append h (.cons ⟨rfl, rw'⟩ .nil)
theorem rkv_drop {K : PySem.W.Frag} {F : Hp} {μ : List Addr} {k : κ} : ∀ {ys : List (κ × V)} {kvs : List (κ × Wv)}, RKV K F μ ys kvs → RKV K F μ (dropK ys k) (dropW kvs k)
  | _, _, .nil => .nil
  | (a, x) :: ys, (b, u) :: kvs, .cons r t => by
    have ih := rkv_drop (k := k) t
    unfold dropK dropW at ih ⊢
    obtain ⟨e, r2⟩ := r
    have e' : a = b := e
    subst e'
    rw [List.filter_cons, List.filter_cons]
    by_cases q : a = k
    · rw [if_neg (by simpa using q), if_neg (by simpa using q)]; exact ih
    · rw [if_pos (by simpa using q), if_pos (by simpa using q)]; exact .cons ⟨rfl, r2⟩ ih
end
/-- what a dict holds at a key: none where it is no dict or the key none of its kind -/
def dictLook (S : Sto) (x y : Wv) : Option (Option Wv) := match x with
  | .o k => match S[k]? with
    | some (.dk kvs) => (keyW y).map (valW kvs)
    | some (.dt kvs) => (keysW y).map (valW kvs)
    | some (.dkL _ _ kvs) => (keyW y).map (valW kvs)
    | _ => none
  | _ => none
def dictPut (S : Sto) (x y w : Wv) : Option Sto := match x with
  | .o k => match S[k]? with
    | some (.dk kvs) => (keyW y).map fun key => S.set k (.dk (putW kvs key w))
    | some (.dt kvs) => (keysW y).map fun key => S.set k (.dt (putW kvs key w))
    | _ => none
  | _ => none
def dictLen (S : Sto) (x : Wv) : Nat := match x with
  | .o k => match S[k]? with
    | some (.dk kvs) => kvs.length
    | some (.dt kvs) => kvs.length
    | _ => 0
  | _ => 0
theorem key_of {K : PySem.W.Frag} {F : Hp} {μ : List Addr} {v : V} {w : Wv} {key : Key} (r : RW K F μ v w) (h : keyW w = some key) : v = kV key := by
  unfold keyW at h
  split at h
  · cases h; exact of_int r
  · cases h; exact of_str r
  · cases h
theorem keys_of {F : Hp} : ∀ {ds : List PyData} {ks : List Key} {xs : List V}, keysD ds = some ks → Paired (Dq F) xs ds → xs = ks.map kV
  | [], ks, xs, h, p => by cases h; cases p; rfl
  | d :: ds, ks, xs, h, p => by
    cases p with
    | cons q t =>
      cases d <;> try (cases h; done)
      · unfold keysD at h
        cases z : keysD ds with
        | none => rw [z] at h; cases h
        | some k2 => rw [z] at h; cases h; cases q; rw [keys_of z t]; rfl
      · unfold keysD at h
        cases z : keysD ds with
        | none => rw [z] at h; cases h
        | some k2 => rw [z] at h; cases h; cases q; rw [keys_of z t]; rfl
theorem keysW_of {K : PySem.W.Frag} {G F H : Hp} {μ : List Addr} {S : Sto} (I : SI K G μ S F H) {v : V} {w : Wv} {ks : List Key} (r : RW K F μ v w) (h : keysW w = some ks) : ∃ b, v = .ref b ∧ H b = some (.tup (ks.map kV)) := by
  unfold keysW at h
  split at h
  · obtain ⟨b, xs, rfl, e, p⟩ := of_tup r
    rw [keys_of h p] at e
    exact ⟨b, rfl, I.fr _ _ e⟩
  · cases h
theorem look_at {K : PySem.W.Frag} {G F H : Hp} {μ : List Addr} {S : Sto} (I : SI K G μ S F H) {vx vy : V} {x y : Wv} {r : Option Wv} (rx : RW K F μ vx x) (ry : RW K F μ vy y) (h : dictLook S x y = some r) :
    ∃ a o, vx = .ref a ∧ IsD H a ∧ DGet H a vy o ∧ (r = none → o = none) ∧ ∀ w, r = some w → ∃ v, o = some v ∧ RW K F μ v w := by
  unfold dictLook at h
  split at h
  · split at h
    · rename_i kk kvs e
      obtain ⟨a, rfl, hk, ⟨ys, ea, rs⟩, _⟩ := I.ref rx e
      cases q : keyW y with
      | none => rw [q] at h; cases h
      | some key =>
        rw [q] at h
        cases h
        obtain rfl := key_of ry q
        exact ⟨a, _, rfl, .inl ⟨ys, .inl ea⟩, .k ea, fun z => rkv_none rs z, fun w z => rkv_some rs z⟩
    · rename_i kk kvs e
      obtain ⟨a, rfl, hk, ⟨ys, ea, rs⟩, _⟩ := I.ref rx e
      cases q : keysW y with
      | none => rw [q] at h; cases h
      | some key =>
        rw [q] at h
        cases h
        obtain ⟨b, rfl, eb⟩ := keysW_of I ry q
        exact ⟨a, _, rfl, .inr ⟨ys, .inl ea⟩, .t ea eb, fun z => rkv_none rs z, fun w z => rkv_some rs z⟩
    · rename_i kk od ys kvs e
      obtain ⟨a, rfl, hk, ⟨ea, rs⟩, _⟩ := I.ref rx e
      cases q : keyW y with
      | none => rw [q] at h; cases h
      | some key =>
        rw [q] at h
        cases h
        obtain rfl := key_of ry q
        exact ⟨a, _, rfl, .inl ⟨ys, .inr ⟨od, ea⟩⟩, .inl ⟨ys, key, .inr ⟨od, ea⟩, rfl, rfl⟩, fun z => rkv_none rs z, fun w z => rkv_some rs z⟩
    · cases h
  · cases h
theorem put_at {K : PySem.W.Frag} {G F H : Hp} {μ : List Addr} {S S' : Sto} (I : SI K G μ S F H) {vx vy v : V} {x y w : Wv} (rx : RW K F μ vx x) (ry : RW K F μ vy y) (rw' : RW K F μ v w) (h : dictPut S x y w = some S') (hl : dictLen S x < sizeLine) :
    ∃ a H', vx = .ref a ∧ DPut H a vy v H' ∧ SI K G μ S' F H' := by
  unfold dictPut at h
  unfold dictLen at hl
  split at h
  · split at h
    · rename_i kk kvs e
      obtain ⟨a, rfl, hk, ⟨ys, ea, rs⟩, _⟩ := I.ref rx e
      simp only [e] at hl
      cases q : keyW y with
      | none => rw [q] at h; cases h
      | some key =>
        rw [q] at h
        cases h
        obtain rfl := key_of ry q
        exact ⟨a, _, rfl, .k ea (by rw [rs.length]; exact hl), I.put hk e (fun z => nomatch z) fun H2 z => ⟨_, z, rkv_put rs rw'⟩⟩
    · rename_i kk kvs e
      obtain ⟨a, rfl, hk, ⟨ys, ea, rs⟩, _⟩ := I.ref rx e
      simp only [e] at hl
      cases q : keysW y with
      | none => rw [q] at h; cases h
      | some key =>
        rw [q] at h
        cases h
        obtain ⟨b, rfl, eb⟩ := keysW_of I ry q
        exact ⟨a, _, rfl, .t ea eb (by rw [rs.length]; exact hl), I.put hk e (fun z => nomatch z) fun H2 z => ⟨_, z, rkv_put rs rw'⟩⟩
    · cases h
  · cases h
variable {i : Expr} {fi fv : DTE}
def dDGet (fo fi : DTE) : DTE := fun ρ S Q => fo ρ S fun x S1 => fi ρ S1 fun y S2 => ∃ w, dictLook S2 x y = some (some w) ∧ Q w S2
theorem de_dget (hu : X.A.units + 1 < cLine) (ho : DE X o fo) (hi : DE X i fi) (hs : NoSl i := by exact fun _ _ => rfl) : DE X (.Subscript o i pos) (dDGet fo fi) := by
  obtain ⟨_, o1, o2⟩ := ho
  obtain ⟨_, i1, i2⟩ := hi
  refine ⟨_, pe_dget hu o1 i1 hs, ?_⟩
  intro G μ F S H σ ρ Qd Q I R z k
  refine o2 G μ F S H σ ρ _ _ I R z fun μ1 F1 S1 H1 x a e1 I1 r1 z1 => i2 G μ1 F1 S1 H1 σ ρ _ _ I1 (R.mono e1) z1 ?_
  rintro μ2 F2 S2 H2 y b e2 I2 r2 ⟨w, hl, q⟩
  obtain ⟨p, ov, rfl, _, hg, _, h2⟩ := look_at I2 (r1.mono e2) r2 hl
  obtain ⟨v, rfl, rv⟩ := h2 w rfl
  exact ⟨p, v, rfl, hg, (k.mono (e1.trans e2)).val I2 rv q⟩
/-- d.get(k), d.get(k, e) -/
def isDict (S : Sto) (x : Wv) : Bool := match x with
  | .o k => match S[k]? with
    | some (.dk _) => true
    | some (.dt _) => true
    | _ => false
  | _ => false
theorem isDict_at {K : PySem.W.Frag} {G F H : Hp} {μ : List Addr} {S : Sto} (I : SI K G μ S F H) {v : V} {x : Wv} (r : RW K F μ v x) (h : isDict S x = true) : ∃ a, v = .ref a ∧ IsD H a := by
  unfold isDict at h
  split at h
  · split at h
    · rename_i e
      obtain ⟨a, rfl, _, ⟨ys, ea, _⟩, _⟩ := I.ref r e
      exact ⟨a, rfl, .inl ⟨ys, .inl ea⟩⟩
    · rename_i e
      obtain ⟨a, rfl, _, ⟨ys, ea, _⟩, _⟩ := I.ref r e
      exact ⟨a, rfl, .inr ⟨ys, .inl ea⟩⟩
    · cases h
  · cases h
def dGet1 (fo fi : DTE) : DTE := fun ρ S Q => fo ρ S fun x S1 => isDict S1 x = true ∧ fi ρ S1 fun y S2 => ∃ r, dictLook S2 x y = some r ∧ Q (r.getD (.d .none)) S2
def dGet2 (fo fi fe : DTE) : DTE := fun ρ S Q => fo ρ S fun x S1 => isDict S1 x = true ∧ fi ρ S1 fun y S2 => fe ρ S2 fun z S3 => ∃ r, dictLook S3 x y = some r ∧ Q (r.getD z) S3
theorem de_get1 {cpos : Pos} (hu : X.A.units + 1 < cLine) (ho : DE X o fo) (hi : DE X i fi) (m : M1 X o "get" apos i cpos := by exact ⟨rfl, rfl, rfl, rfl⟩) : DE X (.Call (.Attribute o "get" apos) [i] [] cpos) (dGet1 fo fi) := by
  obtain ⟨_, o1, o2⟩ := ho
  obtain ⟨_, i1, i2⟩ := hi
  refine ⟨_, pe_dget1 hu o1 i1 m, ?_⟩
  intro G μ F S H σ ρ Qd Q I R z k
  refine o2 G μ F S H σ ρ _ _ I R z ?_
  rintro μ1 F1 S1 H1 x a e1 I1 r1 ⟨hd, z1⟩
  obtain ⟨p, rfl, isd⟩ := isDict_at I1 r1 hd
  refine ⟨p, rfl, isd, i2 G μ1 F1 S1 H1 σ ρ _ _ I1 (R.mono e1) z1 ?_⟩
  rintro μ2 F2 S2 H2 y b e2 I2 r2 ⟨r, hl, q⟩
  obtain ⟨p', ov, ep, _, hg, h1, h2⟩ := look_at I2 (r1.mono e2) r2 hl
  cases ep
  refine ⟨ov, hg, ?_⟩
  cases r with
  | none => rw [h1 rfl]; exact (k.mono (e1.trans e2)).non I2 q
  | some w =>
    obtain ⟨v, rfl, rv⟩ := h2 w rfl
    exact (k.mono (e1.trans e2)).val I2 rv q
theorem de_get2 {cpos : Pos} {e2 : Expr} {fe : DTE} (hu : X.A.units + 1 < cLine) (ho : DE X o fo) (hi : DE X i fi) (he : DE X e2 fe) (m : M2 X o "get" apos i e2 cpos := by exact ⟨rfl, rfl, rfl, rfl⟩) : DE X (.Call (.Attribute o "get" apos) [i, e2] [] cpos) (dGet2 fo fi fe) := by
  obtain ⟨_, o1, o2⟩ := ho
  obtain ⟨_, i1, i2⟩ := hi
  obtain ⟨_, x1, x2⟩ := he
  refine ⟨_, pe_dget2 hu o1 i1 x1 m, ?_⟩
  intro G μ F S H σ ρ Qd Q I R z k
  refine o2 G μ F S H σ ρ _ _ I R z ?_
  rintro μ1 F1 S1 H1 x a e1 I1 r1 ⟨hd, z1⟩
  obtain ⟨p, rfl, isd⟩ := isDict_at I1 r1 hd
  refine ⟨p, rfl, isd, i2 G μ1 F1 S1 H1 σ ρ _ _ I1 (R.mono e1) z1 fun μ2 F2 S2 H2 y b e2 I2 r2 z2 => x2 G μ2 F2 S2 H2 σ ρ _ _ I2 (R.mono (e1.trans e2)) z2 ?_⟩
  rintro μ3 F3 S3 H3 v3 w3 e3 I3 r3 ⟨r, hl, q⟩
  obtain ⟨p', ov, ep, _, hg, h1, h2⟩ := look_at I3 (r1.mono (e2.trans e3)) (r2.mono e3) hl
  cases ep
  refine ⟨ov, hg, ?_⟩
  cases r with
  | none => rw [h1 rfl]; exact (k.mono ((e1.trans e2).trans e3)).val I3 r3 q
  | some w =>
    obtain ⟨v, rfl, rv⟩ := h2 w rfl
    exact (k.mono ((e1.trans e2).trans e3)).val I3 rv q
def dDIn (neg : Bool) (fi fo : DTE) : DTE := fun ρ S Q => fi ρ S fun y S1 => fo ρ S1 fun x S2 => ∃ r, dictLook S2 x y = some r ∧ Q (.d (.bool (if neg then !r.isSome else r.isSome))) S2
theorem din_at {K : PySem.W.Frag} {G F H : Hp} {μ : List Addr} {S : Sto} (I : SI K G μ S F H) {vx vy : V} {x y : Wv} {r : Option Wv} (rx : RW K F μ vx x) (ry : RW K F μ vy y) (h : dictLook S x y = some r) :
    ∃ a o, vx = .ref a ∧ DGet H a vy o ∧ o.isSome = r.isSome := by
  obtain ⟨a, ov, e, _, hg, h1, h2⟩ := look_at I rx ry h
  refine ⟨a, ov, e, hg, ?_⟩
  cases r with
  | none => rw [h1 rfl]; rfl
  | some w => obtain ⟨v, rfl, _⟩ := h2 w rfl; rfl
theorem pc_dinD (hu : X.A.units + 1 < cLine) (hi : DE X i fi) (ho : DE X o fo) : ∃ t, PC X .In i o t ∧ SimE X.K t (dDIn false fi fo) := by
  obtain ⟨_, o1, o2⟩ := ho
  obtain ⟨_, i1, i2⟩ := hi
  refine ⟨_, pc_din hu i1 o1, ?_⟩
  intro G μ F S H σ ρ Qd Q I R z k
  refine i2 G μ F S H σ ρ _ _ I R z fun μ1 F1 S1 H1 y b e1 I1 r1 z1 => o2 G μ1 F1 S1 H1 σ ρ _ _ I1 (R.mono e1) z1 ?_
  rintro μ2 F2 S2 H2 x a e2 I2 r2 ⟨r, hl, q⟩
  obtain ⟨p, ov, rfl, hg, h⟩ := din_at I2 r2 (r1.mono e2) hl
  exact ⟨p, ov, rfl, hg, by rw [h]; exact (k.mono (e1.trans e2)).bl I2 q⟩
theorem pc_dnotinD (hu : X.A.units + 1 < cLine) (hi : DE X i fi) (ho : DE X o fo) : ∃ t, PC X .NotIn i o t ∧ SimE X.K t (dDIn true fi fo) := by
  obtain ⟨_, o1, o2⟩ := ho
  obtain ⟨_, i1, i2⟩ := hi
  refine ⟨_, pc_dnotin hu i1 o1, ?_⟩
  intro G μ F S H σ ρ Qd Q I R z k
  refine i2 G μ F S H σ ρ _ _ I R z fun μ1 F1 S1 H1 y b e1 I1 r1 z1 => o2 G μ1 F1 S1 H1 σ ρ _ _ I1 (R.mono e1) z1 ?_
  rintro μ2 F2 S2 H2 x a e2 I2 r2 ⟨r, hl, q⟩
  obtain ⟨p, ov, rfl, hg, h⟩ := din_at I2 r2 (r1.mono e2) hl
  exact ⟨p, ov, rfl, hg, by rw [h]; exact (k.mono (e1.trans e2)).bl I2 q⟩
theorem sim_tB {K : PySem.W.Frag} {t : TE} {f : DTE} (h : SimE K t f) : SimT K (tB t) (dTest f) := sim_test h
theorem de_din (hu : X.A.units + 1 < cLine) (hi : DE X i fi) (ho : DE X o fo) (h1 : behindInMarks .In o = false := by rfl) : DE X (.Compare i [.In] [o] pos) (dDIn false fi fo) :=
  let ⟨_, p, q⟩ := pc_dinD hu hi ho; ⟨_, pe_cmp p h1, q⟩
theorem dt_din (hu : X.A.units + 1 < cLine) (hi : DE X i fi) (ho : DE X o fo) (h1 : behindInMarks .In o = false := by rfl) : DT X (.Compare i [.In] [o] pos) (dTest (dDIn false fi fo)) :=
  let ⟨_, p, q⟩ := pc_dinD hu hi ho; ⟨_, pt_cmp p h1, sim_tB q⟩
theorem de_dnotin (hu : X.A.units + 1 < cLine) (hi : DE X i fi) (ho : DE X o fo) (h1 : behindInMarks .NotIn o = false := by rfl) : DE X (.Compare i [.NotIn] [o] pos) (dDIn true fi fo) :=
  let ⟨_, p, q⟩ := pc_dnotinD hu hi ho; ⟨_, pe_cmp p h1, q⟩
theorem dt_dnotin (hu : X.A.units + 1 < cLine) (hi : DE X i fi) (ho : DE X o fo) (h1 : behindInMarks .NotIn o = false := by rfl) : DT X (.Compare i [.NotIn] [o] pos) (dTest (dDIn true fi fo)) :=
  let ⟨_, p, q⟩ := pc_dnotinD hu hi ho; ⟨_, pt_cmp p h1, sim_tB q⟩

/-! ### methods of built-in types -/
abbrev DRM := Wv → List Wv → Sto → (Wv → Sto → Prop) → Prop
def SimM (K : PySem.W.Frag) (r : V → List V → Hp → VK → Prop) (g : DRM) : Prop := ∀ (G : Hp) (μ : List Addr) (F : Hp) (S : Sto) (H : Hp) (v : V) (w : Wv) (vs : List V) (ws : List Wv) (Qd : Wv → Sto → Prop) (Q : VK), SI K G μ S F H → RW K F μ v w → RWs K F μ vs ws → g w ws S Qd → KE K G μ F Qd Q → r v vs H Q
def DMtR (X : Cx) (id : String) (g : DRM) : Prop := ∃ r, MtR X id r ∧ SimM X.K r g
/-- the receiver is an owned list (or text) -/
def tyW (T : String) (w : Wv) (S : Sto) : Prop := match w with
  | .d (.str _) => T = "str"
  | .d (.list _) => T = "list"
  | .o k => T = "list" ∧ ∃ ws, S[k]? = some (.lst ws)
  | _ => False
theorem tyW_at {K : PySem.W.Frag} {G F H : Hp} {μ : List Addr} {S : Sto} (I : SI K G μ S F H) {T : String} {v : V} {w : Wv} (r : RW K F μ v w) (h : tyW T w S) : tyV K T v H := by
  unfold tyW at h
  split at h
  · obtain rfl := of_str r; exact h
  · obtain ⟨a, xs, rfl, ea, _⟩ := of_lst r; exact .inl ⟨h, xs, .inl (.inl (I.fr _ _ ea))⟩
  · obtain ⟨hT, ws, e⟩ := h
    obtain ⟨a, rfl, _, ⟨xs, ea, _⟩, _⟩ := I.ref r e
    exact .inl ⟨hT, xs, .inl (.inl ea)⟩
  · exact h.elim
def dBM (T : String) (g : DRM) (fo : DTE) (fa : DTA) : DTE := fun ρ S Q => fo ρ S fun w S1 => tyW T w S1 ∧ fa ρ S1 fun ws S2 => g w ws S2 Q
theorem de_bm {name : Str} {cpos : Pos} {T id : String} {g : DRM} (pa : PlainAttrs T) (slot : Slot T name id) (hty : typeOf (.builtin id) = pure (.type "method_descriptor")) (hm : DMtR X id g) (ho : DE X o fo) (ha : DA X (e :: es) fa)
    (hb : attributeBase o name X.env (eval o X.env) = eval o X.env := by rfl) (hl : (apos.endLine == cpos.line) = true := by rfl)
    (h1 : starEach (e :: es) X.env = (false, eval e X.env) :: starEach es X.env := by rfl) (h2 : (backTo cpos (starEach es X.env)).any (·.1) = false := by rfl)
    (h3 : ((backTo cpos (starEach (e :: es) X.env)).all (fun x => !x.1) && (backToKw cpos (keywordEach [] X.env)).all (fun x => x.1.isSome) && decide ((e :: es).length + ([] : List Keyword).length + (if ([] : List Keyword).isEmpty then 0 else 1) < 30)) = true := by rfl) :
    DE X (.Call (.Attribute o name apos) (e :: es) [] cpos) (dBM T g fo fa) := by
  obtain ⟨_, m1, m2⟩ := hm
  obtain ⟨_, o1, o2⟩ := ho
  obtain ⟨_, a1, a2⟩ := ha
  refine ⟨_, pe_bm pa slot hty m1 o1 a1 (hbase := hb) (hfew := h3) (hline := hl) (hs := h1) (hplain := h2), ?_⟩
  intro G μ F S H σ ρ Qd Q I R z k
  refine o2 G μ F S H σ ρ _ _ I R z ?_
  rintro μ1 F1 S1 H1 v w e1 I1 r1 ⟨ht, z1⟩
  exact ⟨tyW_at I1 r1 ht, a2 G μ1 F1 S1 H1 σ ρ _ _ I1 (R.mono e1) z1 fun μ2 F2 S2 H2 vs ws e2 I2 r2 z2 => m2 G μ2 F2 S2 H2 v w vs ws Qd Q I2 (r1.mono e2) r2 z2 (k.mono (e1.trans e2))⟩
def dBM0 (T : String) (g : DRM) (fo : DTE) : DTE := fun ρ S Q => fo ρ S fun w S1 => tyW T w S1 ∧ g w [] S1 Q
theorem de_bm0 {name : Str} {cpos : Pos} {T id : String} {g : DRM} (pa : PlainAttrs T) (slot : Slot T name id) (hty : typeOf (.builtin id) = pure (.type "method_descriptor")) (hm : DMtR X id g) (ho : DE X o fo)
    (hb : attributeBase o name X.env (eval o X.env) = eval o X.env := by rfl) (hl : (apos.endLine == cpos.line) = true := by rfl) : DE X (.Call (.Attribute o name apos) [] [] cpos) (dBM0 T g fo) := by
  obtain ⟨_, m1, m2⟩ := hm
  obtain ⟨_, o1, o2⟩ := ho
  refine ⟨_, pe_bm0 pa slot hty m1 o1 hb hl, ?_⟩
  intro G μ F S H σ ρ Qd Q I R z k
  refine o2 G μ F S H σ ρ _ _ I R z ?_
  rintro μ1 F1 S1 H1 v w e1 I1 r1 ⟨ht, z1⟩
  exact ⟨tyW_at I1 r1 ht, m2 G μ1 F1 S1 H1 v w [] [] Qd Q I1 r1 .nil z1 (k.mono e1)⟩
def mAppend : DRM := fun w ws S Q => ∃ k l y, w = .o k ∧ ws = [y] ∧ S[k]? = some (.lst l) ∧ l.length < sizeLine ∧ Q (.d .none) (S.set k (.lst (l ++ [y])))
theorem dm_append : DMtR X "list.append" mAppend := by
  refine ⟨_, mt_append, ?_⟩
  rintro G μ F S H v w vs ws Qd Q I r rs ⟨k', l, y, rfl, rfl, hS, hl, q⟩ k
  obtain ⟨a, rfl, hk, ⟨xs, ea, rx⟩, _⟩ := I.ref r hS
  obtain ⟨u, rfl, ru⟩ := rws1 rs
  refine ⟨a, xs, u, rfl, rfl, ea, by rw [rx.length]; exact hl, ?_⟩
  exact k.non (I.put (u := .lst (l ++ [y])) hk hS (fun z => nomatch z) fun H2 z => ⟨_, z, paired_append rx (.cons ru .nil)⟩) q
def mReverse : DRM := fun w ws S Q => ∃ k l, w = .o k ∧ ws = [] ∧ S[k]? = some (.lst l) ∧ Q (.d .none) (S.set k (.lst l.reverse))
theorem dm_reverse : DMtR X "list.reverse" mReverse := by
  refine ⟨_, mt_reverse, ?_⟩
  rintro G μ F S H v w vs ws Qd Q I r rs ⟨k', l, rfl, rfl, hS, q⟩ k
  obtain ⟨a, rfl, hk, ⟨xs, ea, rx⟩, _⟩ := I.ref r hS
  cases rs
  exact ⟨a, xs, rfl, rfl, ea, k.non (I.put (u := .lst l.reverse) hk hS (fun z => nomatch z) fun H2 z => ⟨_, z, paired_rev rx⟩) q⟩
/-- '..'.join(xs) -/
def dJoin (fo fe : DTE) : DTE := fun ρ S Q => fo ρ S fun w S1 => ∃ a, w = .d (.str a) ∧ fe ρ S1 fun u S2 => ∃ l ys, one [u] S2 = some l ∧ strs? l = some ys ∧ (ys.map (·.length)).sum + ys.length * a.length ≤ 16777216 ∧ Q (.d (.str (Txt.join a ys))) S2
theorem de_join {fe : DTE} (ho : DE X o fo) (he : DE X e fe) (hs : starEach [e] X.env = [(false, eval e X.env)] := by rfl) (hbase : attributeBase o "join" X.env (eval o X.env) = eval o X.env := by rfl) (hline : (apos.endLine == pos.line) = true := by rfl) :
    DE X (.Call (.Attribute o "join" apos) [e] [] pos) (dJoin fo fe) := by
  obtain ⟨_, o1, o2⟩ := ho
  obtain ⟨_, e1, e2⟩ := he
  refine ⟨_, pe_join o1 e1 hs hbase hline, ?_⟩
  intro G μ F S H σ ρ Qd Q I R z k
  refine o2 G μ F S H σ ρ _ _ I R z ?_
  rintro μ1 F1 S1 H1 v w x1 I1 r1 ⟨a, rfl, z1⟩
  obtain rfl := of_str r1
  refine ⟨⟨a, rfl⟩, e2 G μ1 F1 S1 H1 σ ρ _ _ I1 (R.mono x1) z1 ?_⟩
  rintro μ2 F2 S2 H2 u w2 x2 I2 r2 ⟨l, ys, h1, h2, h3, q⟩
  obtain ⟨p, xs, e, ea, pa⟩ := one_at I2 (.cons r2 .nil) h1
  cases e
  obtain rfl := strs_of h2
  obtain rfl := dq_strs pa
  exact ⟨a, p, ys, rfl, rfl, .inl (.inl (.inl ea)), h3, (k.mono (x1.trans x2)).str I2 q⟩
/-- isinstance(x, T) -/
def tyS (S : Sto) : Wv → Option String
  | .d .none => some "NoneType"
  | .d (.bool _) => some "bool"
  | .d (.int _) => some "int"
  | .d (.str _) => some "str"
  | .d (.list _) => some "list"
  | .d (.tuple _) => some "tuple"
  | .d (.dict _) => some "dict"
  | .o k => match S[k]? with
    | some (.lst _) => some "list"
    | some (.tup _) => some "tuple"
    | some (.dk _) => some "dict"
    | some (.dt _) => some "dict"
    | _ => none
  | _ => none
theorem of_dct {K : PySem.W.Frag} {F : Hp} {μ : List Addr} {v : V} {kvs : List (PyData × PyData)} (r : RW K F μ v (.d (.dict kvs))) : ∃ a ys, v = .ref a ∧ F a = some (.dK ys) := by
  cases r with
  | d h =>
    cases h with
    | dct h _ _ => exact ⟨_, _, rfl, h⟩
theorem tyS_at {K : PySem.W.Frag} {G F H : Hp} {μ : List Addr} {S : Sto} (I : SI K G μ S F H) {v : V} {w : Wv} {a : String} (r : RW K F μ v w) (h : tyS S w = some a) : TyX K H v (.type a) := by
  unfold tyS at h
  split at h
  · cases h; obtain rfl := of_non r; exact .base .non
  · cases h; obtain rfl := of_bl r; exact .base (.bl _)
  · cases h; obtain rfl := of_int r; exact .base (.int _)
  · cases h; obtain rfl := of_str r; exact .base (.str _)
  · cases h; obtain ⟨p, xs, rfl, ea, _⟩ := of_lst r; exact .base (.lst (I.fr _ _ ea))
  · cases h; obtain ⟨p, xs, rfl, ea, _⟩ := of_tup r; exact .base (.tup (I.fr _ _ ea))
  · cases h; obtain ⟨p, xs, rfl, ea⟩ := of_dct r; exact .base (.dK (I.fr _ _ ea))
  · split at h
    · rename_i e; cases h; obtain ⟨p, rfl, _, ⟨xs, ea, _⟩, _⟩ := I.ref r e; exact .base (.lst ea)
    · rename_i e; cases h; obtain ⟨p, rfl, _, ⟨xs, ea, _⟩, _⟩ := I.ref r e; exact .base (.tup ea)
    · rename_i e; cases h; obtain ⟨p, rfl, _, ⟨xs, ea, _⟩, _⟩ := I.ref r e; exact .base (.dK ea)
    · rename_i e; cases h; obtain ⟨p, rfl, _, ⟨xs, ea, _⟩, _⟩ := I.ref r e; exact .base (.dT ea)
    · cases h
  · cases h
def cIsi : DRC := fun ws S Q => ∃ w T a b, ws = [w, .v (.ty T)] ∧ tyS S w = some a ∧ kitB a T = some b ∧ Q (.d (.bool b)) S
theorem dc_isi : DCallR X (.builtin "isinstance") cIsi := by
  refine ⟨_, call_isi, ?_⟩
  rintro G μ F S H vs ws Qd Q I r ⟨w, T, a, b, rfl, h1, h2, q⟩ k
  obtain ⟨v, u, rfl, rv, ru⟩ := rws2 r
  cases ru with
  | v => exact ⟨v, _, _, _, b, rfl, .ty T, tyS_at I rv h1, kit_ty h2, k.bl I q⟩
end

/-! ### statements -/
def gAddI : DR2 := fun x y S Q => match x, y with
  | .d (.int i), .d (.int j) => Q (.d (.int (i + j))) S
  | _, _ => False
section
variable {X : Cx} {st : Stmt} {rest : List Stmt} {f g : DTS} {e o : Expr} {fe fo : DTE} {pos : Pos}
def dNext : DTS := fun D ρ S => D.nx ρ S
def dSeq (f g : DTS) : DTS := fun D ρ S => f { D with nx := g D } ρ S
def dBreak : DTS := fun D ρ S => D.bk ρ S
def dCont : DTS := fun D ρ S => D.ct ρ S
theorem dss_nil : DSs X [] dNext := ⟨_, pss_nil, fun G μ F S H σ ρ Dd D I R z k => k.nx _ _ _ _ _ _ Ext.refl I R z⟩
theorem dss_cons (h1 : DS X st f) (h2 : DSs X rest g) : DSs X (st :: rest) (dSeq f g) := by
  obtain ⟨_, a1, a2⟩ := h1
  obtain ⟨_, b1, b2⟩ := h2
  exact ⟨_, pss_cons a1 b1, fun G μ F S H σ ρ Dd D I R z k => a2 G μ F S H σ ρ _ _ I R z ⟨fun μ1 F1 S1 H1 σ1 ρ1 e1 I1 R1 z1 => b2 G μ1 F1 S1 H1 σ1 ρ1 _ _ I1 R1 z1 (k.mono e1), k.rt, k.bk, k.ct⟩⟩
theorem dss_one (h1 : DS X st f) : DSs X [st] f := let ⟨_, a1, a2⟩ := h1; ⟨_, pss_one a1, a2⟩
theorem ds_pass : DS X (.Pass pos) dNext := ⟨_, ps_pass, fun G μ F S H σ ρ Dd D I R z k => k.nx _ _ _ _ _ _ Ext.refl I R z⟩
theorem ds_break : DS X (.Break pos) dBreak := ⟨_, ps_break, fun G μ F S H σ ρ Dd D I R z k => k.bk _ _ _ _ _ _ Ext.refl I R z⟩
theorem ds_cont : DS X (.Continue pos) dCont := ⟨_, ps_continue, fun G μ F S H σ ρ Dd D I R z k => k.ct _ _ _ _ _ _ Ext.refl I R z⟩
theorem ds_doc {x j pos'} : DS X (.Expr (.Constant (.str x) j pos) pos') dNext := ⟨_, ps_doc, fun G μ F S H σ ρ Dd D I R z k => k.nx _ _ _ _ _ _ Ext.refl I R z⟩
/-- never come to -/
def dNever : DTS := fun _ _ _ => False
theorem ds_never : DS X st dNever := ⟨_, ps_never, fun G μ F S H σ ρ Dd D I R z k => z.elim⟩
theorem dss_never {sts : List Stmt} : DSs X sts dNever := ⟨_, pss_never, fun G μ F S H σ ρ Dd D I R z k => z.elim⟩
def dDrop (fe : DTE) : DTS := fun D ρ S => fe ρ S fun _ S1 => D.nx ρ S1
theorem ds_expr (he : DE X e fe) (hs : swapsWith e none pos.line X.env = pure false := by rfl) : DS X (.Expr e pos) (dDrop fe) := by
  obtain ⟨_, a1, a2⟩ := he
  exact ⟨_, ps_expr a1 hs, fun G μ F S H σ ρ Dd D I R z k => a2 G μ F S H σ ρ _ _ I R z fun μ1 F1 S1 H1 v w e1 I1 r1 z1 => k.nx _ _ _ _ _ _ e1 I1 (R.mono e1) z1⟩
def dRet (fe : DTE) : DTS := fun D ρ S => fe ρ S fun w S1 => D.rt w S1
theorem ds_ret (he : DE X e fe) : DS X (.Return (some e) pos) (dRet fe) := by
  obtain ⟨_, a1, a2⟩ := he
  exact ⟨_, ps_ret a1, fun G μ F S H σ ρ Dd D I R z k => a2 G μ F S H σ ρ _ _ I R z fun μ1 F1 S1 H1 v w e1 I1 r1 z1 => k.rt _ _ _ _ _ _ e1 I1 r1 z1⟩
/-- an owned list is handed back as data: the def has no further use of it -/
def dRetL (fe : DTE) : DTS := fun D ρ S => fe ρ S fun w S1 => ∃ k l ds, w = .o k ∧ S1[k]? = some (.lst l) ∧ allD l = some ds ∧ D.rt (.d (.list ds)) (S1.set k .gone)
theorem ds_retL (he : DE X e fe) : DS X (.Return (some e) pos) (dRetL fe) := by
  obtain ⟨_, a1, a2⟩ := he
  refine ⟨_, ps_ret a1, fun G μ F S H σ ρ Dd D I R z k => a2 G μ F S H σ ρ _ _ I R z ?_⟩
  rintro μ1 F1 S1 H1 v w e1 I1 r1 ⟨kk, l, ds, rfl, hS, hd, z1⟩
  obtain ⟨a, rfl, hk, ⟨xs, ea, rs⟩, _⟩ := I1.ref r1 hS
  rw [allD_of hd] at rs
  obtain ⟨I2, e2⟩ := I1.settle hk hS (fun z => nomatch z) ea
  exact k.rt _ _ _ _ _ _ (e1.trans e2) I2 (.d (.lst upd_same (dqs_mono e2.same _ (d_rws rs)))) z1
def dRetN : DTS := fun D _ S => D.rt (.d .none) S
theorem ds_retN : DS X (.Return none pos) dRetN := ⟨_, ps_retN, fun G μ F S H σ ρ Dd D I R z k => k.rt _ _ _ _ _ _ Ext.refl I (.d .non) z⟩
def dIfS (c : DTT) (f g : DTS) : DTS := fun D ρ S => c ρ S fun b S1 => if b = true then f D ρ S1 else g D ρ S1
theorem ds_if {c : Expr} {a b : List Stmt} {fc : DTT} (hc : DT X c fc) (ha : DSs X a f) (hb : DSs X b g) : DS X (.If c a b pos) (dIfS fc f g) := by
  obtain ⟨_, c1, c2⟩ := hc
  obtain ⟨_, a1, a2⟩ := ha
  obtain ⟨_, b1, b2⟩ := hb
  refine ⟨_, ps_if c1 a1 b1, fun G μ F S H σ ρ Dd D I R z k => c2 G μ F S H σ ρ _ _ I R z fun μ1 F1 S1 H1 bb e1 I1 z1 => ?_⟩
  cases bb with
  | true => exact a2 G μ1 F1 S1 H1 σ ρ _ _ I1 (R.mono e1) z1 (k.mono e1)
  | false => exact b2 G μ1 F1 S1 H1 σ ρ _ _ I1 (R.mono e1) z1 (k.mono e1)
/-- a statement, then the rest, shown once behind it -/
def dCut (f g : DTS) : DTS := fun D ρ S => ∃ M : Rho → Sto → Prop, f { D with nx := M } ρ S ∧ ∀ ρ' S', M ρ' S' → g D ρ' S'
theorem dss_cut (h1 : DS X st f) (h2 : DSs X rest g) : DSs X (st :: rest) (dCut f g) := by
  obtain ⟨_, a1, a2⟩ := h1
  obtain ⟨_, b1, b2⟩ := h2
  refine ⟨_, pss_cons a1 b1, ?_⟩
  rintro G μ F S H σ ρ Dd D I R ⟨M, z, h⟩ k
  exact a2 G μ F S H σ ρ _ _ I R z ⟨fun μ1 F1 S1 H1 σ1 ρ1 e1 I1 R1 z1 => b2 G μ1 F1 S1 H1 σ1 ρ1 _ _ I1 R1 (h _ _ z1) (k.mono e1), k.rt, k.bk, k.ct⟩
/-- target = e -/
def dAsg (fe : DTE) (tg : DTG) : DTS := fun D ρ S => fe ρ S fun w S1 => tg w ρ S1 D.nx
theorem sim_asg {K : PySem.W.Frag} {te : TE} {g : TG} {tg : DTG} {vs : List Nat} (he : SimE K te fe) (hg : SimG K vs g tg) : SimS K (tAsg te g) (dAsg fe tg) := fun G μ F S H σ ρ Dd D I R z k =>
  he G μ F S H σ ρ _ _ I R z fun μ1 F1 S1 H1 v w e1 I1 r1 z1 => hg G μ1 F1 S1 H1 σ ρ _ _ _ _ I1 (R.mono e1) r1 z1 fun μ2 F2 S2 H2 σ2 ρ2 e2 I2 R2 _ z2 => k.nx _ _ _ _ _ _ (e1.trans e2) I2 R2 z2
theorem ds_set (i : Nat) {x : Str} {pos' : Pos} (hN : X.N.Nodup) (hi : X.N[i]? = some x) (hx : Loc X.env.scope x) (he : DE X e fe) (hs : swapsWith e (some (.Name x pos')) pos.line X.env = pure false := by rfl) (hf : X.fn x = true ∨ X.env.scope.names.lookup x = some .local := by first | exact .inl rfl | exact .inr rfl | assumption) :
    DS X (.Assign [.Name x pos'] e pos) (dAsg fe (dgName i)) :=
  let ⟨_, a1, a2⟩ := he
  ⟨_, ps_set hN hi hx a1 hs hf, sim_asg (vs := [i]) a2 fun G μ F S H σ ρ x w Qd Q I R r h k => k μ F S H _ _ Ext.refl I (R.set i r) (wipe_set (by simp)) h⟩
theorem ds_asg {tg : Expr} {vs : List Nat} {ftg : DTG} (he : DE X e fe) (hg : DG X tg vs ftg) (hs : swapsWithSole [tg] e pos.line X.env = pure false := by rfl) (hw : swappedStores [tg] e X.env = pure none := by rfl)
    (h1 : (assignEach [tg] X.env).map (·.2) = [assign tg X.env] := by rfl) : DS X (.Assign [tg] e pos) (dAsg fe ftg) :=
  let ⟨_, a1, a2⟩ := he; let ⟨_, b1, b2⟩ := hg
  ⟨_, ps_asg a1 b1 hs hw h1, sim_asg a2 b2⟩
/-- name = [.. for ..] on one line -/
theorem ds_setLc (i : Nat) {y : Str} {py : Pos} {elt tg iter : Expr} {ifs : List Expr} {scope : Scope} {own : List (Str × Nat)} {spos : Pos} {src : DTI} {tgt : DTG} {tt : DTT} {te : DTE} (hc : X.calm = true) (hN : X.N.Nodup) (hy : X.N[i]? = some y) (hyl : X.env.scope.names.lookup y = some .local)
    (hsw : swapsWith (.ListComp elt [⟨tg, iter, ifs, 0⟩] scope pos) (some (.Name y py)) spos.line X.env = pure true) (hi : DI X tg iter src) (ok : BlkOk X.N X.env.scope scope own)
    (hg : ∀ (s : Shared) (H : Hp) (C : Addr) (cl : List (Str × Addr)) (fp : List Addr), DG (X.blk s H scope (compEnvC scope cl C X.env) fp) tg (own.map (·.2)) tgt)
    (ht : ∀ (s : Shared) (H : Hp) (C : Addr) (cl : List (Str × Addr)) (fp : List Addr), DTs (X.blk s H scope (compEnvC scope cl C X.env) fp) ifs tt)
    (he : ∀ (s : Shared) (H : Hp) (C : Addr) (cl : List (Str × Addr)) (fp : List Addr), DE (X.blk s H scope (compEnvC scope cl C X.env) fp) elt te)
    (hs : ∀ x, foldedSetIterable iter X.env x = pure x := by intro _; rfl) : DS X (.Assign [.Name y py] (.ListComp elt [⟨tg, iter, ifs, 0⟩] scope pos) spos) (dAsg (dLc src tgt tt te (own.map (·.2))) (dgName i)) := by
  obtain ⟨wi, p, q⟩ := hi
  exact ⟨_, ps_setLc hc hN hy hyl hsw p ok (fun s H C cl fp => pg_gOf (hg s H C cl fp)) (fun s H C cl fp => pts_tOf (ht s H C cl fp)) (fun s H C cl fp => pe_tOf (he s H C cl fp)) hs,
    sim_asg (vs := [i]) (sim_lc q) fun G μ F S H σ ρ x w Qd Q I R r h k => k μ F S H _ _ Ext.refl I (R.set i r) (wipe_set (by simp)) h⟩
/-- a, b = x, y -/
def dPar (i j : Nat) (fa : DTA) : DTS := fun D ρ S => fa ρ S fun ws S1 => ∃ v w, ws = [v, w] ∧ D.nx ((ρ.set i (some v)).set j (some w)) S1
theorem ds_par (i j : Nat) {x y : Str} {a b : Expr} {fa : DTA} {px py pt : Pos} {kt k2 pt2} (hc : X.calm = true) (hN : X.N.Nodup) (hi : X.N[i]? = some x) (hj : X.N[j]? = some y) (hij : i ≠ j)
    (hx : X.env.scope.names.lookup x = some .local) (hy : X.env.scope.names.lookup y = some .local) (ha : DA X [a, b] fa)
    (hw : swappedStores [.Tuple [.Name x px, .Name y py] kt pt] (.Tuple [a, b] k2 pt2) X.env = pure (some [x, y]))
    (hs : swapsWithSole [.Tuple [.Name x px, .Name y py] kt pt] (.Tuple [a, b] k2 pt2) pos.line X.env = pure false := by rfl) :
    DS X (.Assign [.Tuple [.Name x px, .Name y py] kt pt] (.Tuple [a, b] k2 pt2) pos) (dPar i j fa) := by
  obtain ⟨_, a1, a2⟩ := ha
  refine ⟨_, ps_par hc hN hi hj hij hx hy a1 hw hs, fun G μ F S H σ ρ Dd D I R z k => a2 G μ F S H σ ρ _ _ I R z ?_⟩
  rintro μ1 F1 S1 H1 vs ws e1 I1 r1 ⟨v, w, rfl, z1⟩
  obtain ⟨v', w', rfl, rv, rw'⟩ := rws2 r1
  exact ⟨v', w', rfl, k.nx _ _ _ _ _ _ e1 I1 (((R.mono e1).set i rv).set j rw') z1⟩
/-- for -/
def dFor (src : DTI) (tg : DTG) (body : DTS) : DTS := fun D ρ S => src ρ S fun items keep S1 => ∃ Wd : List Wv → Rho → Sto → Prop, Wd items ρ S1 ∧ (∀ r ρ S, Wd r ρ S → keep S) ∧
  (∀ x r ρ S, Wd (x :: r) ρ S → tg x ρ S fun ρ2 S2 => body { D with nx := Wd r, ct := Wd r, bk := D.nx } ρ2 S2) ∧ ∀ ρ S, Wd [] ρ S → D.nx ρ S
theorem ds_for {tg iter : Expr} {body : List Stmt} {src : DTI} {vs : List Nat} {ftg : DTG} (hp : PassesOwn (model X.prog X.w) X.A X.env X.xe) (hc : X.calm = true) (hi : DI X tg iter src) (hg : DG X tg vs ftg) (hb : DSs X body f)
    (hs : ∀ x, foldedSetIterable iter X.env x = pure x := by intro _; rfl) : DS X (.For tg iter body [] pos) (dFor src ftg f) := by
  obtain ⟨_, i1, i2⟩ := hi
  obtain ⟨_, g1, g2⟩ := hg
  obtain ⟨_, b1, b2⟩ := hb
  refine ⟨_, ps_for hp hc i1 g1 b1 hs, fun G μ F S H σ ρ Dd D I R z k => i2 G μ F S H σ ρ _ _ I R z ?_⟩
  rintro μ1 F1 S1 H1 J items keep e1 I1 ok ⟨Wd, w0, hk, step, done⟩
  refine ⟨fun i m σ' H' => ∃ μ' F' S' ρ', Ext μ1 F1 μ' F' ∧ SI X.K G μ' S' F' H' ∧ ER X.K F' μ' σ' ρ' ∧ Wd (items.drop i) ρ' S' ∧ i ≤ items.length ∧ m = items.length - i, ⟨items.length, μ1, F1, S1, ρ, Ext.refl, I1, R.mono e1, w0, Nat.zero_le _, rfl⟩, ?_⟩
  rintro i m σ' H' ⟨μ', F', S', ρ', e2, I2, R2, wd, hle, rfl⟩
  by_cases hi : i < items.length
  · refine .inr ?_
    have okk := (ok G i μ' F' S' H' e2 I2 (hk _ _ _ wd)).1 hi
    refine ⟨okk.1, fun σ3 H3 => ∃ μ3 F3 S3 ρ3, Ext μ1 F1 μ3 F3 ∧ SI X.K G μ3 S3 F3 H3 ∧ ER X.K F3 μ3 σ3 ρ3 ∧ Wd (items.drop (i + 1)) ρ3 S3, ?_, ?_⟩
    · rintro σ3 H3 ⟨μ3, F3, S3, ρ3, a, b, c, d⟩
      exact ⟨items.length - (i + 1), by omega, μ3, F3, S3, ρ3, a, b, c, d, by omega, rfl⟩
    · intro x H2 hy
      obtain ⟨F3, w, e3, I3, hw, rw'⟩ := okk.2 x H2 hy
      rw [drop_cons hw] at wd
      refine g2 G μ' F3 S' H2 σ' ρ' x w _ _ I3 (R2.mono e3) rw' (step _ _ _ _ wd) ?_
      intro μ4 F4 S4 H4 σ4 ρ4 e4 I4 R4 _ z4
      have e14 := (e2.trans e3).trans e4
      have k4 := k.mono (e1.trans e14)
      exact b2 G μ4 F4 S4 H4 σ4 ρ4 _ _ I4 R4 z4 ⟨fun μ5 F5 S5 H5 σ5 ρ5 e5 I5 R5 z5 => ⟨μ5, F5, S5, ρ5, e14.trans e5, I5, R5, z5⟩, k4.rt, k4.nx, fun μ5 F5 S5 H5 σ5 ρ5 e5 I5 R5 z5 => ⟨μ5, F5, S5, ρ5, e14.trans e5, I5, R5, z5⟩⟩
  · have hi' : i = items.length := by omega
    subst hi'
    rw [List.drop_length] at wd
    exact .inl ⟨(ok G _ μ' F' S' H' e2 I2 (hk _ _ _ (by rw [← List.drop_length (l := items)] at wd; exact wd))).2 (Nat.le_refl _), k.nx _ _ _ _ _ _ (e1.trans e2) I2 R2 (done _ _ wd)⟩
/-- while -/
def dWhile (c : DTT) (body : DTS) : DTS := fun D ρ S => ∃ Wd : Nat → Rho → Sto → Prop, (∃ m, Wd m ρ S) ∧ ∀ m ρ S, Wd m ρ S → c ρ S fun b S1 =>
  if b = true then body { D with nx := fun ρ' S' => ∃ m', m' < m ∧ Wd m' ρ' S', ct := fun ρ' S' => ∃ m', m' < m ∧ Wd m' ρ' S', bk := D.nx } ρ S1 else D.nx ρ S1
theorem ds_while {c : Expr} {body : List Stmt} {fc : DTT} (hp : PassesOwn (model X.prog X.w) X.A X.env X.xe) (hc : DT X c fc) (hb : DSs X body f) : DS X (.While c body [] pos) (dWhile fc f) := by
  obtain ⟨_, c1, c2⟩ := hc
  obtain ⟨_, b1, b2⟩ := hb
  refine ⟨_, ps_while hp c1 b1, ?_⟩
  rintro G μ F S H σ ρ Dd D I R ⟨Wd, ⟨m0, w0⟩, step⟩ k
  refine ⟨fun m σ' H' => ∃ μ' F' S' ρ', Ext μ F μ' F' ∧ SI X.K G μ' S' F' H' ∧ ER X.K F' μ' σ' ρ' ∧ Wd m ρ' S', ⟨m0, μ, F, S, ρ, Ext.refl, I, R, w0⟩, ?_⟩
  rintro m σ' H' ⟨μ', F', S', ρ', e2, I2, R2, wd⟩
  refine c2 G μ' F' S' H' σ' ρ' _ _ I2 R2 (step m ρ' S' wd) fun μ3 F3 S3 H3 bb e3 I3 z3 => ?_
  have k3 := k.mono (e2.trans e3)
  cases bb with
  | false => exact k3.nx _ _ _ _ _ _ Ext.refl I3 (R2.mono e3) z3
  | true =>
    refine ⟨fun σ4 H4 => ∃ m', m' < m ∧ ∃ μ4 F4 S4 ρ4, Ext μ F μ4 F4 ∧ SI X.K G μ4 S4 F4 H4 ∧ ER X.K F4 μ4 σ4 ρ4 ∧ Wd m' ρ4 S4, fun σ4 H4 z => z, ?_⟩
    have go : ∀ μ5 F5 S5 H5 σ5 ρ5, Ext μ3 F3 μ5 F5 → SI X.K G μ5 S5 F5 H5 → ER X.K F5 μ5 σ5 ρ5 → (∃ m', m' < m ∧ Wd m' ρ5 S5) → ∃ m', m' < m ∧ ∃ μ4 F4 S4 ρ4, Ext μ F μ4 F4 ∧ SI X.K G μ4 S4 F4 H5 ∧ ER X.K F4 μ4 σ5 ρ4 ∧ Wd m' ρ4 S4 := by
      rintro μ5 F5 S5 H5 σ5 ρ5 e5 I5 R5 ⟨m', hm, w⟩
      exact ⟨m', hm, μ5, F5, S5, ρ5, (e2.trans e3).trans e5, I5, R5, w⟩
    exact b2 G μ3 F3 S3 H3 σ' ρ' _ _ I3 (R2.mono e3) z3 ⟨go, k3.rt, k3.nx, go⟩
/-- e.f = value -/
def putWF (f : Str) (w : Wv) : List (Str × Wv) → List (Str × Wv)
  | [] => [(f, w)]
  | (g, u) :: r => if g = f then (g, w) :: r else (g, u) :: putWF f w r
theorem rkv_putF {K : PySem.W.Frag} {F : Hp} {μ : List Addr} {f : Str} {v : V} {w : Wv} (rw' : RW K F μ v w) : ∀ {ys : List (Str × V)} {fs : List (Str × Wv)}, RKV K F μ ys fs → RKV K F μ (putF f v ys) (putWF f w fs)
  | _, _, .nil => .cons ⟨rfl, rw'⟩ .nil
  | (a, x) :: ys, (b, u) :: fs, .cons r t => by
    obtain ⟨e, r2⟩ := r
    have e' : a = b := e
    subst e'
    unfold putF putWF
    by_cases q : a = f
    · rw [if_pos q, if_pos q]; exact .cons ⟨rfl, rw'⟩ t
    · rw [if_neg q, if_neg q]; exact .cons ⟨rfl, r2⟩ (rkv_putF rw' t)
def dFldS (C : Addr) (f : Str) (fo fe : DTE) : DTS := fun D ρ S => fe ρ S fun w S1 => fo ρ S1 fun x S2 => ∃ k fs, x = .o k ∧ S2[k]? = some (.ins C fs) ∧ fs.length < 1000 ∧ D.nx ρ (S2.set k (.ins C (putWF f w fs)))
theorem ds_fld {C : Addr} {n : Str} {pos' : Pos} (ho : DE X o fo) (he : DE X e fe) (c : Cls X.K C) (na : NoAttr X.K C n) (hs : swapsWith e (some (.Attribute o n pos')) pos.line X.env = pure false := by rfl) : DS X (.Assign [.Attribute o n pos'] e pos) (dFldS C n fo fe) := by
  obtain ⟨_, o1, o2⟩ := ho
  obtain ⟨_, e1, e2⟩ := he
  refine ⟨_, ps_fld o1 e1 hs, ?_⟩
  intro G μ F S H σ ρ Dd D I R z k
  refine e2 G μ F S H σ ρ _ _ I R z fun μ1 F1 S1 H1 v w x1 I1 r1 z1 => o2 G μ1 F1 S1 H1 σ ρ _ _ I1 (R.mono x1) z1 ?_
  rintro μ2 F2 S2 H2 vo wo x2 I2 r2 ⟨kk, fs, rfl, hS, hl, q⟩
  obtain ⟨a, rfl, hk, ⟨dx, ys, ea, rs⟩, _⟩ := I2.ref r2 hS
  refine ⟨a, C, dx, ys, rfl, ea, c, na, by rw [rs.length]; exact hl, ?_⟩
  exact k.nx _ _ _ _ _ _ (x1.trans x2) (I2.put (u := .ins C (putWF n w fs)) hk hS (fun z => nomatch z) fun H3 z => ⟨dx, _, z, rkv_putF (r1.mono x2) rs⟩) (R.mono (x1.trans x2)) q
/-- an augmented operator -/
def SimIp (K : PySem.W.Frag) (r : TIp) (g : DR2) : Prop := ∀ (G : Hp) (μ : List Addr) (F : Hp) (S : Sto) (H : Hp) (x y : V) (a b : Wv) (Qd : Wv → Sto → Prop) (Q : VK), SI K G μ S F H → RW K F μ x a → RW K F μ y b → g a b S Qd → KE K G μ F Qd Q → r x y H Q
def DIp (X : Cx) (op : Operator) (g : DR2) : Prop := ∃ r, PIp X op r ∧ InOp X op r ∧ SimIp X.K r g
theorem dip_add : DIp X .Add gAddI := by
  refine ⟨_, ip_add, in_add, ?_⟩
  intro G μ F S H x y a b Qd Q I ra rb h k
  unfold gAddI at h
  split at h
  · obtain rfl := of_int ra
    obtain rfl := of_int rb
    exact ⟨_, _, rfl, rfl, k.int I h⟩
  · exact h.elim
theorem dip_sub : DIp X .Sub gSub := by
  refine ⟨_, ip_sub, in_sub, ?_⟩
  intro G μ F S H x y a b Qd Q I ra rb h k
  unfold gSub at h
  split at h
  · obtain rfl := of_int ra
    obtain rfl := of_int rb
    exact ⟨_, _, rfl, rfl, k.int I h⟩
  · exact h.elim
/-- name op= e -/
def dAug (i : Nat) (fe : DTE) (g : DR2) : DTS := fun D ρ S => ∃ u, ρ[i]? = some (some u) ∧ fe ρ S fun w S1 => g u w S1 fun z S2 => D.nx (ρ.set i (some z)) S2
theorem ds_aug (i : Nat) {x : Str} {op : Operator} {g : DR2} {pos' : Pos} (hN : X.N.Nodup) (hi : X.N[i]? = some x) (hx : Loc X.env.scope x) (he : DE X e fe) (ho : DIp X op g) (hf : X.fn x = true ∨ X.env.scope.names.lookup x = some .local := by first | exact .inl rfl | exact .inr rfl | assumption) : DS X (.AugAssign (.Name x pos') op e pos) (dAug i fe g) := by
  obtain ⟨_, e1, e2⟩ := he
  obtain ⟨_, p1, _, p2⟩ := ho
  refine ⟨_, ps_aug hN hi hx e1 p1 hf, ?_⟩
  rintro G μ F S H σ ρ Dd D I R ⟨u, hu, z⟩ k
  obtain ⟨v, hv, rv⟩ := R.val i u hu
  refine ⟨v, hv, e2 G μ F S H σ ρ _ _ I R z fun μ1 F1 S1 H1 v1 w1 x1 I1 r1 z1 => p2 G μ1 F1 S1 H1 _ _ _ _ _ _ I1 (rv.mono x1) r1 z1 ?_⟩
  intro μ2 F2 S2 H2 v2 w2 x2 I2 r2 z2
  exact k.nx _ _ _ _ _ _ (x1.trans x2) I2 ((R.mono (x1.trans x2)).set i r2) z2
/-- e.f op= value -/
def dFldAug (C : Addr) (f : Str) (fo fe : DTE) (g : DR2) : DTS := fun D ρ S => fo ρ S fun x S1 => ∃ k fs u, x = .o k ∧ S1[k]? = some (.ins C fs) ∧ fs.lookup f = some u ∧
  fe ρ S1 fun w S2 => g u w S2 fun z S3 => ∃ fs', S3[k]? = some (.ins C fs') ∧ fs'.length < 1000 ∧ D.nx ρ (S3.set k (.ins C (putWF f z fs')))
theorem ds_fldaug {C : Addr} {n : Str} {tpos : Pos} {op : Operator} {g : DR2} (ho : DE X o fo) (he : DE X e fe) (hop : DIp X op g) (c : Cls X.K C) (na : NoAttr X.K C n) : DS X (.AugAssign (.Attribute o n tpos) op e pos) (dFldAug C n fo fe g) := by
  obtain ⟨_, o1, o2⟩ := ho
  obtain ⟨_, e1, e2⟩ := he
  obtain ⟨_, _, p1, p2⟩ := hop
  refine ⟨_, ps_fldaug o1 e1 p1, ?_⟩
  intro G μ F S H σ ρ Dd D I R z k
  refine o2 G μ F S H σ ρ _ _ I R z ?_
  rintro μ1 F1 S1 H1 vo wo x1 I1 r1 ⟨kk, fs, u, rfl, hS, hl, z1⟩
  obtain ⟨a, rfl, hk, ⟨dx, ys, ea, rs⟩, _⟩ := I1.ref r1 hS
  obtain ⟨v, hv, rv⟩ := lookup_some rs hl
  refine ⟨a, C, dx, ys, v, rfl, ea, c, na, hv, e2 G μ1 F1 S1 H1 σ ρ _ _ I1 (R.mono x1) z1 fun μ2 F2 S2 H2 v2 w2 x2 I2 r2 z2 => p2 G μ2 F2 S2 H2 _ _ _ _ _ _ I2 (rv.mono x2) r2 z2 ?_⟩
  rintro μ3 F3 S3 H3 v3 w3 x3 I3 r3 ⟨fs', hS3, hl3, q⟩
  have hk3 := pre_get (x2.trans x3).pre hk
  obtain ⟨⟨dx', ys', ea', rs'⟩, _⟩ := I3.cell _ _ _ hk3 hS3
  refine ⟨dx', ys', ea', by rw [rs'.length]; exact hl3, ?_⟩
  have e13 := x1.trans (x2.trans x3)
  exact k.nx _ _ _ _ _ _ e13 (I3.put (u := .ins C (putWF n w3 fs')) hk3 hS3 (fun z => nomatch z) fun H4 z => ⟨dx', _, z, rkv_putF r3 rs'⟩) (R.mono e13) q
/-- d[i] = value -/
def dPut (fo fi fe : DTE) : DTS := fun D ρ S => fe ρ S fun w S1 => fo ρ S1 fun x S2 => fi ρ S2 fun y S3 => ∃ S4, dictPut S3 x y w = some S4 ∧ dictLen S3 x < sizeLine ∧ D.nx ρ S4
theorem ds_dput {i : Expr} {fi : DTE} {pos' : Pos} (hu : X.A.units + 1 < cLine) (ho : DE X o fo) (hi : DE X i fi) (he : DE X e fe) (hs : swapsWith e (some (.Subscript o i pos')) pos.line X.env = pure false := by rfl) : DS X (.Assign [.Subscript o i pos'] e pos) (dPut fo fi fe) := by
  obtain ⟨_, o1, o2⟩ := ho
  obtain ⟨_, i1, i2⟩ := hi
  obtain ⟨_, e1, e2⟩ := he
  refine ⟨_, ps_dput hu o1 i1 e1 hs, ?_⟩
  intro G μ F S H σ ρ Dd D I R z k
  refine e2 G μ F S H σ ρ _ _ I R z fun μ1 F1 S1 H1 v w x1 I1 r1 z1 => o2 G μ1 F1 S1 H1 σ ρ _ _ I1 (R.mono x1) z1 fun μ2 F2 S2 H2 vo x x2 I2 r2 z2 => i2 G μ2 F2 S2 H2 σ ρ _ _ I2 (R.mono (x1.trans x2)) z2 ?_
  rintro μ3 F3 S3 H3 vi y x3 I3 r3 ⟨S4, hp, hl, q⟩
  obtain ⟨a, H4, rfl, hd, I4⟩ := put_at I3 (r2.mono x3) r3 (r1.mono (x2.trans x3)) hp hl
  exact ⟨a, H4, rfl, hd, k.nx _ _ _ _ _ _ ((x1.trans x2).trans x3) I4 (R.mono ((x1.trans x2).trans x3)) q⟩
def dDAug (fo fi fe : DTE) (g : DR2) : DTS := fun D ρ S => fo ρ S fun x S1 => fi ρ S1 fun y S2 => ∃ u, dictLook S2 x y = some (some u) ∧ fe ρ S2 fun w S3 => g u w S3 fun z S4 => ∃ S5, dictPut S4 x y z = some S5 ∧ dictLen S4 x < sizeLine ∧ D.nx ρ S5
theorem ds_daug {i : Expr} {fi : DTE} {tpos : Pos} {op : Operator} {g : DR2} (hu : X.A.units + 1 < cLine) (ho : DE X o fo) (hi : DE X i fi) (he : DE X e fe) (hop : DIp X op g)
    (ha : ∀ ov iv new, augStore i ov iv new = (do holding [new, ov, iv] (setItem ov iv new); release [new, ov, iv] []; pure .next) := by intros; rfl) : DS X (.AugAssign (.Subscript o i tpos) op e pos) (dDAug fo fi fe g) := by
  obtain ⟨_, o1, o2⟩ := ho
  obtain ⟨_, i1, i2⟩ := hi
  obtain ⟨_, e1, e2⟩ := he
  obtain ⟨_, _, p1, p2⟩ := hop
  refine ⟨_, ps_daug hu o1 i1 e1 p1 ha, ?_⟩
  intro G μ F S H σ ρ Dd D I R z k
  refine o2 G μ F S H σ ρ _ _ I R z fun μ1 F1 S1 H1 vo x x1 I1 r1 z1 => i2 G μ1 F1 S1 H1 σ ρ _ _ I1 (R.mono x1) z1 ?_
  rintro μ2 F2 S2 H2 vi y x2 I2 r2 ⟨u, hl, z2⟩
  obtain ⟨a, ov, rfl, _, hg, _, h2⟩ := look_at I2 (r1.mono x2) r2 hl
  obtain ⟨v, rfl, rv⟩ := h2 u rfl
  refine ⟨a, v, rfl, hg, e2 G μ2 F2 S2 H2 σ ρ _ _ I2 (R.mono (x1.trans x2)) z2 fun μ3 F3 S3 H3 v3 w3 x3 I3 r3 z3 => p2 G μ3 F3 S3 H3 _ _ _ _ _ _ I3 (rv.mono x3) r3 z3 ?_⟩
  rintro μ4 F4 S4 H4 v4 w4 x4 I4 r4 ⟨S5, hp, hl4, q⟩
  obtain ⟨a', H5, ea, hd, I5⟩ := put_at I4 (r1.mono ((x2.trans x3).trans x4)) (r2.mono (x3.trans x4)) r4 hp hl4
  cases ea
  have e14 := x1.trans ((x2.trans x3).trans x4)
  exact ⟨H5, hd, k.nx _ _ _ _ _ _ e14 I5 (R.mono e14) q⟩
/-- xs[i] = value, xs[i] op= value (an owned list) -/
def dgSet (fo fi : DTE) : DTG := fun w ρ S Q => fo ρ S fun x S1 => fi ρ S1 fun y S2 => ∃ k l i j, x = .o k ∧ y = .d (.int i) ∧ S2[k]? = some (.lst l) ∧ ixN l.length i = some j ∧ Q ρ (S2.set k (.lst (l.set j w)))
theorem dg_set {i : Expr} {fi : DTE} {vs : List Nat} (ho : DE X o fo) (hi : DE X i fi)
    (ha : ∀ v, assign (.Subscript o i pos) X.env v = (do
      let ov ← holding [v] (eval o X.env)
      let iv ← holding [v, ov] (eval i X.env)
      standAt pos
      holding [v, ov, iv] (setItem ov iv v)
      release [v, ov, iv] []) := by intro _; rfl) : DG X (.Subscript o i pos) vs (dgSet fo fi) := by
  obtain ⟨_, o1, o2⟩ := ho
  obtain ⟨_, i1, i2⟩ := hi
  refine ⟨_, pg_sub o1 i1 set_list ha, ?_⟩
  intro G μ F S H σ ρ x w Qd Q I R r z k
  refine o2 G μ F S H σ ρ _ _ I R z fun μ1 F1 S1 H1 vo wo x1 I1 r1 z1 => i2 G μ1 F1 S1 H1 σ ρ _ _ I1 (R.mono x1) z1 ?_
  rintro μ2 F2 S2 H2 vi wi x2 I2 r2 ⟨kk, l, ii, j, rfl, rfl, hS, hj, q⟩
  obtain ⟨a, rfl, hk, ⟨xs, ea, rs⟩, _⟩ := I2.ref (r1.mono x2) hS
  obtain rfl := of_int r2
  refine ⟨a, xs, ii, j, rfl, rfl, ea, by rw [rs.length]; exact hj, ?_⟩
  exact k _ _ _ _ _ _ (x1.trans x2) (I2.put (u := .lst (l.set j w)) hk hS (fun z => nomatch z) fun H3 z => ⟨_, z, paired_set rs (r.mono (x1.trans x2)) j⟩) (R.mono (x1.trans x2)) rfl q
theorem pget_list : PGet X (fun o i H Q => ∃ p xs k v, o = .ref p ∧ i = .int k ∧ SqL X.K H p xs ∧ 0 ≤ k ∧ k < 2 ^ 63 ∧ xs[k.toNat]? = some v ∧ Q v H) := by
  rintro pins s σ H o i ov iv Q I ro ri ⟨p, xs, k, v, rfl, rfl, hs, h0, h1, hx, q⟩
  cases ro
  obtain ⟨t, rfl⟩ := ri
  obtain ⟨its, rv, pl, _⟩ := I.list hs
  obtain ⟨u, hu, ru⟩ := rv.get hx
  exact wpAny_getItem_list pl.isList h0 h1 (by simpa using hu) ⟨v, H, I, ru, q⟩
def dAugS (fo fi fe : DTE) (g : DR2) : DTS := fun D ρ S => fo ρ S fun x S1 => fi ρ S1 fun y S2 => ∃ k l i u, x = .o k ∧ y = .d (.int i) ∧ S2[k]? = some (.lst l) ∧ 0 ≤ i ∧ i < 2 ^ 63 ∧ l[i.toNat]? = some u ∧
  fe ρ S2 fun w S3 => g u w S3 fun z S4 => ∃ l' j, S4[k]? = some (.lst l') ∧ ixN l'.length i = some j ∧ D.nx ρ (S4.set k (.lst (l'.set j z)))
theorem ds_augS {i : Expr} {fi : DTE} {tpos : Pos} {op : Operator} {g : DR2} (ho : DE X o fo) (hi : DE X i fi) (he : DE X e fe) (hop : DIp X op g)
    (ha : ∀ ov iv new, augStore i ov iv new = (do holding [new, ov, iv] (setItem ov iv new); release [new, ov, iv] []; pure .next) := by intros; rfl) : DS X (.AugAssign (.Subscript o i tpos) op e pos) (dAugS fo fi fe g) := by
  obtain ⟨_, o1, o2⟩ := ho
  obtain ⟨_, i1, i2⟩ := hi
  obtain ⟨_, e1, e2⟩ := he
  obtain ⟨_, p1, _, p2⟩ := hop
  refine ⟨_, ps_augS o1 i1 pget_list e1 p1 set_list ha, ?_⟩
  intro G μ F S H σ ρ Dd D I R z k
  refine o2 G μ F S H σ ρ _ _ I R z fun μ1 F1 S1 H1 vo x x1 I1 r1 z1 => i2 G μ1 F1 S1 H1 σ ρ _ _ I1 (R.mono x1) z1 ?_
  rintro μ2 F2 S2 H2 vi y x2 I2 r2 ⟨kk, l, ii, u, rfl, rfl, hS, h0, h1, hx, z2⟩
  obtain ⟨a, rfl, hk, ⟨xs, ea, rs⟩, _⟩ := I2.ref (r1.mono x2) hS
  obtain rfl := of_int r2
  obtain ⟨v, hv, rv⟩ := paired_get rs hx
  refine ⟨a, xs, ii, v, rfl, rfl, .inl (.inl ea), h0, h1, hv, e2 G μ2 F2 S2 H2 σ ρ _ _ I2 (R.mono (x1.trans x2)) z2 fun μ3 F3 S3 H3 v3 w3 x3 I3 r3 z3 => p2 G μ3 F3 S3 H3 _ _ _ _ _ _ I3 (rv.mono x3) r3 z3 ?_⟩
  rintro μ4 F4 S4 H4 v4 w4 x4 I4 r4 ⟨l', j, hS4, hj, q⟩
  have hk4 := pre_get (x3.trans x4).pre hk
  obtain ⟨⟨xs', ea', rs'⟩, _⟩ := I4.cell _ _ _ hk4 hS4
  have e14 := x1.trans ((x2.trans x3).trans x4)
  exact ⟨a, xs', ii, j, rfl, rfl, ea', by rw [rs'.length]; exact hj, k.nx _ _ _ _ _ _ e14 (I4.put (u := .lst (l'.set j w4)) hk4 hS4 (fun z => nomatch z) fun H5 z => ⟨_, z, paired_set rs' r4 j⟩) (R.mono e14) q⟩
end
end Dm

namespace Dm
open PySem L2 PySem.Spec PyProof.Rows

/-! ### a dict is walked -/
def dLockE (f : DTE) : DTE := fun ρ S Q => ∃ k kvs, S[k]? = some (.dk kvs) ∧ ∀ od ys, f ρ (S.set k (.dkL od ys kvs)) fun w S' => S'[k]? = some (.dkL od ys kvs) ∧ Q w (S'.set k (.dk kvs))
section
variable {X : Cx} {e tg : Expr} {fe : DTE} {f : DTE} {pos : Pos}
theorem de_lock (h : DE X e f) : DE X e (dLockE f) := by
  obtain ⟨_, p, q⟩ := h
  refine ⟨_, pe_lock p, ?_⟩
  rintro G μ F S H σ ρ Qd Q I R ⟨kk, kvs, hS, z⟩ k
  obtain ⟨a, hk⟩ := I.at' hS
  obtain ⟨⟨ys, ea, rs⟩, _⟩ := I.cell _ _ _ hk hS
  refine ⟨a, .dK ys, ea, trivial, fun od => ?_⟩
  have I1 := I.put (ho := .frz od (.dK ys)) (u := .dkL od ys kvs) hk hS (fun z => nomatch z) fun H2 z => ⟨z, rs⟩
  refine q G μ F _ _ σ ρ _ _ I1 R (z od ys) ?_
  rintro μ1 F1 S1 H1 v w e1 I2 r1 ⟨h1, h2⟩
  have hk2 := pre_get e1.pre hk
  obtain ⟨⟨eb, rs2⟩, _⟩ := I2.cell _ _ _ hk2 h1
  exact ⟨eb, k _ _ _ _ _ _ e1 (I2.put (ho := .dK ys) (u := .dk kvs) hk2 h1 (fun z => nomatch z) fun H2 z => ⟨ys, z, rs2⟩) r1 h2⟩
def dLockS (f : DTS) : DTS := fun D ρ S => ∃ k kvs, S[k]? = some (.dk kvs) ∧ ∀ od ys, f { nx := fun ρ' S' => S'[k]? = some (.dkL od ys kvs) ∧ D.nx ρ' (S'.set k (.dk kvs)), rt := fun w S' => S'[k]? = some (.dkL od ys kvs) ∧ D.rt w (S'.set k (.dk kvs)), bk := fun ρ' S' => S'[k]? = some (.dkL od ys kvs) ∧ D.bk ρ' (S'.set k (.dk kvs)), ct := fun ρ' S' => S'[k]? = some (.dkL od ys kvs) ∧ D.ct ρ' (S'.set k (.dk kvs)) } ρ (S.set k (.dkL od ys kvs))
theorem ds_lock {st : Stmt} {f : DTS} (h : DS X st f) : DS X st (dLockS f) := by
  obtain ⟨_, p, q⟩ := h
  refine ⟨_, ps_lock p, ?_⟩
  rintro G μ F S H σ ρ Dd D I R ⟨kk, kvs, hS, z⟩ k
  obtain ⟨a, hk⟩ := I.at' hS
  obtain ⟨⟨ys, ea, rs⟩, _⟩ := I.cell _ _ _ hk hS
  refine ⟨a, .dK ys, ea, trivial, fun od => ?_⟩
  have I1 := I.put (ho := .frz od (.dK ys)) (u := .dkL od ys kvs) hk hS (fun z => nomatch z) fun H2 z => ⟨z, rs⟩
  have back : ∀ {μ1 F1 S1 H1}, Ext μ F μ1 F1 → SI X.K G μ1 S1 F1 H1 → S1[kk]? = some (.dkL od ys kvs) → H1 a = some (.frz od (.dK ys)) ∧ SI X.K G μ1 (S1.set kk (.dk kvs)) F1 (upd H1 a (.dK ys)) := by
    intro μ1 F1 S1 H1 e1 I2 h1
    have hk2 := pre_get e1.pre hk
    obtain ⟨⟨eb, rs2⟩, _⟩ := I2.cell _ _ _ hk2 h1
    exact ⟨eb, I2.put (ho := .dK ys) (u := .dk kvs) hk2 h1 (fun z => nomatch z) fun H2 z => ⟨ys, z, rs2⟩⟩
  refine q G μ F _ _ σ ρ _ _ I1 R (z od ys) ⟨?_, ?_, ?_, ?_⟩
  · rintro μ1 F1 S1 H1 σ1 ρ1 e1 I2 R1 ⟨h1, h2⟩
    exact ⟨(back e1 I2 h1).1, k.nx _ _ _ _ _ _ e1 (back e1 I2 h1).2 R1 h2⟩
  · rintro μ1 F1 S1 H1 v w e1 I2 R1 ⟨h1, h2⟩
    exact ⟨(back e1 I2 h1).1, k.rt _ _ _ _ _ _ e1 (back e1 I2 h1).2 R1 h2⟩
  · rintro μ1 F1 S1 H1 σ1 ρ1 e1 I2 R1 ⟨h1, h2⟩
    exact ⟨(back e1 I2 h1).1, k.bk _ _ _ _ _ _ e1 (back e1 I2 h1).2 R1 h2⟩
  · rintro μ1 F1 S1 H1 σ1 ρ1 e1 I2 R1 ⟨h1, h2⟩
    exact ⟨(back e1 I2 h1).1, k.ct _ _ _ _ _ _ e1 (back e1 I2 h1).2 R1 h2⟩
def kP : Key → PyData
  | .inl i => .int i
  | .inr x => .str x
theorem dq_key {F : Hp} (k : Key) : Dq F (kV k) (kP k) := by
  cases k with
  | inl i => exact .int i
  | inr x => exact .str x
/-- the keys of a locked dict -/
def diKeys (f : DTE) : DTI := fun ρ S R => f ρ S fun w S1 => ∃ k od ys kvs, w = .o k ∧ S1[k]? = some (.dkL od ys kvs) ∧ R (kvs.map fun p => .d (kP p.1)) (fun S => S[k]? = some (.dkL od ys kvs)) S1
theorem di_keys (h : DE X e f) : DI X tg e (diKeys f) := by
  obtain ⟨_, p, q⟩ := h
  refine ⟨_, pi_keys p, fun G μ F S H σ ρ R Q I RR z k => q G μ F S H σ ρ _ _ I RR z ?_⟩
  rintro μ1 F1 S1 H1 v w e1 I1 r1 ⟨kk, od, ys, kvs, rfl, hS, z1⟩
  obtain ⟨a, rfl, hk, ⟨ea, rs⟩, _⟩ := I1.ref r1 hS
  refine ⟨a, od, rfl, .inl ⟨ys, ea, k _ _ _ _ _ _ _ e1 I1 ?_ z1⟩⟩
  intro G2 i μ2 F2 S2 H2 e I hk2
  obtain ⟨⟨eb, rs2⟩, _⟩ := I.cell _ _ _ (pre_get e.pre hk) hk2
  rw [List.length_map, ← rs.length]
  refine ⟨fun hi => ⟨⟨eb, hi⟩, ?_⟩, fun hi => ⟨eb, hi⟩⟩
  rintro x H' ⟨rfl, key, v, hx, rfl⟩
  obtain ⟨⟨kb, wb⟩, hb, h1, h2⟩ := paired_get' rs hx
  have h1' : key = kb := h1
  subst h1'
  exact ⟨F2, _, Ext.refl, I, by rw [List.getElem?_map, hb]; rfl, .d (dq_key key)⟩
/-- the pairs, the values data -/
def pairsD : List (Key × Wv) → Option (List PyData)
  | [] => some []
  | (k, .d x) :: r => (pairsD r).map (.tuple [kP k, x] :: ·)
  | _ => none
theorem pairs_get : ∀ {kvs : List (Key × Wv)} {l : List PyData} {i : Nat} {k : Key} {w : Wv}, pairsD kvs = some l → kvs[i]? = some (k, w) → ∃ x, w = .d x ∧ l[i]? = some (.tuple [kP k, x])
  | [], _, _, _, _, _, h => by simp at h
  | (k0, w0) :: r, l, i, k, w, h, h2 => by
    cases w0 <;> try (cases h; done)
    unfold pairsD at h
    cases z : pairsD r with
    | none => rw [z] at h; cases h
    | some l2 =>
      rw [z] at h
      cases h
      cases i with
      | zero => simp at h2; obtain ⟨rfl, rfl⟩ := h2; exact ⟨_, rfl, rfl⟩
      | succ i => simpa using pairs_get z (by simpa using h2)
theorem pairs_len : ∀ {kvs : List (Key × Wv)} {l : List PyData}, pairsD kvs = some l → l.length = kvs.length
  | [], _, h => by cases h; rfl
  | (k0, w0) :: r, l, h => by
    cases w0 <;> try (cases h; done)
    unfold pairsD at h
    cases z : pairsD r with
    | none => rw [z] at h; cases h
    | some l2 => rw [z] at h; cases h; simp [pairs_len z]
def diItems (f : DTE) : DTI := fun ρ S R => f ρ S fun w S1 => ∃ k od ys kvs l, w = .o k ∧ S1[k]? = some (.dkL od ys kvs) ∧ pairsD kvs = some l ∧ R (l.map .d) (fun S => S[k]? = some (.dkL od ys kvs)) S1
theorem di_items {apos cpos : Pos} {elts : List Expr} {kk : Nat} {tpos : Pos} (h : DE X e f) (hbase : attributeBase e "items" X.env (eval e X.env) = eval e X.env := by rfl) (hline : (apos.endLine == cpos.line) = true := by rfl) :
    DI X (.Tuple elts kk tpos) (.Call (.Attribute e "items" apos) [] [] cpos) (diItems f) := by
  obtain ⟨_, p, q⟩ := h
  refine ⟨_, pi_items p hbase hline, fun G μ F S H σ ρ R Q I RR z k => q G μ F S H σ ρ _ _ I RR z ?_⟩
  rintro μ1 F1 S1 H1 v w e1 I1 r1 ⟨kk, od, ys, kvs, l, rfl, hS, hl, z1⟩
  obtain ⟨a, rfl, hk, ⟨ea, rs⟩, _⟩ := I1.ref r1 hS
  refine ⟨a, od, ys, rfl, ea, k _ _ _ _ _ _ _ e1 I1 ?_ z1⟩
  intro G2 i μ2 F2 S2 H2 e I hk2
  obtain ⟨⟨eb, rs2⟩, _⟩ := I.cell _ _ _ (pre_get e.pre hk) hk2
  rw [List.length_map, pairs_len hl, ← rs.length]
  refine ⟨fun hi => ⟨⟨eb, hi⟩, ?_⟩, fun hi => ⟨eb, hi⟩⟩
  rintro x H' ⟨T, key, v, hx, rfl, hT, rfl⟩
  obtain ⟨⟨kb, wb⟩, hb, h1, h2⟩ := paired_get' rs2 hx
  have h1' : key = kb := h1
  subst h1'
  obtain ⟨x, ew, hlx⟩ := pairs_get hl hb
  have ew' : wb = .d x := ew
  subst ew'
  obtain ⟨I2, e2⟩ := I.data (o := .tup [kV key, v]) hT
  refine ⟨_, .d (.tuple [kP key, x]), e2, I2, by rw [List.getElem?_map, hlx]; rfl, .d (.tup upd_same (.cons (dq_key key) (.cons ?_ .nil)))⟩
  cases h2 with
  | d h => exact dq_mono e2.same _ h
end
end Dm

namespace Dm
open PySem L2 PySem.Spec PyProof.Rows
/-! ### steps of a reading over data, the head at a time -/
section
variable {ρ : Rho} {S : Sto} {D : DEnds} {f g : DTS} {fe fo fi fa' fb fc : DTE} {fs : DTA} {Q : Wv → Sto → Prop} {QA : List Wv → Sto → Prop} {QB : Bool → Sto → Prop} {c t u : DTT} {w : Wv} {gg g2 : DR2} {i j : Nat}
theorem st_seq (h : f { D with nx := g D } ρ S) : dSeq f g D ρ S := h
theorem st_next (h : D.nx ρ S) : dNext D ρ S := h
theorem st_brk (h : D.bk ρ S) : dBreak D ρ S := h
theorem st_cnt (h : D.ct ρ S) : dCont D ρ S := h
theorem st_ret (h : fe ρ S fun w S1 => D.rt w S1) : dRet fe D ρ S := h
theorem st_retN (h : D.rt (.d .none) S) : dRetN D ρ S := h
theorem st_drop (h : fe ρ S fun _ S1 => D.nx ρ S1) : dDrop fe D ρ S := h
theorem st_ifS (h : c ρ S fun b S1 => if b = true then f D ρ S1 else g D ρ S1) : dIfS c f g D ρ S := h
theorem st_asg {tg : DTG} (h : fe ρ S fun w S1 => tg w ρ S1 D.nx) : dAsg fe tg D ρ S := h
theorem st_gname {K : Rho → Sto → Prop} (h : K (ρ.set i (some w)) S) : dgName i w ρ S K := h
theorem st_var (e : ρ[i]? = some (some w)) (h : Q w S) : dVar i ρ S Q := ⟨w, e, h⟩
theorem st_c {x : PyData} (h : Q (.d x) S) : dC x ρ S Q := h
theorem st_cw {x : PyData} (h : Q (cw x) S) : dCw x ρ S Q := h
theorem st_v {x : V} (h : Q (.v x) S) : dV x ρ S Q := h
theorem st_op (h : fa' ρ S fun x S1 => fb ρ S1 fun y S2 => gg x y S2 Q) : dOp gg fa' fb ρ S Q := h
theorem st_un {gg : DR1} (h : fa' ρ S fun x S1 => gg x S1 Q) : dUn gg fa' ρ S Q := h
theorem st_test (h : fe ρ S fun w S1 => ∃ b, w = .d (.bool b) ∧ QB b S1) : dTest fe ρ S QB := h
theorem st_testB {b : Bool} {P : Bool → Prop} (h : P b) : ∃ b', Wv.d (.bool b) = .d (.bool b') ∧ P b' := ⟨b, rfl, h⟩
theorem st_not (h : c ρ S fun b S1 => QB (!b) S1) : dNot c ρ S QB := h
theorem st_and (h : t ρ S fun b S1 => if b = true then u ρ S1 QB else QB false S1) : dAnd t u ρ S QB := h
theorem st_or (h : t ρ S fun b S1 => if b = true then QB true S1 else u ρ S1 QB) : dOr t u ρ S QB := h
theorem st_andV (h : fa' ρ S fun x S1 => ∃ c, x = .d (.bool c) ∧ if c = true then fb ρ S1 Q else Q (.d (.bool false)) S1) : dAndV fa' fb ρ S Q := h
theorem st_orV (h : fa' ρ S fun x S1 => ∃ c, x = .d (.bool c) ∧ if c = true then Q (.d (.bool true)) S1 else fb ρ S1 Q) : dOrV fa' fb ρ S Q := h
theorem st_notV (h : fa' ρ S fun x S1 => ∃ c, x = .d (.bool c) ∧ Q (.d (.bool (!c))) S1) : dNotV fa' ρ S Q := h
theorem st_ifE (h : c ρ S fun b S1 => if b = true then fa' ρ S1 Q else fb ρ S1 Q) : dIf c fa' fb ρ S Q := h
theorem st_chain (h : fa' ρ S fun x S1 => fb ρ S1 fun y S2 => gg x y S2 fun z S3 => ∃ k, z = .d (.bool k) ∧ (if k = true then fc ρ S3 fun w S4 => g2 y w S4 Q else Q (.d (.bool false)) S3)) : dChain gg g2 fa' fb fc ρ S Q := h
theorem st_nil (h : QA [] S) : dNil ρ S QA := h
theorem st_cons (h : fe ρ S fun w S1 => fs ρ S1 fun ws S2 => QA (w :: ws) S2) : dCons fe fs ρ S QA := h
theorem st_cb {r : DRC} (h : fs ρ S fun ws S1 => r ws S1 Q) : dCB r fs ρ S Q := h
theorem st_call {p : DSp} (h : fs ρ S fun ws S1 => p ws S1 Q) : dCall p fs ρ S Q := h
theorem st_sl {lo hi : DTO} (h : fe ρ S fun x S1 => lo ρ S1 fun l S2 => hi ρ S2 fun u S3 => gSl x l u S3 Q) : dSl fe lo hi ρ S Q := h
theorem st_no {K : Option Int → Sto → Prop} (h : K none S) : dNo ρ S K := h
theorem st_part {K : Option Int → Sto → Prop} (h : fe ρ S fun w S1 => ∃ i, w = .d (.int i) ∧ K (some i) S1) : dPart fe ρ S K := h
theorem st_partI {x : Int} {P : Int → Prop} (h : P x) : ∃ i, Wv.d (.int x) = .d (.int i) ∧ P i := ⟨x, rfl, h⟩
theorem le_line {n : Nat} (h : n ≤ 100000) : n ≤ sizeLine := Nat.le_trans h (by decide)
theorem lt_line {n : Nat} (h : n < 100000) : n < sizeLine := Nat.lt_of_lt_of_le h (by decide)
theorem st_tupD (h : fs ρ S fun ws S1 => ∃ ds, allD ws = some ds ∧ ds.length ≤ sizeLine ∧ Q (.d (.tuple ds)) S1) : dTupD fs ρ S Q := h
theorem st_lstD (h : fs ρ S fun ws S1 => ∃ ds, allD ws = some ds ∧ ds.length ≤ sizeLine ∧ Q (.d (.list ds)) S1) : dLstD fs ρ S Q := h
theorem st_lstO (h : fs ρ S fun ws S1 => ws.length ≤ sizeLine ∧ Q (.o S1.length) (S1 ++ [.lst ws])) : dLstO fs ρ S Q := h
theorem st_tupO (h : fs ρ S fun ws S1 => ws.length ≤ sizeLine ∧ Q (.o S1.length) (S1 ++ [.tup ws])) : dTupO fs ρ S Q := h
theorem st_size {n : Nat} {P : Prop} (hl : n ≤ 100000) (h : P) : n ≤ sizeLine ∧ P := ⟨le_line hl, h⟩
theorem allD_n : allD [] = some [] := rfl
theorem allD_c {d : PyData} {ws : List Wv} {ds : List PyData} (h : allD ws = some ds) : allD (.d d :: ws) = some (d :: ds) := by unfold allD; rw [h]; rfl
theorem st_disp {ws : List Wv} {ds : List PyData} {P : List PyData → Prop} (e : allD ws = some ds) (hl : ds.length ≤ 100000) (h : P ds) : ∃ ds, allD ws = some ds ∧ ds.length ≤ sizeLine ∧ P ds := ⟨ds, e, le_line hl, h⟩
theorem st_dk (h : Q (.o S.length) (S ++ [.dk []])) : dDk ρ S Q := h
theorem st_dt (h : Q (.o S.length) (S ++ [.dt []])) : dDt ρ S Q := h
theorem st_par {fa : DTA} (h : fa ρ S fun ws S1 => ∃ v w, ws = [v, w] ∧ D.nx ((ρ.set i (some v)).set j (some w)) S1) : dPar i j fa D ρ S := h
theorem st_parE {a b : Wv} {P : Wv → Wv → Prop} (h : P a b) : ∃ v w, [a, b] = [v, w] ∧ P v w := ⟨a, b, rfl, h⟩
theorem st_tgt {n : Nat} {ff : DTGs} {K : Rho → Sto → Prop} {ws : List Wv} (e : tupOf w S = some ws) (hl : ws.length = n) (h : ff ws ρ S K) : dgTup n ff w ρ S K := ⟨ws, e, hl, h⟩
theorem st_gcons {gt : DTG} {ff : DTGs} {K : Rho → Sto → Prop} {ws : List Wv} (h : gt w ρ S fun ρ' S' => ff ws ρ' S' K) : dgCons gt ff (w :: ws) ρ S K := ⟨w, ws, rfl, h⟩
theorem st_gnil {K : Rho → Sto → Prop} (h : K ρ S) : dgNil [] ρ S K := ⟨rfl, h⟩
-- values
theorem st_addI {a b : Int} (h : Q (.d (.int (a + b))) S) : gAdd (.d (.int a)) (.d (.int b)) S Q := h
theorem st_addL {a b : List PyData} (hl : a.length + b.length ≤ 100000) (h : Q (.d (.list (a ++ b))) S) : gAdd (.d (.list a)) (.d (.list b)) S Q := ⟨le_line hl, h⟩
theorem st_addS {a b : Str} (hl : a.length + b.length ≤ 100000) (h : Q (.d (.str (a ++ b))) S) : gAdd (.d (.str a)) (.d (.str b)) S Q := ⟨le_line hl, h⟩
theorem st_subI {a b : Int} (h : Q (.d (.int (a - b))) S) : gSub (.d (.int a)) (.d (.int b)) S Q := h
theorem st_addJ {a b : Int} (h : Q (.d (.int (a + b))) S) : gAddI (.d (.int a)) (.d (.int b)) S Q := h
theorem st_mulI {a b : Int} (hc : (-18446744073709551616 < a ∧ a < 18446744073709551616) ∨ (-18446744073709551616 < b ∧ b < 18446744073709551616)) (h : Q (.d (.int (a * b))) S) : gMul (.d (.int a)) (.d (.int b)) S Q := ⟨hc, h⟩
theorem st_divI {a b : Int} (h0 : 0 < b) (h1 : b < 1073741824) (h : Q (.d (.int (a / b))) S) : gDiv (.d (.int a)) (.d (.int b)) S Q := ⟨⟨h0, h1⟩, h⟩
theorem st_modI {a b : Int} (h0 : 0 < b) (h : Q (.d (.int (a % b))) S) : gMod (.d (.int a)) (.d (.int b)) S Q := ⟨h0, h⟩
theorem st_negI {a : Int} (h : Q (.d (.int (-a))) S) : gNeg (.d (.int a)) S Q := h
theorem st_eqI {a b : Int} (h : Q (.d (.bool (decide (a = b)))) S) : gEq (.d (.int a)) (.d (.int b)) S Q := h
theorem st_eqS {a b : Str} (h : Q (.d (.bool (decide (a = b)))) S) : gEq (.d (.str a)) (.d (.str b)) S Q := h
theorem st_eqB {a b : Bool} (h : Q (.d (.bool (decide (a = b)))) S) : gEq (.d (.bool a)) (.d (.bool b)) S Q := h
theorem st_neI {a b : Int} (h : Q (.d (.bool (!decide (a = b)))) S) : gNe (.d (.int a)) (.d (.int b)) S Q := h
theorem st_neS {a b : Str} (h : Q (.d (.bool (!decide (a = b)))) S) : gNe (.d (.str a)) (.d (.str b)) S Q := h
theorem st_neB {a b : Bool} (h : Q (.d (.bool (!decide (a = b)))) S) : gNe (.d (.bool a)) (.d (.bool b)) S Q := h
theorem st_cmpI {p : Int → Int → Bool} {q : Str → Str → Bool} {a b : Int} (h : Q (.d (.bool (p a b))) S) : gCmp p q (.d (.int a)) (.d (.int b)) S Q := h
theorem st_cmpS {p : Int → Int → Bool} {q : Str → Str → Bool} {a b : Str} (h : Q (.d (.bool (q a b))) S) : gCmp p q (.d (.str a)) (.d (.str b)) S Q := h
theorem st_isN (h : Q (.d (.bool (isNone w))) S) : gIs w (.d .none) S Q := ⟨rfl, h⟩
theorem st_isntN (h : Q (.d (.bool (!isNone w))) S) : gIsnt w (.d .none) S Q := ⟨rfl, h⟩
theorem st_ixL {l : List PyData} {a : Int} {d : PyData} (e : atI l a = some d) (h : Q (.d d) S) : gIx (.d (.list l)) (.d (.int a)) S Q := ⟨d, e, h⟩
theorem st_ixT {l : List PyData} {a : Int} {d : PyData} (e : atI l a = some d) (h : Q (.d d) S) : gIx (.d (.tuple l)) (.d (.int a)) S Q := ⟨d, e, h⟩
theorem st_ixO {k : Nat} {l : List Wv} {a : Int} (hS : S[k]? = some (.lst l)) (e : atI l a = some w) (h : Q w S) : gIx (.o k) (.d (.int a)) S Q := ⟨l, w, .inl hS, e, h⟩
theorem st_ixO2 {k : Nat} {l : List Wv} {a : Int} (hS : S[k]? = some (.tup l)) (e : atI l a = some w) (h : Q w S) : gIx (.o k) (.d (.int a)) S Q := ⟨l, w, .inr hS, e, h⟩
theorem st_len {l : List PyData} (h : Q (.d (.int l.length)) S) : cLen [.d (.list l)] S Q := h
theorem st_lenO {k : Nat} {l : List Wv} (hS : S[k]? = some (.lst l)) (h : Q (.d (.int l.length)) S) : cLen [.o k] S Q := ⟨l, .inl hS, h⟩
theorem st_lenS {z : Str} (hz : z.length ≤ 100000) (h : Q (.d (.int z.length)) S) : cLen [.d (.str z)] S Q := ⟨le_line hz, h⟩
theorem st_abs {a : Int} (h : Q (.d (.int (if a < 0 then -a else a))) S) : cAbs [.d (.int a)] S Q := h
theorem st_max2 {a b : Int} (h : Q (.d (.int (if b > a then b else a))) S) : cMax2 [.d (.int a), .d (.int b)] S Q := h
theorem st_min2 {a b : Int} (h : Q (.d (.int (if b < a then b else a))) S) : cMin2 [.d (.int a), .d (.int b)] S Q := h
theorem st_intB {b : Bool} (h : Q (.d (.int (if b then 1 else 0))) S) : cInt [.d (.bool b)] S Q := h
theorem st_intI {a : Int} (h : Q (.d (.int a)) S) : cInt [.d (.int a)] S Q := h
theorem st_listD {l : List PyData} (h : Q (.d (.list l)) S) : cListD [.d (.list l)] S Q := h
theorem st_slL {l : List PyData} {lo hi : Option Int} (h : Q (.d (.list (cutL l lo hi))) S) : gSl (.d (.list l)) lo hi S Q := h
theorem st_gset {K : Rho → Sto → Prop} (h : fo ρ S fun x S1 => fi ρ S1 fun y S2 => ∃ k l i j, x = .o k ∧ y = .d (.int i) ∧ S2[k]? = some (.lst l) ∧ ixN l.length i = some j ∧ K ρ (S2.set k (.lst (l.set j w)))) : dgSet fo fi w ρ S K := h
theorem st_gsetE {k : Nat} {l : List Wv} {a : Int} {P : Sto → Prop} (hS : S[k]? = some (.lst l)) (e : ixN l.length a = some j) (h : P (S.set k (.lst (l.set j w)))) : ∃ k' l' i' j', Wv.o k = .o k' ∧ Wv.d (.int a) = .d (.int i') ∧ S[k']? = some (.lst l') ∧ ixN l'.length i' = some j' ∧ P (S.set k' (.lst (l'.set j' w))) := ⟨k, l, a, j, rfl, rfl, hS, e, h⟩
theorem st_augS (h : fo ρ S fun x S1 => fi ρ S1 fun y S2 => ∃ k l i u, x = .o k ∧ y = .d (.int i) ∧ S2[k]? = some (.lst l) ∧ 0 ≤ i ∧ i < 2 ^ 63 ∧ l[i.toNat]? = some u ∧ fe ρ S2 fun w S3 => gg u w S3 fun z S4 => ∃ l' j, S4[k]? = some (.lst l') ∧ ixN l'.length i = some j ∧ D.nx ρ (S4.set k (.lst (l'.set j z)))) : dAugS fo fi fe gg D ρ S := h
theorem st_augSE {k : Nat} {l : List Wv} {a : Int} {P : Nat → List Wv → Int → Wv → Prop} {x : Wv} (hS : S[k]? = some (.lst l)) (h0 : 0 ≤ a) (h1 : a < 2 ^ 63) (e : l[a.toNat]? = some x) (h : P k l a x) : ∃ k' l' i u, Wv.o k = .o k' ∧ Wv.d (.int a) = .d (.int i) ∧ S[k']? = some (.lst l') ∧ 0 ≤ i ∧ i < 2 ^ 63 ∧ l'[i.toNat]? = some u ∧ P k' l' i u := ⟨k, l, a, x, rfl, rfl, hS, h0, h1, e, h⟩
theorem st_augSF {k : Nat} {l : List Wv} {a : Int} {P : List Wv → Nat → Prop} (hS : S[k]? = some (.lst l)) (e : ixN l.length a = some j) (h : P l j) : ∃ l' j, S[k]? = some (.lst l') ∧ ixN l'.length a = some j ∧ P l' j := ⟨l, j, hS, e, h⟩
theorem st_aug {u : Wv} (e : ρ[i]? = some (some u)) (h : fe ρ S fun w S1 => gg u w S1 fun z S2 => D.nx (ρ.set i (some z)) S2) : dAug i fe gg D ρ S := ⟨u, e, h⟩
-- what the store knows
theorem get_set {b : Nat} {o o' : OO} (h : S[b]? = some o) : (S.set b o')[b]? = some o' := by
  rw [List.getElem?_set_self (List.getElem?_eq_some_iff.mp h).1]
theorem get_ne {b c : Nat} {o o' : OO} (n : b ≠ c) (h : S[c]? = some o) : (S.set b o')[c]? = some o := by
  rw [List.getElem?_set_ne n]; exact h
theorem get_app {c : Nat} {o : OO} {T : Sto} (h : S[c]? = some o) : (S ++ T)[c]? = some o := by
  rw [List.getElem?_append_left (List.getElem?_eq_some_iff.mp h).1]; exact h
theorem get_new {o : OO} : (S ++ [o])[S.length]? = some o := by simp
theorem set_set {b : Nat} {o o' : OO} : (S.set b o).set b o' = S.set b o' := List.set_set ..
-- loops
def ForG (tg : DTG) (f : DTS) (D : DEnds) (items : List Wv) (keep : Sto → Prop) (ρ : Rho) (S : Sto) : Prop := ∃ Wd : List Wv → Rho → Sto → Prop, Wd items ρ S ∧ (∀ r ρ S, Wd r ρ S → keep S) ∧
  (∀ x r ρ S, Wd (x :: r) ρ S → tg x ρ S fun ρ2 S2 => f { D with nx := Wd r, ct := Wd r, bk := D.nx } ρ2 S2) ∧ ∀ ρ S, Wd [] ρ S → D.nx ρ S
def LcG (tg : DTG) (tt : DTT) (te : DTE) (vs : List Nat) (ρ : Rho) (Q : Wv → Sto → Prop) (items : List Wv) (keep : Sto → Prop) (S : Sto) : Prop := ∃ Wd : List Wv → List PyData → Sto → Prop, Wd items [] S ∧ (∀ r acc S, Wd r acc S → keep S) ∧
  (∀ x r acc S, Wd (x :: r) acc S → tg x (dwipe ρ vs) S fun ρ2 S2 => tt ρ2 S2 fun b S3 => if b = true then te ρ2 S3 fun y S4 => ∃ d, y = .d d ∧ acc.length < sizeLine ∧ Wd r (acc ++ [d]) S4 else Wd r acc S3) ∧
  ∀ acc S, Wd [] acc S → Q (.d (.list acc)) S
theorem st_for {src : DTI} {tg : DTG} (h : src ρ S fun items keep S1 => ForG tg f D items keep ρ S1) : dFor src tg f D ρ S := h
theorem st_lc {src : DTI} {tg : DTG} {tt : DTT} {te : DTE} {vs : List Nat} (h : src ρ S fun items keep S1 => LcG tg tt te vs ρ Q items keep S1) : dLc src tg tt te vs ρ S Q := h
variable {R : List Wv → (Sto → Prop) → Sto → Prop}
theorem st_seqI {b : Bool} (h : fe ρ S fun w S1 => srcSeq b w S1 R) : diSeq b fe ρ S R := h
theorem st_srcL {ds : List PyData} (h : R (ds.map .d) anyS S) : srcSeq false (.d (.list ds)) S R := h
theorem st_srcT {ds : List PyData} (h : R (ds.map .d) anyS S) : srcSeq true (.d (.tuple ds)) S R := h
theorem st_srcO {k : Nat} {ws : List Wv} (hS : S[k]? = some (.lst ws)) (h : R ws (fun S => S[k]? = some (.lst ws)) S) : srcSeq false (.o k) S R := ⟨ws, hS, h⟩
theorem st_rng1 (h : fs ρ S fun ws S1 => ∃ j : Int, ws = [.d (.int j)] ∧ j < 2 ^ 62 ∧ -(2 ^ 62) ≤ j ∧ R (rangeW 0 j.toNat) anyS S1) : diRng1 fs ρ S R := h
theorem st_rng1E {a : Int} {P : Int → Prop} (h1 : a < 4611686018427387904) (h2 : -4611686018427387904 ≤ a) (h : P a) : ∃ j : Int, [Wv.d (.int a)] = [.d (.int j)] ∧ j < 2 ^ 62 ∧ -(2 ^ 62) ≤ j ∧ P j := ⟨a, rfl, h1, h2, h⟩
theorem st_rng2 (h : fs ρ S fun ws S1 => ∃ i j : Int, ws = [.d (.int i), .d (.int j)] ∧ (-(2 ^ 62) ≤ i ∧ i < 2 ^ 62 ∧ -(2 ^ 62) ≤ j ∧ j < 2 ^ 62) ∧ R (rangeW i (j - i).toNat) anyS S1) : diRng2 fs ρ S R := h
theorem st_rng2E {a b : Int} {P : Int → Int → Prop} (h1 : -4611686018427387904 ≤ a ∧ a < 4611686018427387904 ∧ -4611686018427387904 ≤ b ∧ b < 4611686018427387904) (h : P a b) : ∃ i j : Int, [Wv.d (.int a), .d (.int b)] = [.d (.int i), .d (.int j)] ∧ (-(2 ^ 62) ≤ i ∧ i < 2 ^ 62 ∧ -(2 ^ 62) ≤ j ∧ j < 2 ^ 62) ∧ P i j := ⟨a, b, rfl, h1, h⟩
theorem any_true {S : Sto} : anyS S := trivial
theorem st_yes (h : QB true S) : dYes ρ S QB := h
theorem drop_eq {α : Type} {l r : List α} {x : α} {i : Nat} (h : x :: r = l.drop i) : l[i]? = some x ∧ r = l.drop (i + 1) := by
  have h1 : (l.drop i)[0]? = some x := by rw [← h]; rfl
  rw [List.getElem?_drop] at h1
  refine ⟨by simpa using h1, ?_⟩
  have h2 : (l.drop i).drop 1 = r := by rw [← h]; rfl
  rw [← h2, List.drop_drop]
theorem for_list {items : List Wv} {keep : Sto → Prop} {tg : DTG} (J : Nat → Rho → Sto → Prop) (h0 : J 0 ρ S) (hk : ∀ i ρ S, J i ρ S → keep S)
    (step : ∀ i x ρ S (K : Rho → Sto → Prop), items[i]? = some x → J i ρ S → (∀ ρ S, J (i + 1) ρ S → K ρ S) → tg x ρ S fun ρ2 S2 => f { D with nx := K, ct := K, bk := D.nx } ρ2 S2)
    (done : ∀ ρ S, J items.length ρ S → D.nx ρ S) : ForG tg f D items keep ρ S := by
  refine ⟨fun r ρ S => ∃ i, i ≤ items.length ∧ r = items.drop i ∧ J i ρ S, ⟨0, Nat.zero_le _, rfl, h0⟩, fun r ρ S ⟨i, _, _, h⟩ => hk i ρ S h, ?_, ?_⟩
  · rintro x r ρ S ⟨i, hi, hr, hj⟩
    obtain ⟨h1, h2⟩ := drop_eq hr
    exact step i x ρ S _ h1 hj fun ρ' S' q => ⟨i + 1, (List.getElem?_eq_some_iff.mp h1).1, h2, q⟩
  · rintro ρ S ⟨i, hi, hr, hj⟩
    have : items.length ≤ i := List.drop_eq_nil_iff.mp hr.symm
    have e : i = items.length := by omega
    subst e
    exact done ρ S hj
theorem lc_list {items : List Wv} {keep : Sto → Prop} {tg : DTG} {tt : DTT} {te : DTE} {vs : List Nat} (J : Nat → List PyData → Sto → Prop) (h0 : J 0 [] S) (hk : ∀ i acc S, J i acc S → keep S)
    (step : ∀ i x acc S (K : List PyData → Sto → Prop), items[i]? = some x → J i acc S → (∀ acc S, J (i + 1) acc S → K acc S) → tg x (dwipe ρ vs) S fun ρ2 S2 => tt ρ2 S2 fun b S3 => if b = true then te ρ2 S3 fun y S4 => ∃ d, y = .d d ∧ acc.length < sizeLine ∧ K (acc ++ [d]) S4 else K acc S3)
    (done : ∀ acc S, J items.length acc S → Q (.d (.list acc)) S) : LcG tg tt te vs ρ Q items keep S := by
  refine ⟨fun r acc S => ∃ i, i ≤ items.length ∧ r = items.drop i ∧ J i acc S, ⟨0, Nat.zero_le _, rfl, h0⟩, fun r acc S ⟨i, _, _, h⟩ => hk i acc S h, ?_, ?_⟩
  · rintro x r acc S ⟨i, hi, hr, hj⟩
    obtain ⟨h1, h2⟩ := drop_eq hr
    exact step i x acc S (fun acc S => ∃ i, i ≤ items.length ∧ r = items.drop i ∧ J i acc S) h1 hj fun acc' S' q => ⟨i + 1, (List.getElem?_eq_some_iff.mp h1).1, h2, q⟩
  · rintro acc S ⟨i, hi, hr, hj⟩
    have : items.length ≤ i := List.drop_eq_nil_iff.mp hr.symm
    have e : i = items.length := by omega
    subst e
    exact done acc S hj
theorem st_el {d : PyData} {acc : List PyData} {P : PyData → Prop} (hl : acc.length < 100000) (h : P d) : ∃ d', Wv.d d = .d d' ∧ acc.length < sizeLine ∧ P d' := ⟨d, rfl, lt_line hl, h⟩
theorem st_slC {l : List PyData} {lo hi : Option Int} (hf : l.all flatP = true) (h : Q (.d (.list (cutL l lo hi))) S) : gSl (.c (.list l)) lo hi S Q := ⟨hf, h⟩
-- an if that is known, one that is not
theorem st_T {p : Prop} [Decidable p] {A B : Prop} (e : p) (h : A) : if decide p = true then A else B := by rw [if_pos (decide_eq_true e)]; exact h
theorem st_F {p : Prop} [Decidable p] {A B : Prop} (e : ¬ p) (h : B) : if decide p = true then A else B := by rw [if_neg (by simpa using e)]; exact h
theorem st_nT {p : Prop} [Decidable p] {A B : Prop} (e : ¬ p) (h : A) : if (!decide p) = true then A else B := by rw [if_pos (by simpa using e)]; exact h
theorem st_nF {p : Prop} [Decidable p] {A B : Prop} (e : p) (h : B) : if (!decide p) = true then A else B := by rw [if_neg (by simpa using e)]; exact h
theorem st_2 {p : Prop} [Decidable p] {A B : Prop} (h : p → A) (h' : ¬ p → B) : if decide p = true then A else B := by
  by_cases e : p
  · exact st_T e (h e)
  · exact st_F e (h' e)
theorem st_n2 {p : Prop} [Decidable p] {A B : Prop} (h : ¬ p → A) (h' : p → B) : if (!decide p) = true then A else B := by
  by_cases e : p
  · exact st_nF e (h' e)
  · exact st_nT e (h e)
theorem st_b2 {b : Bool} {A B : Prop} (h : b = true → A) (h' : b = false → B) : if b = true then A else B := by
  cases b with
  | true => exact h rfl
  | false => exact h' rfl
theorem st_tt {A B : Prop} (h : A) : if true = true then A else B := h
theorem st_ff {A B : Prop} (h : B) : if false = true then A else B := h
end

theorem atI_in {α : Type} {l : List α} {i : Int} (h0 : 0 ≤ i) (h1 : i < l.length) : ∃ d, atI l i = some d ∧ d ∈ l := by
  have h2 : i.toNat < l.length := by omega
  refine ⟨l[i.toNat], ?_, List.getElem_mem h2⟩
  unfold atI ixN
  rw [if_pos h0, if_pos h1]
  exact List.getElem?_eq_getElem h2
/-! ### the draws: what every law's bag and take do -/
def bagO (x s p : Int) (ns : List Int) : OO := .lst [.d (.int x), .d (.int s), .d (.int p), .d (.list (ns.map .int))]
def BagOk (o : OO) : Prop := ∃ x s p ns, o = bagO x s p ns ∧ 0 ≤ x ∧ 0 ≤ s ∧ s < 2147483647 ∧ 0 ≤ p ∧ ∀ n ∈ ns, (0 : Int) ≤ n
def gTake : DSp := fun ws S Q => ∃ b m o, ws = [.o b, .d (.int m)] ∧ S[b]? = some o ∧ BagOk o ∧ 0 < m ∧ m < 1073741824 ∧ ∀ v o', 0 ≤ v → v < m → BagOk o' → Q (.d (.int v)) (S.set b o')
theorem bag_of {x s p : Int} {ns : List Int} (h1 : 0 ≤ x) (h2 : 0 ≤ s) (h3 : s < 2147483647) (h4 : 0 ≤ p) (h5 : ∀ n ∈ ns, (0 : Int) ≤ n) : BagOk (.lst [.d (.int x), .d (.int s), .d (.int p), .d (.list (ns.map .int))]) := ⟨x, s, p, ns, rfl, h1, h2, h3, h4, h5⟩
def gBag : DSp := fun ws S Q => ∃ ns : List Int, ws = [.c (.list (ns.map .int))] ∧ ns.length ≤ 63 ∧ ∀ o, BagOk o → Q (.o S.length) (S ++ [o])
end Dm

section
open PySem L2 Dm PyProof.Rows
local macro_rules | `(tactic| walk_at "lk") => `(tactic| first | assumption | rfl | exact get_new | ((with_reducible apply get_set); walk_at "lk") | ((with_reducible apply get_ne); (first | decide | assumption | (apply Ne.symm; assumption) | omega); walk_at "lk") | ((with_reducible apply get_app); walk_at "lk"))
local macro_rules | `(tactic| walk_at "s") => `(tactic| with_reducible first
  | refine st_seq ?_ | refine st_next ?_ | refine st_ret ?_ | refine st_retN ?_ | refine st_drop ?_ | refine st_ifS ?_ | refine st_asg ?_ | refine st_gname ?_ | refine st_c ?_ | refine st_cwI ?_ | refine st_cwS ?_ | refine st_cwB ?_ | refine st_cwL ?_ | refine st_cwT ?_  | refine st_v ?_ | refine st_op ?_ | refine st_un ?_
  | refine st_test ?_ | refine st_testB ?_ | refine st_not ?_ | refine st_and ?_ | refine st_or ?_ | refine st_andV ?_ | refine st_orV ?_ | refine st_notV ?_ | refine st_ifE ?_ | refine st_chain ?_ | refine st_nil ?_ | refine st_cons ?_ | refine st_cb ?_ | refine st_call ?_
  | refine st_sl ?_ | refine st_no ?_ | refine st_part ?_ | refine st_partI ?_ | refine st_tupD ?_ | refine st_lstD ?_ | refine st_lstO ?_ | refine st_tupO ?_ | refine st_dk ?_ | refine st_dt ?_ | refine st_par ?_ | refine st_parE ?_ | refine st_gcons ?_ | refine st_gnil ?_ | refine st_gconsM ?_ | refine st_gnilM ?_
  | refine st_addI ?_ | refine st_subI ?_ | refine st_addJ ?_ | refine st_negI ?_ | refine st_eqI ?_ | refine st_eqS ?_ | refine st_eqB ?_ | refine st_neI ?_ | refine st_neS ?_ | refine st_neB ?_ | refine st_cmpI ?_ | refine st_cmpS ?_ | refine st_isN ?_ | refine st_isntN ?_
  | refine st_len ?_ | refine st_abs ?_ | (refine st_max2c ?_; intro _ _ _ _) | (refine st_min2c ?_; intro _ _ _ _) | (refine st_intBc ?_; intro _ _ _ _) | refine st_intI ?_ | refine st_listD ?_ | refine st_slL ?_ | refine st_tt ?_ | refine st_ff ?_ | refine st_xt ?_ | refine st_xf ?_ | refine st_brk ?_ | refine st_cnt ?_ | refine st_gset ?_ | refine st_augS ?_ | refine st_for ?_ | refine st_lc ?_ | refine st_seqI ?_ | refine st_srcL ?_ | refine st_srcT ?_ | refine st_rng1 ?_ | refine st_rng2 ?_ | refine st_yes ?_ | refine st_fld ?_ | refine st_meth ?_ | refine st_make ?_ | refine st_refl ?_ | refine st_fldS ?_ | refine st_fldAug ?_ | refine st_dget ?_ | refine st_get1 ?_ | refine st_get2 ?_ | refine st_din0 ?_ | refine st_din1 ?_ | refine st_dput ?_ | refine st_daug ?_ | refine st_bm ?_ | refine st_tyL ?_ | refine st_count ?_ | refine st_bm0 ?_ | refine st_keys ?_ | refine st_items ?_)
local macro_rules | `(tactic| walk_at "v") => `(tactic| first
  | ((with_reducible refine' st_var ?k1 ?_); (case k1 => rfl))
  | ((with_reducible refine' st_ixO ?k1 ?k2 ?_); (case k1 => walk_at "lk"); (case k2 => rfl)) | ((with_reducible refine' st_ixL ?k2 ?_); (case k2 => rfl)) | ((with_reducible refine' st_ixT ?k2 ?_); (case k2 => rfl)) | ((with_reducible refine' st_lenO ?k1 ?_); (case k1 => walk_at "lk"))
  | (with_reducible refine st_modI (by first | decide | omega) ?_) | (with_reducible refine st_divI (by first | decide | omega) (by first | decide | omega) ?_) | (with_reducible refine st_mulI (by omega) ?_)
  | ((with_reducible refine' st_disp ?k1 ?k2 ?_); (case k1 => first | ((repeat (with_reducible apply allD_c)); (with_reducible apply allD_n); done) | rfl); (case k2 => first | exact Nat.le_of_ble_eq_true rfl | (simp; done)))
  | (with_reducible refine st_size (by first | exact Nat.le_of_ble_eq_true rfl | assumption | (simp; done) | omega) ?_))
local macro_rules | `(tactic| walk_at "w") => `(tactic| first
  | ((with_reducible refine' st_gsetE ?k1 ?k2 ?_); (case k1 => walk_at "lk"); (case k2 => rfl))
  | ((with_reducible refine' st_augSE ?k1 ?k2 ?k3 ?k4 ?_); (case k1 => walk_at "lk"); (case k2 => first | decide | omega); (case k3 => first | decide | omega); (case k4 => rfl))
  | ((with_reducible refine' st_augSF ?k1 ?k2 ?_); (case k1 => walk_at "lk"); (case k2 => rfl))
  | ((with_reducible refine' st_aug ?k1 ?_); (case k1 => rfl))
  | ((with_reducible refine' st_srcO ?k1 ?_); (case k1 => walk_at "lk"))
  | (with_reducible refine st_rng1E (by omega) (by omega) ?_) | (with_reducible refine st_rng2E (by omega) ?_)
  | (with_reducible refine st_el (by first | assumption | (simp; omega) | omega) ?_))
local macro_rules | `(tactic| walk_at "x") => `(tactic| first
  | (with_reducible refine st_powI (by decide) ?_)
  | ((with_reducible refine' st_fldE ?k1 ?k2 ?_); (case k1 => walk_at "lk"); (case k2 => rfl)) | ((with_reducible refine' st_methE ?k1 ?k2 ?_); (case k1 => walk_at "lk"); (case k2 => rfl))
  | ((with_reducible refine' st_fldSE ?k1 ?k2 ?_); (case k1 => walk_at "lk"); (case k2 => first | decide | exact Nat.le_of_ble_eq_true rfl)) | ((with_reducible refine' st_fldAugE ?k1 ?k2 ?_); (case k1 => walk_at "lk"); (case k2 => rfl)) | ((with_reducible refine' st_fldAugF ?k1 ?k2 ?_); (case k1 => walk_at "lk"); (case k2 => decide))
  | ((with_reducible refine' st_lookD ?k1 ?k2 ?_); (case k1 => walk_at "lk"); (case k2 => rfl)) | ((with_reducible refine' st_lookT ?k1 ?k2 ?_); (case k1 => walk_at "lk"); (case k2 => rfl))
  | ((with_reducible refine' st_dgetD ?k1 ?k2 ?k3 ?_); (case k1 => walk_at "lk"); (case k2 => rfl); (case k3 => assumption)) | ((with_reducible refine' st_dgetL ?k1 ?k2 ?k3 ?_); (case k1 => walk_at "lk"); (case k2 => rfl); (case k3 => assumption)) | ((with_reducible refine' st_dgetT ?k1 ?k2 ?k3 ?_); (case k1 => walk_at "lk"); (case k2 => rfl); (case k3 => assumption))
  | ((with_reducible refine' st_putD ?k1 ?k2 ?k3 ?_); (case k1 => walk_at "lk"); (case k2 => rfl); (case k3 => first | assumption | omega)) | ((with_reducible refine' st_putT ?k1 ?k2 ?k3 ?_); (case k1 => walk_at "lk"); (case k2 => rfl); (case k3 => first | assumption | omega))
  | ((with_reducible refine' st_isd ?k1 ?_); (case k1 => walk_at "lk")) | ((with_reducible refine' st_isdt ?k1 ?_); (case k1 => walk_at "lk"))
  | ((with_reducible refine' st_keysE ?k1 ?_); (case k1 => walk_at "lk"))
  | ((with_reducible refine' st_tgt ?k1 ?k2 ?_); (case k1 => rfl); (case k2 => rfl))
  | ((with_reducible refine' st_clear ?k1 ?_); (case k1 => walk_at "lk")) | ((with_reducible refine' st_tyO ?k1 ?_); (case k1 => walk_at "lk")) | ((with_reducible refine' st_append ?k1 ?k2 ?_); (case k1 => walk_at "lk"); (case k2 => first | assumption | (simp; omega) | omega)) | ((with_reducible refine' st_reverse ?k1 ?_); (case k1 => walk_at "lk")))
local macro_rules | `(tactic| walk_at "t") => `(tactic| ((with_reducible refine' st_take ?k1 ?k2 ?k3 ?k4 ?_); (case k1 => walk_at "lk"); (case k2 => assumption); (case k3 => first | decide | omega); (case k4 => first | decide | omega); intro _ _ _ _ _))
local macro_rules | `(tactic| walk_at "if") => `(tactic| first
  | (with_reducible refine st_T (by first | assumption | omega | rfl) ?_) | (with_reducible refine st_F (by first | assumption | omega) ?_) | (with_reducible refine st_nT (by first | assumption | omega) ?_) | (with_reducible refine st_nF (by first | assumption | omega | rfl) ?_))
local macro_rules | `(tactic| walk_at "y") => `(tactic| with_reducible first | refine st_kget ?_ | refine st_kget2 ?_ | refine st_coe2 ?_ | refine st_revD ?_ | refine st_revDE ?_ | refine st_coe ?_ | refine st_tidx ?_ | refine st_zipM ?_ | refine st_sortVA ?_ | refine st_sortVR ?_ | refine st_sumS ?_ | refine st_maxDf ?_ | refine st_enumS ?_ | refine st_str ?_ | refine st_strE ?_ | refine st_enum ?_ | refine st_enumE ?_ | refine st_enumO ?_ | refine st_settle ?_ | refine st_lcO ?_ | refine st_elO (by assumption) ?_ | refine st_gput ?_ | refine st_gfld ?_ | refine st_vals ?_ | refine st_dispD ?_ | refine st_pc ?_ | refine st_pn ?_ | refine st_isB ?_ | refine st_isntB ?_)
local macro_rules | `(tactic| walk_at "g") => `(tactic| repeat (first | walk_at "s" | walk_at "v" | walk_at "w" | walk_at "x" | walk_at "if" | walk_at "y"))
local macro_rules | `(tactic| walk_at "sp") => `(tactic| with_reducible first | refine st_2 (fun hif => ?_) (fun hif => ?_) | refine st_n2 (fun hif => ?_) (fun hif => ?_))

namespace Dm
def bTake : DTS :=
  dSeq (dIfS (dTest (dOp gEq (dOp gIx (dVar 0) (dC (.int 0))) (dC (.int 0)))) (dSeq (dAsg (dC (.int 0)) (dgName 2))
      (dSeq (dIfS (dTest (dOp gLt (dOp gIx (dVar 0) (dC (.int 2))) (dCB cLen (dCons (dOp gIx (dVar 0) (dC (.int 3))) (dNil))))) (dAsg (dOp gIx (dOp gIx (dVar 0) (dC (.int 3))) (dOp gIx (dVar 0) (dC (.int 2)))) (dgName 2)) (dNext))
      (dSeq (dAugS (dVar 0) (dC (.int 2)) (dC (.int 1)) gAddI)
      (dSeq (dIfS (dTest (dOp gGe (dVar 2) (dC (.int 1000000000000000000)))) (dAsg (dVar 2) (dgSet (dVar 0) (dC (.int 0)))) (dNext))
      (dAsg (dOp gMod (dOp gAdd (dOp gAdd (dOp gMul (dOp gIx (dVar 0) (dC (.int 1))) (dC (.int 48271))) (dOp gMod (dVar 2) (dC (.int 2147483647)))) (dOp gMul (dC (.int 7919)) (dOp gIx (dVar 0) (dC (.int 2))))) (dC (.int 2147483647))) (dgSet (dVar 0) (dC (.int 1)))))))) (dNext))
      (dSeq (dIfS (dTest (dOp gGt (dOp gIx (dVar 0) (dC (.int 0))) (dC (.int 0)))) (dSeq (dAsg (dOp gMod (dOp gIx (dVar 0) (dC (.int 0))) (dVar 1)) (dgName 3))
      (dSeq (dAsg (dOp gDiv (dOp gIx (dVar 0) (dC (.int 0))) (dVar 1)) (dgSet (dVar 0) (dC (.int 0))))
      (dRet (dVar 3)))) (dNext))
      (dSeq (dAsg (dOp gMod (dOp gMul (dOp gAdd (dOp gIx (dVar 0) (dC (.int 1))) (dC (.int 1))) (dC (.int 39373))) (dC (.int 1000000007))) (dgName 4))
      (dSeq (dAsg (dOp gMod (dOp gMul (dOp gMod (dOp gMul (dVar 4) (dVar 4)) (dC (.int 998244353))) (dC (.int 30011))) (dC (.int 998244353))) (dgName 5))
      (dSeq (dIfS (dTest (dOp gGt (dVar 1) (dC (.int 1000000)))) (dRet (dOp gMod (dOp gAdd (dOp gMul (dVar 5) (dC (.int 1000000007))) (dVar 4)) (dVar 1))) (dNext))
      (dRet (dOp gMod (dOp gDiv (dVar 5) (dC (.int 7))) (dVar 1)))))))
def bBag : DTS :=
  dRet (dLstO (dCons (dC (.int 0)) (dCons (dC (.int 1234567891)) (dCons (dC (.int 0)) (dCons (dLc (diSeq false (dSl (dVar 0) (dNo) (dPart (dC (.int 63))))) (dgName 1) (dYes) (dCB cAbs (dCons (dVar 1) (dNil))) [1]) (dNil))))))
theorem spec_take : ∀ ws S Qd, gTake ws S Qd → bTake { nx := fun _ S' => Qd (.d .none) S', rt := Qd } (dstart 6 ws) S := by
  rintro ws S Q ⟨b, m, o, rfl, hS, ⟨x, s, p, ns, rfl, hx, hs0, hs1, hp, hns⟩, hm0, hm1, k⟩
  unfold bagO at hS
  unfold bTake
  have fin : ∀ {v : Int} {x s p : Int} {S' : Sto}, S' = S.set b (.lst [.d (.int x), .d (.int s), .d (.int p), .d (.list (ns.map .int))]) → 0 ≤ x → 0 ≤ s → s < 2147483647 → 0 ≤ p → Q (.d (.int (v % m))) S' := by
    intro v x s p S' e h1 h2 h3 h4
    rw [e]
    exact k _ _ (Int.emod_nonneg _ (by omega)) (Int.emod_lt_of_pos _ hm0) (bag_of h1 h2 h3 h4 hns)
  have hself : S = S.set b (.lst [.d (.int x), .d (.int s), .d (.int p), .d (.list (ns.map .int))]) := by
    obtain ⟨hb, e⟩ := List.getElem?_eq_some_iff.mp hS
    rw [← e, List.set_getElem_self]
  walk_at "g"
  walk_at "sp"
  · walk_at "g"
    walk_at "sp"
    · walk_at "g"
      rename_i hif
      obtain ⟨d, e, hd⟩ := atI_in hp hif
      obtain ⟨c, hc, rfl⟩ := List.mem_map.mp hd
      have hc0 := hns c hc
      refine st_ixL e ?_
      walk_at "g"
      walk_at "sp"
      · walk_at "g"
        simp only [set_set]
        exact fin rfl (Int.ediv_nonneg (by omega) (by omega)) (by omega) (by omega) (by omega)
      · walk_at "g"
        walk_at "sp"
        · walk_at "g"
          simp only [set_set]
          exact fin rfl (by omega) (by omega) (by omega) (by omega)
        · walk_at "g"
          simp only [set_set]
          exact fin rfl (by omega) (by omega) (by omega) (by omega)
    · walk_at "g"
      walk_at "sp"
      · walk_at "g"
        simp only [set_set]
        exact fin rfl (by omega) (by omega) (by omega) (by omega)
      · walk_at "g"
        simp only [set_set]
        exact fin rfl (by omega) (by omega) (by omega) (by omega)
  · walk_at "g"
    simp only [set_set]
    exact fin rfl (Int.ediv_nonneg (by omega) (by omega)) (by omega) (by omega) (by omega)
theorem spec_bag : ∀ ws S Qd, gBag ws S Qd → bBag { nx := fun _ S' => Qd (.d .none) S', rt := Qd } (dstart 2 ws) S := by
  rintro ws S Q ⟨ns, rfl, hl, k⟩
  unfold bBag
  walk_at "g"
  refine st_slC ?_ ?_
  · simp [flatP]
  walk_at "g"
  have hcut : (cutL (ns.map PyData.int) none (some 63)).length ≤ 63 := by
    have h1 : (cutL (ns.map PyData.int) none (some 63)).length ≤ ns.length := by
      unfold cutL
      rw [List.length_take, List.length_drop, List.length_map]
      omega
    omega
  have hmem : ∀ d ∈ cutL (ns.map PyData.int) none (some 63), ∃ i, d = .int i := by
    intro d hd
    unfold cutL at hd
    obtain ⟨i, _, rfl⟩ := List.mem_map.mp (List.mem_of_mem_drop (List.mem_of_mem_take hd))
    exact ⟨i, rfl⟩
  refine lc_list (fun i acc S' => S' = S ∧ ∃ ms : List Int, acc = ms.map .int ∧ (∀ m ∈ ms, 0 ≤ m) ∧ ms.length ≤ i) ⟨rfl, [], rfl, by simp, Nat.le_refl _⟩ (fun _ _ _ _ => any_true) ?_ ?_
  · rintro i x acc S' K hx ⟨rfl, ms, rfl, hm, hlm⟩ hK
    have hx2 := List.mem_of_getElem? hx
    obtain ⟨d, hd, rfl⟩ := List.mem_map.mp hx2
    obtain ⟨j, rfl⟩ := hmem d hd
    have hi : i < 63 := by
      have := (List.getElem?_eq_some_iff.mp hx).1
      rw [List.length_map] at this
      omega
    walk_at "g"
    refine hK _ _ ⟨rfl, ms ++ [if j < 0 then -j else j], by simp, ?_, by simp; omega⟩
    intro m hm'
    rcases List.mem_append.mp hm' with h | h
    · exact hm m h
    · rw [List.mem_singleton] at h
      subst h
      split <;> omega
  · rintro acc S' ⟨rfl, ms, rfl, hm, hlm⟩
    walk_at "g"
    exact k _ ⟨0, 1234567891, 0, ms, rfl, by omega, by omega, by omega, by omega, hm⟩

end Dm
end
section
open PySem L2 Dm PyProof.Rows

namespace Dm
section
variable {ρ : Rho} {S : Sto} {D : DEnds} {f g : DTS} {fe fo fi fa' fb fc : DTE} {fs : DTA} {Q : Wv → Sto → Prop} {w w' u : Wv} {k j : Nat} {C : Addr} {fl : Str} {flds : List (Str × Wv)}
theorem st_fld (h : fo ρ S fun w S1 => ∃ k fs u, w = .o k ∧ S1[k]? = some (.ins C fs) ∧ fs.lookup fl = some u ∧ Q u S1) : dFld C fl fo ρ S Q := h
theorem st_fldE {P : Wv → Prop} (hS : S[k]? = some (.ins C flds)) (e : flds.lookup fl = some u) (h : P u) : ∃ k' fs u, Wv.o k = .o k' ∧ S[k']? = some (.ins C fs) ∧ fs.lookup fl = some u ∧ P u := ⟨k, flds, u, rfl, hS, e, h⟩
theorem st_meth {p : DSp} {fs' : DTA} (h : fo ρ S fun w S1 => ∃ k fs, w = .o k ∧ S1[k]? = some (.ins C fs) ∧ fs.lookup fl = none ∧ fs' ρ S1 fun ws S2 => p (w :: ws) S2 Q) : dMeth C fl p fo fs' ρ S Q := h
theorem st_methE {P : Prop} (hS : S[k]? = some (.ins C flds)) (e : flds.lookup fl = none) (h : P) : ∃ k' fs, Wv.o k = .o k' ∧ S[k']? = some (.ins C fs) ∧ fs.lookup fl = none ∧ P := ⟨k, flds, rfl, hS, e, h⟩
theorem st_make {p : DSp} (h : fs ρ S fun ws S1 => p (.o S1.length :: ws) (S1 ++ [.ins C []]) fun w S2 => w = .d .none ∧ Q (.o S1.length) S2) : dMake C p fs ρ S Q := h
theorem st_refl {P : Prop} {x : Wv} (h : P) : x = x ∧ P := ⟨rfl, h⟩
theorem st_fldS (h : fe ρ S fun w S1 => fo ρ S1 fun x S2 => ∃ k fs, x = .o k ∧ S2[k]? = some (.ins C fs) ∧ fs.length < 1000 ∧ D.nx ρ (S2.set k (.ins C (putWF fl w fs)))) : dFldS C fl fo fe D ρ S := h
theorem st_fldSE {P : Nat → List (Str × Wv) → Prop} (hS : S[k]? = some (.ins C flds)) (e : flds.length < 1000) (h : P k flds) : ∃ k' fs, Wv.o k = .o k' ∧ S[k']? = some (.ins C fs) ∧ fs.length < 1000 ∧ P k' fs := ⟨k, flds, rfl, hS, e, h⟩
theorem st_fldAug {gg : DR2} (h : fo ρ S fun x S1 => ∃ k fs u, x = .o k ∧ S1[k]? = some (.ins C fs) ∧ fs.lookup fl = some u ∧
  fe ρ S1 fun w S2 => gg u w S2 fun z S3 => ∃ fs', S3[k]? = some (.ins C fs') ∧ fs'.length < 1000 ∧ D.nx ρ (S3.set k (.ins C (putWF fl z fs')))) : dFldAug C fl fo fe gg D ρ S := h
theorem st_fldAugE {P : Nat → Wv → Prop} (hS : S[k]? = some (.ins C flds)) (e : flds.lookup fl = some u) (h : P k u) : ∃ k' fs u, Wv.o k = .o k' ∧ S[k']? = some (.ins C fs) ∧ fs.lookup fl = some u ∧ P k' u := ⟨k, flds, u, rfl, hS, e, h⟩
theorem st_fldAugF {P : List (Str × Wv) → Prop} (hS : S[k]? = some (.ins C flds)) (e : flds.length < 1000) (h : P flds) : ∃ fs, S[k]? = some (.ins C fs) ∧ fs.length < 1000 ∧ P fs := ⟨flds, hS, e, h⟩
-- dicts
theorem st_dget (h : fo ρ S fun x S1 => fi ρ S1 fun y S2 => ∃ w, dictLook S2 x y = some (some w) ∧ Q w S2) : dDGet fo fi ρ S Q := h
theorem st_dgetE {x y : Wv} {P : Wv → Prop} (e : dictLook S x y = some (some w)) (h : P w) : ∃ w, dictLook S x y = some (some w) ∧ P w := ⟨w, e, h⟩
theorem st_get1 (h : fo ρ S fun x S1 => isDict S1 x = true ∧ fi ρ S1 fun y S2 => ∃ r, dictLook S2 x y = some r ∧ Q (r.getD (.d .none)) S2) : dGet1 fo fi ρ S Q := h
theorem st_get2 (h : fo ρ S fun x S1 => isDict S1 x = true ∧ fi ρ S1 fun y S2 => fe ρ S2 fun z S3 => ∃ r, dictLook S3 x y = some r ∧ Q (r.getD z) S3) : dGet2 fo fi fe ρ S Q := h
theorem st_look {x y : Wv} {r : Option Wv} {P : Option Wv → Prop} (e : dictLook S x y = some r) (h : P r) : ∃ r, dictLook S x y = some r ∧ P r := ⟨r, e, h⟩
theorem st_isd {P : Prop} {kvs : List (Key × Wv)} (hS : S[k]? = some (.dk kvs)) (h : P) : isDict S (.o k) = true ∧ P := ⟨by unfold isDict; dsimp only; rw [hS], h⟩
theorem st_isdt {P : Prop} {kvs : List (List Key × Wv)} (hS : S[k]? = some (.dt kvs)) (h : P) : isDict S (.o k) = true ∧ P := ⟨by unfold isDict; dsimp only; rw [hS], h⟩
theorem st_din {neg : Bool} (h : fi ρ S fun y S1 => fo ρ S1 fun x S2 => ∃ r, dictLook S2 x y = some r ∧ Q (.d (.bool (if neg then !r.isSome else r.isSome))) S2) : dDIn neg fi fo ρ S Q := h
theorem st_din0 (h : fi ρ S fun y S1 => fo ρ S1 fun x S2 => ∃ r, dictLook S2 x y = some r ∧ Q (.d (.bool r.isSome)) S2) : dDIn false fi fo ρ S Q := h
theorem st_din1 (h : fi ρ S fun y S1 => fo ρ S1 fun x S2 => ∃ r, dictLook S2 x y = some r ∧ Q (.d (.bool (!r.isSome))) S2) : dDIn true fi fo ρ S Q := h
theorem st_dput (h : fe ρ S fun w S1 => fo ρ S1 fun x S2 => fi ρ S2 fun y S3 => ∃ S4, dictPut S3 x y w = some S4 ∧ dictLen S3 x < sizeLine ∧ D.nx ρ S4) : dPut fo fi fe D ρ S := h
theorem st_putE {x y : Wv} {S' : Sto} {P : Sto → Prop} (e : dictPut S x y w = some S') (hl : dictLen S x < sizeLine) (h : P S') : ∃ S4, dictPut S x y w = some S4 ∧ dictLen S x < sizeLine ∧ P S4 := ⟨S', e, hl, h⟩
theorem st_daug {gg : DR2} (h : fo ρ S fun x S1 => fi ρ S1 fun y S2 => ∃ u, dictLook S2 x y = some (some u) ∧ fe ρ S2 fun w S3 => gg u w S3 fun z S4 => ∃ S5, dictPut S4 x y z = some S5 ∧ dictLen S4 x < sizeLine ∧ D.nx ρ S5) : dDAug fo fi fe gg D ρ S := h
theorem look_dk {kvs : List (Key × Wv)} {y : Wv} {key : Key} (hS : S[k]? = some (.dk kvs)) (hy : keyW y = some key) : dictLook S (.o k) y = some (valW kvs key) := by
  unfold dictLook; dsimp only; rw [hS]; dsimp only; rw [hy]; rfl
theorem look_dkL {od : Obj} {ys : List (Key × V)} {kvs : List (Key × Wv)} {y : Wv} {key : Key} (hS : S[k]? = some (.dkL od ys kvs)) (hy : keyW y = some key) : dictLook S (.o k) y = some (valW kvs key) := by
  unfold dictLook; dsimp only; rw [hS]; dsimp only; rw [hy]; rfl
theorem look_dt {kvs : List (List Key × Wv)} {y : Wv} {key : List Key} (hS : S[k]? = some (.dt kvs)) (hy : keysW y = some key) : dictLook S (.o k) y = some (valW kvs key) := by
  unfold dictLook; dsimp only; rw [hS]; dsimp only; rw [hy]; rfl
theorem put_dk {kvs : List (Key × Wv)} {y : Wv} {key : Key} (hS : S[k]? = some (.dk kvs)) (hy : keyW y = some key) : dictPut S (.o k) y w = some (S.set k (.dk (putW kvs key w))) := by
  unfold dictPut; dsimp only; rw [hS]; dsimp only; rw [hy]; rfl
theorem put_dt {kvs : List (List Key × Wv)} {y : Wv} {key : List Key} (hS : S[k]? = some (.dt kvs)) (hy : keysW y = some key) : dictPut S (.o k) y w = some (S.set k (.dt (putW kvs key w))) := by
  unfold dictPut; dsimp only; rw [hS]; dsimp only; rw [hy]; rfl
theorem len_dk {kvs : List (Key × Wv)} (hS : S[k]? = some (.dk kvs)) (h : kvs.length < 100000) : dictLen S (.o k) < sizeLine := by
  unfold dictLen; dsimp only; rw [hS]; exact lt_line h
theorem len_dt {kvs : List (List Key × Wv)} (hS : S[k]? = some (.dt kvs)) (h : kvs.length < 100000) : dictLen S (.o k) < sizeLine := by
  unfold dictLen; dsimp only; rw [hS]; exact lt_line h
theorem st_lookD {kvs : List (Key × Wv)} {y : Wv} {key : Key} {P : Option Wv → Prop} (hS : S[k]? = some (.dk kvs)) (hy : keyW y = some key) (h : P (valW kvs key)) : ∃ r, dictLook S (.o k) y = some r ∧ P r := ⟨_, look_dk hS hy, h⟩
theorem st_dgetD {kvs : List (Key × Wv)} {y : Wv} {key : Key} {P : Wv → Prop} (hS : S[k]? = some (.dk kvs)) (hy : keyW y = some key) (e : valW kvs key = some w) (h : P w) : ∃ w, dictLook S (.o k) y = some (some w) ∧ P w := ⟨w, by rw [look_dk hS hy, e], h⟩
theorem st_dgetL {od : Obj} {ys : List (Key × V)} {kvs : List (Key × Wv)} {y : Wv} {key : Key} {P : Wv → Prop} (hS : S[k]? = some (.dkL od ys kvs)) (hy : keyW y = some key) (e : valW kvs key = some w) (h : P w) : ∃ w, dictLook S (.o k) y = some (some w) ∧ P w := ⟨w, by rw [look_dkL hS hy, e], h⟩
theorem st_putD {kvs : List (Key × Wv)} {y : Wv} {key : Key} {P : Sto → Prop} (hS : S[k]? = some (.dk kvs)) (hy : keyW y = some key) (hl : kvs.length < 100000) (h : P (S.set k (.dk (putW kvs key w)))) : ∃ S4, dictPut S (.o k) y w = some S4 ∧ dictLen S (.o k) < sizeLine ∧ P S4 := ⟨_, put_dk hS hy, len_dk hS hl, h⟩
theorem st_lookT {kvs : List (List Key × Wv)} {y : Wv} {key : List Key} {P : Option Wv → Prop} (hS : S[k]? = some (.dt kvs)) (hy : keysW y = some key) (h : P (valW kvs key)) : ∃ r, dictLook S (.o k) y = some r ∧ P r := ⟨_, look_dt hS hy, h⟩
theorem st_dgetT {kvs : List (List Key × Wv)} {y : Wv} {key : List Key} {P : Wv → Prop} (hS : S[k]? = some (.dt kvs)) (hy : keysW y = some key) (e : valW kvs key = some w) (h : P w) : ∃ w, dictLook S (.o k) y = some (some w) ∧ P w := ⟨w, by rw [look_dt hS hy, e], h⟩
theorem st_putT {kvs : List (List Key × Wv)} {y : Wv} {key : List Key} {P : Sto → Prop} (hS : S[k]? = some (.dt kvs)) (hy : keysW y = some key) (hl : kvs.length < 100000) (h : P (S.set k (.dt (putW kvs key w)))) : ∃ S4, dictPut S (.o k) y w = some S4 ∧ dictLen S (.o k) < sizeLine ∧ P S4 := ⟨_, put_dt hS hy, len_dt hS hl, h⟩
-- dicts as maps of lists
variable {κ ε : Type} [DecidableEq κ]
theorem valW_map (es : List ε) (key : ε → κ) (val : ε → Wv) (x : κ) : valW (es.map fun e => (key e, val e)) x = (es.find? fun e => decide (key e = x)).map val := by
  unfold valW
  rw [List.find?_map]
  cases h : List.find? ((fun kv => decide (kv.1 = x)) ∘ fun e => (key e, val e)) es with
  | none => rw [show (es.find? fun e => decide (key e = x)) = none from h]; rfl
  | some e => rw [show (es.find? fun e => decide (key e = x)) = some e from h]; rfl
def putE (key : ε → κ) (es : List ε) (n : ε) : List ε := if (es.any fun e => decide (key e = key n)) = true then es.map (fun e => if key e = key n then n else e) else es ++ [n]
theorem putW_map (es : List ε) (key : ε → κ) (val : ε → Wv) (n : ε) : putW (es.map fun e => (key e, val e)) (key n) (val n) = (putE key es n).map fun e => (key e, val e) := by
  unfold putW putE
  rw [List.any_map]
  by_cases h : (es.any fun e => decide (key e = key n)) = true
  · rw [if_pos h, if_pos (show es.any ((fun kv => decide (kv.1 = key n)) ∘ fun e => (key e, val e)) = true from h), List.map_map, List.map_map]
    refine List.map_congr_left fun e _ => ?_
    show (if key e = key n then (key e, val n) else (key e, val e)) = (key (if key e = key n then n else e), val (if key e = key n then n else e))
    by_cases hk : key e = key n
    · rw [if_pos hk, if_pos hk, hk]
    · rw [if_neg hk, if_neg hk]
  · rw [if_neg h, if_neg (show ¬ es.any ((fun kv => decide (kv.1 = key n)) ∘ fun e => (key e, val e)) = true from h), List.map_append]
    rfl
theorem putE_keys (key : ε → κ) (es : List ε) (n : ε) : (putE key es n).map key = if key n ∈ es.map key then es.map key else es.map key ++ [key n] := by
  unfold putE
  by_cases h : (es.any fun e => decide (key e = key n)) = true
  · have h' : key n ∈ es.map key := by
      obtain ⟨e, he, hk⟩ := List.any_eq_true.mp h
      exact List.mem_map.mpr ⟨e, he, of_decide_eq_true hk⟩
    rw [if_pos h, if_pos h', List.map_map]
    refine List.map_congr_left fun e _ => ?_
    show key (if key e = key n then n else e) = key e
    by_cases hk : key e = key n
    · rw [if_pos hk, hk]
    · rw [if_neg hk]
  · have h' : ¬ key n ∈ es.map key := by
      intro hm
      obtain ⟨e, he, hk⟩ := List.mem_map.mp hm
      exact h (List.any_eq_true.mpr ⟨e, he, decide_eq_true hk⟩)
    rw [if_neg h, if_neg h', List.map_append]
    rfl
theorem putE_nodup {key : ε → κ} {es : List ε} {n : ε} (h : (es.map key).Nodup) : ((putE key es n).map key).Nodup := by
  rw [putE_keys]
  split
  · exact h
  · rename_i hn
    rw [List.nodup_append]
    refine ⟨h, by simp, fun a ha b hb => ?_⟩
    rw [List.mem_singleton] at hb
    rintro rfl
    exact hn (hb ▸ ha)
theorem putE_mem {key : ε → κ} {es : List ε} {n e : ε} (h : e ∈ putE key es n) : e = n ∨ e ∈ es := by
  unfold putE at h
  split at h
  · obtain ⟨x, hx, rfl⟩ := List.mem_map.mp h
    split
    · exact .inl rfl
    · exact .inr hx
  · rcases List.mem_append.mp h with h | h
    · exact .inr h
    · exact .inl (List.mem_singleton.mp h)
theorem putE_find {key : ε → κ} {es : List ε} {n : ε} : (putE key es n).find? (fun e => decide (key e = key n)) = some n := by
  unfold putE
  split
  · rename_i h
    induction es with
    | nil => simp at h
    | cons e r ih =>
      rw [List.map_cons, List.find?_cons]
      by_cases hk : key e = key n
      · rw [if_pos hk, decide_eq_true rfl]
      · rw [if_neg hk, decide_eq_false hk]
        refine ih ?_
        rw [List.any_cons, decide_eq_false hk, Bool.false_or] at h
        exact h
  · rename_i h
    rw [List.find?_append]
    have : (es.find? fun e => decide (key e = key n)) = none := by
      rw [List.find?_eq_none]
      intro e he hk
      exact h (List.any_eq_true.mpr ⟨e, he, hk⟩)
    rw [this]
    simp
theorem find_mem {key : ε → κ} {es : List ε} {x : κ} {e : ε} (h : es.find? (fun e => decide (key e = x)) = some e) : e ∈ es ∧ key e = x :=
  ⟨List.mem_of_find?_eq_some h, by simpa using List.find?_some h⟩
theorem find_uniq {key : ε → κ} {es : List ε} (hn : (es.map key).Nodup) {e : ε} (he : e ∈ es) : es.find? (fun e' => decide (key e' = key e)) = some e := by
  induction es with
  | nil => cases he
  | cons a r ih =>
    rw [List.map_cons, List.nodup_cons] at hn
    rw [List.find?_cons]
    rcases List.mem_cons.mp he with rfl | hr
    · rw [decide_eq_true rfl]
    · have : ¬ key a = key e := fun q => hn.1 (List.mem_map.mpr ⟨e, hr, q.symm⟩)
      rw [decide_eq_false this]
      exact ih hn.2 hr
theorem putE_self {key : ε → κ} {es : List ε} (hn : (es.map key).Nodup) {n e : ε} (he : e ∈ es) (hk : key e = key n) (val : ε → Wv) (hv : val e = val n) : (putE key es n).map (fun e => (key e, val e)) = es.map fun e => (key e, val e) := by
  unfold putE
  have : (es.any fun e => decide (key e = key n)) = true := List.any_eq_true.mpr ⟨e, he, decide_eq_true hk⟩
  rw [if_pos this, List.map_map]
  refine List.map_congr_left fun a ha => ?_
  show (key (if key a = key n then n else a), val (if key a = key n then n else a)) = _
  by_cases q : key a = key n
  · rw [if_pos q]
    have h1 := find_uniq hn ha
    have h2 := find_uniq hn he
    rw [q] at h1
    rw [hk, h1] at h2
    cases h2
    rw [hv, q]
  · rw [if_neg q]
theorem st_gconsM {gt : DTG} {ff : DTGs} {K : Rho → Sto → Prop} {d : PyData} {ds : List PyData} (h : gt (.d d) ρ S fun ρ' S' => ff (ds.map .d) ρ' S' K) : dgCons gt ff ((d :: ds).map .d) ρ S K := ⟨_, _, rfl, h⟩
theorem st_gnilM {K : Rho → Sto → Prop} (h : K ρ S) : dgNil (([] : List PyData).map .d) ρ S K := ⟨rfl, h⟩
theorem st_el' {d : PyData} {acc : List PyData} {P : PyData → Prop} (hl : acc.length < sizeLine) (h : P d) : ∃ d', Wv.d d = .d d' ∧ acc.length < sizeLine ∧ P d' := ⟨d, rfl, hl, h⟩
theorem st_cwI {i : Int} (h : Q (.d (.int i)) S) : dCw (.int i) ρ S Q := h
theorem st_cwS {i : Str} (h : Q (.d (.str i)) S) : dCw (.str i) ρ S Q := h
theorem st_cwB {i : Bool} (h : Q (.d (.bool i)) S) : dCw (.bool i) ρ S Q := h
theorem st_cwL {i : List PyData} (h : Q (.c (.list i)) S) : dCw (.list i) ρ S Q := h
theorem st_cwT {i : List PyData} (h : Q (.c (.tuple i)) S) : dCw (.tuple i) ρ S Q := h
-- methods
variable {gg : DRM} {T : String}
theorem st_bm (h : fo ρ S fun w S1 => tyW T w S1 ∧ fs ρ S1 fun ws S2 => gg w ws S2 Q) : dBM T gg fo fs ρ S Q := h
theorem st_bm0 (h : fo ρ S fun w S1 => tyW T w S1 ∧ gg w [] S1 Q) : dBM0 T gg fo ρ S Q := h
theorem st_tyO {P : Prop} {ws : List Wv} (hS : S[k]? = some (.lst ws)) (h : P) : tyW "list" (.o k) S ∧ P := ⟨⟨rfl, ws, hS⟩, h⟩
theorem st_append {ws : List Wv} (hS : S[k]? = some (.lst ws)) (hl : ws.length < 100000) (h : Q (.d .none) (S.set k (.lst (ws ++ [w])))) : mAppend (.o k) [w] S Q := ⟨k, ws, w, rfl, rfl, hS, lt_line hl, h⟩
theorem st_reverse {ws : List Wv} (hS : S[k]? = some (.lst ws)) (h : Q (.d .none) (S.set k (.lst ws.reverse))) : mReverse (.o k) [] S Q := ⟨k, ws, rfl, rfl, hS, h⟩
theorem st_isi {a : String} {b : Bool} (h1 : tyS S w = some a) (h2 : kitB a T = some b) (h : Q (.d (.bool b)) S) : cIsi [w, .v (.ty T)] S Q := ⟨w, T, a, b, rfl, h1, h2, h⟩
theorem tyS_lst {ws : List Wv} (hS : S[k]? = some (.lst ws)) : tyS S (.o k) = some "list" := by unfold tyS; dsimp only; rw [hS]
theorem st_cWrap {x : Wv} (h : Q x S) : Q x S := h
-- locks
theorem st_lock {kvs : List (Key × Wv)} (hS : S[k]? = some (.dk kvs)) (h : ∀ od ys, fe ρ (S.set k (.dkL od ys kvs)) fun w S' => S'[k]? = some (.dkL od ys kvs) ∧ Q w (S'.set k (.dk kvs))) : dLockE fe ρ S Q := ⟨k, kvs, hS, h⟩
theorem set_same {o : OO} (hS : S[k]? = some o) : S.set k o = S := by
  obtain ⟨hb, e⟩ := List.getElem?_eq_some_iff.mp hS
  rw [← e, List.set_getElem_self]
theorem st_unlock {od : Obj} {ys : List (Key × V)} {kvs : List (Key × Wv)} (hS : S[k]? = some (.dk kvs)) (h : Q w S) : (S.set k (.dkL od ys kvs))[k]? = some (.dkL od ys kvs) ∧ Q w ((S.set k (.dkL od ys kvs)).set k (.dk kvs)) :=
  ⟨get_set hS, by rw [set_set, set_same hS]; exact h⟩
theorem st_keys {R : List Wv → (Sto → Prop) → Sto → Prop} (h : fe ρ S fun w S1 => ∃ k od ys kvs, w = .o k ∧ S1[k]? = some (.dkL od ys kvs) ∧ R (kvs.map fun p => .d (kP p.1)) (fun S => S[k]? = some (.dkL od ys kvs)) S1) : diKeys fe ρ S R := h
theorem st_keysE {P : Nat → Obj → List (Key × V) → List (Key × Wv) → Prop} {od : Obj} {ys : List (Key × V)} {kvs : List (Key × Wv)} (hS : S[k]? = some (.dkL od ys kvs)) (h : P k od ys kvs) : ∃ k' od ys kvs, Wv.o k = .o k' ∧ S[k']? = some (.dkL od ys kvs) ∧ P k' od ys kvs := ⟨k, od, ys, kvs, rfl, hS, h⟩
theorem st_items {R : List Wv → (Sto → Prop) → Sto → Prop} (h : fe ρ S fun w S1 => ∃ k od ys kvs l, w = .o k ∧ S1[k]? = some (.dkL od ys kvs) ∧ pairsD kvs = some l ∧ R (l.map .d) (fun S => S[k]? = some (.dkL od ys kvs)) S1) : diItems fe ρ S R := h
theorem st_itemsE {P : Nat → Obj → List (Key × V) → List (Key × Wv) → List PyData → Prop} {od : Obj} {ys : List (Key × V)} {kvs : List (Key × Wv)} {l : List PyData} (hS : S[k]? = some (.dkL od ys kvs)) (e : pairsD kvs = some l) (h : P k od ys kvs l) : ∃ k' od ys kvs l, Wv.o k = .o k' ∧ S[k']? = some (.dkL od ys kvs) ∧ pairsD kvs = some l ∧ P k' od ys kvs l := ⟨k, od, ys, kvs, l, rfl, hS, e, h⟩
theorem pairs_map (es : List ε) (key : ε → Key) (val : ε → PyData) : pairsD (es.map fun e => (key e, .d (val e))) = some (es.map fun e => .tuple [kP (key e), val e]) := by
  induction es with
  | nil => rfl
  | cons e r ih => simp only [List.map_cons, pairsD, ih, Option.map_some]
/-- a comprehension that leaves the store alone -/
theorem lc_pure {items : List Wv} {keep : Sto → Prop} {tg : DTG} {tt : DTT} {te : DTE} {vs : List Nat} (φ : Wv → Option PyData) (hk : keep S) (hl : items.length ≤ 100000)
    (step : ∀ x ∈ items, ∀ (acc : List PyData) (K : List PyData → Sto → Prop), acc.length < 100000 → K (acc ++ (φ x).toList) S → tg x (dwipe ρ vs) S fun ρ2 S2 => tt ρ2 S2 fun b S3 => if b = true then te ρ2 S3 fun y S4 => ∃ d, y = .d d ∧ acc.length < sizeLine ∧ K (acc ++ [d]) S4 else K acc S3)
    (done : Q (.d (.list (items.filterMap φ))) S) : LcG tg tt te vs ρ Q items keep S := by
  refine lc_list (fun i acc S' => S' = S ∧ acc = (items.take i).filterMap φ ∧ acc.length ≤ i) ⟨rfl, rfl, Nat.le_refl _⟩ (fun i acc S' h => h.1 ▸ hk) ?_ ?_
  · rintro i x acc S' K hx ⟨rfl, rfl, hle⟩ hK
    have hi := (List.getElem?_eq_some_iff.mp hx).1
    refine step x (List.mem_of_getElem? hx) _ K (by omega) (hK _ _ ⟨rfl, ?_, ?_⟩)
    · rw [List.take_add_one, hx]
      simp only [List.filterMap_append, Option.toList_some]
      cases h : φ x <;> simp [h]
    · rw [List.length_append]
      have : (φ x).toList.length ≤ 1 := by cases φ x <;> simp
      omega
  · rintro acc S' ⟨rfl, rfl, _⟩
    rw [List.take_length]
    exact done
-- draws
theorem st_take {b : Nat} {m : Int} {o : OO} (hS : S[b]? = some o) (hb : BagOk o) (h0 : 0 < m) (h1 : m < 1073741824) (h : ∀ v o', 0 ≤ v → v < m → BagOk o' → Q (.d (.int v)) (S.set b o')) : gTake [.o b, .d (.int m)] S Q := ⟨b, m, o, rfl, hS, hb, h0, h1, h⟩
theorem st_bag {ns : List Int} (hl : ns.length ≤ 63) (h : ∀ o, BagOk o → Q (.o S.length) (S ++ [o])) : gBag [.c (.list (ns.map .int))] S Q := ⟨ns, rfl, hl, h⟩
theorem len_take : ∀ ws S Q, gTake ws S Q → ws.length = 2 := by rintro ws S Q ⟨b, m, o, rfl, _⟩; rfl
theorem len_bag : ∀ ws S Q, gBag ws S Q → ws.length = 1 := by rintro ws S Q ⟨ns, rfl, _⟩; rfl
end
theorem fm_if {α β : Type} (p : α → Prop) [DecidablePred p] (f : α → β) (l : List α) : (l.filterMap fun e => if p e then some (f e) else none) = (l.filter fun e => decide (p e)).map f := by
  induction l with
  | nil => rfl
  | cons a r ih =>
    by_cases h : p a
    · rw [List.filterMap_cons, if_pos h, List.filter_cons_of_pos (by simpa using h), List.map_cons, ih]
    · rw [List.filterMap_cons, if_neg h, List.filter_cons_of_neg (by simpa using h), ih]
section
variable {S : Sto} {Q : Wv → Sto → Prop}
theorem st_sortS {ns : List Str} (hl : ns.length < 64) (h : ∀ ns' : List Str, ns'.Perm ns → sortedS ns' = true → Q (.d (.list (ns'.map .str))) S) : cSortS [.d (.list (ns.map .str))] S Q := ⟨_, ns, rfl, strs_map ns, hl, h⟩
theorem st_sortSO {ns : List Str} (hl : ns.length < 64) (h : ∀ ns' : List Str, ns'.Perm ns → sortedS ns' = true → Q (.o S.length) (S ++ [.lst (ns'.map fun i => .d (.str i))])) : cSortSO [.d (.list (ns.map .str))] S Q := ⟨_, ns, rfl, strs_map ns, hl, h⟩
theorem st_sortI {ns : List Int} (hl : ns.length < 64) (h : ∀ ns' : List Int, ns'.Perm ns → ns'.Pairwise (· ≤ ·) → Q (.d (.list (ns'.map .int))) S) : cSortI [.d (.list (ns.map .int))] S Q := ⟨_, ns, rfl, ints_map ns, hl, h⟩
theorem st_sortIO {ns : List Int} (hl : ns.length < 64) (h : ∀ ns' : List Int, ns'.Perm ns → ns'.Pairwise (· ≤ ·) → Q (.o S.length) (S ++ [.lst (ns'.map fun i => .d (.int i))])) : cSortIO [.d (.list (ns.map .int))] S Q := ⟨_, ns, rfl, ints_map ns, hl, h⟩
end
theorem fm_congr {α β : Type} {f g : α → Option β} {l : List α} (h : ∀ x ∈ l, f x = g x) : l.filterMap f = l.filterMap g := by
  induction l with
  | nil => rfl
  | cons a r ih => rw [List.filterMap_cons, List.filterMap_cons, h a (List.mem_cons_self ..), ih fun x hx => h x (List.mem_cons_of_mem _ hx)]
theorem range_len {n : Nat} {a : Int} : (rangeW a n).length = n := by simp [rangeW]
theorem range_get {n : Nat} {a : Int} {i : Nat} {x : Wv} (h : (rangeW a n)[i]? = some x) : x = .d (.int (a + i)) ∧ i < n := by
  have hi := (List.getElem?_eq_some_iff.mp h).1
  rw [range_len] at hi
  unfold rangeW at h
  rw [List.getElem?_map, List.getElem?_range hi] at h
  exact ⟨(Option.some.inj h).symm, hi⟩
theorem cutL_map {α β : Type} (f : α → β) (l : List α) (lo hi : Option Int) : cutL (l.map f) lo hi = (cutL l lo hi).map f := by
  unfold cutL
  rw [List.length_map, List.map_take, List.map_drop]
theorem cutL_to {α : Type} (l : List α) (k : Int) (h : 0 ≤ k) : cutL l none (some k) = l.take k.toNat := by
  unfold cutL HT.sIx
  dsimp only
  rw [if_neg (by omega), List.drop_zero, Nat.sub_zero]
  rcases Nat.le_total k.toNat l.length with h1 | h1
  · rw [Nat.min_eq_left h1]
  · rw [Nat.min_eq_right h1, List.take_length, List.take_of_length_le h1]
theorem cutL_from {α : Type} (l : List α) (k : Int) (h : 0 ≤ k) : cutL l (some k) none = l.drop k.toNat := by
  unfold cutL HT.sIx
  dsimp only
  rw [if_neg (by omega)]
  rcases Nat.le_total k.toNat l.length with h1 | h1
  · rw [Nat.min_eq_left h1, List.take_of_length_le (by rw [List.length_drop]; omega)]
  · rw [Nat.min_eq_right h1, List.drop_length, List.drop_of_length_le h1, List.take_nil]
theorem dats_strs {S : Sto} (ns : List Str) : Dats S (ns.map fun i => .d (.str i)) (ns.map .str) := by
  have := dats_map (S := S) (ns.map PyData.str)
  rw [List.map_map] at this
  exact this
theorem dats_ints {S : Sto} (ns : List Int) : Dats S (ns.map fun i => .d (.int i)) (ns.map .int) := by
  have := dats_map (S := S) (ns.map PyData.int)
  rw [List.map_map] at this
  exact this
theorem st_intBc {S : Sto} {Q : Wv → Sto → Prop} {b : Bool} (h : ∀ c : Int, 0 ≤ c → c ≤ 1 → (c = if b then 1 else 0) → Q (.d (.int c)) S) : cInt [.d (.bool b)] S Q := h _ (by split <;> decide) (by split <;> decide) rfl
theorem st_max2c {S : Sto} {Q : Wv → Sto → Prop} {a b : Int} (h : ∀ m : Int, a ≤ m → b ≤ m → (m = a ∨ m = b) → Q (.d (.int m)) S) : cMax2 [.d (.int a), .d (.int b)] S Q := h _ (by split <;> omega) (by split <;> omega) (by split <;> simp)
theorem st_min2c {S : Sto} {Q : Wv → Sto → Prop} {a b : Int} (h : ∀ m : Int, m ≤ a → m ≤ b → (m = a ∨ m = b) → Q (.d (.int m)) S) : cMin2 [.d (.int a), .d (.int b)] S Q := h _ (by split <;> omega) (by split <;> omega) (by split <;> simp)
def gLaw : DSp := fun ws S Q => ∃ ns : List Int, ns.length ≤ 63 ∧ ws = [.c (.list (ns.map .int))] ∧ S = [] ∧ ∀ S', Q (.d (.bool true)) S'
theorem len_law : ∀ ws S Q, gLaw ws S Q → ws.length = 1 := by rintro ws S Q ⟨ns, _, rfl, _⟩; rfl
theorem at_map {α : Type} (f : α → PyData) {l : List α} {i : Int} (h0 : 0 ≤ i) (h1 : i < l.length) : ∃ n, n ∈ l ∧ atI (l.map f) i = some (f n) := by
  obtain ⟨d, e, hd⟩ := atI_in (l := l.map f) h0 (by rw [List.length_map]; exact h1)
  obtain ⟨n, hn, rfl⟩ := List.mem_map.mp hd
  exact ⟨n, hn, e⟩
theorem mul_bit {w c n : Int} (h0 : 0 ≤ w) (h1 : w < n) (h2 : 0 ≤ c) (h3 : c ≤ 1) : 0 ≤ w * c ∧ w * c < n := by
  have : c = 0 ∨ c = 1 := by omega
  rcases this with rfl | rfl
  · rw [Int.mul_zero]; omega
  · rw [Int.mul_one]; omega
theorem ints_of_all {l : List PyData} (h : ∀ d ∈ l, ∃ z, d = .int z) : ∃ ns : List Int, l = ns.map .int := by
  induction l with
  | nil => exact ⟨[], rfl⟩
  | cons d r ih =>
    obtain ⟨z, rfl⟩ := h d (List.mem_cons_self ..)
    obtain ⟨ns, rfl⟩ := ih fun x hx => h x (List.mem_cons_of_mem _ hx)
    exact ⟨z :: ns, rfl⟩
theorem st_powI {S : Sto} {Q : Wv → Sto → Prop} {a b : Int} (hc : 0 ≤ b ∧ b ≤ 1000000 ∧ a.natAbs < 18446744073709551616) (h : Q (.d (.int (a ^ b.toNat))) S) : gPow (.d (.int a)) (.d (.int b)) S Q := ⟨hc, h⟩
theorem st_xt {A B : Prop} (h : B) : if (!true) = true then A else B := h
theorem st_xf {A B : Prop} (h : A) : if (!false) = true then A else B := h
theorem cut_last {α : Type} (l : List α) : cutL l (some (-1)) none = l.getLast?.toList := by
  unfold cutL HT.sIx
  dsimp only
  rw [if_pos (by decide)]
  rcases Nat.eq_zero_or_pos l.length with h | h
  · rw [List.length_eq_zero_iff.mp h]; rfl
  · rw [show ((-1 : Int) + (l.length : Int)).toNat = l.length - 1 by omega, List.take_of_length_le (by rw [List.length_drop]; omega)]
    rw [List.getLast?_eq_getElem?, List.getElem?_eq_getElem (by omega)]
    rw [List.drop_eq_getElem_cons (by omega), List.drop_of_length_le (by omega)]
    rfl
theorem cutL_le {α : Type} {l : List α} {lo hi : Option Int} : (cutL l lo hi).length ≤ l.length := by
  unfold cutL
  rw [List.length_take, List.length_drop]
  omega
theorem cutL_mem {α : Type} {l : List α} {lo hi : Option Int} {x : α} (h : x ∈ cutL l lo hi) : x ∈ l := by
  unfold cutL at h
  exact List.mem_of_mem_drop (List.mem_of_mem_take h)
-- sorted words
theorem rising_pair : ∀ (p : Str) (l : List Str), risingS p l = true → (∀ x ∈ l, PySem.Spec.ltCps x.cps.toList p.cps.toList = false) ∧ l.Pairwise fun a b => PySem.Spec.ltCps b.cps.toList a.cps.toList = false
  | p, [], _ => ⟨by simp, .nil⟩
  | p, x :: r, h => by
    unfold risingS at h
    rw [Bool.and_eq_true] at h
    obtain ⟨h1, h2⟩ := rising_pair x r h.2
    have h3 : PySem.Spec.ltCps x.cps.toList p.cps.toList = false := by simpa using h.1
    refine ⟨fun y hy => ?_, List.pairwise_cons.mpr ⟨h1, h2⟩⟩
    rcases List.mem_cons.mp hy with rfl | hy
    · exact h3
    · have h4 := h1 y hy
      rw [ltCps_eq] at h3 h4 ⊢
      have a := of_decide_eq_false h3
      have b := of_decide_eq_false h4
      exact decide_eq_false (List.not_lt.mpr (List.le_trans (List.not_lt.mp a) (List.not_lt.mp b)))
theorem sortedS_pair {l : List Str} (h : sortedS l = true) : l.Pairwise fun a b => PySem.Spec.ltCps b.cps.toList a.cps.toList = false := by
  cases l with
  | nil => exact .nil
  | cons x r => obtain ⟨h1, h2⟩ := rising_pair x r h; exact List.pairwise_cons.mpr ⟨h1, h2⟩
theorem str_ext {a b : Str} (h : a.cps.toList = b.cps.toList) : a = b := by
  cases a; cases b; congr 1; exact Array.toList_inj.mp h
theorem sortedS_uniq {l m : List Str} (hp : l.Perm m) (hl : sortedS l = true) (hm : sortedS m = true) : l = m :=
  List.Perm.eq_of_pairwise (le := fun a b => PySem.Spec.ltCps b.cps.toList a.cps.toList = false) (fun a b _ _ h1 h2 => by
    rw [ltCps_eq] at h1 h2
    exact str_ext (List.le_antisymm (List.not_lt.mp (of_decide_eq_false h1)) (List.not_lt.mp (of_decide_eq_false h2)))) (sortedS_pair hl) (sortedS_pair hm) hp
theorem sortedI_uniq {l m : List Int} (hp : l.Perm m) (hl : l.Pairwise (· ≤ ·)) (hm : m.Pairwise (· ≤ ·)) : l = m :=
  List.Perm.eq_of_pairwise (fun _ _ _ _ h1 h2 => Int.le_antisymm h1 h2) hl hm hp
-- shapes
mutual
def okD : Nat → PyData → Bool
  | _, .none => true
  | _, .bool _ => true
  | _, .int _ => true
  | _, .str x => PyData.strOk x
  | n + 1, .list xs => okDs n xs
  | n + 1, .tuple xs => okDs n xs
  | _, _ => false
def okDs : Nat → List PyData → Bool
  | _, [] => true
  | n, x :: xs => okD n x && okDs n xs
end
mutual
theorem okD_ok : ∀ (n : Nat) (d : PyData), okD n d = true → d.canLay0 = true ∧ d.depth ≤ n
  | n, .none, _ => by simp [PyData.canLay0, PyData.depth]
  | n, .bool _, _ => by simp [PyData.canLay0, PyData.depth]
  | n, .int _, _ => by simp [PyData.canLay0, PyData.depth]
  | n, .str x, h => by simp [okD] at h; simp [PyData.canLay0, PyData.depth, h]
  | 0, .list xs, h => by simp [okD] at h
  | 0, .tuple xs, h => by simp [okD] at h
  | n + 1, .list xs, h => by
    simp only [okD] at h
    obtain ⟨h1, h2⟩ := okDs_ok n xs h
    simp only [PyData.canLay0, PyData.depth]
    exact ⟨h1, by omega⟩
  | n + 1, .tuple xs, h => by
    simp only [okD] at h
    obtain ⟨h1, h2⟩ := okDs_ok n xs h
    simp only [PyData.canLay0, PyData.depth]
    exact ⟨h1, by omega⟩
  | n, .dict _, h => by cases n <;> simp [okD] at h
theorem okDs_ok : ∀ (n : Nat) (d : List PyData), okDs n d = true → PyData.canLayAll0 d = true ∧ PyData.depthAll d ≤ n
  | n, [], _ => by simp [PyData.canLayAll0, PyData.depthAll]
  | n, x :: xs, h => by
    simp only [okDs, Bool.and_eq_true] at h
    obtain ⟨h1, h2⟩ := okD_ok n x h.1
    obtain ⟨h3, h4⟩ := okDs_ok n xs h.2
    simp only [PyData.canLayAll0, PyData.depthAll, h1, h3, Bool.and_self, true_and]
    omega
end
theorem shaped_ok {d : PyData} (h : okD 60 d = true) : SeqAt.shaped d = true := by
  obtain ⟨h1, h2⟩ := okD_ok 60 d h
  unfold SeqAt.shaped
  rw [h1, Bool.true_and]
  exact decide_eq_true (by omega)
theorem okDs_all {n : Nat} {l : List PyData} (h : ∀ x ∈ l, okD n x = true) : okDs n l = true := by
  induction l with
  | nil => simp [okDs]
  | cons x r ih => simp only [okDs, h x (List.mem_cons_self ..), ih fun y hy => h y (List.mem_cons_of_mem _ hy), Bool.and_self]
theorem okD_strs {n : Nat} {l : List Str} (h : ∀ x ∈ l, PyData.strOk x = true) : okD (n + 1) (.list (l.map .str)) = true := by
  simp only [okD]
  refine okDs_all fun x hx => ?_
  obtain ⟨y, hy, rfl⟩ := List.mem_map.mp hx
  cases n <;> (simp only [okD]; exact h y hy)
theorem eqv_same {d : PyData} (h : okD 60 d = true) : PyData.eqv d d = true := SeqAt.eqv_refl d (okD_ok 60 d h).1
section
variable {S : Sto} {Q : Wv → Sto → Prop} {x y : Wv} {d e : PyData}
theorem st_eqD (hx : Dat S x d) (hy : Dat S y e) (h1 : okD 60 d = true) (h2 : okD 60 e = true) (h : Q (.d (.bool (PyData.eqv d e))) S) : gEqD false x y S Q := ⟨d, e, hx, hy, shaped_ok h1, shaped_ok h2, h⟩
theorem st_neD (hx : Dat S x d) (hy : Dat S y e) (h1 : okD 60 d = true) (h2 : okD 60 e = true) (h : Q (.d (.bool (!PyData.eqv d e))) S) : gEqD true x y S Q := ⟨d, e, hx, hy, shaped_ok h1, shaped_ok h2, h⟩
theorem st_ne (h : gEqD true x y S Q) : gNe x y S Q := by
  unfold gNe
  split
  · obtain ⟨d, e, h1, h2, _, _, h⟩ := h
    cases h1; cases h2
    simpa [PyData.eqv, ← beq_iff_eq] using h
  · obtain ⟨d, e, h1, h2, _, _, h⟩ := h
    cases h1; cases h2
    simpa [PyData.eqv, ← beq_iff_eq] using h
  · obtain ⟨d, e, h1, h2, _, _, h⟩ := h
    cases h1; cases h2
    simpa [PyData.eqv, ← beq_iff_eq] using h
  · exact h
theorem st_eq (h : gEqD false x y S Q) : gEq x y S Q := by
  unfold gEq
  split
  · obtain ⟨d, e, h1, h2, _, _, h⟩ := h
    cases h1; cases h2
    rw [if_neg Bool.false_ne_true] at h
    simpa [PyData.eqv, ← beq_iff_eq] using h
  · obtain ⟨d, e, h1, h2, _, _, h⟩ := h
    cases h1; cases h2
    rw [if_neg Bool.false_ne_true] at h
    simpa [PyData.eqv, ← beq_iff_eq] using h
  · obtain ⟨d, e, h1, h2, _, _, h⟩ := h
    cases h1; cases h2
    rw [if_neg Bool.false_ne_true] at h
    simpa [PyData.eqv, ← beq_iff_eq] using h
  · exact h
theorem st_eqSame (hx : Dat S x d) (hy : Dat S y d) (h1 : okD 60 d = true) (h : Q (.d (.bool true)) S) : gEqD false x y S Q := st_eqD hx hy h1 h1 (by rw [eqv_same h1]; exact h)
theorem st_neSame (hx : Dat S x d) (hy : Dat S y d) (h1 : okD 60 d = true) (h : Q (.d (.bool false)) S) : gEqD true x y S Q := st_neD hx hy h1 h1 (by rw [eqv_same h1]; exact h)
end

end Dm
end
section
open PySem L2 Dm PyProof.Rows

namespace Dm
mutual
theorem nodict_alike : ∀ d : PyData, PySem.W.alike d d = true → d.hasDict = false
  | .none, _ => by simp only [PyData.hasDict]
  | .bool _, _ => by simp only [PyData.hasDict]
  | .int _, _ => by simp only [PyData.hasDict]
  | .str _, _ => by simp only [PyData.hasDict]
  | .list xs, h => by simp only [PyData.hasDict]; exact nodict_alikeAll xs (by simpa only [PySem.W.alike] using h)
  | .tuple xs, h => by simp only [PyData.hasDict]; exact nodict_alikeAll xs (by simpa only [PySem.W.alike] using h)
  | .dict _, h => by simp [PySem.W.alike] at h
theorem nodict_alikeAll : ∀ ds : List PyData, PySem.W.alikeAll ds ds = true → PyData.hasDictAll ds = false
  | [], _ => by simp only [PyData.hasDictAll]
  | d :: ds, h => by
    rw [PySem.W.alikeAll, Bool.and_eq_true] at h
    simp only [PyData.hasDictAll, nodict_alike d h.1, nodict_alikeAll ds h.2, Bool.or_self]
end
theorem nodicts : ∀ {ds : List PyData}, (∀ d ∈ ds, d.hasDict = false) → PyData.hasDictAll ds = false
  | [], _ => by simp only [PyData.hasDictAll]
  | d :: ds, h => by simp only [PyData.hasDictAll, h d (List.mem_cons_self ..), nodicts fun x hx => h x (List.mem_cons_of_mem _ hx), Bool.or_self]
/-! ### repr, count, tuples of owned parts -/
def wt : PyData → Nat
  | .none => 8
  | .bool _ => 8
  | .int _ => 1921
  | .str x => 10 * x.length + 2
  | .list xs => wts xs + 3
  | .tuple xs => wts xs + 3
  | .dict _ => 0
where wts : List PyData → Nat
  | [] => 0
  | x :: xs => wt x + 2 + wts xs
theorem shownAll_len : ∀ xs : List PyData, (PyData.shownAll xs).length = xs.length
  | [] => rfl
  | x :: xs => by simp only [PyData.shownAll, List.length_cons, shownAll_len xs]
mutual
theorem shown_le : ∀ (n : Nat) (d : PyData), okD n d = true → d.showable = true → d.shown.length ≤ wt d
  | n, .none, _, _ => by simp only [PyData.shown, wt]; decide
  | n, .bool b, _, _ => by cases b <;> (simp only [PyData.shown, wt]; decide)
  | n, .int i, _, h => by
    simp only [PyData.showable, decide_eq_true_eq] at h
    simp only [PyData.shown, wt]
    exact int_text_len_1921 h
  | n, .str x, h, _ => by
    have h : PyData.strOk x = true := by cases n <;> simpa [okD] using h
    simp only [PyData.shown, wt]
    refine StrLaws.reprText_len x fun c hc => ?_
    unfold PyData.strOk at h
    have := (Array.all_eq_true'.mp h) c (by simpa using hc)
    simp at this
    omega
  | 0, .list xs, h, _ => by simp [okD] at h
  | 0, .tuple xs, h, _ => by simp [okD] at h
  | n + 1, .list xs, h, h2 => by
    simp only [okD] at h
    simp only [PyData.showable] at h2
    have := shown_les n xs h h2
    have h3 := listText_len_le (PyData.shownAll xs)
    rw [shownAll_len] at h3
    simp only [PyData.shown, wt]
    omega
  | n + 1, .tuple xs, h, h2 => by
    simp only [okD] at h
    simp only [PyData.showable] at h2
    have := shown_les n xs h h2
    have h3 := tupleText_len_le (PyData.shownAll xs)
    rw [shownAll_len] at h3
    simp only [PyData.shown, wt]
    omega
  | n, .dict _, h, _ => by cases n <;> simp [okD] at h
theorem shown_les : ∀ (n : Nat) (xs : List PyData), okDs n xs = true → PyData.showableAll xs = true → ((PyData.shownAll xs).map (·.length)).sum + 2 * xs.length ≤ wt.wts xs
  | n, [], _, _ => by simp [PyData.shownAll, wt.wts]
  | n, x :: xs, h, h2 => by
    simp only [okDs, Bool.and_eq_true] at h
    simp only [PyData.showableAll, Bool.and_eq_true] at h2
    have h3 := shown_le n x h.1 h2.1
    have h4 := shown_les n xs h.2 h2.2
    simp only [PyData.shownAll, wt.wts, List.map_cons, List.sum_cons, List.length_cons]
    omega
end
structure Fits (n : Nat) (d : PyData) (w : Nat) : Prop where
  ok : okD n d = true
  sh : d.showable = true
  wt : wt d ≤ w
theorem fits_none {n : Nat} : Fits n .none 8 := ⟨by cases n <;> rfl, rfl, Nat.le_refl _⟩
theorem fits_bool {n : Nat} {b : Bool} : Fits n (.bool b) 8 := ⟨by cases n <;> rfl, rfl, Nat.le_refl _⟩
theorem fits_int {n : Nat} {i : Int} (h1 : -1000000000000000000 < i) (h2 : i < 1000000000000000000) : Fits n (.int i) 1921 := ⟨by cases n <;> rfl, by
  simp only [PyData.showable, decide_eq_true_eq]
  rcases Nat.eq_zero_or_pos i.natAbs with h | h
  · rw [h]; decide
  · refine Nat.lt_of_lt_of_le ((Nat.log2_lt (by omega)).mpr (?_ : i.natAbs < 2 ^ 60)) (by decide)
    omega, Nat.le_refl _⟩
theorem fits_str {n : Nat} {x : Str} (h : PyData.strOk x = true) : Fits n (.str x) (10 * x.length + 2) := ⟨by cases n <;> exact h, rfl, Nat.le_refl _⟩
theorem Fits.le {n : Nat} {d : PyData} {w w' : Nat} (h : Fits n d w) (hw : w ≤ w') : Fits n d w' := ⟨h.ok, h.sh, Nat.le_trans h.wt hw⟩
structure Fitss (n : Nat) (d : List PyData) (w : Nat) : Prop where
  ok : okDs n d = true
  sh : PyData.showableAll d = true
  wt : wt.wts d ≤ w
theorem fits_nil {n : Nat} : Fitss n [] 0 := ⟨rfl, rfl, Nat.le_refl _⟩
theorem fits_cons {n : Nat} {d : PyData} {ds : List PyData} {w w' : Nat} (h : Fits n d w) (t : Fitss n ds w') : Fitss n (d :: ds) (w + 2 + w') :=
  ⟨by simp only [okDs, h.ok, t.ok, Bool.and_self], by simp only [PyData.showableAll, h.sh, t.sh, Bool.and_self], by simp only [Dm.wt.wts]; have := h.wt; have := t.wt; omega⟩
theorem fits_tup {n : Nat} {ds : List PyData} {w : Nat} (h : Fitss n ds w) : Fits (n + 1) (.tuple ds) (w + 3) := ⟨by simpa only [okD] using h.ok, by simpa only [PyData.showable] using h.sh, by simpa only [Dm.wt, Nat.add_le_add_iff_right] using h.wt⟩
theorem fits_lst {n : Nat} {ds : List PyData} {w : Nat} (h : Fitss n ds w) : Fits (n + 1) (.list ds) (w + 3) := ⟨by simpa only [okD] using h.ok, by simpa only [PyData.showable] using h.sh, by simpa only [Dm.wt, Nat.add_le_add_iff_right] using h.wt⟩
theorem fits_all {n : Nat} {ds : List PyData} {w L : Nat} (h : ∀ d ∈ ds, Fits n d w) (hl : ds.length ≤ L) : Fitss n ds (L * (w + 2)) := by
  suffices Fitss n ds (ds.length * (w + 2)) from ⟨this.ok, this.sh, Nat.le_trans this.wt (Nat.mul_le_mul_right _ hl)⟩
  clear hl
  induction ds with
  | nil => simpa using fits_nil
  | cons d r ih =>
    have := fits_cons (h d (List.mem_cons_self ..)) (ih fun x hx => h x (List.mem_cons_of_mem _ hx))
    refine ⟨this.ok, this.sh, Nat.le_trans this.wt ?_⟩
    rw [List.length_cons, Nat.add_mul]
    omega
def rReprD (K : PySem.W.Frag) : List V → Hp → VK → Prop := fun vs H Q => ∃ v d, vs = [v] ∧ Dp K H v d ∧ okD 60 d = true ∧ d.showable = true ∧ d.shown.length ≤ sizeLine ∧ Q (.str d.shown) H
section
variable {X : Cx}
theorem call_reprD (hg : X.A.guards = some []) (hu : X.A.units + 65 < cLine) : CallR X (.builtin "repr") (rReprD X.K) := by
  intro pins s σ H xs us Q I r h
  obtain ⟨v, d, rfl, hd, ho, hs, hl, q⟩ := h
  obtain ⟨u, rfl, ru⟩ := vals1 r
  obtain ⟨as, R⟩ := Dp.reads I d v u hd ru
  obtain ⟨o1, o2⟩ := okD_ok 60 d ho
  have nd := PyData.hasDict_of_canLay d o1
  cases R with
  | none => exact PySem.P.repr_of_none ⟨.str _, H, I.tok _, ⟨_, rfl⟩, q⟩
  | bool b => exact PySem.P.repr_of_bool ⟨.str _, H, I.tok _, ⟨_, rfl⟩, q⟩
  | int i t => exact PySem.P.repr_of_int (by simpa [PyData.showable] using hs) ⟨.str _, H, I.tok _, ⟨_, rfl⟩, q⟩
  | str x t => exact PySem.P.repr_of_str ⟨.str _, H, I.tok _, ⟨_, rfl⟩, q⟩ (by simpa only [PyData.shown] using hl)
  | list h1 h2 h3 h4 => exact repr_of_reads' (.list h1 h2 h3 h4) hs (fun e => by rw [nd] at e; cases e) hg (by omega) (fun _ _ e => e) (fun h' u tk k => ⟨.str _, H, I.kept k, ⟨_, rfl⟩, q⟩) hl
  | tuple h1 h2 h3 h4 => exact repr_of_reads' (.tuple h1 h2 h3 h4) hs (fun e => by rw [nd] at e; cases e) hg (by omega) (fun _ _ e => e) (fun h' u tk k => ⟨.str _, H, I.kept k, ⟨_, rfl⟩, q⟩) hl
  | dict h1 h2 h3 h4 h5 => simp [PyData.hasDict] at nd
def cRepr : DRC := fun ws S Q => ∃ w d, ws = [w] ∧ Dat S w d ∧ okD 60 d = true ∧ d.showable = true ∧ d.shown.length ≤ sizeLine ∧ Q (.d (.str d.shown)) S
theorem dc_repr (hg : X.A.guards = some []) (hu : X.A.units + 65 < cLine) : DCallR X (.builtin "repr") cRepr := by
  refine ⟨_, call_reprD hg hu, ?_⟩
  rintro G μ F S H vs ws Qd Q I r ⟨w, d, rfl, h1, h2, h3, h4, q⟩ k
  obtain ⟨v, rfl, rv⟩ := rws1 r
  exact ⟨v, d, rfl, dat_dp I d (PyData.hasDict_of_canLay d (okD_ok 60 d h2).1) rv h1, h2, h3, h4, k.str I q⟩
theorem st_repr {S : Sto} {Q : Wv → Sto → Prop} {x : Wv} {d : PyData} {w : Nat} (h : Fits 60 d w) (hw : w ≤ 10000000) (hx : Dat S x d) (q : Q (.d (.str d.shown)) S) : cRepr [x] S Q :=
  ⟨x, d, rfl, hx, h.ok, h.sh, Nat.le_trans (shown_le 60 d h.ok h.sh) (Nat.le_trans h.wt (Nat.le_trans hw (by decide))), q⟩
/-- xs.count(k) of whole numbers -/
def mCount : DRM := fun w ws S Q => ∃ l ns k, one [w] S = some l ∧ ints? l = some ns ∧ ws = [.d (.int k)] ∧ Q (.d (.int (ns.count k : Nat))) S
theorem dm_count : DMtR X "list.count" mCount := by
  refine ⟨_, mt_lcount, ?_⟩
  rintro G μ F S H v w vs ws Qd Q I r rs ⟨l, ns, kk, h1, h2, rfl, q⟩ k
  obtain ⟨p, xs, e, ea, pa⟩ := one_at I (.cons r .nil) h1
  cases e
  obtain rfl := ints_of h2
  obtain rfl := dq_ints pa
  obtain ⟨u, rfl, ru⟩ := rws1 rs
  obtain rfl := of_int ru
  exact ⟨p, ns, kk, rfl, rfl, .inl (.inl ea), k.int I q⟩
theorem st_count {S : Sto} {Q : Wv → Sto → Prop} {ns : List Int} {kk : Int} (q : Q (.d (.int (ns.count kk : Nat))) S) : mCount (.d (.list (ns.map .int))) [.d (.int kk)] S Q := ⟨_, ns, kk, rfl, ints_map ns, rfl, q⟩
/-- a tuple of data and one of owned parts, joined -/
def gAddO : DR2 := fun x y S Q => ∃ a b, tupOf x S = some a ∧ tupOf y S = some b ∧ a ≠ [] ∧ b ≠ [] ∧ a.length + b.length ≤ sizeLine ∧ Q (.o S.length) (S ++ [.tup (a ++ b)])
theorem dop_addO : DOpR X (binaryOp .Add) gAddO := by
  refine ⟨_, op_catT, ?_⟩
  rintro G μ F S H x y a b Qd Q I ra rb ⟨l, m, h1, h2, n1, n2, hl, q⟩ k
  obtain ⟨p, xs, rfl, sp, rx⟩ := tup_at I ra h1
  obtain ⟨p2, ys, rfl, sp2, ry⟩ := tup_at I rb h2
  have e1 : xs ≠ [] := fun z => by subst z; cases rx; exact n1 rfl
  have e2 : ys ≠ [] := fun z => by subst z; cases ry; exact n2 rfl
  refine ⟨p, p2, xs, ys, rfl, rfl, sp, sp2, e1, by rw [rx.length, ry.length]; exact hl, fun z => absurd z e2, fun _ z hz => k.otup I hz (paired_append rx ry) q⟩
theorem st_addO {S : Sto} {Q : Wv → Sto → Prop} {x y : Wv} {a b : List Wv} (h1 : tupOf x S = some a) (h2 : tupOf y S = some b) (n1 : a ≠ []) (n2 : b ≠ []) (hl : a.length + b.length ≤ 100000) (q : Q (.o S.length) (S ++ [.tup (a ++ b)])) : gAddO x y S Q := ⟨a, b, h1, h2, n1, n2, le_line hl, q⟩
theorem st_addT {S : Sto} {Q : Wv → Sto → Prop} {a b : List PyData} (n1 : a ≠ []) (n2 : b ≠ []) (hl : a.length + b.length ≤ 100000) (h : Q (.d (.tuple (a ++ b))) S) : gAdd (.d (.tuple a)) (.d (.tuple b)) S Q := ⟨⟨n1, n2⟩, le_line hl, h⟩
theorem st_slT {S : Sto} {Q : Wv → Sto → Prop} {l : List PyData} {lo hi : Option Int} (hn : ¬ (HT.sIx l.length 0 lo = 0 ∧ HT.sIx l.length l.length hi = l.length)) (h : Q (.d (.tuple (cutL l lo hi))) S) : gSl (.d (.tuple l)) lo hi S Q := ⟨hn, h⟩
theorem st_slS {S : Sto} {Q : Wv → Sto → Prop} {z : Str} {lo hi : Option Int} (hz : z.length ≤ 100000) (h : Q (.d (.str (cutS z lo hi))) S) : gSl (.d (.str z)) lo hi S Q := ⟨le_line hz, h⟩
end
/-! ### what stays -/
def Keep (S S' : Sto) : Prop := ∀ (i : Nat) (o : OO), S[i]? = some o → S'[i]? = some o
section
variable {S S' S2 : Sto}
theorem keep_refl : Keep S S := fun _ _ h => h
theorem Keep.trans (h : Keep S S') (h' : Keep S' S2) : Keep S S2 := fun i o e => h' i o (h i o e)
theorem keep_app {T : Sto} : Keep S (S ++ T) := fun _ _ h => get_app h
theorem Keep.app {T : Sto} (h : Keep S S') : Keep S (S' ++ T) := h.trans keep_app
theorem Keep.set {k : Nat} {o : OO} (h : Keep S S') (n : S[k]? = none) : Keep S (S'.set k o) := fun i o' e => get_ne (fun z => by rw [← z, n] at e; cases e) (h i o' e)
theorem keep_len : Keep S S' → ∀ {k : Nat}, S[k]? = none → S[k]? = none := fun _ _ h => h
theorem none_len {k : Nat} (h : S.length ≤ k) : S[k]? = none := List.getElem?_eq_none h
theorem st_src {R : List Wv → (Sto → Prop) → Sto → Prop} {w : Wv} {ws : List Wv} (hs : Seq S w false ws) (h : ∀ keep : Sto → Prop, (∀ S2, Keep S S2 → keep S2) → R ws keep S) : srcSeq false w S R := by
  cases hs with
  | dl ds => exact h anyS fun _ _ => trivial
  | cl ds => exact h anyS fun _ _ => trivial
  | ol e => exact ⟨_, e, h _ fun S2 k => k _ _ e⟩
theorem Seq.keep {w : Wv} {b : Bool} {ws : List Wv} (h : Seq S w b ws) (k : Keep S S') : Seq S' w b ws := by
  cases h with
  | dl ds => exact .dl ds
  | dt ds => exact .dt ds
  | cl ds => exact .cl ds
  | ct ds => exact .ct ds
  | ol e => exact .ol (k _ _ e)
  | ot e => exact .ot (k _ _ e)
theorem st_inD {Q : Wv → Sto → Prop} {neg : Bool} {x y : Wv} {d : PyData} {b : Bool} {ds : List PyData} (hx : Dat S x d) (hy : Seq S y b (ds.map .d)) (h1 : okD 60 d = true) (h2 : ds.all PyData.canLay0 = true)
    (h : Q (.d (.bool (if neg then !ds.any (fun e => PyData.eqv e d) else ds.any fun e => PyData.eqv e d))) S) : gIn neg x y S Q := .inr ⟨d, b, _, ds, hx, hy, dats_map ds, shaped_ok h1, h2, h⟩
end
theorem keep_le {S S' : Sto} (h : Keep S S') : S.length ≤ S'.length := by
  rcases Nat.eq_zero_or_pos S.length with h0 | h0
  · omega
  · have h1 := h (S.length - 1) (S[S.length - 1]'(by omega)) (List.getElem?_eq_getElem _)
    have := (List.getElem?_eq_some_iff.mp h1).1
    omega
theorem Keep.set_new {S S' : Sto} {k : Nat} {o : OO} (h : Keep S S') (n : S.length ≤ k) : Keep S (S'.set k o) := h.set (none_len n)
theorem count_pos (ns : List Int) (m : Int) : decide (0 < ((ns.count m : Nat) : Int)) = decide (m ∈ ns) := by
  have := List.count_pos_iff (a := m) (l := ns)
  by_cases h : m ∈ ns
  · rw [decide_eq_true h]; exact decide_eq_true (by have := this.mpr h; omega)
  · rw [decide_eq_false h]; exact decide_eq_false (by intro z; exact h (this.mp (by omega)))
theorem st_tyL {S : Sto} {P : Prop} {l : List PyData} (h : P) : tyW "list" (.d (.list l)) S ∧ P := ⟨rfl, h⟩
theorem Keep.both {S S' : Sto} {k : Nat} {o : OO} (h : Keep S S') : Keep (S.set k o) (S'.set k o) := by
  intro i o' e
  by_cases hi : k = i
  · subst hi
    have hlt := (List.getElem?_eq_some_iff.mp e).1
    rw [List.length_set] at hlt
    rw [List.getElem?_set_self hlt] at e
    cases e
    exact get_set (h _ _ (List.getElem?_eq_getElem hlt))
  · rw [List.getElem?_set_ne hi] at e
    exact get_ne hi (h i o' e)

end Dm
end
section
open PySem L2 Dm PyProof.Rows

namespace Dm
/-! ### {k: v, ..} -/
def dPairs : List (DTE × DTE) → Rho → Sto → (List (Wv × Wv) → Sto → Prop) → Prop
  | [], _, S, Q => Q [] S
  | (fk, fv) :: r, ρ, S, Q => fk ρ S fun x S1 => fv ρ S1 fun y S2 => dPairs r ρ S2 fun ps S3 => Q ((x, y) :: ps) S3
def RPs (K : PySem.W.Frag) (F : Hp) (μ : List Addr) : List (V × V) → List (Wv × Wv) → Prop := Paired fun p q => RW K F μ p.1 q.1 ∧ RW K F μ p.2 q.2
def SimPs (K : PySem.W.Frag) (t : List (TE × TE)) (f : List (DTE × DTE)) : Prop := ∀ (G : Hp) (μ : List Addr) (F : Hp) (S : Sto) (H : Hp) (σ : L2.St) (ρ : Rho) (Qd : List (Wv × Wv) → Sto → Prop) (Q : List (V × V) → Hp → Prop), SI K G μ S F H → ER K F μ σ ρ → dPairs f ρ S Qd →
  (∀ μ' F' S' H' ps pw, Ext μ F μ' F' → SI K G μ' S' F' H' → RPs K F' μ' ps pw → Qd pw S' → Q ps H') → tPairs t σ H Q
def DPs (X : Cx) (pos : Pos) (keys : List (Option Expr)) (values : List Expr) (f : List (DTE × DTE)) : Prop := ∃ t, PPs X pos keys values t ∧ SimPs X.K t f
section
variable {X : Cx} {pos : Pos} {k v : Expr} {ks : List (Option Expr)} {vs : List Expr} {fk fv : DTE} {fr : List (DTE × DTE)}
theorem dps_nil : DPs X pos [] [] [] := ⟨_, pps_nil, fun G μ F S H σ ρ Qd Q I R z k => k _ _ _ _ _ _ Ext.refl I .nil z⟩
theorem dps_cons (hk : DE X k fk) (hv : DE X v fv) (hr : DPs X pos ks vs fr) : DPs X pos (some k :: ks) (v :: vs) ((fk, fv) :: fr) := by
  obtain ⟨_, k1, k2⟩ := hk
  obtain ⟨_, v1, v2⟩ := hv
  obtain ⟨_, r1, r2⟩ := hr
  refine ⟨_, pps_cons k1 v1 r1, fun G μ F S H σ ρ Qd Q I R z k => k2 G μ F S H σ ρ _ _ I R z fun μ1 F1 S1 H1 x a e1 I1 rx z1 => v2 G μ1 F1 S1 H1 σ ρ _ _ I1 (R.mono e1) z1 fun μ2 F2 S2 H2 y b e2 I2 ry z2 =>
    r2 G μ2 F2 S2 H2 σ ρ _ _ I2 (R.mono (e1.trans e2)) z2 fun μ3 F3 S3 H3 ps pw e3 I3 rp z3 => k μ3 F3 S3 H3 _ _ ((e1.trans e2).trans e3) I3 (.cons ⟨rx.mono (e2.trans e3), ry.mono e3⟩ rp) z3⟩
def pairKeys : List (Wv × Wv) → Option (List (Key × Wv))
  | [] => some []
  | (x, y) :: r => match keyW x, pairKeys r with
    | some k, some t => some ((k, y) :: t)
    | _, _ => none
theorem pairs_kv {K : PySem.W.Frag} {F : Hp} {μ : List Addr} : ∀ {ps : List (V × V)} {pw : List (Wv × Wv)} {kvs : List (Key × Wv)}, RPs K F μ ps pw → pairKeys pw = some kvs → ∃ ys : List (Key × V), ps = ys.map (fun kv => (kV kv.1, kv.2)) ∧ RKV K F μ ys kvs
  | _, [], _, .nil, h => by cases h; exact ⟨[], rfl, .nil⟩
  | (a, b) :: ps, (x, y) :: pw, kvs, .cons ⟨r1, r2⟩ t, h => by
    unfold pairKeys at h
    split at h
    · rename_i k t' e1 e2
      cases h
      obtain ⟨ys, rfl, ry⟩ := pairs_kv t e2
      have e : a = kV k := key_of r1 e1
      exact ⟨(k, b) :: ys, by rw [List.map_cons, e], .cons ⟨rfl, r2⟩ ry⟩
    · cases h
def mergeW (kvs : List (Key × Wv)) : List (Key × Wv) := kvs.foldl (fun acc kv => putW acc kv.1 kv.2) []
theorem rkv_merge {K : PySem.W.Frag} {F : Hp} {μ : List Addr} : ∀ {ys : List (Key × V)} {kvs : List (Key × Wv)} {ya : List (Key × V)} {ka : List (Key × Wv)}, RKV K F μ ya ka → RKV K F μ ys kvs → RKV K F μ (mergeK ya ys) (kvs.foldl (fun acc kv => putW acc kv.1 kv.2) ka)
  | _, _, _, _, h, .nil => h
  | (a, b) :: ys, (c, d) :: kvs, ya, ka, h, .cons ⟨e, r⟩ t => by
    have e' : a = c := e
    subst e'
    show RKV K F μ (mergeK (putK ya a b) ys) (kvs.foldl (fun acc kv => putW acc kv.1 kv.2) (putW ka a d))
    exact rkv_merge (rkv_put h r) t
def dDisp (prs : List (DTE × DTE)) : DTE := fun ρ S Q => dPairs prs ρ (S ++ [.dk []]) fun ps S2 => S2[S.length]? = some (.dk []) ∧ ∃ kvs, pairKeys ps = some kvs ∧ kvs.length ≤ 15 ∧ Q (.o S.length) (S2.set S.length (.dk (mergeW kvs)))
theorem de_disp {keys : List (Option Expr)} {values : List Expr} (h : DPs X pos keys values fr) (hall : keys.all (·.isSome) = true) (hl : keys.length = values.length) (h0 : keys ≠ []) (h15 : keys.length ≤ 15) : DE X (.Dict keys values pos) (dDisp fr) := by
  obtain ⟨_, p1, p2⟩ := h
  refine ⟨_, pe_disp p1 hall hl h0 h15, ?_⟩
  intro G μ F S H σ ρ Qd Q I R z k p hp
  have ex : Ext μ F (μ ++ [p]) F := ⟨List.prefix_append _ _, Same.refl _⟩
  obtain ⟨I2, e⟩ := I.own (o := .dK []) (u := .dk []) hp fun H2 z => ⟨[], z, .nil⟩
  refine p2 G _ _ _ _ σ ρ _ _ I2 (R.mono e) z ?_
  rintro μ3 F3 S3 H3 ps pw e3 I3 rp ⟨hS, kvs, hk, hn, q⟩
  have hp0 : (μ ++ [p])[S.length]? = some p := by rw [← I.len]; simp
  have hp3 : μ3[S.length]? = some p := pre_get e3.pre hp0
  obtain ⟨⟨ys0, ea, r0⟩, _⟩ := I3.cell _ _ _ hp3 hS
  cases r0
  obtain ⟨ys, rfl, ry⟩ := pairs_kv rp hk
  refine ⟨ea, ys, rfl, by rw [ry.length]; exact hn, ?_⟩
  exact k _ _ _ _ _ _ (e.trans e3) (I3.put (u := .dk (mergeW kvs)) hp3 hS (fun z => nomatch z) fun H4 z => ⟨_, z, rkv_merge .nil ry⟩) (.o hp3) q
theorem st_dispD {ρ : Rho} {S : Sto} {Q : Wv → Sto → Prop} (h : dPairs fr ρ (S ++ [.dk []]) fun ps S2 => S2[S.length]? = some (.dk []) ∧ ∃ kvs, pairKeys ps = some kvs ∧ kvs.length ≤ 15 ∧ Q (.o S.length) (S2.set S.length (.dk (mergeW kvs)))) : dDisp fr ρ S Q := h
theorem st_pc {ρ : Rho} {S : Sto} {Q : List (Wv × Wv) → Sto → Prop} (h : fk ρ S fun x S1 => fv ρ S1 fun y S2 => dPairs fr ρ S2 fun ps S3 => Q ((x, y) :: ps) S3) : dPairs ((fk, fv) :: fr) ρ S Q := h
theorem st_pn {ρ : Rho} {S : Sto} {Q : List (Wv × Wv) → Sto → Prop} (h : Q [] S) : dPairs [] ρ S Q := h
end
/-- lists joined, whoever owns them; the new one is data -/
def gAddL : DR2 := fun x y S Q => ∃ l m, one [x] S = some l ∧ one [y] S = some m ∧ l.length + m.length ≤ sizeLine ∧ Q (.d (.list (l ++ m))) S
theorem dop_addL {X : Cx} : DOpR X (binaryOp .Add) gAddL := by
  refine ⟨_, op_cat, ?_⟩
  rintro G μ F S H x y a b Qd Q I ra rb ⟨l, m, h1, h2, hl, q⟩ k
  obtain ⟨p, xs, e1, ea, pa⟩ := one_at I (.cons ra .nil) h1
  cases e1
  obtain ⟨p2, ys, e2, eb, pb⟩ := one_at I (.cons rb .nil) h2
  cases e2
  exact ⟨_, _, _, _, rfl, rfl, ea, eb, by rw [pa.length, pb.length]; exact hl, fun z hz => k.lst I hz (paired_append pa pb) q⟩
theorem st_addLL {S : Sto} {Q : Wv → Sto → Prop} {x y : Wv} {l m : List PyData} (h1 : one [x] S = some l) (h2 : one [y] S = some m) (hl : l.length + m.length ≤ 100000) (q : Q (.d (.list (l ++ m))) S) : gAddL x y S Q := ⟨l, m, h1, h2, le_line hl, q⟩
theorem one_o {S : Sto} {k : Nat} {ds : List PyData} (h : S[k]? = some (.lst (ds.map .d))) : one [.o k] S = some ds := by
  unfold one; dsimp only; rw [h]; exact allD_map ds
theorem one_d {S : Sto} {ds : List PyData} : one [.d (.list ds)] S = some ds := rfl

end Dm
end
section
open PySem L2 Dm PyProof.Rows
local macro_rules | `(tactic| walk_at "lk") => `(tactic| first | assumption | rfl | exact get_new | ((with_reducible apply get_set); walk_at "lk") | ((with_reducible apply get_ne); (first | decide | assumption | (apply Ne.symm; assumption) | omega); walk_at "lk") | ((with_reducible apply get_app); walk_at "lk"))
local macro_rules | `(tactic| walk_at "s") => `(tactic| with_reducible first
  | refine st_seq ?_ | refine st_next ?_ | refine st_ret ?_ | refine st_retN ?_ | refine st_drop ?_ | refine st_ifS ?_ | refine st_asg ?_ | refine st_gname ?_ | refine st_c ?_ | refine st_cwI ?_ | refine st_cwS ?_ | refine st_cwB ?_ | refine st_cwL ?_ | refine st_cwT ?_  | refine st_v ?_ | refine st_op ?_ | refine st_un ?_
  | refine st_test ?_ | refine st_testB ?_ | refine st_not ?_ | refine st_and ?_ | refine st_or ?_ | refine st_andV ?_ | refine st_orV ?_ | refine st_notV ?_ | refine st_ifE ?_ | refine st_chain ?_ | refine st_nil ?_ | refine st_cons ?_ | refine st_cb ?_ | refine st_call ?_
  | refine st_sl ?_ | refine st_no ?_ | refine st_part ?_ | refine st_partI ?_ | refine st_tupD ?_ | refine st_lstD ?_ | refine st_lstO ?_ | refine st_tupO ?_ | refine st_dk ?_ | refine st_dt ?_ | refine st_par ?_ | refine st_parE ?_ | refine st_gcons ?_ | refine st_gnil ?_ | refine st_gconsM ?_ | refine st_gnilM ?_
  | refine st_addI ?_ | refine st_subI ?_ | refine st_addJ ?_ | refine st_negI ?_ | refine st_eqI ?_ | refine st_eqS ?_ | refine st_eqB ?_ | refine st_neI ?_ | refine st_neS ?_ | refine st_neB ?_ | refine st_cmpI ?_ | refine st_cmpS ?_ | refine st_isN ?_ | refine st_isntN ?_
  | refine st_len ?_ | refine st_abs ?_ | (refine st_max2c ?_; intro _ _ _ _) | (refine st_min2c ?_; intro _ _ _ _) | (refine st_intBc ?_; intro _ _ _ _) | refine st_intI ?_ | refine st_listD ?_ | refine st_slL ?_ | refine st_tt ?_ | refine st_ff ?_ | refine st_xt ?_ | refine st_xf ?_ | refine st_brk ?_ | refine st_cnt ?_ | refine st_gset ?_ | refine st_augS ?_ | refine st_for ?_ | refine st_lc ?_ | refine st_seqI ?_ | refine st_srcL ?_ | refine st_srcT ?_ | refine st_rng1 ?_ | refine st_rng2 ?_ | refine st_yes ?_ | refine st_fld ?_ | refine st_meth ?_ | refine st_make ?_ | refine st_refl ?_ | refine st_fldS ?_ | refine st_fldAug ?_ | refine st_dget ?_ | refine st_get1 ?_ | refine st_get2 ?_ | refine st_din0 ?_ | refine st_din1 ?_ | refine st_dput ?_ | refine st_daug ?_ | refine st_bm ?_ | refine st_tyL ?_ | refine st_count ?_ | refine st_bm0 ?_ | refine st_keys ?_ | refine st_items ?_)
local macro_rules | `(tactic| walk_at "v") => `(tactic| first
  | ((with_reducible refine' st_var ?k1 ?_); (case k1 => rfl))
  | ((with_reducible refine' st_ixO ?k1 ?k2 ?_); (case k1 => walk_at "lk"); (case k2 => rfl)) | ((with_reducible refine' st_ixL ?k2 ?_); (case k2 => rfl)) | ((with_reducible refine' st_ixT ?k2 ?_); (case k2 => rfl)) | ((with_reducible refine' st_lenO ?k1 ?_); (case k1 => walk_at "lk"))
  | (with_reducible refine st_modI (by first | decide | omega) ?_) | (with_reducible refine st_divI (by first | decide | omega) (by first | decide | omega) ?_) | (with_reducible refine st_mulI (by omega) ?_)
  | ((with_reducible refine' st_disp ?k1 ?k2 ?_); (case k1 => first | ((repeat (with_reducible apply allD_c)); (with_reducible apply allD_n); done) | rfl); (case k2 => first | exact Nat.le_of_ble_eq_true rfl | (simp; done)))
  | (with_reducible refine st_size (by first | exact Nat.le_of_ble_eq_true rfl | assumption | (simp; done) | omega) ?_))
local macro_rules | `(tactic| walk_at "w") => `(tactic| first
  | ((with_reducible refine' st_gsetE ?k1 ?k2 ?_); (case k1 => walk_at "lk"); (case k2 => rfl))
  | ((with_reducible refine' st_augSE ?k1 ?k2 ?k3 ?k4 ?_); (case k1 => walk_at "lk"); (case k2 => first | decide | omega); (case k3 => first | decide | omega); (case k4 => rfl))
  | ((with_reducible refine' st_augSF ?k1 ?k2 ?_); (case k1 => walk_at "lk"); (case k2 => rfl))
  | ((with_reducible refine' st_aug ?k1 ?_); (case k1 => rfl))
  | ((with_reducible refine' st_srcO ?k1 ?_); (case k1 => walk_at "lk"))
  | (with_reducible refine st_rng1E (by omega) (by omega) ?_) | (with_reducible refine st_rng2E (by omega) ?_)
  | (with_reducible refine st_el (by first | assumption | (simp; omega) | omega) ?_))
local macro_rules | `(tactic| walk_at "x") => `(tactic| first
  | (with_reducible refine st_powI (by decide) ?_)
  | ((with_reducible refine' st_fldE ?k1 ?k2 ?_); (case k1 => walk_at "lk"); (case k2 => rfl)) | ((with_reducible refine' st_methE ?k1 ?k2 ?_); (case k1 => walk_at "lk"); (case k2 => rfl))
  | ((with_reducible refine' st_fldSE ?k1 ?k2 ?_); (case k1 => walk_at "lk"); (case k2 => first | decide | exact Nat.le_of_ble_eq_true rfl)) | ((with_reducible refine' st_fldAugE ?k1 ?k2 ?_); (case k1 => walk_at "lk"); (case k2 => rfl)) | ((with_reducible refine' st_fldAugF ?k1 ?k2 ?_); (case k1 => walk_at "lk"); (case k2 => decide))
  | ((with_reducible refine' st_lookD ?k1 ?k2 ?_); (case k1 => walk_at "lk"); (case k2 => rfl)) | ((with_reducible refine' st_lookT ?k1 ?k2 ?_); (case k1 => walk_at "lk"); (case k2 => rfl))
  | ((with_reducible refine' st_dgetD ?k1 ?k2 ?k3 ?_); (case k1 => walk_at "lk"); (case k2 => rfl); (case k3 => assumption)) | ((with_reducible refine' st_dgetL ?k1 ?k2 ?k3 ?_); (case k1 => walk_at "lk"); (case k2 => rfl); (case k3 => assumption)) | ((with_reducible refine' st_dgetT ?k1 ?k2 ?k3 ?_); (case k1 => walk_at "lk"); (case k2 => rfl); (case k3 => assumption))
  | ((with_reducible refine' st_putD ?k1 ?k2 ?k3 ?_); (case k1 => walk_at "lk"); (case k2 => rfl); (case k3 => first | assumption | omega)) | ((with_reducible refine' st_putT ?k1 ?k2 ?k3 ?_); (case k1 => walk_at "lk"); (case k2 => rfl); (case k3 => first | assumption | omega))
  | ((with_reducible refine' st_isd ?k1 ?_); (case k1 => walk_at "lk")) | ((with_reducible refine' st_isdt ?k1 ?_); (case k1 => walk_at "lk"))
  | ((with_reducible refine' st_keysE ?k1 ?_); (case k1 => walk_at "lk"))
  | ((with_reducible refine' st_tgt ?k1 ?k2 ?_); (case k1 => rfl); (case k2 => rfl))
  | ((with_reducible refine' st_clear ?k1 ?_); (case k1 => walk_at "lk")) | ((with_reducible refine' st_tyO ?k1 ?_); (case k1 => walk_at "lk")) | ((with_reducible refine' st_append ?k1 ?k2 ?_); (case k1 => walk_at "lk"); (case k2 => first | assumption | (simp; omega) | omega)) | ((with_reducible refine' st_reverse ?k1 ?_); (case k1 => walk_at "lk")))
local macro_rules | `(tactic| walk_at "t") => `(tactic| ((with_reducible refine' st_take ?k1 ?k2 ?k3 ?k4 ?_); (case k1 => walk_at "lk"); (case k2 => assumption); (case k3 => first | decide | omega); (case k4 => first | decide | omega); intro _ _ _ _ _))
local macro_rules | `(tactic| walk_at "if") => `(tactic| first
  | (with_reducible refine st_T (by first | assumption | omega | rfl) ?_) | (with_reducible refine st_F (by first | assumption | omega) ?_) | (with_reducible refine st_nT (by first | assumption | omega) ?_) | (with_reducible refine st_nF (by first | assumption | omega | rfl) ?_))
local macro_rules | `(tactic| walk_at "y") => `(tactic| with_reducible first | refine st_kget ?_ | refine st_kget2 ?_ | refine st_coe2 ?_ | refine st_revD ?_ | refine st_revDE ?_ | refine st_coe ?_ | refine st_tidx ?_ | refine st_zipM ?_ | refine st_sortVA ?_ | refine st_sortVR ?_ | refine st_sumS ?_ | refine st_maxDf ?_ | refine st_enumS ?_ | refine st_str ?_ | refine st_strE ?_ | refine st_enum ?_ | refine st_enumE ?_ | refine st_enumO ?_ | refine st_settle ?_ | refine st_lcO ?_ | refine st_elO (by assumption) ?_ | refine st_gput ?_ | refine st_gfld ?_ | refine st_vals ?_ | refine st_dispD ?_ | refine st_pc ?_ | refine st_pn ?_ | refine st_isB ?_ | refine st_isntB ?_)
local macro_rules | `(tactic| walk_at "g") => `(tactic| repeat (first | walk_at "s" | walk_at "v" | walk_at "w" | walk_at "x" | walk_at "if" | walk_at "y"))
local macro_rules | `(tactic| walk_at "sp") => `(tactic| with_reducible first | refine st_2 (fun hif => ?_) (fun hif => ?_) | refine st_n2 (fun hif => ?_) (fun hif => ?_))

namespace Dm
/-! ### the words and stores that many laws draw -/
def bWord (g_l_take : DSp) : DTS :=
  dSeq (dAsg (dC (.str "abcdefghijklmnopqrstuvwxyz")) (dgName 1))
      (dRet (dJoin (dC (.str "")) (dLc (diRng1 (dCons (dOp gAdd (dC (.int 1)) (dCall g_l_take (dCons (dVar 0) (dCons (dC (.int 8)) (dNil))))) (dNil))) (dgName 2) (dYes) (dOp gIx (dVar 1) (dCall g_l_take (dCons (dVar 0) (dCons (dC (.int 26)) (dNil))))) [2])))
/-- small letters alone, n of them at most -/
def Low (n : Nat) (s : Str) : Prop := s.length ≤ n ∧ ∀ c ∈ s.cps.toList, 97 ≤ c ∧ c ≤ 122
theorem Low.ok {n : Nat} {s : Str} (h : Low n s) : PyData.strOk s = true := by
  unfold PyData.strOk
  rw [Array.all_eq_true']
  intro c hc
  have := h.2 c (by simpa using hc)
  simp
  omega
theorem low_one {c : Nat} (h : 97 ≤ c ∧ c ≤ 122) : Low 1 ⟨#[c]⟩ := ⟨Nat.le_refl _, fun d hd => by simp at hd; rw [hd]; exact h⟩
theorem low_app {m n : Nat} {a b : Str} (h : Low m a) (h' : Low n b) : Low (m + n) (a ++ b) := by
  have e : (a ++ b).cps = a.cps ++ b.cps := rfl
  refine ⟨?_, fun c hc => ?_⟩
  · show (a ++ b).cps.size ≤ _
    rw [e, Array.size_append]
    exact Nat.add_le_add h.1 h'.1
  · rw [e, Array.toList_append] at hc
    rcases List.mem_append.mp hc with q | q
    · exact h.2 c q
    · exact h'.2 c q
theorem Low.le {m n : Nat} {a : Str} (h : Low m a) (hn : m ≤ n) : Low n a := ⟨Nat.le_trans h.1 hn, h.2⟩
theorem low_join : ∀ {ys : List Str} , (∀ y ∈ ys, Low 1 y) → Low ys.length (Str.join "" ys)
  | [], _ => ⟨Nat.le_refl _, fun c hc => by cases hc⟩
  | [y], h => h y (List.mem_cons_self ..)
  | y :: z :: r, h => by
    have h1 := h y (List.mem_cons_self ..)
    have h2 := low_join (ys := z :: r) fun x hx => h x (List.mem_cons_of_mem _ hx)
    have h0 : Low 0 ("" : Str) := ⟨by decide +kernel, fun c hc => by
      have : ("" : Str).cps.toList = [] := by decide +kernel
      rw [this] at hc; cases hc⟩
    exact (low_app (low_app h1 h0) h2).le (by simp only [List.length_cons]; omega)
theorem abc : ∀ c ∈ ("abcdefghijklmnopqrstuvwxyz" : Str).cps.toList, 97 ≤ c ∧ c ≤ 122 := by decide +kernel
theorem abc_len : ("abcdefghijklmnopqrstuvwxyz" : Str).cps.toList.length = 26 := by decide +kernel
theorem st_ixS {S : Sto} {Q : Wv → Sto → Prop} {z : Str} {i : Int} {c : Nat} (hz : z.length ≤ 100000) (e : atI z.cps.toList i = some c) (q : Q (.d (.str ⟨#[c]⟩)) S) : gIx (.d (.str z)) (.d (.int i)) S Q := ⟨c, le_line hz, e, q⟩
theorem at_abc {i : Int} (h0 : 0 ≤ i) (h1 : i < 26) : ∃ c, atI ("abcdefghijklmnopqrstuvwxyz" : Str).cps.toList i = some c ∧ 97 ≤ c ∧ c ≤ 122 := by
  obtain ⟨c, e, h⟩ := atI_in (l := ("abcdefghijklmnopqrstuvwxyz" : Str).cps.toList) h0 (by rw [abc_len]; exact h1)
  exact ⟨c, e, abc c h⟩
theorem abc_short : ("abcdefghijklmnopqrstuvwxyz" : Str).length ≤ 100000 := by decide +kernel
theorem st_listO {S : Sto} {Q : Wv → Sto → Prop} {w : Wv} {b : Bool} {l : List Wv} (hs : Seq S w b l) (q : Q (.o S.length) (S ++ [.lst l])) : cListO [w] S Q := ⟨w, b, l, rfl, hs, q⟩
theorem st_listDO {S : Sto} {Q : Wv → Sto → Prop} {k : Nat} {ds : List PyData} (hS : S[k]? = some (.lst (ds.map .d))) (q : Q (.d (.list ds)) S) : cListD [.o k] S Q := ⟨_, ds, .inl hS, allD_map ds, q⟩
def gWord : DSp := fun ws S Q => ∃ b o, ws = [.o b] ∧ S[b]? = some o ∧ BagOk o ∧ ∀ s o', Low 8 s → BagOk o' → Q (.d (.str s)) (S.set b o')
theorem len_word : ∀ ws S Q, gWord ws S Q → ws.length = 1 := by rintro ws S Q ⟨b, o, rfl, _⟩; rfl
theorem st_join {fo fe : DTE} {ρ : Rho} {S : Sto} {Q : Wv → Sto → Prop} (h : fo ρ S fun w S1 => ∃ a, w = .d (.str a) ∧ fe ρ S1 fun u S2 => ∃ l ys, one [u] S2 = some l ∧ strs? l = some ys ∧ (ys.map (·.length)).sum + ys.length * a.length ≤ 16777216 ∧ Q (.d (.str (Txt.join a ys))) S2) : dJoin fo fe ρ S Q := h
theorem spec_word : ∀ ws S Qd, gWord ws S Qd → bWord gTake { nx := fun _ S' => Qd (.d .none) S', rt := Qd } (dstart 3 ws) S := by
  rintro ws S Q ⟨b, o, rfl, hS, hb, q⟩
  unfold bWord
  walk_at "g"
  refine st_join ?_
  walk_at "g"
  try refine ⟨_, rfl, ?_⟩
  walk_at "g"
  walk_at "t"
  rename_i v o2 a1 a2 hb2
  walk_at "g"
  refine lc_list (fun i acc S' => ∃ o', BagOk o' ∧ S' = S.set b o' ∧ ∃ ys : List Str, acc = ys.map .str ∧ ys.length ≤ i ∧ ∀ y ∈ ys, Low 1 y) ⟨o2, hb2, rfl, [], rfl, Nat.le_refl _, by simp⟩ (fun _ _ _ _ => any_true) ?_ ?_
  · rintro i x acc S' K hx ⟨o', hb', rfl, ys, rfl, hle, hys⟩ hK
    obtain ⟨rfl, hi⟩ := range_get hx
    walk_at "g"
    walk_at "t"
    rename_i w o3 c1 c2 hb3
    obtain ⟨c, hc, hc2⟩ := at_abc c1 c2
    refine st_ixS abc_short hc ?_
    have hl : (ys.map PyData.str).length < 100000 := by rw [List.length_map]; omega
    walk_at "g"
    refine hK _ _ ⟨o3, hb3, set_set, ys ++ [⟨#[c]⟩], by simp, by rw [List.length_append, List.length_singleton]; omega, fun y hy => ?_⟩
    rcases List.mem_append.mp hy with h | h
    · exact hys y h
    · rw [List.mem_singleton.mp h]; exact low_one hc2
  · rintro acc S' ⟨o', hb', rfl, ys, rfl, hle, hys⟩
    rw [range_len] at hle
    have hs : ∀ l : List Str, (∀ y ∈ l, Low 1 y) → (l.map (·.length)).sum ≤ l.length := by
      intro l hl
      induction l with
      | nil => exact Nat.le_refl _
      | cons y r ih =>
        have h1 := (hl y (List.mem_cons_self ..)).1
        have h2 := ih fun x hx => hl x (List.mem_cons_of_mem _ hx)
        simp only [List.map_cons, List.sum_cons, List.length_cons]
        omega
    have h1 := hs ys hys
    have h2 : ("" : Str).length = 0 := by decide +kernel
    refine ⟨_, ys, rfl, strs_map ys, by rw [h2]; omega, ?_⟩
    rw [TL.join_eq]
    exact q _ _ ((low_join hys).le (by omega)) hb'
def bStIn : DTS := dIfS (dTest (dOp (gIn true) (dVar 7) (dVar 5))) (dDrop (dBM "list" mAppend (dVar 5) (dCons (dVar 7) (dNil)))) (dNext)
def bStEnd : DTS := dRet (dVar 5)
def bStores (g_l_word : DSp) (g_l_take : DSp) : DTS :=
  dSeq (dAsg (dCall g_l_word (dCons (dVar 0) (dNil))) (dgName 1))
      (dSeq (dAsg (dOp gAdd (dC (.int 2)) (dCall g_l_take (dCons (dVar 0) (dCons (dC (.int 3)) (dNil))))) (dgName 2))
      (dSeq (dAsg (dCall g_l_take (dCons (dVar 0) (dCons (dC (.int 2)) (dNil)))) (dgName 3))
      (dSeq (dAsg (dCall g_l_take (dCons (dVar 0) (dCons (dC (.int 26)) (dNil)))) (dgName 4))
      (dSeq (dAsg (dLstO (dCons (dVar 1) (dNil))) (dgName 5))
      (dSeq (dFor (diRng1 (dCons (dVar 2) (dNil))) (dgName 6) (dSeq (dAsg (dOp gAdd (dSl (dVar 1) (dNo) (dPart (dUn gNeg (dC (.int 1))))) (dOp gIx (dC (.str "abcdefghijklmnopqrstuvwxyz")) (dOp gMod (dOp gAdd (dVar 4) (dVar 6)) (dC (.int 26))))) (dgName 7))
      (dSeq (dIfS (dTest (dOp gEq (dVar 3) (dC (.int 0)))) (dAsg (dCall g_l_word (dCons (dVar 0) (dNil))) (dgName 7)) (dNext))
      bStIn)))
      (dSeq (dIfS (dTest (dOp gEq (dCB cLen (dCons (dVar 5) (dNil))) (dC (.int 1)))) (dDrop (dBM "list" mAppend (dVar 5) (dCons (dOp gIx (dLstD (dCons (dC (.str "store")) (dCons (dC (.str "shelf")) (dNil)))) (dCB cInt (dCons (dOp gEq (dVar 1) (dC (.str "store"))) (dNil)))) (dNil)))) (dNext))
      bStEnd))))))
/-- the stores drawn: two at least, of small letters, no two alike -/
structure Stores (ss : List Str) : Prop where
  two : 2 ≤ ss.length
  six : ss.length ≤ 6
  low : ∀ s ∈ ss, Low 9 s
  nd : ss.Nodup
def gStores : DSp := fun ws S Q => ∃ b o, ws = [.o b] ∧ S[b]? = some o ∧ BagOk o ∧ ∀ ss o', Stores ss → BagOk o' → Q (.o S.length) (S.set b o' ++ [.lst (ss.map fun s => .d (.str s))])
theorem len_stores : ∀ ws S Q, gStores ws S Q → ws.length = 1 := by rintro ws S Q ⟨b, o, rfl, _⟩; rfl
theorem any_str (ss : List Str) (x : Str) : ((ss.map PyData.str).any fun e => PyData.eqv e (.str x)) = decide (x ∈ ss) := by
  rw [List.any_map]
  induction ss with
  | nil => rfl
  | cons a r ih =>
    rw [List.any_cons, ih]
    simp only [Function.comp_apply, PyData.eqv, List.mem_cons]
    by_cases h : a = x
    · simp [h]
    · have : ¬ x = a := fun z => h z.symm
      simp [h, this]
theorem low_cut {n : Nat} {z : Str} {lo hi : Option Int} (h : Low n z) : Low n (cutS z lo hi) := by
  unfold cutS
  refine ⟨?_, fun c hc => ?_⟩
  · refine Nat.le_trans ?_ h.1
    show ((z.cps.toList.drop _).take _).toArray.size ≤ z.cps.size
    rw [List.size_toArray, List.length_take, List.length_drop, Array.length_toList]
    omega
  · have : c ∈ (z.cps.toList.drop (HT.sIx z.length 0 lo)).take (HT.sIx z.length z.length hi - HT.sIx z.length 0 lo) := by simpa using hc
    exact h.2 c (List.mem_of_mem_drop (List.mem_of_mem_take this))
def senv (b w : Wv) (m n t f : Wv) (x y : Option Wv) : Rho := [some b, some w, some m, some n, some t, some f, x, y]
theorem st_in_rest {D : DEnds} {b : Nat} {S : Sto} {o' : OO} {ss : List Str} {s z : Str} {m n t : Wv} {x : Option Wv} (h1 : ss.length ≤ 50) (h3 : ∀ s ∈ ss, Low 9 s) (h4 : ss.Nodup) (hz : Low 9 z)
    (q : ∀ ss' : List Str, ss'.length ≤ ss.length + 1 → ss.length ≤ ss'.length → (∀ s ∈ ss', Low 9 s) → ss'.Nodup → (∀ x ∈ ss, x ∈ ss') → D.nx (senv (.o b) (.d (.str s)) m n t (.o S.length) x (some (.d (.str z)))) (S.set b o' ++ [.lst (ss'.map fun s => .d (.str s))])) :
    bStIn D (senv (.o b) (.d (.str s)) m n t (.o S.length) x (some (.d (.str z)))) (S.set b o' ++ [.lst (ss.map fun s => .d (.str s))]) := by
  have hk : (S.set b o' ++ [OO.lst (ss.map fun s => .d (.str s))])[S.length]? = some (.lst (ss.map fun s => .d (.str s))) := by
    have := get_new (S := S.set b o') (o := OO.lst (ss.map fun s => .d (.str s)))
    rwa [List.length_set] at this
  unfold bStIn
  walk_at "g"
  refine st_inD (b := false) (ds := ss.map .str) (.d _) (by rw [List.map_map]; exact .ol hk) (by simp only [okD]; exact hz.ok) ?_ ?_
  · rw [List.all_eq_true]
    intro x hx
    obtain ⟨y, hy, rfl⟩ := List.mem_map.mp hx
    exact (h3 y hy).ok
  rw [any_str, if_pos rfl]
  walk_at "g"
  walk_at "sp"
  · rename_i hn
    walk_at "g"
    rw [show (S.set b o' ++ [OO.lst (ss.map fun s => .d (.str s))]).set S.length (.lst ((ss.map fun s => Wv.d (.str s)) ++ [.d (.str z)])) = S.set b o' ++ [OO.lst ((ss ++ [z]).map fun s => .d (.str s))] by
      rw [List.set_append_right _ _ (by rw [List.length_set]; omega), List.length_set, Nat.sub_self, List.map_append]; rfl]
    refine q (ss ++ [z]) (by simp) (by simp) (fun x hx => ?_) ?_ (fun x hx => List.mem_append_left _ hx)
    · rcases List.mem_append.mp hx with h | h
      · exact h3 x h
      · rw [List.mem_singleton.mp h]; exact hz
    · rw [List.nodup_append]
      refine ⟨h4, by simp, fun a ha c hc => ?_⟩
      rw [List.mem_singleton] at hc
      rintro rfl
      exact hn (hc ▸ ha)
  · walk_at "g"
    exact q ss (by omega) (by omega) h3 h4 (fun x hx => hx)
theorem spec_stores : ∀ ws S Qd, gStores ws S Qd → bStores gWord gTake { nx := fun _ S' => Qd (.d .none) S', rt := Qd } (dstart 8 ws) S := by
  rintro ws S Q ⟨b, o, rfl, hS, hb, q⟩
  have hbl := (List.getElem?_eq_some_iff.mp hS).1
  have hset : ∀ {T : Sto} {o' o2 : OO}, (S.set b o' ++ T).set b o2 = S.set b o2 ++ T := by
    intro T o' o2
    rw [List.set_append_left _ _ (by rw [List.length_set]; exact hbl), set_set]
  unfold bStores
  walk_at "g"
  refine ⟨b, o, rfl, hS, hb, fun s o1 hs hb1 => ?_⟩
  walk_at "g"
  walk_at "t"
  rename_i m o2 m0 m1 hb2
  walk_at "g"
  walk_at "t"
  rename_i nr o3 n0 n1 hb3
  walk_at "g"
  walk_at "t"
  rename_i tn o4 t0 t1 hb4
  walk_at "g"
  simp only [set_set, List.length_set]
  have hl9 : Low 9 s := hs.le (by decide)
  refine for_list (fun i ρ S' => ∃ x y o' ss, ρ = senv (.o b) (.d (.str s)) (.d (.int (2 + m))) (.d (.int nr)) (.d (.int tn)) (.o S.length) x y ∧ S' = S.set b o' ++ [.lst (ss.map fun s => .d (.str s))] ∧ BagOk o' ∧ ss.length ≤ i + 1 ∧ 1 ≤ ss.length ∧ (∀ s ∈ ss, Low 9 s) ∧ ss.Nodup ∧ s ∈ ss)
    ⟨_, _, o4, [s], rfl, rfl, hb4, Nat.le_refl _, Nat.le_refl _, by simpa using hl9, by simp, by simp⟩ (fun _ _ _ _ => any_true) ?_ ?_
  · rintro i x ρ S' K hx ⟨y1, y2, o', ss, rfl, rfl, hb', h1, h2, h3, h4, h5⟩ hK
    obtain ⟨rfl, hi⟩ := range_get hx
    walk_at "g"
    refine st_slS (Nat.le_trans hl9.1 (by decide)) ?_
    walk_at "g"
    obtain ⟨c, hc, hc2⟩ := at_abc (i := (tn + (0 + (i : Int))) % 26) (by omega) (by omega)
    refine st_ixS abc_short hc ?_
    have hcut := low_cut (lo := none) (hi := some (-1)) hs
    have hz := low_app hcut (low_one hc2)
    refine st_addS (Nat.le_trans (Nat.add_le_add hcut.1 (Nat.le_refl 1)) (by decide)) ?_
    have hi5 : (i : Int) < 5 := by omega
    walk_at "g"
    walk_at "sp"
    · walk_at "g"
      refine ⟨b, o', rfl, get_app (get_set hS), hb', fun s2 o2 hs2 hb2 => ?_⟩
      walk_at "g"
      rw [hset]
      exact st_in_rest (by omega) h3 h4 (hs2.le (by decide)) fun ss' a1 a2 a3 a4 a5 => hK _ _ ⟨_, _, o2, ss', rfl, rfl, hb2, by omega, by omega, a3, a4, a5 _ h5⟩
    · walk_at "g"
      exact st_in_rest (by omega) h3 h4 hz fun ss' a1 a2 a3 a4 a5 => hK _ _ ⟨_, _, o', ss', rfl, rfl, hb', by omega, by omega, a3, a4, a5 _ h5⟩
  · rintro ρ S' ⟨y1, y2, o', ss, rfl, rfl, hb', h1, h2, h3, h4, h5⟩
    rw [range_len] at h1
    have hk : (S.set b o' ++ [OO.lst (ss.map fun s => .d (.str s))])[S.length]? = some (.lst (ss.map fun s => .d (.str s))) := by
      have := get_new (S := S.set b o') (o := OO.lst (ss.map fun s => .d (.str s)))
      rwa [List.length_set] at this
    walk_at "g"
    rw [List.length_map]
    walk_at "sp"
    · rename_i hn
      have hss : ss = [s] := by
        match ss, hn, h5 with
        | [a], _, h => rw [List.mem_singleton.mp h]
        | [], h, _ => simp at h
        | _ :: _ :: _, h, _ => simp at h; omega
      subst hss
      have fin : ∀ z : Str, z ≠ s → Low 9 z → bStEnd { nx := fun _ S' => Q (.d .none) S', rt := Q } (senv (.o b) (.d (.str s)) (.d (.int (2 + m))) (.d (.int nr)) (.d (.int tn)) (.o S.length) y1 y2) ((S.set b o' ++ [OO.lst ([s].map fun s => .d (.str s))]).set S.length (.lst (([s].map fun s => Wv.d (.str s)) ++ [.d (.str z)]))) := by
        intro z hz hzl
        rw [List.set_append_right _ _ (by rw [List.length_set]; omega), List.length_set, Nat.sub_self]
        unfold bStEnd
        walk_at "g"
        refine q [s, z] o' ⟨by simp, by simp, fun x hx => ?_, ?_⟩ hb'
        · rcases List.mem_cons.mp hx with rfl | hx
          · exact hl9
          · rw [List.mem_singleton.mp hx]; exact hzl
        · rw [List.nodup_cons]
          exact ⟨fun h => hz (List.mem_singleton.mp h).symm, by simp⟩
      have l1 : Low 9 ("store" : Str) := by unfold Low; decide +kernel
      have l2 : Low 9 ("shelf" : Str) := by unfold Low; decide +kernel
      walk_at "g"
      rename_i c c0 c1 hc
      by_cases he : s = ("store" : Str)
      · rw [decide_eq_true he, if_pos rfl] at hc
        subst hc
        walk_at "g"
        refine st_append hk (by simp) ?_
        walk_at "g"
        exact fin _ (by rw [he]; decide +kernel) l2
      · rw [decide_eq_false he, if_neg Bool.false_ne_true] at hc
        subst hc
        walk_at "g"
        refine st_append hk (by simp) ?_
        walk_at "g"
        exact fin _ (fun z => he z.symm) l1
    · rename_i hn
      unfold bStEnd
      walk_at "g"
      exact q ss o' ⟨by omega, by omega, h3, h4⟩ hb'

end Dm
end
section
open PySem L2 Dm PyProof.Rows

namespace Dm
/-! ### sorted of any data -/
open PySem.W in
def rSortD (K : PySem.W.Frag) : List V → Hp → VK → Prop := fun vs H Q => ∃ a, ∃ bs : List (V × PyData), vs = [.ref a] ∧ SqL K H a (bs.map Prod.fst) ∧ (∀ b ∈ bs, Dp K H b.1 b.2) ∧ AllAlike (bs.map Prod.snd) ∧ Sortable (bs.map Prod.snd) ∧ bs.length ≤ sizeLine ∧ (∀ b ∈ bs, b.2.depth ≤ 60) ∧
  ∀ p, H p = none → Q (.ref p) (upd H p (.lst ((bs.mergeSort (dataLe false Prod.snd)).map Prod.fst)))
theorem each_of_vals {bs : List (V × PyData)} : ∀ {us : List Value}, Vals (bs.map Prod.fst) us → PySem.W.EachIs (fun v (b : V × PyData) => RelV b.1 v) us bs := by
  induction bs with
  | nil => intro us h; cases h; exact .nil
  | cons b r ih => intro us h; cases h with | cons h t => exact .cons h (ih t)
theorem vals_of_each {bs : List (V × PyData)} : ∀ {us : List Value}, PySem.W.EachIs (fun v (b : V × PyData) => RelV b.1 v) us bs → Vals (bs.map Prod.fst) us := by
  induction bs with
  | nil => intro us h; cases h; exact .nil
  | cons b r ih => intro us h; cases h with | cons h t => exact .cons h (ih t)
section
variable {X : Cx}
open PySem.W in
theorem cr_sortD (hu : X.A.units + 65 < cLine) : CallR X (.builtin "sorted") (rSortD X.K) := by
  intro pins s σ H vs us Q I r h
  obtain ⟨a, bs, rfl, hs, hd, ha, hk, hl, hdep, q⟩ := h
  obtain ⟨its, rv, hi, _⟩ := I.list hs
  rw [Vals.ref1 r]
  have e := each_of_vals rv
  have er : ∀ {cs : List (V × PyData)} {us : List Value}, (∀ b ∈ cs, Dp X.K H b.1 b.2) → EachIs (fun v (b : V × PyData) => RelV b.1 v) us cs → EachIs (fun v (b : V × PyData) => ∃ as, Reads s.heap v b.2 as) us cs := by
    intro cs us hd h
    induction h with
    | nil => exact .nil
    | cons h1 _ ih => exact .cons (Dp.reads I _ _ _ (hd _ (List.mem_cons_self ..)) h1) (ih fun b hb => hd b (List.mem_cons_of_mem _ hb))
  refine sorted_data (enc := Prod.snd) (R := fun v (b : V × PyData) => RelV b.1 v) hi.isList e (er hd e) ha hk hl (fun b hb => by have := hdep b hb; omega) fun out h1 h2 => ?_
  obtain ⟨ep, he'⟩ := PyProof.Rows.sortedAll_at s.heap its out.toArray
  have hlen : ((bs.mergeSort (dataLe false Prod.snd)).map Prod.fst).length ≤ sizeLine := by rw [List.length_map, List.length_mergeSort]; exact hl
  exact ⟨.ref _, upd H (s.heap.objs.size + 1) (.lst ((bs.mergeSort (dataLe false Prod.snd)).map Prod.fst)), I.laid (t' := s.toks) (fun _ _ => PyProof.Rows.sortedAll_old) (Nat.le_succ _) ⟨hlen, out, ep, vals_of_each h2, he'⟩, rfl, q _ (I.hok.fresh (Nat.le_succ _))⟩
open PySem.W in
def cSortD : DRC := fun ws S Q => ∃ l, one ws S = some l ∧ AllAlike l ∧ Sortable l ∧ l.length ≤ sizeLine ∧ (∀ d ∈ l, d.depth ≤ 60) ∧ Q (.d (.list (l.mergeSort (dataLe false id)))) S
theorem zip_paired {F : Hp} {xs : List V} {ds : List PyData} (p : Paired (Dq F) xs ds) : (xs.zip ds).map Prod.fst = xs ∧ (xs.zip ds).map Prod.snd = ds ∧ ∀ b ∈ xs.zip ds, Dq F b.1 b.2 := by
  induction p with
  | nil => exact ⟨rfl, rfl, by simp⟩
  | cons h _ ih =>
    obtain ⟨h1, h2, h3⟩ := ih
    refine ⟨by rw [List.zip_cons_cons, List.map_cons, h1], by rw [List.zip_cons_cons, List.map_cons, h2], fun b hb => ?_⟩
    rw [List.zip_cons_cons] at hb
    rcases List.mem_cons.mp hb with rfl | hb
    · exact h
    · exact h3 b hb
theorem paired_map2 {F : Hp} : ∀ {bs : List (V × PyData)}, (∀ b ∈ bs, Dq F b.1 b.2) → Paired (Dq F) (bs.map Prod.fst) (bs.map Prod.snd)
  | [], _ => .nil
  | b :: r, h => .cons (h b (List.mem_cons_self ..)) (paired_map2 fun x hx => h x (List.mem_cons_of_mem _ hx))
open PySem.W in
theorem dc_sortD (hu : X.A.units + 65 < cLine) : DCallR X (.builtin "sorted") cSortD := by
  refine ⟨_, cr_sortD hu, ?_⟩
  rintro G μ F S H vs ws Qd Q I r ⟨l, h1, h2, h3, h4, h5, q⟩ k
  obtain ⟨a, xs, rfl, e, p⟩ := one_at I r h1
  obtain ⟨z1, z2, z3⟩ := zip_paired p
  have hlen : (xs.zip l).length = l.length := by rw [← z2, List.length_map, z2]
  refine ⟨a, xs.zip l, rfl, by rw [z1]; exact .inl (.inl e), fun b hb => dq_dp _ _ (nodict_alike _ (h2 _ (z2 ▸ List.mem_map.mpr ⟨b, hb, rfl⟩) _ (z2 ▸ List.mem_map.mpr ⟨b, hb, rfl⟩))) (dq_mono I.fr _ (z3 b hb)), by rw [z2]; exact h2, by rw [z2]; exact h3, by rw [hlen]; exact h4, fun b hb => h5 _ (by rw [← z2]; exact List.mem_map.mpr ⟨b, hb, rfl⟩), fun p hp => ?_⟩
  have hm : ((xs.zip l).mergeSort (dataLe false Prod.snd)).map Prod.snd = l.mergeSort (dataLe false id) := by
    rw [sort_maps (r := dataLe false Prod.snd) (s := dataLe false id) Prod.snd (fun _ _ _ _ => rfl), z2]
  refine k.lst I hp ?_ q
  rw [← hm]
  exact paired_map2 (F := F) fun b hb => z3 b ((List.mergeSort_perm ..).mem_iff.mp hb)
end

end Dm
end
section
open PySem L2 Dm PyProof.Rows

namespace Dm
/-! ### a comprehension whose list is owned -/
section
variable {K : PySem.W.Frag} {G F H : Hp} {μ : List Addr} {S : Sto} {p : Addr} {o : HO} {u : OO}
theorem SI.adopt (I : SI K (upd G p o) μ S F H) (hp : G p = none) (h : ∀ H2, H2 p = some o → OR K F (μ ++ [p]) H2 p u) : SI K G (μ ++ [p]) (S ++ [u]) F H ∧ Ext μ F (μ ++ [p]) F := by
  obtain ⟨g1, g2, g3⟩ := I.gh p o upd_same
  have ex : Ext μ F (μ ++ [p]) F := ⟨List.prefix_append _ _, Same.refl _⟩
  refine ⟨⟨I.fr, fun b v q => ?_, by simp [I.len], ?_, fun k a u' hk hS => ?_⟩, ex⟩
  · have e : b ≠ p := ne_of_none q hp
    obtain ⟨a1, a2, a3⟩ := I.gh b v (by rw [upd_ne e]; exact q)
    refine ⟨a1, a2, fun z => ?_⟩
    rcases List.mem_append.mp z with z | z
    · exact a3 z
    · exact e (List.mem_singleton.mp z)
  · refine List.nodup_append.mpr ⟨I.nd, by simp, fun a ha b hb => ?_⟩
    rw [List.mem_singleton] at hb
    subst hb
    exact fun z => g3 (z ▸ ha)
  · by_cases hkl : k < μ.length
    · rw [List.getElem?_append_left hkl] at hk
      rw [List.getElem?_append_left (by rw [← I.len]; exact hkl)] at hS
      obtain ⟨c1, c2⟩ := I.cell k a u' hk hS
      exact ⟨c1.mono ex rfl, c2⟩
    · have hk2 : k = μ.length := by
        have := (List.getElem?_eq_some_iff.mp hk).1
        simp at this
        omega
      subst hk2
      rw [List.getElem?_append_right (Nat.le_refl _)] at hk
      rw [I.len, List.getElem?_append_right (Nat.le_refl _)] at hS
      simp at hk hS
      subst hk; subst hS
      exact ⟨h _ g1, fun _ => g2⟩
end
def dLcO (src : DTI) (tg : DTG) (tt : DTT) (te : DTE) (vs : List Nat) : DTE := fun ρ S Q => src ρ S fun items keep S1 => ∃ Wd : List Wv → List Wv → Sto → Prop, Wd items [] S1 ∧ (∀ r acc S, Wd r acc S → keep S) ∧
  (∀ x r acc S, Wd (x :: r) acc S → tg x (dwipe ρ vs) S fun ρ2 S2 => tt ρ2 S2 fun b S3 => if b = true then te ρ2 S3 fun y S4 => acc.length < sizeLine ∧ Wd r (acc ++ [y]) S4 else Wd r acc S3) ∧
  ∀ acc S, Wd [] acc S → Q (.o S.length) (S ++ [.lst acc])
theorem sim_lcO {K : PySem.W.Frag} {wi : TI} {src : DTI} {tg : DTG} {tt : DTT} {te : DTE} {vs : List Nat} (hi : SimI K wi src) : SimE K (tLc wi (gOf K vs tg) (ttOf K tt) (tOf K te) vs) (dLcO src tg tt te vs) := by
  intro G μ F S H σ ρ Qd Q I R z k
  refine hi G μ F S H σ ρ _ _ I R z ?_
  rintro μ1 F1 S1 H1 J items keep e1 I1 ok ⟨Wd, w0, hk, step, done⟩ D hD
  have gD : G D = none := I1.noG hD
  refine ⟨fun i m H' => ∃ μ' F' S' acc xs, Ext μ1 F1 μ' F' ∧ SI K (upd G D (.lst xs)) μ' S' F' H' ∧ RWs K F' μ' xs acc ∧ Wd (items.drop i) acc S' ∧ i ≤ items.length ∧ m = items.length - i, ⟨items.length, μ1, F1, S1, [], [], Ext.refl, I1.aside hD, .nil, w0, Nat.zero_le _, rfl⟩, ?_⟩
  rintro i m H' ⟨μ', F', S', acc, xs, e2, I2, pa, wd, hle, rfl⟩
  by_cases hi : i < items.length
  · refine .inr ?_
    obtain ⟨⟨go, yl⟩, _⟩ : (J.go i H' ∧ ∀ x H2, J.yld i H' x H2 → ∃ F3 w, Ext μ' F' μ' F3 ∧ SI K (upd G D (.lst xs)) μ' S' F3 H2 ∧ items[i]? = some w ∧ RW K F3 μ' x w) ∧ True := ⟨(ok _ i μ' F' S' H' e2 I2 (hk _ _ _ wd)).1 hi, trivial⟩
    refine ⟨go, fun H' => ∃ μ' F' S' acc xs, Ext μ1 F1 μ' F' ∧ SI K (upd G D (.lst xs)) μ' S' F' H' ∧ RWs K F' μ' xs acc ∧ Wd (items.drop (i + 1)) acc S', ?_, ?_⟩
    · rintro H3 ⟨μ3, F3, S3, acc3, xs3, a, b, c, d⟩
      exact ⟨items.length - (i + 1), by omega, μ3, F3, S3, acc3, xs3, a, b, c, d, by omega, rfl⟩
    · intro x H2 hy
      obtain ⟨F3, w, e3, I3, hw, rw'⟩ := yl x H2 hy
      rw [drop_cons hw] at wd
      refine ⟨upd G D (.lst xs), μ', F3, S', dwipe ρ vs, w, _, I3, ((R.mono ((e1.trans e2).trans e3)).wipe vs), rw', step _ _ _ _ wd, ?_⟩
      intro μ4 F4 S4 H4 σ4 ρ4 e4 I4 R4 hwp z4
      refine ⟨by rw [hwp, wipe_wipe], _, μ4, F4, S4, ρ4, _, I4, R4, z4, ?_⟩
      intro μ5 F5 S5 H5 b e5 I5 z5
      cases b with
      | false =>
        exact ⟨μ5, F5, S5, acc, xs, (e2.trans e3).trans (e4.trans e5), I5, pa.mono ((e3.trans e4).trans e5), z5⟩
      | true =>
        refine ⟨_, μ5, F5, S5, ρ4, _, I5, R4.mono e5, z5, ?_⟩
        rintro μ6 F6 S6 H6 v w6 e6 I6 r6 ⟨hl, wd6⟩
        have pa6 := pa.mono (((e3.trans e4).trans e5).trans e6)
        refine ⟨xs, (I6.gh D _ upd_same).1, by rw [pa6.length]; exact hl, μ6, F6, S6, acc ++ [w6], xs ++ [v], (e2.trans e3).trans ((e4.trans e5).trans e6), ?_, ?_, wd6⟩
        · have := I6.turn (o := .lst (xs ++ [v])) (p := D) upd_same
          rw [upd_upd] at this
          exact this
        · exact paired_append pa6 (.cons r6 .nil)
  · have hi' : i = items.length := by omega
    subst hi'
    refine .inl ⟨(ok _ _ μ' F' S' H' e2 I2 (hk _ _ _ wd)).2 (Nat.le_refl _), ?_⟩
    rw [List.drop_length] at wd
    obtain ⟨I3, e3⟩ := I2.adopt (u := .lst acc) gD fun H2 h2 => ⟨xs, h2, pa.mono ⟨List.prefix_append _ _, Same.refl _⟩⟩
    have hD2 : μ'.length = S'.length := I2.len
    exact k _ _ _ _ _ _ ((e1.trans e2).trans e3) I3 (.o (by rw [← hD2]; simp)) (done _ _ wd)
section
variable {X : Cx} {elt tg iter : Expr} {ifs : List Expr} {scope : Scope} {own : List (Str × Nat)} {pos : Pos} {src : DTI} {g : DTG} {tt : DTT} {te : DTE}
theorem de_lcO (hc : X.calm = true) (hN : X.N.Nodup) (hi : DI X tg iter src) (ok : BlkOk X.N X.env.scope scope own)
    (hg : ∀ (s : Shared) (H : Hp) (C : Addr) (cl : List (Str × Addr)) (fp : List Addr), DG (X.blk s H scope (compEnvC scope cl C X.env) fp) tg (own.map (·.2)) g)
    (ht : ∀ (s : Shared) (H : Hp) (C : Addr) (cl : List (Str × Addr)) (fp : List Addr), DTs (X.blk s H scope (compEnvC scope cl C X.env) fp) ifs tt)
    (he : ∀ (s : Shared) (H : Hp) (C : Addr) (cl : List (Str × Addr)) (fp : List Addr), DE (X.blk s H scope (compEnvC scope cl C X.env) fp) elt te)
    (hs : ∀ x, foldedSetIterable iter X.env x = pure x := by intro _; rfl) : DE X (.ListComp elt [⟨tg, iter, ifs, 0⟩] scope pos) (dLcO src g tt te (own.map (·.2))) := by
  obtain ⟨wi, p, q⟩ := hi
  exact ⟨_, pe_lc hc hN p ok (fun s H C cl fp => pg_gOf (hg s H C cl fp)) (fun s H C cl fp => pts_tOf (ht s H C cl fp)) (fun s H C cl fp => pe_tOf (he s H C cl fp)) hs, sim_lcO q⟩
theorem ds_setLcO (i : Nat) {y : Str} {py : Pos} {elt tg iter : Expr} {ifs : List Expr} {scope : Scope} {own : List (Str × Nat)} {spos : Pos} {src : DTI} {tgt : DTG} {tt : DTT} {te : DTE} (hc : X.calm = true) (hN : X.N.Nodup) (hy : X.N[i]? = some y) (hyl : X.env.scope.names.lookup y = some .local)
    (hsw : swapsWith (.ListComp elt [⟨tg, iter, ifs, 0⟩] scope pos) (some (.Name y py)) spos.line X.env = pure true) (hi : DI X tg iter src) (ok : BlkOk X.N X.env.scope scope own)
    (hg : ∀ (s : Shared) (H : Hp) (C : Addr) (cl : List (Str × Addr)) (fp : List Addr), DG (X.blk s H scope (compEnvC scope cl C X.env) fp) tg (own.map (·.2)) tgt)
    (ht : ∀ (s : Shared) (H : Hp) (C : Addr) (cl : List (Str × Addr)) (fp : List Addr), DTs (X.blk s H scope (compEnvC scope cl C X.env) fp) ifs tt)
    (he : ∀ (s : Shared) (H : Hp) (C : Addr) (cl : List (Str × Addr)) (fp : List Addr), DE (X.blk s H scope (compEnvC scope cl C X.env) fp) elt te)
    (hs : ∀ x, foldedSetIterable iter X.env x = pure x := by intro _; rfl) : DS X (.Assign [.Name y py] (.ListComp elt [⟨tg, iter, ifs, 0⟩] scope pos) spos) (dAsg (dLcO src tgt tt te (own.map (·.2))) (dgName i)) := by
  obtain ⟨wi, p, q⟩ := hi
  exact ⟨_, ps_setLc hc hN hy hyl hsw p ok (fun s H C cl fp => pg_gOf (hg s H C cl fp)) (fun s H C cl fp => pts_tOf (ht s H C cl fp)) (fun s H C cl fp => pe_tOf (he s H C cl fp)) hs,
    sim_asg (vs := [i]) (sim_lcO q) fun G μ F S H σ ρ x w Qd Q I R r h k => k μ F S H _ _ Ext.refl I (R.set i r) (wipe_set (by simp)) h⟩
end
def LcGO (tg : DTG) (tt : DTT) (te : DTE) (vs : List Nat) (ρ : Rho) (Q : Wv → Sto → Prop) (items : List Wv) (keep : Sto → Prop) (S : Sto) : Prop := ∃ Wd : List Wv → List Wv → Sto → Prop, Wd items [] S ∧ (∀ r acc S, Wd r acc S → keep S) ∧
  (∀ x r acc S, Wd (x :: r) acc S → tg x (dwipe ρ vs) S fun ρ2 S2 => tt ρ2 S2 fun b S3 => if b = true then te ρ2 S3 fun y S4 => acc.length < sizeLine ∧ Wd r (acc ++ [y]) S4 else Wd r acc S3) ∧
  ∀ acc S, Wd [] acc S → Q (.o S.length) (S ++ [.lst acc])
section
variable {ρ : Rho} {S : Sto} {Q : Wv → Sto → Prop}
theorem st_lcO {src : DTI} {tg : DTG} {tt : DTT} {te : DTE} {vs : List Nat} (h : src ρ S fun items keep S1 => LcGO tg tt te vs ρ Q items keep S1) : dLcO src tg tt te vs ρ S Q := h
theorem lcO_list {items : List Wv} {keep : Sto → Prop} {tg : DTG} {tt : DTT} {te : DTE} {vs : List Nat} (J : Nat → List Wv → Sto → Prop) (h0 : J 0 [] S) (hk : ∀ i acc S, J i acc S → keep S)
    (step : ∀ i x acc S (K : List Wv → Sto → Prop), items[i]? = some x → J i acc S → (∀ acc S, J (i + 1) acc S → K acc S) → tg x (dwipe ρ vs) S fun ρ2 S2 => tt ρ2 S2 fun b S3 => if b = true then te ρ2 S3 fun y S4 => acc.length < sizeLine ∧ K (acc ++ [y]) S4 else K acc S3)
    (done : ∀ acc S, J items.length acc S → Q (.o S.length) (S ++ [.lst acc])) : LcGO tg tt te vs ρ Q items keep S := by
  refine ⟨fun r acc S => ∃ i, i ≤ items.length ∧ r = items.drop i ∧ J i acc S, ⟨0, Nat.zero_le _, rfl, h0⟩, fun r acc S ⟨i, _, _, h⟩ => hk i acc S h, ?_, ?_⟩
  · rintro x r acc S ⟨i, hi, hr, hj⟩
    obtain ⟨h1, h2⟩ := drop_eq hr
    exact step i x acc S (fun acc S => ∃ i, i ≤ items.length ∧ r = items.drop i ∧ J i acc S) h1 hj fun acc' S' q => ⟨i + 1, (List.getElem?_eq_some_iff.mp h1).1, h2, q⟩
  · rintro acc S ⟨i, hi, hr, hj⟩
    have : items.length ≤ i := List.drop_eq_nil_iff.mp hr.symm
    have e : i = items.length := by omega
    subst e
    exact done acc S hj
theorem st_elO {acc : List Wv} {P : Prop} (hl : acc.length < 100000) (h : P) : acc.length < sizeLine ∧ P := ⟨lt_line hl, h⟩
end

end Dm
end
section
open PySem L2 Dm PyProof.Rows

namespace Dm
/-! ### enumerate over an owned list, [x] * n owned, an owned list settled -/
section
variable {X : Cx} {e : Expr} {fe : DTE} {tg : Expr}
def diEnumO (f : DTA) : DTI := fun ρ S R => f ρ S fun ws S1 => ∃ k ds, ws = [.o k] ∧ S1[k]? = some (.lst (ds.map .d)) ∧ R ((enumP ds).map .d) (fun S => S[k]? = some (.lst (ds.map .d))) S1
theorem di_enumO {fa : DTA} {p pos tpos : Pos} {elts : List Expr} {kk : Nat} (hg : Gl X "enumerate") (hm : X.mg "enumerate" = none) (ha : DA X [e] fa) (hs : starEach [e] X.env = [(false, eval e X.env)] := by rfl) :
    DI X (.Tuple elts kk tpos) (.Call (.Name "enumerate" p) [e] [] pos) (diEnumO fa) := by
  obtain ⟨_, a1, a2⟩ := ha
  refine ⟨_, pi_enum hg hm a1 hs, fun G μ F S H σ ρ R Q I RR z k => a2 G μ F S H σ ρ _ _ I RR z ?_⟩
  rintro μ1 F1 S1 H1 v w e1 I1 r1 ⟨kk, ds, rfl, ek, z1⟩
  obtain ⟨u, rfl, ru⟩ := rws1 r1
  obtain ⟨a, rfl, hk, ⟨xs, ex, rs⟩, _⟩ := I1.ref ru ek
  refine ⟨a, xs, rfl, .inl (.inl ex), k _ _ _ _ _ _ _ e1 I1 ?_ z1⟩
  intro G2 i μ2 F2 S2 H2 e I hk2
  obtain ⟨⟨xs2, ex2, rs2⟩, _⟩ := I.cell _ _ _ (pre_get e.pre hk) hk2
  have pa := d_rws rs2
  have s1 : SqL X.K H2 a xs2 := .inl (.inl ex2)
  have l1 := pa.length
  have hl : ((enumP ds).map Wv.d).length = ds.length := by simp [enumP]
  rw [hl]
  refine ⟨fun hi => ?_, fun hi => ⟨xs2, s1, by omega⟩⟩
  have hx : ds[i]? = some ds[i] := List.getElem?_eq_getElem (by omega)
  obtain ⟨v1, h1, r1⟩ := paired_get pa hx
  refine ⟨⟨xs2, v1, s1, h1⟩, ?_⟩
  rintro v H' ⟨T, x, rfl, hT, rfl, hx'⟩
  have q1 : some v1 = some x := h1.symm.trans (hx' xs2 s1)
  cases q1
  obtain ⟨I2, e2⟩ := I.data (o := .tup [.int (i : Nat), v1]) hT
  refine ⟨_, .d (.tuple [.int (i : Nat), ds[i]]), e2, I2, ?_, .d (.tup upd_same (.cons (.int _) (.cons (dq_mono e2.same _ r1) .nil)))⟩
  unfold enumP
  rw [List.getElem?_map, List.getElem?_map, List.getElem?_zipIdx, hx]
  simp
def gMulO : DR2 := fun x y S Q => match x, y with
  | .d (.list a), .d (.int k) => (-(2 ^ 63) ≤ k ∧ k < 2 ^ 63) ∧ a.length * k.toNat ≤ sizeLine ∧ Q (.o S.length) (S ++ [.lst ((List.replicate k.toNat a).flatten.map .d)])
  | _, _ => False
theorem dop_mulO : DOpR X (binaryOp .Mult) gMulO := by
  refine ⟨_, op_rep, ?_⟩
  intro G μ F S H x y a b Qd Q I ra rb h k
  unfold gMulO at h
  split at h
  · obtain ⟨p, xs, rfl, ea, pa⟩ := of_lst ra
    obtain rfl := of_int rb
    exact ⟨_, _, _, rfl, rfl, I.fr _ _ ea, h.1.1, h.1.2, by rw [pa.length]; exact h.2.1, fun z hz => k.olst I hz (rws_d (paired_rep pa _)) h.2.2⟩
  · exact h.elim
def dSettle (fe : DTE) : DTE := fun ρ S Q => fe ρ S fun w S1 => ∃ k ds, w = .o k ∧ S1[k]? = some (.lst (ds.map .d)) ∧ Q (.d (.list ds)) (S1.set k .gone)
theorem de_settle (he : DE X e fe) : DE X e (dSettle fe) := by
  obtain ⟨_, a1, a2⟩ := he
  refine ⟨_, a1, fun G μ F S H σ ρ Qd Q I R z k => a2 G μ F S H σ ρ _ _ I R z ?_⟩
  rintro μ1 F1 S1 H1 v w e1 I1 r1 ⟨kk, ds, rfl, hS, z1⟩
  obtain ⟨a, rfl, hk, ⟨xs, ea, rs⟩, _⟩ := I1.ref r1 hS
  obtain ⟨I2, e2⟩ := I1.settle hk hS (fun z => nomatch z) ea
  exact k _ _ _ _ _ _ (e1.trans e2) I2 (.d (.lst upd_same (dqs_mono e2.same _ (d_rws rs)))) z1
end
section
variable {ρ : Rho} {S : Sto} {Q : Wv → Sto → Prop} {k : Nat} {ds : List PyData} {fe : DTE}
theorem st_settle (h : fe ρ S fun w S1 => ∃ k ds, w = .o k ∧ S1[k]? = some (.lst (ds.map .d)) ∧ Q (.d (.list ds)) (S1.set k .gone)) : dSettle fe ρ S Q := h
theorem st_settleE {P : Nat → List PyData → Prop} (hS : S[k]? = some (.lst (ds.map .d))) (h : P k ds) : ∃ k' ds, Wv.o k = .o k' ∧ S[k']? = some (.lst (ds.map .d)) ∧ P k' ds := ⟨k, ds, rfl, hS, h⟩
theorem st_mulO {a : List PyData} {n : Int} (h0 : 0 ≤ n) (h1 : n < 100000) (ha : a.length * n.toNat ≤ 100000) (h : Q (.o S.length) (S ++ [.lst ((List.replicate n.toNat a).flatten.map .d)])) : gMulO (.d (.list a)) (.d (.int n)) S Q := ⟨⟨by omega, by omega⟩, le_line ha, h⟩
theorem st_enumO {f : DTA} {R : List Wv → (Sto → Prop) → Sto → Prop} (h : f ρ S fun ws S1 => ∃ k ds, ws = [.o k] ∧ S1[k]? = some (.lst (ds.map .d)) ∧ R ((enumP ds).map .d) (fun S => S[k]? = some (.lst (ds.map .d))) S1) : diEnumO f ρ S R := h
theorem st_enum {f : DTA} {R : List Wv → (Sto → Prop) → Sto → Prop} (h : f ρ S fun ws S1 => ∃ xs, ws = [.d (.list xs)] ∧ R ((enumP xs).map .d) anyS S1) : diEnum f ρ S R := h
end
section
variable {ρ : Rho} {S : Sto} {k : Nat} {ds : List PyData} {fe : DTE}
theorem st_str {R : List Wv → (Sto → Prop) → Sto → Prop} (h : fe ρ S fun w S1 => ∃ z, w = .d (.str z) ∧ R (z.cps.toList.map fun c => .d (.str ⟨#[c]⟩)) anyS S1) : diStr fe ρ S R := h
theorem st_strE {s : Str} {P : Str → Prop} (h : P s) : ∃ z, Wv.d (.str s) = .d (.str z) ∧ P z := ⟨s, rfl, h⟩
theorem st_enumE {P : List PyData → Prop} (h : P ds) : ∃ xs, [Wv.d (.list ds)] = [.d (.list xs)] ∧ P xs := ⟨ds, rfl, h⟩
theorem st_enumOE {P : Nat → List PyData → Prop} (hS : S[k]? = some (.lst (ds.map .d))) (h : P k ds) : ∃ k' ds, [Wv.o k] = [.o k'] ∧ S[k']? = some (.lst (ds.map .d)) ∧ P k' ds := ⟨k, ds, rfl, hS, h⟩
end

end Dm
end
section
open PySem L2 Dm PyProof.Rows

namespace Dm
/-! ### a dict comprehension -/
def dDc (src : DTI) (tg : DTG) (tt : DTT) (tk tv : DTE) (vs : List Nat) : DTE := fun ρ S Q => src ρ S fun items keep S1 => ∃ Wd : List Wv → List (Key × Wv) → Sto → Prop, Wd items [] S1 ∧ (∀ r acc S, Wd r acc S → keep S) ∧
  (∀ x r acc S, Wd (x :: r) acc S → tg x (dwipe ρ vs) S fun ρ2 S2 => tt ρ2 S2 fun b S3 => if b = true then tk ρ2 S3 fun y S4 => tv ρ2 S4 fun z S5 => ∃ k, keyW y = some k ∧ acc.length < sizeLine ∧ Wd r (putW acc k z) S5 else Wd r acc S3) ∧
  ∀ acc S, Wd [] acc S → Q (.o S.length) (S ++ [.dk acc])
theorem sim_dc {K : PySem.W.Frag} {wi : TI} {src : DTI} {tg : DTG} {tt : DTT} {tk tv : DTE} {vs : List Nat} (hi : SimI K wi src) : SimE K (tDc wi (gOf K vs tg) (ttOf K tt) (tOf K tk) (tOf K tv) vs) (dDc src tg tt tk tv vs) := by
  intro G μ F S H σ ρ Qd Q I R z k
  refine hi G μ F S H σ ρ _ _ I R z ?_
  rintro μ1 F1 S1 H1 J items keep e1 I1 ok ⟨Wd, w0, hk, step, done⟩ D hD
  have gD : G D = none := I1.noG hD
  refine ⟨fun i m H' => ∃ μ' F' S' acc xs, Ext μ1 F1 μ' F' ∧ SI K (upd G D (.dK xs)) μ' S' F' H' ∧ RKV K F' μ' xs acc ∧ Wd (items.drop i) acc S' ∧ i ≤ items.length ∧ m = items.length - i, ⟨items.length, μ1, F1, S1, [], [], Ext.refl, I1.aside hD, .nil, w0, Nat.zero_le _, rfl⟩, ?_⟩
  rintro i m H' ⟨μ', F', S', acc, xs, e2, I2, pa, wd, hle, rfl⟩
  by_cases hi : i < items.length
  · refine .inr ?_
    obtain ⟨⟨go, yl⟩, _⟩ : (J.go i H' ∧ ∀ x H2, J.yld i H' x H2 → ∃ F3 w, Ext μ' F' μ' F3 ∧ SI K (upd G D (.dK xs)) μ' S' F3 H2 ∧ items[i]? = some w ∧ RW K F3 μ' x w) ∧ True := ⟨(ok _ i μ' F' S' H' e2 I2 (hk _ _ _ wd)).1 hi, trivial⟩
    refine ⟨go, fun H' => ∃ μ' F' S' acc xs, Ext μ1 F1 μ' F' ∧ SI K (upd G D (.dK xs)) μ' S' F' H' ∧ RKV K F' μ' xs acc ∧ Wd (items.drop (i + 1)) acc S', ?_, ?_⟩
    · rintro H3 ⟨μ3, F3, S3, acc3, xs3, a, b, c, d⟩
      exact ⟨items.length - (i + 1), by omega, μ3, F3, S3, acc3, xs3, a, b, c, d, by omega, rfl⟩
    · intro x H2 hy
      obtain ⟨F3, w, e3, I3, hw, rw'⟩ := yl x H2 hy
      rw [drop_cons hw] at wd
      refine ⟨upd G D (.dK xs), μ', F3, S', dwipe ρ vs, w, _, I3, ((R.mono ((e1.trans e2).trans e3)).wipe vs), rw', step _ _ _ _ wd, ?_⟩
      intro μ4 F4 S4 H4 σ4 ρ4 e4 I4 R4 hwp z4
      refine ⟨by rw [hwp, wipe_wipe], _, μ4, F4, S4, ρ4, _, I4, R4, z4, ?_⟩
      intro μ5 F5 S5 H5 b e5 I5 z5
      cases b with
      | false =>
        exact ⟨μ5, F5, S5, acc, xs, (e2.trans e3).trans (e4.trans e5), I5, RKV.mono ((e3.trans e4).trans e5) pa, z5⟩
      | true =>
        refine ⟨_, μ5, F5, S5, ρ4, _, I5, R4.mono e5, z5, ?_⟩
        rintro μ6 F6 S6 H6 v w6 e6 I6 r6 z6
        refine ⟨_, μ6, F6, S6, ρ4, _, I6, R4.mono (e5.trans e6), z6, ?_⟩
        rintro μ7 F7 S7 H7 v2 w7 e7 I7 r7 ⟨kk, hkk, hl, wd7⟩
        have pa7 := RKV.mono ((((e3.trans e4).trans e5).trans e6).trans e7) pa
        refine ⟨xs, kk, key_of r6 hkk, (I7.gh D _ upd_same).1, by rw [pa7.length]; exact hl, μ7, F7, S7, putW acc kk w7, putK xs kk v2, (e2.trans e3).trans (((e4.trans e5).trans e6).trans e7), ?_, rkv_put pa7 r7, wd7⟩
        have := I7.turn (o := .dK (putK xs kk v2)) (p := D) upd_same
        rw [upd_upd] at this
        exact this
  · have hi' : i = items.length := by omega
    subst hi'
    refine .inl ⟨(ok _ _ μ' F' S' H' e2 I2 (hk _ _ _ wd)).2 (Nat.le_refl _), ?_⟩
    rw [List.drop_length] at wd
    obtain ⟨I3, e3⟩ := I2.adopt (u := .dk acc) gD fun H2 h2 => ⟨xs, h2, RKV.mono ⟨List.prefix_append _ _, Same.refl _⟩ pa⟩
    have hD2 : μ'.length = S'.length := I2.len
    exact k _ _ _ _ _ _ ((e1.trans e2).trans e3) I3 (.o (by rw [← hD2]; simp)) (done _ _ wd)
section
variable {X : Cx} {kx vx tg iter : Expr} {ifs : List Expr} {scope : Scope} {own : List (Str × Nat)} {pos : Pos} {src : DTI} {g : DTG} {tt : DTT} {tk tv : DTE}
theorem de_dc (hc : X.calm = true) (hN : X.N.Nodup) (hi : DI X tg iter src) (ok : BlkOk X.N X.env.scope scope own)
    (hg : ∀ (s : Shared) (H : Hp) (C : Addr) (cl : List (Str × Addr)) (fp : List Addr), DG (X.blk s H scope (compEnvC scope cl C X.env) fp) tg (own.map (·.2)) g)
    (ht : ∀ (s : Shared) (H : Hp) (C : Addr) (cl : List (Str × Addr)) (fp : List Addr), DTs (X.blk s H scope (compEnvC scope cl C X.env) fp) ifs tt)
    (hk : ∀ (s : Shared) (H : Hp) (C : Addr) (cl : List (Str × Addr)) (fp : List Addr), DE (X.blk s H scope (compEnvC scope cl C X.env) fp) kx tk)
    (he : ∀ (s : Shared) (H : Hp) (C : Addr) (cl : List (Str × Addr)) (fp : List Addr), DE (X.blk s H scope (compEnvC scope cl C X.env) fp) vx tv)
    (hs : ∀ x, foldedSetIterable iter X.env x = pure x := by intro _; rfl) : DE X (.DictComp kx vx [⟨tg, iter, ifs, 0⟩] scope pos) (dDc src g tt tk tv (own.map (·.2))) := by
  obtain ⟨wi, p, q⟩ := hi
  exact ⟨_, pe_dc hc hN p ok (fun s H C cl fp => pg_gOf (hg s H C cl fp)) (fun s H C cl fp => pts_tOf (ht s H C cl fp)) (fun s H C cl fp => pe_tOf (hk s H C cl fp)) (fun s H C cl fp => pe_tOf (he s H C cl fp)) hs, sim_dc q⟩
end
def DcG (tg : DTG) (tt : DTT) (tk tv : DTE) (vs : List Nat) (ρ : Rho) (Q : Wv → Sto → Prop) (items : List Wv) (keep : Sto → Prop) (S : Sto) : Prop := ∃ Wd : List Wv → List (Key × Wv) → Sto → Prop, Wd items [] S ∧ (∀ r acc S, Wd r acc S → keep S) ∧
  (∀ x r acc S, Wd (x :: r) acc S → tg x (dwipe ρ vs) S fun ρ2 S2 => tt ρ2 S2 fun b S3 => if b = true then tk ρ2 S3 fun y S4 => tv ρ2 S4 fun z S5 => ∃ k, keyW y = some k ∧ acc.length < sizeLine ∧ Wd r (putW acc k z) S5 else Wd r acc S3) ∧
  ∀ acc S, Wd [] acc S → Q (.o S.length) (S ++ [.dk acc])
section
variable {ρ : Rho} {S : Sto} {Q : Wv → Sto → Prop}
theorem st_dc {src : DTI} {tg : DTG} {tt : DTT} {tk tv : DTE} {vs : List Nat} (h : src ρ S fun items keep S1 => DcG tg tt tk tv vs ρ Q items keep S1) : dDc src tg tt tk tv vs ρ S Q := h
theorem dcG_list {items : List Wv} {keep : Sto → Prop} {tg : DTG} {tt : DTT} {tk tv : DTE} {vs : List Nat} (J : Nat → List (Key × Wv) → Sto → Prop) (h0 : J 0 [] S) (hk : ∀ i acc S, J i acc S → keep S)
    (step : ∀ i x acc S (K : List (Key × Wv) → Sto → Prop), items[i]? = some x → J i acc S → (∀ acc S, J (i + 1) acc S → K acc S) → tg x (dwipe ρ vs) S fun ρ2 S2 => tt ρ2 S2 fun b S3 => if b = true then tk ρ2 S3 fun y S4 => tv ρ2 S4 fun z S5 => ∃ k, keyW y = some k ∧ acc.length < sizeLine ∧ K (putW acc k z) S5 else K acc S3)
    (done : ∀ acc S, J items.length acc S → Q (.o S.length) (S ++ [.dk acc])) : DcG tg tt tk tv vs ρ Q items keep S := by
  refine ⟨fun r acc S => ∃ i, i ≤ items.length ∧ r = items.drop i ∧ J i acc S, ⟨0, Nat.zero_le _, rfl, h0⟩, fun r acc S ⟨i, _, _, h⟩ => hk i acc S h, ?_, ?_⟩
  · rintro x r acc S ⟨i, hi, hr, hj⟩
    obtain ⟨h1, h2⟩ := drop_eq hr
    exact step i x acc S (fun acc S => ∃ i, i ≤ items.length ∧ r = items.drop i ∧ J i acc S) h1 hj fun acc' S' q => ⟨i + 1, (List.getElem?_eq_some_iff.mp h1).1, h2, q⟩
  · rintro acc S ⟨i, hi, hr, hj⟩
    have : items.length ≤ i := List.drop_eq_nil_iff.mp hr.symm
    have e : i = items.length := by omega
    subst e
    exact done acc S hj
theorem st_elK {acc : List (Key × Wv)} {y : Wv} {k : Key} {P : Key → Prop} (hk : keyW y = some k) (hl : acc.length < 100000) (h : P k) : ∃ k, keyW y = some k ∧ acc.length < sizeLine ∧ P k := ⟨k, hk, lt_line hl, h⟩
end

end Dm
end
section
open PySem L2 Dm PyProof.Rows

namespace Dm
/-! ### sorted of a dict's keys -/
section
variable {X : Cx}
def cSortDk : DRC := fun ws S Q => ∃ k kvs ks, ws = [.o k] ∧ (S[k]? = some (.dk kvs) ∨ ∃ od ys, S[k]? = some (.dkL od ys kvs)) ∧ kvs.map (·.1) = ks.map Sum.inr ∧ ks.length < 64 ∧ ∀ ns : List Str, ns.Perm ks → sortedS ns = true → Q (.d (.list (ns.map .str))) S
theorem rkv_keys {K : PySem.W.Frag} {F : Hp} {μ : List Addr} {ys : List (Key × V)} {kvs : List (Key × Wv)} (h : RKV K F μ ys kvs) : ys.map (·.1) = kvs.map (·.1) := by
  induction h with
  | nil => rfl
  | cons r _ ih => rw [List.map_cons, List.map_cons, ih, r.1]
theorem dc_sortDk (hc : X.calm = true) : DCallR X (.builtin "sorted") cSortDk := by
  refine ⟨_, call_sortedD hc, ?_⟩
  rintro G μ F S H vs ws Qd Q I r ⟨kk, kvs, ks, rfl, hS, hk, hl, q⟩ k
  obtain ⟨u, rfl, ru⟩ := rws1 r
  rcases hS with hS | ⟨od, ys, hS⟩
  · obtain ⟨a, rfl, _, ⟨ys, ea, rs⟩, _⟩ := I.ref ru hS
    exact ⟨a, ys, ks, rfl, .inl ea, by rw [rkv_keys rs]; exact hk, hl, fun ns p h1 h2 hp => k.lst I hp (strs_dq ns) (q ns h1 h2)⟩
  · obtain ⟨a, rfl, _, ⟨ea, rs⟩, _⟩ := I.ref ru hS
    exact ⟨a, ys, ks, rfl, .inr ⟨_, ea⟩, by rw [rkv_keys rs]; exact hk, hl, fun ns p h1 h2 hp => k.lst I hp (strs_dq ns) (q ns h1 h2)⟩
end
section
variable {ρ : Rho} {S : Sto} {Q : Wv → Sto → Prop} {k : Nat}
theorem st_sortDk {kvs : List (Key × Wv)} {ks : List Str} (hS : S[k]? = some (.dk kvs)) (hk : kvs.map (·.1) = ks.map Sum.inr) (hl : ks.length < 64) (h : ∀ ns : List Str, ns.Perm ks → sortedS ns = true → Q (.d (.list (ns.map .str))) S) : cSortDk [.o k] S Q := ⟨k, kvs, ks, rfl, .inl hS, hk, hl, h⟩
/-- a dict that may be walked just now -/
def DkAt (S : Sto) (k : Nat) (kvs : List (Key × Wv)) : Prop := S[k]? = some (.dk kvs) ∨ ∃ od ys, S[k]? = some (.dkL od ys kvs)
theorem lookA_at {kvs : List (Key × Wv)} {y : Wv} {key : Key} (hS : DkAt S k kvs) (hy : keyW y = some key) : dictLook S (.o k) y = some (valW kvs key) := by
  rcases hS with hS | ⟨od, ys, hS⟩
  · exact look_dk hS hy
  · exact look_dkL hS hy
theorem st_lookA {kvs : List (Key × Wv)} {y : Wv} {key : Key} {P : Option Wv → Prop} (hS : DkAt S k kvs) (hy : keyW y = some key) (h : P (valW kvs key)) : ∃ r, dictLook S (.o k) y = some r ∧ P r := ⟨_, lookA_at hS hy, h⟩
theorem st_dgetA {kvs : List (Key × Wv)} {y w : Wv} {key : Key} {P : Wv → Prop} (hS : DkAt S k kvs) (hy : keyW y = some key) (e : valW kvs key = some w) (h : P w) : ∃ w, dictLook S (.o k) y = some (some w) ∧ P w := ⟨w, by rw [lookA_at hS hy, e], h⟩
end
section
variable {X : Cx}
def cTuple : DRC := fun ws S Q => ∃ w ds, ws = [w] ∧ Seq S w false (ds.map .d) ∧ Q (.d (.tuple ds)) S
theorem dc_tuple : DCallR X (.type "tuple") cTuple := by
  refine ⟨_, call_tuple_of, ?_⟩
  rintro G μ F S H vs ws Qd Q I r ⟨w, ds, rfl, hs, q⟩ k
  obtain ⟨v, rfl, rv⟩ := rws1 r
  obtain ⟨a, xs, rfl, hq, rs⟩ := seq_at I rv hs
  exact ⟨a, xs, rfl, .inl ⟨hq, fun z hz => k.tup I hz (d_rws rs) q⟩⟩
end
theorem st_tupleL {S : Sto} {Q : Wv → Sto → Prop} {ds : List PyData} (q : Q (.d (.tuple ds)) S) : cTuple [.d (.list ds)] S Q := ⟨_, ds, rfl, .dl _, q⟩

end Dm
end
section
open PySem L2 Dm PyProof.Rows

namespace Dm
/-! ### a star among targets -/
section
open PySem.W PySem.Calls
variable {prog : Program} {w : World} {A : Around} {E : Value → Shared → Prop} {s : Shared}
theorem star_tup {t : Addr} {its : Array Value} {n j : Nat} {Q : List Value → Shared → Prop} (ht : PyProof.Rows.IsTup s.heap t its) (hh : A.handled = none) (hj : j < n) (hn : n ≤ its.size + 1) (hz : its.size ≤ 16384)
    (h : ∀ (D : Addr) (h' : Heap) (tk : Nat), (∀ b o, s.heap.get? b = some o → h'.get? b = some o) → s.heap.get? D = none → h'.get? D = some { cls := .type "list", data := .seq ((its.toList.drop j).take (its.size + 1 - n)).toArray } →
      Q (its.toList.take j ++ [.ref D] ++ (its.toList.drop j).drop (its.size + 1 - n)) { s with heap := h', toks := tk }) : wpAny (model prog w) A (unpackItems (.ref t) n (some j)) Q E s := by
  have ne : t ≠ s.heap.objs.size := by obtain ⟨o, ho, _⟩ := ht; exact Nat.ne_of_lt (Heap.lt_size ho)
  unfold unpackItems
  refine wpAny_bind ?_
  unfold notIterableAtAll
  refine wpAny_bind (wpAny_specialOf ht.typeIs PySem.F.slot_tuple_iter.lookup (wpAny_pure ?_))
  simp only [Bool.false_eq_true, if_false]
  refine wpAny_bind (wpAny_holding (iter_tuple ht ?_))
  refine wpAny_bind (wpAny_holding (PyProof.Rows.draw_tuple ne j 0 _ _ ⟨_, Heap.get?_push_size _ rfl, rfl, rfl⟩ (ht.push _) (by omega) fun g hit hs => ?_))
  have hl : PyProof.Rows.IsTup g t its := (ht.push _).extBut hs.extBut ne
  rw [Nat.zero_add] at hit
  obtain ⟨oi, hoi, _⟩ := id hit
  obtain ⟨ol, hol, _⟩ := id hl
  rw [List.drop_zero]
  have len1 : (its.toList.take j).length = j := by rw [List.length_take, Array.length_toList]; omega
  rw [if_neg (show ¬ ((its.toList.take j).length < j) by rw [len1]; exact Nat.lt_irrefl _)]
  refine wpAny_bind (wpAny_holding (kun_collect (s := { s with heap := g }) (T := "tuple_iterator") (.inr (.inr (.inr rfl))) (Walks.tuple (A := A.in1) hh s.heap.objs.size t ne its) (fun i u st => st.1.typeIs) (k := j) (by omega) ⟨hit, hl⟩ (Heap.lt_size hoi) (Heap.lt_size hol) (fun g2 tk hk => ?_) (by rw [sizeLine_eq]; omega)))
  have len2 : (its.toList.drop j).length = its.size - j := by rw [List.length_drop, Array.length_toList]
  have mid : (its.toList.drop j).length - (n - 1 - j) = its.size + 1 - n := by rw [len2]; omega
  have old : ∀ b o, s.heap.get? b = some o → g2.get? b = some o := fun b o e => hk b o (Nat.ne_of_lt (Heap.lt_size e)) (hs.extBut b o (Nat.ne_of_lt (Heap.lt_size e)) (Heap.get?_push_of_some _ e))
  show wpAny _ _ (if (its.toList.drop j).length < n - 1 - j then _ else _) _ _ _
  rw [if_neg (by rw [len2]; omega)]
  show wpAny _ _ (newList ((its.toList.drop j).take ((its.toList.drop j).length - (n - 1 - j))) >>= fun d => pure (its.toList.take j ++ [d] ++ (its.toList.drop j).drop ((its.toList.drop j).length - (n - 1 - j)))) _ _ _
  rw [mid]
  refine wpAny_bind (wpAny_newList (s := { s with heap := g2, toks := tk }) (wpAny_pure (h g2.objs.size _ tk (fun b o e => Heap.get?_push_of_some _ (old b o e)) ?_ (Heap.get?_push_size _ rfl))) (by rw [List.length_take, len2, sizeLine_eq]; omega))
  cases e : s.heap.get? g2.objs.size with
  | none => rfl
  | some o => exact absurd (Heap.lt_size (old _ _ e)) (Nat.lt_irrefl _)
end
section
variable {X : Cx} {vs : List Nat} {pos : Pos}
theorem dgs_star {e : Expr} {es : List Expr} {f : DTG} {g : DTGs} {p : Pos} (h1 : DG X e vs f) (h2 : DGs X es vs g)
    (hs : (assignEach (e :: es) X.env).map (·.2) = assign e X.env :: (assignEach es X.env).map (·.2) := by rfl) : DGs X (.Starred e p :: es) vs (dgCons f g) := by
  obtain ⟨t, a, b⟩ := dgs_cons h1 h2 hs
  refine ⟨t, ⟨fun pins s σ H us ws Q I r h => ?_⟩, b⟩
  have := a.run pins s σ H us ws Q I r h
  rw [hs] at this
  exact this
def gStarT (K : PySem.W.Frag) (n j : Nat) (t : TGs) : TG := fun v σ H Q => ∃ a xs, v = .ref a ∧ SqT K H a xs ∧ n ≤ xs.length + 1 ∧ xs.length ≤ 16384 ∧
  ∀ D, H D = none → t (xs.take j ++ [.ref D] ++ (xs.drop j).drop (xs.length + 1 - n)) σ (upd H D (.lst ((xs.drop j).take (xs.length + 1 - n)))) Q
theorem vals_take {vs : List V} {us : List Value} (r : Vals vs us) (n : Nat) : Vals (vs.take n) (us.take n) := by
  induction r generalizing n with
  | nil => rw [show ([] : List V).take n = [] by simp, show ([] : List Value).take n = [] by simp]; exact .nil
  | cons a _ ih => cases n with
    | zero => exact .nil
    | succ n => exact .cons a (ih n)
theorem vals_drop {vs : List V} {us : List Value} (r : Vals vs us) (n : Nat) : Vals (vs.drop n) (us.drop n) := by
  induction r generalizing n with
  | nil => rw [show ([] : List V).drop n = [] by simp, show ([] : List Value).drop n = [] by simp]; exact .nil
  | cons a r ih => cases n with
    | zero => exact .cons a r
    | succ n => exact ih n
theorem pg_star {es : List Expr} {k n j : Nat} {t : TGs} (hc : X.calm = true) (h : PGs X es t) (hj : j < n)
    (hn : (assignEach es X.env).length = n := by rfl) (hst : (assignEach es X.env).findIdx? (·.1) = some j := by rfl) : PG X (.Tuple es k pos) (gStarT X.K n j t) := by
  refine ⟨fun pins s σ H v u Q I r hw => ?_⟩
  obtain ⟨a, xs, rfl, hq, h1, h2, hw⟩ := hw
  obtain rfl : u = Value.ref a := r
  obtain ⟨its, rv, ht, hz⟩ := I.tuple hq
  have hlen := rv.length
  have hsz : its.toArray.size = xs.length := by rw [List.size_toArray]; exact hlen.symm
  rw [PyProof.Rows.assign_Tuple]
  refine wpAny_bind (wpAny_standAt ?_)
  unfold unpack
  rw [hn, hst]
  refine wpAny_bind (wpAny_holding (star_tup ht (I.ok.hd hc) hj (by omega) (by omega) fun D h' tk hk hD hD' => ?_))
  rw [hsz] at hD' ⊢
  have hH : H D = none := I.hok.gone hD
  have I1 : Inv X pins σ (upd H D (.lst ((xs.drop j).take (xs.length + 1 - n)))) { s with heap := h', toks := tk } :=
    I.laidN hk hD hH ⟨by rw [List.length_take, List.length_drop]; omega, _, _, vals_take (vals_drop rv j) _, hD'⟩
  exact h.run pins _ σ _ _ _ Q I1 (((vals_take rv j).append (.cons (show RelV (.ref D) (.ref D) from rfl) .nil)).append (vals_drop (vals_drop rv j) _)) (hw D hH)
def dgStar (n j : Nat) (f : DTGs) : DTG := fun w ρ S Q => ∃ ws ds, tupOf w S = some ws ∧ n ≤ ws.length + 1 ∧ ws.length ≤ 16384 ∧ (ws.drop j).take (ws.length + 1 - n) = ds.map .d ∧ f (ws.take j ++ [.d (.list ds)] ++ (ws.drop j).drop (ws.length + 1 - n)) ρ S Q
theorem dg_star {es : List Expr} {k n j : Nat} {f : DTGs} (hc : X.calm = true) (h : DGs X es vs f) (hj : j < n)
    (hn : (assignEach es X.env).length = n := by rfl) (hst : (assignEach es X.env).findIdx? (·.1) = some j := by rfl) : DG X (.Tuple es k pos) vs (dgStar n j f) := by
  obtain ⟨_, a1, a2⟩ := h
  refine ⟨_, pg_star hc a1 hj hn hst, ?_⟩
  rintro G μ F S H σ ρ x w Qd Q I R r ⟨ws, ds, e, hl, hz, hd, h⟩ k
  obtain ⟨a, xs, rfl, hq, rs⟩ := tup_at I r e
  have hlen := rs.length
  refine ⟨a, xs, rfl, hq, by omega, by omega, fun D hD => ?_⟩
  rw [hlen]
  obtain ⟨I2, e2⟩ := I.data (o := .lst ((xs.drop j).take (ws.length + 1 - n))) hD
  have r2 : RWs X.K F μ ((xs.drop j).take (ws.length + 1 - n)) (ds.map .d) := by
    rw [← hd]
    exact paired_take (paired_drop rs j) _
  refine a2 G μ _ S _ σ ρ _ _ _ _ I2 (R.mono e2) ?_ h (fun μ' F' S' H' σ' ρ' ex => k μ' F' S' H' σ' ρ' (e2.trans ex))
  exact paired_append (paired_append (paired_take (rs.mono e2) j) (.cons (.d (.lst upd_same (dqs_mono e2.same _ (d_rws r2)))) .nil)) (paired_drop (paired_drop (rs.mono e2) j) _)
end
section
variable {ρ : Rho} {S : Sto} {w : Wv}
theorem st_star {n j : Nat} {f : DTGs} {Q : Rho → Sto → Prop} {ws : List Wv} {ds : List PyData} (e : tupOf w S = some ws) (h1 : n ≤ ws.length + 1) (h2 : ws.length ≤ 16384) (h3 : (ws.drop j).take (ws.length + 1 - n) = ds.map .d)
    (h : f (ws.take j ++ [.d (.list ds)] ++ (ws.drop j).drop (ws.length + 1 - n)) ρ S Q) : dgStar n j f w ρ S Q := ⟨ws, ds, e, h1, h2, h3, h⟩
end
theorem st_starE {ρ : Rho} {S : Sto} {w : Wv} {n j : Nat} {f : DTGs} {Q : Rho → Sto → Prop} {ws rs : List Wv} {ds : List PyData} (e : tupOf w S = some ws) (h1 : n ≤ ws.length + 1) (h2 : ws.length ≤ 16384) (h3 : (ws.drop j).take (ws.length + 1 - n) = ds.map .d)
    (e4 : ws.take j ++ [.d (.list ds)] ++ (ws.drop j).drop (ws.length + 1 - n) = rs) (h : f rs ρ S Q) : dgStar n j f w ρ S Q := by subst e4; exact ⟨ws, ds, e, h1, h2, h3, h⟩

end Dm
end
section
open PySem L2 Dm PyProof.Rows

namespace Dm
/-! ### exceptions over data -/
/-- where an exception goes: its class, its fields (none: it has no dict), the store -/
abbrev DXK := Addr → Option (List (Str × Wv)) → Sto → Prop
structure KX (K : PySem.W.Frag) (G : Hp) (μ : List Addr) (F : Hp) (Ed : DXK) (E : XK) : Prop where
  one : ∀ μ' F' S' H' C d ys fs, Ext μ F μ' F' → SI K (upd G d (.xd ys)) μ' S' F' H' → G d = none → RKV K F' μ' ys fs → Ed C (some fs) S' → E (.ref C) (some d) H'
  non : ∀ μ' F' S' H' C, Ext μ F μ' F' → SI K G μ' S' F' H' → Ed C none S' → E (.ref C) none H'
theorem KX.mono {K : PySem.W.Frag} {G : Hp} {μ μ' : List Addr} {F F' : Hp} {Ed : DXK} {E : XK} (e : Ext μ F μ' F') (h : KX K G μ F Ed E) : KX K G μ' F' Ed E :=
  ⟨fun a b c d f g i j x => h.one a b c d f g i j (e.trans x), fun a b c d f x => h.non a b c d f (e.trans x)⟩
abbrev DSpE := List Wv → Sto → (Wv → Sto → Prop) → DXK → Prop
def liftE (K : PySem.W.Frag) (g : DSpE) : Sp := fun vs H Q E => ∃ G μ F S ws Qd Ed, SI K G μ S F H ∧ RWs K F μ vs ws ∧ g ws S Qd Ed ∧ KE K G μ F Qd Q ∧ KX K G μ F Ed E
structure FnE (P : Program) (w : World) (K : PySem.W.Frag) (mg : Str → Option Value) (base : Heap) (k : Nat) (f : Addr) (fd : FuncData) (ps : List Str) (g : DSpE) : Prop where
  fn : FnG P w K mg base (L2.CX P w) k f fd ps (liftE K g)
def noX : DXK := fun _ _ _ => False
section
variable {P : Program} {w : World} {K : PySem.W.Frag} {mg : Str → Option Value} {base : Heap} {k : Nat} {f : Addr} {fd : FuncData} {ps : List Str} {g : DSpE}
/-- where it does not raise it is as any def -/
theorem FnE.toD (F : FnE P w K mg base k f fd ps g) : FnD P w K mg base k f fd ps (fun ws S Q => g ws S Q noX) := by
  have go : ∀ {vs : List V} {H : Hp} {Q : VK} {E : XK}, lift K (fun ws S Q => g ws S Q noX) vs H Q E → liftE K g vs H Q (fun _ _ _ => False) := fun ⟨G, μ, F', S, ws, Qd, a, b, c, d⟩ =>
    ⟨G, μ, F', S, ws, Qd, noX, a, b, c, d, ⟨fun _ _ _ _ _ _ _ _ _ _ _ _ z => z.elim, fun _ _ _ _ _ _ _ z => z.elim⟩⟩
  refine ⟨⟨fun vs H Q E h => F.fn.len vs H Q _ (go h), fun A outer s H args us vs Q E hr e0 hb r h => ?_⟩⟩
  refine codeAny_mono (F.fn.run A outer s H args us vs Q _ hr e0 hb r (go h)) fun r s' hq => ?_
  match r, hq with
  | .error ev, ⟨_, _, _, _, _, _, _, _, _, _, _, _, z⟩ => exact z.elim
  | .ok (.ret u), hq => exact hq
  | .ok .next, hq => exact hq.elim
  | .ok .brk, hq => exact hq.elim
  | .ok .cont, hq => exact hq.elim
theorem FnE.mono {j : Nat} (F : FnE P w K mg base j f fd ps g) (h : j ≤ k) : FnE P w K mg base k f fd ps g := ⟨F.fn.mono h⟩
end
/-! ### judgements beside a fact about what is kept aside -/
abbrev JT := Hp → List Addr → Hp → Prop
def JM (J : JT) : Prop := ∀ G μ F μ' F', J G μ F → Ext μ F μ' F' → J G μ' F'
def tEJ (K : PySem.W.Frag) (J : JT) (f : DTE) : TE := fun σ H Q => ∃ G μ F S ρ Qd, J G μ F ∧ SI K G μ S F H ∧ ER K F μ σ ρ ∧ f ρ S Qd ∧ KE K G μ F Qd Q
def tAJ (K : PySem.W.Frag) (J : JT) (f : DTA) : TA := fun σ H Q => ∃ G μ F S ρ, ∃ Qd : List Wv → Sto → Prop, J G μ F ∧ SI K G μ S F H ∧ ER K F μ σ ρ ∧ f ρ S Qd ∧ ∀ μ' F' S' H' vs ws, Ext μ F μ' F' → SI K G μ' S' F' H' → RWs K F' μ' vs ws → Qd ws S' → Q vs H'
def tSJ (K : PySem.W.Frag) (J : JT) (f : DTS) : TS := fun D σ H => ∃ G μ F S ρ Dd, J G μ F ∧ SI K G μ S F H ∧ ER K F μ σ ρ ∧ f Dd ρ S ∧ KS K G μ F Dd D
def DEJ (X : Cx) (J : JT) (e : Expr) (f : DTE) : Prop := PE X e (tEJ X.K J f)
def DAJ (X : Cx) (J : JT) (es : List Expr) (f : DTA) : Prop := PA X es (tAJ X.K J f)
def DSJ (X : Cx) (J : JT) (st : Stmt) (f : DTS) : Prop := PS X st (tSJ X.K J f)
def DSsJ (X : Cx) (J : JT) (st : List Stmt) (f : DTS) : Prop := PSs X st (tSJ X.K J f)
section
variable {X : Cx} {J : JT} {e : Expr} {es : List Expr} {st : Stmt} {sts rest : List Stmt} {fe : DTE} {fs : DTA} {f g : DTS} {pos : Pos}
theorem PE.imp {t t' : TE} (p : PE X e t) (h : ∀ σ H Q, t' σ H Q → t σ H Q) : PE X e t' := ⟨fun pins s σ H Q I z => p.run pins s σ H Q I (h _ _ _ z)⟩
theorem PA.imp {t t' : TA} (p : PA X es t) (h : ∀ σ H Q, t' σ H Q → t σ H Q) : PA X es t' := ⟨fun pos pins s σ H Q I z => p.run pos pins s σ H Q I (h _ _ _ z)⟩
theorem PS.imp {t t' : TS} (p : PS X st t) (h : ∀ D σ H, t' D σ H → t D σ H) : PS X st t' := ⟨fun pins s σ H D I z => p.run pins s σ H D I (h _ _ _ z)⟩
theorem PSs.imp {t t' : TS} (p : PSs X sts t) (h : ∀ D σ H, t' D σ H → t D σ H) : PSs X sts t' := ⟨fun pins s σ H D I z => p.run pins s σ H D I (h _ _ _ z)⟩
theorem dej_of (h : DE X e fe) : DEJ X J e fe := let ⟨_, p, q⟩ := h; PE.imp p fun σ H Q ⟨G, μ, F, S, ρ, Qd, _, I, R, z, k⟩ => q G μ F S H σ ρ Qd Q I R z k
theorem daj_of (h : DA X es fs) : DAJ X J es fs := let ⟨_, p, q⟩ := h; PA.imp p fun σ H Q ⟨G, μ, F, S, ρ, Qd, _, I, R, z, k⟩ => q G μ F S H σ ρ Qd Q I R z k
theorem dsj_of (h : DS X st f) : DSJ X J st f := let ⟨_, p, q⟩ := h; PS.imp p fun D σ H ⟨G, μ, F, S, ρ, Dd, _, I, R, z, k⟩ => q G μ F S H σ ρ Dd D I R z k
theorem dssj_of (h : DSs X sts f) : DSsJ X J sts f := let ⟨_, p, q⟩ := h; PSs.imp p fun D σ H ⟨G, μ, F, S, ρ, Dd, _, I, R, z, k⟩ => q G μ F S H σ ρ Dd D I R z k
theorem daj_nil : DAJ X J [] dNil := daj_of da_nil
theorem daj_cons (hm : JM J) (he : DEJ X J e fe) (hr : DAJ X J es fs) (hs : starEach (e :: es) X.env = (false, eval e X.env) :: starEach es X.env := by rfl) : DAJ X J (e :: es) (dCons fe fs) :=
  PA.imp (pa_cons he hr hs) fun σ H Q ⟨G, μ, F, S, ρ, Qd, j, I, R, z, k⟩ => ⟨G, μ, F, S, ρ, _, j, I, R, z, fun μ1 F1 S1 H1 v w e1 I1 r1 z1 => ⟨G, μ1, F1, S1, ρ, _, hm _ _ _ _ _ j e1, I1, R.mono e1, z1, fun μ2 F2 S2 H2 vs ws e2 I2 r2 z2 => k μ2 F2 S2 H2 _ _ (e1.trans e2) I2 (.cons (r1.mono e2) r2) z2⟩⟩
theorem dej_tup {n : Nat} (h : DAJ X J es fs) : DEJ X J (.Tuple es n pos) (dTupD fs) :=
  PE.imp (pe_tup h) fun σ H Q ⟨G, μ, F, S, ρ, Qd, j, I, R, z, k⟩ => ⟨G, μ, F, S, ρ, _, j, I, R, z, fun μ1 F1 S1 H1 vs ws e1 I1 r1 ⟨ds, hd, hl, z1⟩ => by
    rw [allD_of hd] at r1
    have r2 := d_rws r1
    exact ⟨by rw [r2.length]; exact hl, fun p hp => (k.mono e1).tup I1 hp r2 z1⟩⟩
theorem dssj_nil : DSsJ X J [] dNext := dssj_of dss_nil
theorem dssj_one (h : DSJ X J st f) : DSsJ X J [st] f := pss_one h
theorem dssj_cons (hm : JM J) (h1 : DSJ X J st f) (h2 : DSsJ X J rest g) : DSsJ X J (st :: rest) (dSeq f g) :=
  PSs.imp (pss_cons h1 h2) fun D σ H ⟨G, μ, F, S, ρ, Dd, j, I, R, z, k⟩ => ⟨G, μ, F, S, ρ, _, j, I, R, z, ⟨fun μ1 F1 S1 H1 σ1 ρ1 e1 I1 R1 z1 => ⟨G, μ1, F1, S1, ρ1, _, hm _ _ _ _ _ j e1, I1, R1, z1, k.mono e1⟩, k.rt, k.bk, k.ct⟩⟩
theorem dsj_if {c : Expr} {a b : List Stmt} {fc : DTT} (hm : JM J) (hc : DT X c fc) (ha : DSsJ X J a f) (hb : DSsJ X J b g) : DSJ X J (.If c a b pos) (dIfS fc f g) :=
  let ⟨_, c1, c2⟩ := hc
  PS.imp (ps_if c1 ha hb) fun D σ H ⟨G, μ, F, S, ρ, Dd, j, I, R, z, k⟩ => c2 G μ F S H σ ρ _ _ I R z fun μ1 F1 S1 H1 bb e1 I1 z1 => by
    cases bb with
    | true => exact ⟨G, μ1, F1, S1, ρ, _, hm _ _ _ _ _ j e1, I1, R.mono e1, z1, k.mono e1⟩
    | false => exact ⟨G, μ1, F1, S1, ρ, _, hm _ _ _ _ _ j e1, I1, R.mono e1, z1, k.mono e1⟩
theorem dsj_ret (he : DEJ X J e fe) : DSJ X J (.Return (some e) pos) (dRet fe) :=
  PS.imp (ps_ret he) fun D σ H ⟨G, μ, F, S, ρ, Dd, j, I, R, z, k⟩ => ⟨G, μ, F, S, ρ, _, j, I, R, z, fun μ1 F1 S1 H1 v w e1 I1 r1 z1 => k.rt _ _ _ _ _ _ e1 I1 r1 z1⟩
theorem dsj_expr (he : DEJ X J e fe) (hs : swapsWith e none pos.line X.env = pure false := by rfl) : DSJ X J (.Expr e pos) (dDrop fe) :=
  PS.imp (ps_expr he hs) fun D σ H ⟨G, μ, F, S, ρ, Dd, j, I, R, z, k⟩ => ⟨G, μ, F, S, ρ, _, j, I, R, z, fun μ1 F1 S1 H1 v w e1 I1 r1 z1 => k.nx _ _ _ _ _ _ e1 I1 (R.mono e1) z1⟩
theorem dsj_set (i : Nat) {x : Str} {pos' : Pos} (hN : X.N.Nodup) (hi : X.N[i]? = some x) (hx : Loc X.env.scope x) (he : DEJ X J e fe) (hs : swapsWith e (some (.Name x pos')) pos.line X.env = pure false := by rfl) (hf : X.fn x = true ∨ X.env.scope.names.lookup x = some .local := by first | exact .inl rfl | exact .inr rfl | assumption) :
    DSJ X J (.Assign [.Name x pos'] e pos) (dAsg fe (dgName i)) :=
  PS.imp (ps_set hN hi hx he hs hf) fun D σ H ⟨G, μ, F, S, ρ, Dd, j, I, R, z, k⟩ => ⟨G, μ, F, S, ρ, _, j, I, R, z, fun μ1 F1 S1 H1 v w e1 I1 r1 z1 => k.nx _ _ _ _ _ _ e1 I1 ((R.mono e1).set i r1) z1⟩
end
/-! ### raising -/
def JX (K : PySem.W.Frag) (W : WX) (Ed : Rho → DXK) : JT := fun G μ F => ∀ σ ρ μ' F', Ext μ F μ' F' → ER K F' μ' σ ρ → KX K G μ' F' (Ed ρ) (fun cls d H => W cls d σ H)
theorem jx_m {K : PySem.W.Frag} {W : WX} {Ed : Rho → DXK} : JM (JX K W Ed) := fun G μ F μ' F' h e σ ρ μ2 F2 e2 R => h σ ρ μ2 F2 (e.trans e2) R
/-- self.f = x in an own exception's __init__ -/
def initSp (K : PySem.W.Frag) (f : Str) : Sp := fun vs H Q _ => ∃ a C v, vs = [.ref a, v] ∧ OexC K C ∧ PySem.W.findIn K (.ref C) f = some none ∧ H a = some (exo a C none) ∧ ∀ dx, H dx = none → dx ≠ a → Q .non (upd (upd H dx (exd dx [(f, v)])) a (exo a C (some dx)))
def dRaise1 (C : Addr) (fld : Str) (fe : DTE) (Ed : Rho → DXK) : DTS := fun _ ρ S => fe ρ S fun w S1 => Ed ρ C (some [(fld, w)]) S1
theorem upd_del {H : Hp} {a d : Addr} {o o1 o2 u : HO} (ha : H a = none) (hda : d ≠ a) : upd (del (upd (upd (upd H a o) d o1) a o2) a) d u = upd H d u := by
  funext b
  by_cases h1 : b = d
  · subst h1; rw [upd_same, upd_same]
  · rw [upd_ne h1, upd_ne h1]
    by_cases h2 : b = a
    · subst h2; rw [del_same, ha]
    · rw [del_ne h2, upd_ne h2, upd_ne h1, upd_ne h2]
section
variable {X : Cx} {W : WX} {Ed : Rho → DXK} {e o : Expr} {es : List Expr} {x m fld : Str} {C fI f : Addr} {fd : FuncData} {k : Nat} {p p2 pos apos : Pos} {fe fo : DTE} {fa : DTA} {g : DSpE} {ps : List Str}
theorem dsj_raise1 (hc : X.calm = true) (tk : Takes X W) (T : OexC X.K C) (hno : PySem.W.findIn X.K (.ref C) fld = some none) (iC : PySem.W.findIn X.K (.ref C) "__init__" = some (some (.ref fI))) (tI : PySem.W.typeIn X.K (.ref fI) = some (.type "function"))
    (F1 : FnOk X.prog X.w X.K X.mg X.base CX0 k fI fd ps (initSp X.K fld)) (hr : Room (k + 1) X.A) (hb : Binds X.K fd ps []) (hg : Gl X x) (hm : X.mg x = some (.ref C)) (he : DE X e fe)
    (hdb : (x == ("__debug__" : Str)) = false := by decide) (hs : starEach [e] X.env = (false, eval e X.env) :: starEach [] X.env := by rfl) (hpl : (backTo pos (starEach [] X.env)).any (·.1) = false := by rfl) :
    DSJ X (JX X.K W Ed) (.Raise (some (.Call (.Name x p) [e] [] pos)) none p2) (dRaise1 C fld fe Ed) := by
  obtain ⟨_, a1, a2⟩ := he
  refine PS.imp (ps_raise hc tk (pmk_oex (dvs := []) T iC tI F1 hr hb .nil pass0 hg hm (pa_cons a1 pa_nil hs) hdb hs hpl)) ?_
  rintro D σ H ⟨G, μ, F, S, ρ, Dd, j, I, R, z, kk⟩
  refine a2 G μ F S H σ ρ _ _ I R z ?_
  intro μ1 F1 S1 H1 v w e1 I1 r1 z1
  refine ⟨by simp, fun a ha => ⟨a, C, v, rfl, T, hno, upd_same, fun dx hdx hne => ⟨rfl, dx, [(fld, v)], upd_same, ?_, ?_, ?_⟩⟩⟩
  · rw [upd_ne hne, upd_same]
  · rw [upd_ne hne] at hdx; exact hdx
  · rw [upd_ne hne] at hdx
    rw [upd_del ha hne]
    exact (j σ ρ μ1 F1 e1 (R.mono e1)).one μ1 F1 S1 _ C dx [(fld, v)] [(fld, w)] Ext.refl (I1.aside hdx) (I1.noG hdx) (.cons ⟨rfl, r1⟩ .nil) z1
/-- a method that may raise -/
def dMethX (C : Addr) (m : Str) (g : DSpE) (fo : DTE) (fa : DTA) (Ed : Rho → DXK) : DTE := fun ρ S Q => fo ρ S fun w S1 => ∃ k fs, w = .o k ∧ S1[k]? = some (.ins C fs) ∧ fs.lookup m = none ∧ fa ρ S1 fun ws S2 => g (w :: ws) S2 Q (Ed ρ)
theorem runGS {sp : Sp} {E : XK} {σ : L2.St} {pins : List (Addr × Obj)} {H : Hp} {s : Shared} {Q : VK} {us : List Value} {vs : List V} {CX : CXT} (F : FnG X.prog X.w X.K X.mg X.base CX k f fd ps sp) (hr : RG k X.A) (hb : Binds X.K fd ps []) (hx : PassesAt CX X σ E) (I : Inv X pins σ H s) (r : Vals vs us) (h : sp vs H Q E) :
    wpAny (model X.prog X.w) X.A (call (.ref f) us) (EP X pins σ Q) X.xe s := by
  have hl : us.length = ps.length := r.length.symm.trans (F.len _ _ _ _ h)
  have b := hb s us I.kIn (by rw [List.append_nil]; exact hl)
  rw [List.append_nil] at b
  exact wpAny_call (of_result (R := fun r s' => match r with | .ok (.ret u) => EP X pins σ Q u s' | .ok _ => False | .error ev => X.xe ev s') (F.run X.A X.stack s H ⟨us, []⟩ _ _ Q E hr I.env0 b r h) I (fun ev s' q => hx pins H s ev s' I q) fun u s' q => q)
theorem dej_meth {pl : Sem Bool} (tk : Takes X W) (ho : DE X o fo) (c : Cls X.K C) (hm : Meth X.K C m f) (F : FnE X.prog X.w X.K X.mg X.base k f fd ps g) (hr : RG k X.A) (hb : Binds X.K fd ps []) (ha : DA X (e :: es) fa)
    (hst : starEach (e :: es) X.env = (false, eval e X.env) :: starEach es X.env := by rfl)
    (hpl : (backTo pos (starEach es X.env)).any (·.1) = false := by rfl) (ht : MethTree X o m apos pos (e :: es) pl := by rfl) : DEJ X (JX X.K W Ed) (.Call (.Attribute o m apos) (e :: es) [] pos) (dMethX C m g fo fa Ed) := by
  obtain ⟨_, o1, o2⟩ := ho
  obtain ⟨_, a1, a2⟩ := ha
  refine ⟨fun pins s σ H Q I h => ?_⟩
  obtain ⟨G, μ, F0, S, ρ, Qd, j, J, R, z, kk⟩ := h
  refine PySem.W.methodCall_KW (pl := pl) (thn (o1.run pins s σ H _ I (o2 G μ F0 S H σ ρ _ (fun v H' => ∃ μ1 F1 S1 a dx fs ys q, Ext μ F0 μ1 F1 ∧ SI X.K G μ1 S1 F1 H' ∧ v = .ref a ∧ μ1[q]? = some a ∧ H' a = some (.ins C dx ys) ∧ RKV X.K F1 μ1 ys fs ∧ fs.lookup m = none ∧ fa ρ S1 fun ws S2 => g (.o q :: ws) S2 Qd (Ed ρ)) J R z ?_)) ?_) ht
  · rintro μ1 F1 S1 H1 v w e1 I1 r1 ⟨q, fs, rfl, hS, hl, z1⟩
    obtain ⟨a, rfl, hq, ⟨dx, ys, ea, rs⟩, _⟩ := I1.ref r1 hS
    exact ⟨μ1, F1, S1, a, dx, fs, ys, q, e1, I1, rfl, hq, ea, rs, hl, z1⟩
  rintro u s1 ⟨x, H1, I1, rx, μ1, F1, S1, a, dx, fs, ys, q, e1, J1, rfl, hq, ea, rs, hl, z1⟩
  obtain rfl : u = Value.ref a := rx
  refine getmeth_ok I1 ea c hm (lookup_none rs hl) (PySem.W.callWith_K (first := [.ref a]) (h₀ := X.base) I.ok.mod.kin hm.kp (thn (a1.run pos pins s1 σ H1 _ I1 (a2 G μ1 F1 S1 H1 σ ρ _ (fun vs H' => ∃ μ2 F2 S2 ws, Ext μ1 F1 μ2 F2 ∧ SI X.K G μ2 S2 F2 H' ∧ RWs X.K F2 μ2 vs ws ∧ g (.o q :: ws) S2 Qd (Ed ρ)) J1 (R.mono e1) z1 fun μ2 F2 S2 H2 vs ws e2 I2 r2 z2 => ⟨μ2, F2, S2, ws, e2, I2, r2, z2⟩)) ?_) hst hpl)
  rintro us s2 ⟨vs, H2, I2, r, μ2, F2, S2, ws, e2, J2, rw2, z2⟩
  have e12 := e1.trans e2
  exact ⟨I2.kIn, runGS (us := .ref a :: us) (vs := .ref a :: vs) F.fn hr hb (passAt tk σ) I2 (.cons (show RelV (.ref a) (.ref a) from rfl) r) ⟨G, μ2, F2, S2, .o q :: ws, Qd, Ed ρ, J2, .cons (.o (pre_get e2.pre hq)) rw2, z2, kk.mono e12, j σ ρ μ2 F2 e12 (R.mono e12)⟩⟩
end

end Dm
end
section
open PySem L2 Dm PyProof.Rows

namespace Dm
/-! ### a def that may raise; an exception's __init__; try -/
section
variable {P : Program} {w : World} {K : PySem.W.Frag} {mg : Str → Option Value} {base : Heap}
theorem fnE_of {x qual : Str} {st : Stmt} {f : Addr} {fd : FuncData} {N ps : List Str} {k : Nat} {g : DSpE} {n : Nat} (F : Fun K x qual st f fd) (S : FnScope N ps (defScope st)) (hn : N.length = n) (len : ∀ ws S Q Ed, g ws S Q Ed → ws.length = ps.length)
    (hbody : ∀ (cdv : Value) (A : Around) (outer : List Env) (s : Shared) (H : Hp) (E : XK) (W : WX) (Ed : DXK), RG k (A.deeper (envOfC qual (defScope st) s.heap.objs.size f cdv)) → Takes (cxOf (L2.CX P w) P w K mg base N qual (defScope st) f cdv A outer s H E) W →
      ∃ b : (Rho → DXK) → DTS, DSsJ (cxOf (L2.CX P w) P w K mg base N qual (defScope st) f cdv A outer s H E) (JX K W fun _ => Ed) (defBody st) (b fun _ => Ed) ∧ ∀ ws S Qd, g ws S Qd Ed → b (fun _ => Ed) { nx := fun _ S' => Qd (.d .none) S', rt := Qd } (dstart n ws) S) : FnE P w K mg base (k + 1) f fd ps g := by
  refine ⟨fnG_of F S ?_ ?_⟩
  · rintro vs H Q E ⟨G, μ, F', S', ws, Qd, Ed, a, b, c, d, _⟩
    rw [b.length]
    exact len _ _ _ _ c
  · intro cdv A outer s H vs Q E hr ⟨G, μ, F', S', ws, Qd, Ed, a, b, c, d, kx⟩
    obtain ⟨bd, p, h⟩ := hbody cdv A outer s H E (fun cls d _ H => E cls d H) Ed hr (takes_of rfl rfl rfl rfl)
    subst hn
    refine ⟨_, p, G, μ, F', S', _, _, fun σ ρ μ1 F1 e1 _ => kx.mono e1, a, er_start b, h ws S' Qd c, ⟨?_, ?_, fun _ _ _ _ _ _ _ _ _ z => z, fun _ _ _ _ _ _ _ _ _ z => z⟩⟩
    · intro μ' F2 S2 H2 σ ρ e I R z
      exact d μ' F2 S2 H2 .non (.d .none) e I (.d .non) z
    · intro μ' F2 S2 H2 v w' e I R z
      exact d μ' F2 S2 H2 v w' e I R z
theorem init_sp {N : List Str} {fld : Str} {vs : List V} {H : Hp} {Q : VK} {E : XK} (h : initSp K fld vs H Q E) : tOst K fld (tVar 0) (tVar 1) { nx := fun _ H' => Q .non H', rt := Q } (start N vs) H := by
  obtain ⟨a, C, v, rfl, T, hno, ha, q⟩ := h
  exact ⟨v, rfl, .ref a, rfl, a, C, rfl, T, hno, .inl ⟨ha, q⟩⟩
theorem init_len {fld : Str} : ∀ (vs : List V) (H : Hp) (Q : VK) (E : XK), initSp K fld vs H Q E → vs.length = 2 := by
  rintro vs H Q E ⟨a, C, v, rfl, _⟩
  rfl
end
/-- the suite's ground: the exception's dict lies aside -/
def JU (K : PySem.W.Frag) (d : Option Addr) (fo : Option (List (Str × Wv))) : JT := fun G μ F => (d = none ∧ fo = none) ∨ ∃ dd ys fs G0, d = some dd ∧ fo = some fs ∧ G = upd G0 dd (.xd ys) ∧ RKV K F μ ys fs
theorem ju_m {K : PySem.W.Frag} {d : Option Addr} {fo : Option (List (Str × Wv))} : JM (JU K d fo) := fun G μ F μ' F' h e => h.imp id fun ⟨dd, ys, fs, G0, a, b, c, r⟩ => ⟨dd, ys, fs, G0, a, b, c, r.mono e⟩
/-- e.f, e the exception -/
def dXf (a C : Addr) (fo : Option (List (Str × Wv))) (C0 : Addr) (f : Str) (fe : DTE) : DTE := fun ρ S Q => fe ρ S fun w S1 => w = .v (.ref a) ∧ C = C0 ∧ ∃ fs v, fo = some fs ∧ fs.lookup f = some v ∧ Q v S1
theorem dej_xf {X : Cx} {a C C0 : Addr} {oe : Obj} {d : Option Addr} {fo : Option (List (Str × Wv))} {pn : List (Addr × Obj)} {e : Expr} {fe : DTE} {pos : Pos} {n : Str} (T : XfC X.K C0) (hno : PySem.W.findIn X.K (.ref C0) n = some none)
    (hz : Zc (.ref C) d oe) (hf : ∃ vs, oe.data = .fields vs) (he : DE (X.suite a ((a, oe) :: pn)) e fe) (hb : attributeBase e n X.env (eval e X.env) = eval e X.env := by rfl) :
    DEJ (X.suite a ((a, oe) :: pn)) (JU X.K d fo) (.Attribute e n pos) (dXf a C fo C0 n fe) := by
  obtain ⟨_, p, q⟩ := he
  refine PE.imp (pe_xf T hno hz hf p hb) ?_
  rintro σ H Q ⟨G, μ, F, S, ρ, Qd, j, I, R, z, k⟩
  refine q G μ F S H σ ρ _ _ I R z ?_
  rintro μ1 F1 S1 H1 v w e1 I1 r1 ⟨rfl, rfl, fs, x, rfl, hl, z1⟩
  cases r1
  rcases j with ⟨_, h⟩ | ⟨dd, ys, fs', G0, rfl, h, rfl, rr⟩
  · cases h
  · cases h
    obtain ⟨y, hy, ry⟩ := lookup_some (rr.mono e1) hl
    exact ⟨rfl, rfl, dd, ys, y, rfl, (I1.gh dd _ upd_same).1, hy, k μ1 F1 S1 H1 y x e1 I1 ry z1⟩
/-- try: fb / except c as slot i: fsu; sub: the classes that it catches -/
def dTry (sub : Addr → Prop) (i : Nat) (fb : (Rho → DXK) → DTS) (fsu : Addr → Addr → Option (List (Str × Wv)) → DTS) : DTS := fun D ρ S =>
  fb (fun ρ1 C fo S1 => sub C ∧ ∀ a, fsu a C fo { nx := fun ρ2 S2 => D.nx (ρ2.set i none) S2, rt := D.rt, bk := fun ρ2 S2 => D.bk (ρ2.set i none) S2, ct := fun ρ2 S2 => D.ct (ρ2.set i none) S2 } (ρ1.set i (some (.v (.ref a)))) S1) D ρ S
theorem ds_try {X : Cx} {x n : Str} {c : Value} {sub : Addr → Prop} {i : Nat} {body suite : List Stmt} {b₀ : Stmt} {np pos pos' : Pos} {fb : (Rho → DXK) → DTS} {fsu : Addr → Addr → Option (List (Str × Wv)) → DTS}
    (hN : X.N.Nodup) (hi : X.N[i]? = some n) (hln : X.env.kindOf n = some .local) (hc : Names X x c) (hsub : ∀ C, sub C → PySem.W.exmOne X.K (.ref C) c = some true)
    (hb : ∀ (W : WX) (Ed : Rho → DXK) (pn : List (Addr × Obj)) (xe : Value → Shared → Prop), Takes (X.tr pn xe) W → PassesOwn (model X.prog X.w) X.A X.env xe → DSsJ (X.tr pn xe) (JX X.K W Ed) body (fb Ed))
    (hsu : ∀ (a : Addr) (oe : Obj) (C : Addr) (d : Option Addr) (fo : Option (List (Str × Wv))) (pn : List (Addr × Obj)), Zc (.ref C) d oe → (∃ vs, oe.data = .fields vs) → DSsJ (X.suite a ((a, oe) :: pn)) (JU X.K d fo) (b₀ :: suite) (fsu a C fo))
    (hs : X.stack = X.env :: X.outer := by rfl) (hf : X.env.frame = some X.env.locals := by rfl) :
    DS X (.Try body [.ExceptHandler (some (.Name x np)) (some n) (b₀ :: suite) pos'] [] [] pos) (dTry sub i fb fsu) := by
  refine ⟨_, ps_try_as (i := i) (Wout := fun _ _ _ _ => False) (tb := fun W D σ H => ∃ Ed, tSJ X.K (JX X.K W Ed) (fb Ed) D σ H) (ts := fun a cls d D σ H => ∃ C fo, cls = .ref C ∧ tSJ X.K (JU X.K d fo) (fsu a C fo) D σ H) hs hf hN hi hln hc takes_none5 ?_ ?_, ?_⟩
  · intro W pn xe tk po
    exact ⟨fun pins s σ H D I ⟨Ed, h⟩ => (hb W Ed pn xe tk po).run pins s σ H D I h⟩
  · intro a oe cls d pn hz hfl
    refine ⟨fun pins s σ H D I h => ?_⟩
    obtain ⟨C, fo, rfl, h⟩ := h
    exact (hsu a oe C d fo pn hz hfl).run pins s σ H D I h
  · intro G μ F S H σ ρ Dd D I R z k
    refine ⟨_, G, μ, F, S, ρ, Dd, ?_, I, R, z, k⟩
    intro σ1 ρ1 μ1 F1 e1 R1
    refine ⟨?_, ?_⟩
    · intro μ2 F2 S2 H2 C d ys fs e2 I2 hG r2 ⟨q1, q2⟩
      refine ⟨true, hsub C q1, fun _ a _ => ?_, fun q => by cases q⟩
      refine ⟨C, some fs, rfl, _, μ2, F2, S2, _, _, .inr ⟨d, ys, fs, G, rfl, rfl, rfl, r2⟩, I2, (R1.mono e2).set i (.v (x := .ref a)), q2 a, ⟨?_, ?_, ?_, ?_⟩⟩
      · intro μ3 F3 S3 H3 σ3 ρ3 e3 I3 R3 z3
        exact k.nx _ _ _ _ _ _ ((e1.trans e2).trans e3) (I3.forget hG) (R3.none i) z3
      · intro μ3 F3 S3 H3 v3 w3 e3 I3 R3 z3
        exact k.rt _ _ _ _ _ _ ((e1.trans e2).trans e3) (I3.forget hG) R3 z3
      · intro μ3 F3 S3 H3 σ3 ρ3 e3 I3 R3 z3
        exact k.bk _ _ _ _ _ _ ((e1.trans e2).trans e3) (I3.forget hG) (R3.none i) z3
      · intro μ3 F3 S3 H3 σ3 ρ3 e3 I3 R3 z3
        exact k.ct _ _ _ _ _ _ ((e1.trans e2).trans e3) (I3.forget hG) (R3.none i) z3
    · intro μ2 F2 S2 H2 C e2 I2 ⟨q1, q2⟩
      refine ⟨true, hsub C q1, fun _ a _ => ?_, fun q => by cases q⟩
      refine ⟨C, none, rfl, _, μ2, F2, S2, _, _, .inl ⟨rfl, rfl⟩, I2, (R1.mono e2).set i (.v (x := .ref a)), q2 a, ⟨?_, ?_, ?_, ?_⟩⟩
      · intro μ3 F3 S3 H3 σ3 ρ3 e3 I3 R3 z3
        exact k.nx _ _ _ _ _ _ ((e1.trans e2).trans e3) I3 (R3.none i) z3
      · intro μ3 F3 S3 H3 v3 w3 e3 I3 R3 z3
        exact k.rt _ _ _ _ _ _ ((e1.trans e2).trans e3) I3 R3 z3
      · intro μ3 F3 S3 H3 σ3 ρ3 e3 I3 R3 z3
        exact k.bk _ _ _ _ _ _ ((e1.trans e2).trans e3) I3 (R3.none i) z3
      · intro μ3 F3 S3 H3 σ3 ρ3 e3 I3 R3 z3
        exact k.ct _ _ _ _ _ _ ((e1.trans e2).trans e3) I3 (R3.none i) z3
theorem exm_of {K : PySem.W.Frag} {C : Addr} {cls : Value} (h1 : PySem.W.subIn K (.ref C) (.type "BaseException") = some true) (hdct : PySem.W.hasDictIn K C = true) (ht : PySem.W.typeIn K (.ref C) = some (.type "type")) (h4 : PySem.W.subIn K cls (.ref C) = some true) : PySem.W.exmOne K cls (.ref C) = some true := PySem.W.exm_ref h1 hdct ht h4

end Dm
end
section
open PySem L2 Dm PyProof.Rows

namespace Dm
/-! ### further targets and readings: d[k] and o.f in a tuple of targets; d.values(); sorted(d) of ints; None or an object -/
section
variable {X : Cx} {o e a b : Expr} {rest : List Expr} {fo fe fa fb : DTE} {f : DTE} {pos : Pos} {tg : Expr}
/-- a target d[k] -/
def dgPut (fo fi : DTE) : DTG := fun w ρ S Q => fo ρ S fun x S1 => fi ρ S1 fun y S2 => ∃ S3, dictPut S2 x y w = some S3 ∧ dictLen S2 x < sizeLine ∧ Q ρ S3
theorem dg_put {i : Expr} {fi : DTE} {vs : List Nat} (hu : X.A.units + 1 < cLine) (ho : DE X o fo) (hi : DE X i fi)
    (ha : ∀ v, assign (.Subscript o i pos) X.env v = (do
      let ov ← holding [v] (eval o X.env)
      let iv ← holding [v, ov] (eval i X.env)
      standAt pos
      holding [v, ov, iv] (setItem ov iv v)
      release [v, ov, iv] []) := by intro _; rfl) : DG X (.Subscript o i pos) vs (dgPut fo fi) := by
  obtain ⟨_, o1, o2⟩ := ho
  obtain ⟨_, i1, i2⟩ := hi
  refine ⟨_, pg_sub o1 i1 (set_dict hu) ha, ?_⟩
  intro G μ F S H σ ρ x w Qd Q I R r z k
  refine o2 G μ F S H σ ρ _ _ I R z fun μ1 F1 S1 H1 vo wo x1 I1 r1 z1 => i2 G μ1 F1 S1 H1 σ ρ _ _ I1 (R.mono x1) z1 ?_
  rintro μ2 F2 S2 H2 vi wi x2 I2 r2 ⟨S3, hp, hl, q⟩
  obtain ⟨p, H3, rfl, hd, I3⟩ := put_at I2 (r1.mono x2) r2 (r.mono (x1.trans x2)) hp hl
  exact ⟨p, H3, rfl, hd, k _ _ _ _ _ _ (x1.trans x2) I3 (R.mono (x1.trans x2)) rfl q⟩
/-- a target o.f -/
def dgFld (C : Addr) (n : Str) (fo : DTE) : DTG := fun w ρ S Q => fo ρ S fun x S1 => ∃ k fs, x = .o k ∧ S1[k]? = some (.ins C fs) ∧ fs.length < 1000 ∧ Q ρ (S1.set k (.ins C (putWF n w fs)))
def gFldT (K : PySem.W.Frag) (to : TE) (n : Str) : TG := fun v σ H Q => to σ H fun x H1 => ∃ a C dx fs, x = .ref a ∧ H1 a = some (.ins C dx fs) ∧ Cls K C ∧ NoAttr K C n ∧ fs.length < 1000 ∧ Q σ (upd H1 a (.ins C dx (putF n v fs)))
theorem pg_fldT {to : TE} {n : Str} (ho : PE X o to)
    (ha : ∀ v, assign (.Attribute o n pos) X.env v = (do
      let ov ← holding [v] (eval o X.env)
      standAt pos.atName
      holding [v, ov] (setAttr ov n v)
      release [v, ov] []) := by intro _; rfl) : PG X (.Attribute o n pos) (gFldT X.K to n) := by
  refine ⟨fun pins s σ H v u Q I r h => ?_⟩
  rw [ha]
  refine wpAny_bind (wpAny_holding (thn (ho.run pins s σ H _ I h) fun ov s1 ⟨x, H1, I1, r1, p, C, dx, fs, ex, ea, c, na, hl, q⟩ => ?_))
  subst ex
  obtain rfl : ov = Value.ref p := r1
  refine wpAny_bind (wpAny_standAt (wpAny_bind (wpAny_holding (setattr_ok I1 ea c na hl r fun s2 I2 => ?_))))
  exact wpAny_release ⟨σ, _, I2, q⟩
theorem dg_fld {C : Addr} {n : Str} {vs : List Nat} (ho : DE X o fo) (c : Cls X.K C) (na : NoAttr X.K C n)
    (ha : ∀ v, assign (.Attribute o n pos) X.env v = (do
      let ov ← holding [v] (eval o X.env)
      standAt pos.atName
      holding [v, ov] (setAttr ov n v)
      release [v, ov] []) := by intro _; rfl) : DG X (.Attribute o n pos) vs (dgFld C n fo) := by
  obtain ⟨_, o1, o2⟩ := ho
  refine ⟨_, pg_fldT o1 ha, ?_⟩
  intro G μ F S H σ ρ x w Qd Q I R r z k
  refine o2 G μ F S H σ ρ _ _ I R z ?_
  rintro μ1 F1 S1 H1 vo wo x1 I1 r1 ⟨kk, fs, rfl, hS, hl, q⟩
  obtain ⟨p, rfl, hk, ⟨dx, ys, ea, rs⟩, _⟩ := I1.ref r1 hS
  refine ⟨p, C, dx, ys, rfl, ea, c, na, by rw [rs.length]; exact hl, ?_⟩
  exact k _ _ _ _ _ _ x1 (I1.put (u := .ins C (putWF n w fs)) hk hS (fun z => nomatch z) fun H3 z => ⟨dx, _, z, rkv_putF (r.mono x1) rs⟩) (R.mono x1) rfl q
/-- the values of a locked dict -/
def diVals (f : DTE) : DTI := fun ρ S R => f ρ S fun w S1 => ∃ k od ys kvs, w = .o k ∧ S1[k]? = some (.dkL od ys kvs) ∧ R (kvs.map (·.2)) (fun S => S[k]? = some (.dkL od ys kvs)) S1
theorem di_vals {apos cpos : Pos} (h : DE X e f) (hbase : attributeBase e "values" X.env (eval e X.env) = eval e X.env := by rfl) (hline : (apos.endLine == cpos.line) = true := by rfl) :
    DI X tg (.Call (.Attribute e "values" apos) [] [] cpos) (diVals f) := by
  obtain ⟨_, p, q⟩ := h
  refine ⟨_, pi_values p hbase hline, fun G μ F S H σ ρ R Q I RR z k => q G μ F S H σ ρ _ _ I RR z ?_⟩
  rintro μ1 F1 S1 H1 v w e1 I1 r1 ⟨kk, od, ys, kvs, rfl, hS, z1⟩
  obtain ⟨p, rfl, hk, ⟨ea, rs⟩, _⟩ := I1.ref r1 hS
  refine ⟨p, od, ys, rfl, ea, k _ _ _ _ _ _ _ e1 I1 ?_ z1⟩
  intro G2 i μ2 F2 S2 H2 e I hk2
  obtain ⟨⟨eb, rs2⟩, _⟩ := I.cell _ _ _ (pre_get e.pre hk) hk2
  rw [List.length_map, ← rs.length]
  refine ⟨fun hi => ⟨⟨eb, hi⟩, ?_⟩, fun hi => ⟨eb, hi⟩⟩
  rintro x H' ⟨rfl, key, hx⟩
  obtain ⟨⟨kb, wb⟩, hb, h1, h2⟩ := paired_get' rs2 hx
  exact ⟨F2, wb, Ext.refl, I, by rw [List.getElem?_map, hb]; rfl, h2⟩
/-- sorted(d), d's keys whole numbers -/
def cSortDi : DRC := fun ws S Q => ∃ k kvs ks, ws = [.o k] ∧ DkAt S k kvs ∧ kvs.map (·.1) = ks.map Sum.inl ∧ ks.length < 64 ∧ ∀ ns : List Int, ns.Perm ks → ns.Pairwise (· ≤ ·) → Q (.d (.list (ns.map .int))) S
theorem dc_sortDi (hc : X.calm = true) : DCallR X (.builtin "sorted") cSortDi := by
  refine ⟨_, call_sortedDI hc, ?_⟩
  rintro G μ F S H vs ws Qd Q I r ⟨kk, kvs, ks, rfl, hS, hk, hl, q⟩ k
  obtain ⟨u, rfl, ru⟩ := rws1 r
  rcases hS with hS | ⟨od, ys, hS⟩
  · obtain ⟨a, rfl, _, ⟨ys, ea, rs⟩, _⟩ := I.ref ru hS
    exact ⟨a, ys, ks, rfl, .inl ea, by rw [rkv_keys rs]; exact hk, hl, fun ns p h1 h2 hp => k.lst I hp (ints_dq ns) (q ns h1 h2)⟩
  · obtain ⟨a, rfl, _, ⟨ea, rs⟩, _⟩ := I.ref ru hS
    exact ⟨a, ys, ks, rfl, .inr ⟨_, ea⟩, by rw [rkv_keys rs]; exact hk, hl, fun ns p h1 h2 hp => k.lst I hp (ints_dq ns) (q ns h1 h2)⟩
/-- an object of a class without __bool__ and __len__ is true -/
structure Tru (K : PySem.W.Frag) (C : Addr) : Prop where
  bo : PySem.W.findIn K (.ref C) "__bool__" = some none
  le : PySem.W.findIn K (.ref C) "__len__" = some none
open PySem.W in
theorem tru_ins {pins : List (Addr × Obj)} {σ : L2.St} {H : Hp} {s : Shared} {A : Around} {C p dx : Addr} {fs : List (Str × V)} {Q : Bool → Shared → Prop} {E : Value → Shared → Prop} (I : Inv X pins σ H s) (e : H p = some (.ins C dx fs)) (t : Tru X.K C) (h : Q true s) :
    wpAny (model X.prog X.w) A (truthy (.ref p)) Q E s := by
  obtain ⟨mA, O, _⟩ := ins_get I.hok e
  obtain ⟨od, J, _⟩ := O.look
  unfold truthy
  refine wpAny_bind (m := callSpecial? (.ref p) (Str.ofString "__bool__")) (wpAny_bind (wpAny_bind (J.type.here ((looks_findIn I.kIn t.bo).here (wpAny_pure ?_)))))
  refine wpAny_bind (wpAny_bind (J.type.here ((looks_findIn I.kIn t.le).here ?_)))
  exact wpAny_pure h
/-- None or an object, else -/
def tOrI (K : PySem.W.Frag) (ta tb : TE) : TE := fun σ H Q => ta σ H fun x H1 => (x = .non ∧ tb σ H1 Q) ∨ ∃ p C dx fs, x = .ref p ∧ H1 p = some (.ins C dx fs) ∧ Tru K C ∧ Q x H1
theorem pe_orI {ta tb : TE} (ha : PE X a ta) (hb : PE X (.BoolOp .Or (b :: rest) pos) tb) : PE X (.BoolOp .Or (a :: b :: rest) pos) (tOrI X.K ta tb) := by
  refine ⟨fun pins s σ H Q I h => ?_⟩
  refine BoolOp_or (thn (ha.run pins s σ H _ I h) fun v s1 ⟨x, H1, I1, r1, q1⟩ => ?_)
  rcases q1 with ⟨rfl, q1⟩ | ⟨p, C, dx, fs, rfl, ea, t, q1⟩
  · refine thn (tru_ok pins s1 σ H1 .non v (fun c H2 => c = false ∧ H2 = H1) I1 r1 ⟨false, rfl, rfl, rfl⟩) fun c s2 hc => ?_
    obtain ⟨H2, I2, rfl, rfl⟩ := hc
    exact hb.run pins s2 σ _ Q I2 q1
  · obtain rfl : v = Value.ref p := r1
    exact tru_ins I1 ea t ⟨.ref p, H1, I1, rfl, q1⟩
def dOrI (C : Addr) (fa fb : DTE) : DTE := fun ρ S Q => fa ρ S fun x S1 => (x = .d .none ∧ fb ρ S1 Q) ∨ ∃ k fs, x = .o k ∧ S1[k]? = some (.ins C fs) ∧ Q x S1
theorem de_orI {C : Addr} (t : Tru X.K C) (h : DE X a fa) (h' : DE X b fb) : DE X (.BoolOp .Or [a, b] pos) (dOrI C fa fb) := by
  obtain ⟨_, p, q⟩ := h
  obtain ⟨_, p', q'⟩ := h'
  refine ⟨_, pe_orI p (pe_one p'), fun G μ F S H σ ρ Qd Q I R z k => q G μ F S H σ ρ _ _ I R z ?_⟩
  rintro μ1 F1 S1 H1 v w e1 I1 r1 (⟨rfl, z1⟩ | ⟨kk, fs, rfl, hS, z1⟩)
  · exact .inl ⟨of_non r1, q' G μ1 F1 S1 H1 σ ρ _ _ I1 (R.mono e1) z1 (k.mono e1)⟩
  · obtain ⟨y, rfl, hk, ⟨dx, ys, ea, rs⟩, _⟩ := I1.ref r1 hS
    exact .inr ⟨y, C, dx, ys, rfl, ea, t, k _ _ _ _ _ _ e1 I1 r1 z1⟩
end
section
variable {fo fi fe : DTE} {ρ : Rho} {S : Sto} {w : Wv}
theorem st_gput {Q : Rho → Sto → Prop} (h : fo ρ S fun x S1 => fi ρ S1 fun y S2 => ∃ S3, dictPut S2 x y w = some S3 ∧ dictLen S2 x < sizeLine ∧ Q ρ S3) : dgPut fo fi w ρ S Q := h
theorem st_gfld {C : Addr} {n : Str} {Q : Rho → Sto → Prop} (h : fo ρ S fun x S1 => ∃ k fs, x = .o k ∧ S1[k]? = some (.ins C fs) ∧ fs.length < 1000 ∧ Q ρ (S1.set k (.ins C (putWF n w fs)))) : dgFld C n fo w ρ S Q := h
theorem st_vals {R : List Wv → (Sto → Prop) → Sto → Prop} (h : fe ρ S fun w S1 => ∃ k od ys kvs, w = .o k ∧ S1[k]? = some (.dkL od ys kvs) ∧ R (kvs.map (·.2)) (fun S => S[k]? = some (.dkL od ys kvs)) S1) : diVals fe ρ S R := h
end
theorem tup_o {S : Sto} {k : Nat} {ws : List Wv} (h : S[k]? = some (.tup ws)) : tupOf (.o k) S = some ws := by
  unfold tupOf; dsimp only; rw [h]

end Dm
end
section
open PySem L2 Dm PyProof.Rows

namespace Dm
/-! ### is of bools -/
def gIsB : DR2 := fun x y S Q => ∃ a b : Bool, x = .d (.bool a) ∧ y = .d (.bool b) ∧ Q (.d (.bool (decide (a = b)))) S
def gIsntB : DR2 := fun x y S Q => ∃ a b : Bool, x = .d (.bool a) ∧ y = .d (.bool b) ∧ Q (.d (.bool (!decide (a = b)))) S
section
variable {X : Cx} {Q : Wv → Sto → Prop} {S : Sto}
theorem dop_isB : DOpR X (compareOp .Is) gIsB := by
  refine ⟨_, op_is_bl, ?_⟩
  rintro G μ F S H x y a b Qd Q I ra rb ⟨i, j, rfl, rfl, h⟩ k
  exact ⟨i, j, of_bl ra, of_bl rb, k.bl I h⟩
theorem dop_isntB : DOpR X (compareOp .IsNot) gIsntB := by
  refine ⟨_, op_isnot_bl, ?_⟩
  rintro G μ F S H x y a b Qd Q I ra rb ⟨i, j, rfl, rfl, h⟩ k
  exact ⟨i, j, of_bl ra, of_bl rb, k.bl I h⟩
theorem st_isB {a b : Bool} (h : Q (.d (.bool (decide (a = b)))) S) : gIsB (.d (.bool a)) (.d (.bool b)) S Q := ⟨a, b, rfl, rfl, h⟩
theorem st_isntB {a b : Bool} (h : Q (.d (.bool (!decide (a = b)))) S) : gIsntB (.d (.bool a)) (.d (.bool b)) S Q := ⟨a, b, rfl, rfl, h⟩
end

end Dm
end
section
open PySem L2 Dm PyProof.Rows

namespace Dm
/-! ### tests beside what is kept aside; isinstance of the caught exception -/
def tTJ (K : PySem.W.Frag) (J : JT) (f : DTT) : TT := fun σ H Q => ∃ G μ F S ρ, ∃ Qd : Bool → Sto → Prop, J G μ F ∧ SI K G μ S F H ∧ ER K F μ σ ρ ∧ f ρ S Qd ∧ ∀ μ' F' S' H' b, Ext μ F μ' F' → SI K G μ' S' F' H' → Qd b S' → Q b H'
def DTJ (X : Cx) (J : JT) (e : Expr) (f : DTT) : Prop := PT X e (tTJ X.K J f)
def DWJ (X : Cx) (J : JT) (e : Expr) (f : DTT) : Prop := PW X e (tTJ X.K J f)
section
variable {X : Cx} {J : JT} {e a b : Expr} {rest : List Expr} {fe : DTE} {ta tb : DTT} {pos : Pos} {A B : List Stmt} {f g : DTS}
theorem PT.imp {t t' : TT} (p : PT X e t) (h : ∀ σ H Q, t' σ H Q → t σ H Q) : PT X e t' := ⟨fun pins s σ H Q I z => p.run pins s σ H Q I (h _ _ _ z)⟩
theorem PW.imp {t t' : TT} (p : PW X e t) (h : ∀ σ H Q, t' σ H Q → t σ H Q) : PW X e t' := ⟨fun wh pins s σ H Q I z => p.run wh pins s σ H Q I (h _ _ _ z)⟩
theorem dtj_of (h : DT X e ta) : DTJ X J e ta := let ⟨_, p, q⟩ := h; PT.imp p fun σ H Q ⟨G, μ, F, S, ρ, Qd, _, I, R, z, k⟩ => q G μ F S H σ ρ Qd Q I R z k
theorem dtj_val (he : DEJ X J e fe) (hi : ∀ whole, isTrue e X.env whole = (do let v ← whole; standAt e.pos; holding [v] (truthy v)) := by intro _; rfl) : DTJ X J e (dTest fe) :=
  PT.imp (pt_val he hi) fun σ H Q ⟨G, μ, F, S, ρ, Qd, j, I, R, z, k⟩ => ⟨G, μ, F, S, ρ, _, j, I, R, z, fun μ' F' S' H' v w x I' r ⟨b, e, q⟩ => ⟨b, of_bl (e ▸ r), k _ _ _ _ _ x I' q⟩⟩
theorem dtj_not (h : DTJ X J a ta) : DTJ X J (.UnaryOp .Not a pos) (dNot ta) :=
  PT.imp (pt_not h) fun σ H Q ⟨G, μ, F, S, ρ, Qd, j, I, R, z, k⟩ => ⟨G, μ, F, S, ρ, _, j, I, R, z, fun μ' F' S' H' b x I' q => k _ _ _ _ _ x I' q⟩
theorem dtj_w (h : DWJ X J e ta) : DTJ X J e ta := PW.pt h
theorem dwj_or1 (h : DTJ X J a ta) : DWJ X J (.BoolOp .Or [a] pos) ta := pw_or1 h
theorem dwj_or (hm : JM J) (h : DTJ X J a ta) (h' : DWJ X J (.BoolOp .Or (b :: rest) pos) tb) : DWJ X J (.BoolOp .Or (a :: b :: rest) pos) (dOr ta tb) :=
  PW.imp (pw_or h h') fun σ H Q ⟨G, μ, F, S, ρ, Qd, j, I, R, z, k⟩ => ⟨G, μ, F, S, ρ, _, j, I, R, z, fun μ1 F1 S1 H1 bb e1 I1 z1 => by
    cases bb with
    | true => exact k _ _ _ _ _ e1 I1 z1
    | false => exact ⟨G, μ1, F1, S1, ρ, _, hm _ _ _ _ _ j e1, I1, R.mono e1, z1, fun μ2 F2 S2 H2 b2 e2 I2 z2 => k _ _ _ _ _ (e1.trans e2) I2 z2⟩⟩
theorem dwj_and1 (h : DTJ X J a ta) : DWJ X J (.BoolOp .And [a] pos) ta := pw_and1 h
theorem dwj_and (hm : JM J) (h : DTJ X J a ta) (h' : DWJ X J (.BoolOp .And (b :: rest) pos) tb) : DWJ X J (.BoolOp .And (a :: b :: rest) pos) (dAnd ta tb) :=
  PW.imp (pw_and h h') fun σ H Q ⟨G, μ, F, S, ρ, Qd, j, I, R, z, k⟩ => ⟨G, μ, F, S, ρ, _, j, I, R, z, fun μ1 F1 S1 H1 bb e1 I1 z1 => by
    cases bb with
    | true => exact ⟨G, μ1, F1, S1, ρ, _, hm _ _ _ _ _ j e1, I1, R.mono e1, z1, fun μ2 F2 S2 H2 b2 e2 I2 z2 => k _ _ _ _ _ (e1.trans e2) I2 z2⟩
    | false => exact k _ _ _ _ _ e1 I1 z1⟩
theorem dsj_ifJ (hm : JM J) (hc : DTJ X J e ta) (ha : DSsJ X J A f) (hb : DSsJ X J B g) : DSJ X J (.If e A B pos) (dIfS ta f g) :=
  PS.imp (ps_if hc ha hb) fun D σ H ⟨G, μ, F, S, ρ, Dd, j, I, R, z, k⟩ => ⟨G, μ, F, S, ρ, _, j, I, R, z, fun μ1 F1 S1 H1 bb e1 I1 z1 => by
    cases bb with
    | true => exact ⟨G, μ1, F1, S1, ρ, _, hm _ _ _ _ _ j e1, I1, R.mono e1, z1, k.mono e1⟩
    | false => exact ⟨G, μ1, F1, S1, ρ, _, hm _ _ _ _ _ j e1, I1, R.mono e1, z1, k.mono e1⟩⟩
end
def rIsX (K : PySem.W.Frag) (D a : Addr) (d : Option Addr) : List V → Hp → VK → Prop := fun xs H Q => ExcC K D ∧ (∀ dd, d = some dd → ∃ o, H dd = some o) ∧
  ((∃ (c : V) (cv : Value) (b : Bool), xs = [.ref a, c] ∧ (∀ u, RelV c u → u = cv) ∧ PySem.W.kitOne K (.ref D) cv = some b ∧ Q (.bl b) H) ∨
    ∃ (p : Addr) (cs : List V) (cvs : List Value) (b : Bool), xs = [.ref a, .ref p] ∧ H p = some (.tup cs) ∧ (∀ us, Vals cs us → us = cvs) ∧ PySem.W.kitAny K (.ref D) cvs = some b ∧ Q (.bl b) H)
theorem call_isX {X : Cx} {a D : Addr} {d : Option Addr} {oe : Obj} {pn : List (Addr × Obj)} (hz : Zc (.ref D) d oe) (hf : ∃ vs, oe.data = .fields vs) : CallR (X.suite a ((a, oe) :: pn)) (.builtin "isinstance") (rIsX X.K D a d) := by
  intro pins s σ H xs us Q I r ⟨C, hd, h⟩
  obtain ⟨hget, _⟩ := I.pin (a, oe) (List.mem_append.mpr (.inl List.mem_cons_self))
  obtain ⟨vs, hv⟩ := hf
  have J : ∃ od, PySem.W.InstAt s.heap a oe D od := by
    cases hdd : d with
    | none => exact ⟨none, hget, hz.1, by unfold PySem.W.notCls; rw [hv] <;> rfl, by rw [hz.2, hdd]; trivial⟩
    | some dd =>
      obtain ⟨o, ho⟩ := hd dd hdd
      obtain ⟨u, hu⟩ := objOk_get (I.hok dd o ho)
      exact ⟨some u, hget, hz.1, by unfold PySem.W.notCls; rw [hv] <;> rfl, by rw [hz.2, hdd]; exact hu⟩
  obtain ⟨od, J⟩ := J
  have hcl : (PySem.W.clsIn X.K D).isSome = true := by
    obtain ⟨cd, hc, _⟩ := PySem.W.any_some C.hd
    rw [hc]; rfl
  rcases h with ⟨c, cv, b, rfl, hcv, e, q⟩ | ⟨p, cs, cvs, b, rfl, hp, hcs, e, q⟩
  · cases r with
    | cons rx rr =>
      cases rr with
      | cons rt rr =>
        cases rr
        cases rx
        have ec := hcv _ rt
        subst ec
        exact PySem.W.kia_one (PySem.W.kitx_exc hcl C.hg C.hk C.hs C.ha C.hn C.ht C.hm) I.kIn J e (fun z => nomatch z) fun tk => ⟨.bl b, H, I.kept (t' := tk) fun _ _ z => z, rfl, q⟩
  · cases r with
    | cons rx rr =>
      cases rr with
      | cons rt rr =>
        cases rr
        cases rx
        cases rt
        have hok : ObjOk X.prog X.w H s.heap p (.tup cs) := I.hok p _ hp
        obtain ⟨_, its, r2, o, ho, hc, n, hdat⟩ := hok
        have ei := hcs _ r2
        subst ei
        obtain ⟨oc, odd, odt, osl⟩ := o
        dsimp only at hc hdat
        subst hc hdat
        exact PySem.W.kia_tup (PySem.W.kitx_exc hcl C.hg C.hk C.hs C.ha C.hn C.ht C.hm) I.kIn J ho e (fun z => nomatch z) fun tk => ⟨.bl b, H, I.kept (t' := tk) fun _ _ z => z, rfl, q⟩
def isAny (isF : Addr → V → Bool → Prop) (C : Addr) (ts : List V) (b : Bool) : Prop := ∃ bs : List Bool, Paired (isF C) ts bs ∧ b = bs.any id
/-- isinstance(e, c), isinstance(e, (c, ..)), e the exception: P its classes, isF what the program's classes answer -/
def cIsE (a C : Addr) (P : Addr → Prop) (isF : Addr → V → Bool → Prop) : DRC := fun ws S Q => P C ∧
  ((∃ t b, ws = [.v (.ref a), .v t] ∧ isF C t b ∧ Q (.d (.bool b)) S) ∨ ∃ k ts b, ws = [.v (.ref a), .o k] ∧ S[k]? = some (.tup (ts.map Wv.v)) ∧ isAny isF C ts b ∧ Q (.d (.bool b)) S)
theorem any_kit {K : PySem.W.Frag} {isF : Addr → V → Bool → Prop} {C : Addr} (hF : ∀ t b, isF C t b → ∃ cv, (∀ u, RelV t u → u = cv) ∧ PySem.W.kitOne K (.ref C) cv = some b) : ∀ {ts : List V} {bs : List Bool}, Paired (isF C) ts bs → ∃ cvs, (∀ us, Vals ts us → us = cvs) ∧ PySem.W.kitAny K (.ref C) cvs = some (bs.any id)
  | _, _, .nil => ⟨[], fun us r => (by cases r; rfl), rfl⟩
  | t :: ts, b :: bs, .cons h r => by
    obtain ⟨cv, h1, h2⟩ := hF t b h
    obtain ⟨cvs, h3, h4⟩ := any_kit hF r
    refine ⟨cv :: cvs, fun us r => ?_, ?_⟩
    · cases r with
      | cons a b => rw [h1 _ a, h3 _ b]
    · unfold PySem.W.kitAny
      rw [h2]
      cases b with
      | true => rfl
      | false => exact h4
theorem rws_v {K : PySem.W.Frag} {F : Hp} {μ : List Addr} : ∀ {xs ts : List V}, RWs K F μ xs (ts.map Wv.v) → xs = ts
  | [], [], _ => rfl
  | _ :: _, [], r => by cases r
  | [], _ :: _, r => by cases r
  | x :: xs, t :: ts, r => by
    cases r with
    | cons a b => cases a; rw [rws_v b]
theorem dej_isE {X : Cx} {a C : Addr} {P : Addr → Prop} {isF : Addr → V → Bool → Prop} {d : Option Addr} {fo : Option (List (Str × Wv))} {oe : Obj} {pn : List (Addr × Obj)} {e : Expr} {es : List Expr} {fa : DTA} {p pos : Pos}
    (hP : ∀ C, P C → ExcC X.K C) (hF : ∀ C t b, isF C t b → ∃ cv, (∀ u, RelV t u → u = cv) ∧ PySem.W.kitOne X.K (.ref C) cv = some b) (hz : Zc (.ref C) d oe) (hf : ∃ vs, oe.data = .fields vs)
    (hg : Gl (X.suite a ((a, oe) :: pn)) "isinstance") (hm : X.mg "isinstance" = none) (ha : DA (X.suite a ((a, oe) :: pn)) (e :: es) fa)
    (hv : bootBuiltins "isinstance" = some (.builtin "isinstance") := by decide +kernel) (he : starEach (e :: es) X.env = (false, eval e X.env) :: starEach es X.env := by rfl) (hpl : (backTo pos (starEach es X.env)).any (·.1) = false := by rfl) :
    DEJ (X.suite a ((a, oe) :: pn)) (JU X.K d fo) (.Call (.Name "isinstance" p) (e :: es) [] pos) (dCB (cIsE a C P isF) fa) := by
  obtain ⟨_, a1, a2⟩ := ha
  refine PE.imp (pe_callB (X := X.suite a ((a, oe) :: pn)) (call_isX (d := d) hz hf) hg hm hv a1 (by decide) (by decide) he hpl) ?_
  rintro σ H Q ⟨G, μ, F, S, ρ, Qd, j, I, R, z, k⟩
  refine a2 G μ F S H σ ρ _ _ I R z ?_
  rintro μ1 F1 S1 H1 vs ws e1 I1 r1 ⟨hPC, z1⟩
  refine ⟨hP C hPC, ?_, ?_⟩
  · intro dd hdd
    rcases j with ⟨h, _⟩ | ⟨dd', ys, fs', G0, h, _, rfl, _⟩
    · rw [h] at hdd; cases hdd
    · rw [h] at hdd; cases hdd
      exact ⟨_, (I1.gh dd _ upd_same).1⟩
  · rcases z1 with ⟨t, b, rfl, hb, q⟩ | ⟨q0, ts, b, rfl, hS, ⟨bs, hbs, rfl⟩, q⟩
    · cases r1 with
      | cons ra r1 =>
        cases r1 with
        | cons rb r1 =>
          cases r1
          cases ra
          cases rb
          obtain ⟨cv, h1, h2⟩ := hF C t b hb
          exact .inl ⟨t, cv, b, rfl, h1, h2, (k.mono e1).bl I1 q⟩
    · cases r1 with
      | cons ra r1 =>
        cases r1 with
        | cons rb r1 =>
          cases r1
          cases ra
          cases rb with
          | o hq =>
            obtain ⟨⟨xs, hx, rxs⟩, _⟩ := I1.cell _ _ _ hq hS
            obtain rfl := rws_v rxs
            obtain ⟨cvs, h1, h2⟩ := any_kit (fun t b => hF C t b) hbs
            exact .inr ⟨_, xs, cvs, _, rfl, hx, h1, h2, (k.mono e1).bl I1 q⟩
theorem kit_of {K : PySem.W.Frag} {A B : Addr} {b : Bool} (hd : PySem.W.hasDictIn K B = true) (ht : PySem.W.typeIn K (.ref B) = some (.type "type")) (hs : PySem.W.subIn K (.ref A) (.ref A) = some true) (h : PySem.W.subIn K (.ref A) (.ref B) = some b) : PySem.W.kitOne K (.ref A) (.ref B) = some b := by
  unfold PySem.W.kitOne
  by_cases e : A = B
  · subst e
    rw [hs] at h
    cases h
    rw [if_pos (by simp)]
  · rw [if_neg (by simpa using e)]
    obtain ⟨cd, hc, _⟩ := PySem.W.any_some hd
    unfold PySem.W.kitCls
    dsimp only
    rw [hc, ht]
    exact (if_pos (by rfl)).trans h
theorem kit_ty {K : PySem.W.Frag} {A : Addr} {T : String} {b : Bool} (h : PySem.W.subIn K (.ref A) (.type T) = some b) (hm : PySem.W.kitMeta T = true := by decide +kernel) : PySem.W.kitOne K (.ref A) (.type T) = some b := by
  unfold PySem.W.kitOne
  rw [if_neg (by simp)]
  unfold PySem.W.kitCls
  dsimp only
  rw [if_pos hm]
  exact h

end Dm
end
section
open PySem L2 Dm PyProof.Rows

namespace Dm
/-! ### xs.insert(i, y), i not below 0 -/
section
variable {X : Cx}
def mInsert : DRM := fun w ws S Q => ∃ k l i y, w = .o k ∧ ws = [.d (.int i), y] ∧ S[k]? = some (.lst l) ∧ l.length < sizeLine ∧ 0 ≤ i ∧ i < 2 ^ 63 ∧ Q (.d .none) (S.set k (.lst (l.take i.toNat ++ [y] ++ l.drop i.toNat)))
theorem rws_take {K : PySem.W.Frag} {F : Hp} {μ : List Addr} {xs : List V} {ws : List Wv} (r : RWs K F μ xs ws) (n : Nat) : RWs K F μ (xs.take n) (ws.take n) := by
  induction r generalizing n with
  | nil => rw [show ([] : List V).take n = [] by simp, show ([] : List Wv).take n = [] by simp]; exact .nil
  | cons a _ ih => cases n with
    | zero => exact .nil
    | succ n => exact .cons a (ih n)
theorem rws_drop {K : PySem.W.Frag} {F : Hp} {μ : List Addr} {xs : List V} {ws : List Wv} (r : RWs K F μ xs ws) (n : Nat) : RWs K F μ (xs.drop n) (ws.drop n) := by
  induction r generalizing n with
  | nil => rw [show ([] : List V).drop n = [] by simp, show ([] : List Wv).drop n = [] by simp]; exact .nil
  | cons a r ih => cases n with
    | zero => exact .cons a r
    | succ n => exact ih n
theorem dm_insert : DMtR X "list.insert" mInsert := by
  refine ⟨_, mt_insert, ?_⟩
  rintro G μ F S H v w vs ws Qd Q I r rs ⟨k', l, i, y, rfl, rfl, hS, hl, h0, h1, q⟩ k
  obtain ⟨a, rfl, hk, ⟨xs, ea, rx⟩, _⟩ := I.ref r hS
  cases rs with
  | cons ri rs =>
    obtain rfl := of_int ri
    obtain ⟨u, rfl, ru⟩ := rws1 rs
    refine ⟨a, xs, i, u, rfl, rfl, ea, by rw [rx.length]; exact hl, h0, h1, ?_⟩
    exact k.non (I.put (u := .lst (l.take i.toNat ++ [y] ++ l.drop i.toNat)) hk hS (fun z => nomatch z) fun H2 z => ⟨_, z, paired_append (paired_append (rws_take rx _) (.cons ru .nil)) (rws_drop rx _)⟩) q
end
section
variable {S : Sto} {Q : Wv → Sto → Prop} {k : Nat} {ws : List Wv} {y : Wv} {i : Int}
theorem st_insert (hS : S[k]? = some (.lst ws)) (hl : ws.length < 100000) (h0 : 0 ≤ i) (h1 : i < 100000) (h : Q (.d .none) (S.set k (.lst (ws.take i.toNat ++ [y] ++ ws.drop i.toNat)))) : mInsert (.o k) [.d (.int i), y] S Q :=
  ⟨k, ws, i, y, rfl, rfl, hS, lt_line hl, h0, by omega, h⟩
end

end Dm
end
section
open PySem L2 Dm PyProof.Rows

namespace Dm
/-! ### raising calls by name, raising constructors, loops with raises -/
def dCallX (g : DSpE) (fa : DTA) (Ed : Rho → DXK) : DTE := fun ρ S Q => fa ρ S fun ws S1 => g ws S1 Q (Ed ρ)
def dMakeX (C : Addr) (g : DSpE) (fa : DTA) (Ed : Rho → DXK) : DTE := fun ρ S Q => fa ρ S fun ws S1 => g (.o S1.length :: ws) (S1 ++ [.ins C []]) (fun w S2 => w = .d .none ∧ Q (.o S1.length) S2) (Ed ρ)
section
variable {X : Cx} {W : WX} {Ed : Rho → DXK} {e : Expr} {es : List Expr} {x : Str} {C f : Addr} {fd : FuncData} {k : Nat} {p pos : Pos} {fa : DTA} {g : DSpE} {ps : List Str}
theorem dej_call (tk : Takes X W) (F : FnE X.prog X.w X.K X.mg X.base k f fd ps g) (hr : RG k X.A) (hg : Gl X x) (hm : X.mg x = some (.ref f)) (hk : PySem.W.keepIn X.K (.ref f) = true) (hb : Binds X.K fd ps []) (ha : DA X (e :: es) fa)
    (hdb : (x == ("__debug__" : Str)) = false := by decide) (he : starEach (e :: es) X.env = (false, eval e X.env) :: starEach es X.env := by rfl) (hpl : (backTo pos (starEach es X.env)).any (·.1) = false := by rfl) :
    DEJ X (JX X.K W Ed) (.Call (.Name x p) (e :: es) [] pos) (dCallX g fa Ed) := by
  obtain ⟨_, a1, a2⟩ := ha
  refine ⟨fun pins s σ H Q I h => ?_⟩
  obtain ⟨G, μ, F0, S, ρ, Qd, j, J, R, z, kk⟩ := h
  refine wpAny_Call_Name_kw (ld_glob I hg hm (PySem.W.callWith_K (h₀ := X.base) I.ok.mod.kin hk (thn (a1.run pos pins s σ H _ I (a2 G μ F0 S H σ ρ _ (fun vs H' => ∃ μ2 F2 S2 ws, Ext μ F0 μ2 F2 ∧ SI X.K G μ2 S2 F2 H' ∧ RWs X.K F2 μ2 vs ws ∧ g ws S2 Qd (Ed ρ)) J R z fun μ2 F2 S2 H2 vs ws e2 I2 r2 z2 => ⟨μ2, F2, S2, ws, e2, I2, r2, z2⟩)) ?_) he hpl) hdb)
  rintro us s1 ⟨vs, H1, I1, r, μ2, F2, S2, ws, e2, J2, rw2, z2⟩
  exact ⟨I1.kIn, runGS F.fn hr hb (passAt tk σ) I1 r ⟨G, μ2, F2, S2, ws, Qd, Ed ρ, J2, rw2, z2, kk.mono e2, j σ ρ μ2 F2 e2 (R.mono e2)⟩⟩
theorem makeGS {sp : Sp} {E : XK} {σ : L2.St} {pins : List (Addr × Obj)} {H : Hp} {s : Shared} {Q : VK} {us : List Value} {vs : List V} {CX : CXT} (M : Mk X.K C f) (F : FnG X.prog X.w X.K X.mg X.base CX k f fd ps sp) (hr : RG (k + 1) X.A) (hb : Binds X.K fd ps []) (hx : PassesAt CX X σ E) (I : Inv X pins σ H s) (r : Vals vs us)
    (h : ∀ x dx, H x = none → H dx = none → dx ≠ x → sp (.ref x :: vs) (upd (upd H dx (.own x)) x (.ins C dx [])) (fun v H2 => v = .non ∧ Q (.ref x) H2) E) :
    wpAny (model X.prog X.w) X.A (call (.ref C) us) (EP X pins σ Q) X.xe s := by
  have n0 := I.hok.fresh (Nat.le_refl s.heap.objs.size)
  have n1 := I.hok.fresh (Nat.le_succ s.heap.objs.size)
  have hq := h _ _ n1 n0 (Nat.ne_of_lt (Nat.lt_succ_self _))
  have I2 := Inv.made (C := C) I
  have r2 : Vals (V.ref (s.heap.objs.size + 1) :: vs) (Value.ref (s.heap.objs.size + 1) :: us) := .cons rfl r
  have hl := r2.length.symm.trans (F.len _ _ _ _ hq)
  have b := hb _ (Value.ref (s.heap.objs.size + 1) :: us) I2.kIn (by rw [List.append_nil]; exact hl)
  rw [List.append_nil] at b
  have go := F.run _ X.stack _ _ ⟨Value.ref (s.heap.objs.size + 1) :: us, []⟩ _ _ _ E (hr.make C us []) (I2.env0.make C us []) b r2 hq
  refine wpAny_call (make_map (f := f) I.kIn M.makes M.init (beq_iff_eq.mp M.fn) (of_result go I2 (fun ev s' q => hx pins _ _ ev s' I2 q) ?_))
  rintro u s' ⟨v, H', I3, rv, rfl, q3⟩
  exact ⟨rv, ⟨V.ref (s.heap.objs.size + 1), H', I3, rfl, q3⟩⟩
theorem dej_make (tk : Takes X W) (M : Mk X.K C f) (F : FnE X.prog X.w X.K X.mg X.base k f fd ps g) (hr : RG (k + 1) X.A) (hg : Gl X x) (hm : X.mg x = some (.ref C)) (hb : Binds X.K fd ps []) (ha : DA X (e :: es) fa)
    (hdb : (x == ("__debug__" : Str)) = false := by decide) (he : starEach (e :: es) X.env = (false, eval e X.env) :: starEach es X.env := by rfl) (hpl : (backTo pos (starEach es X.env)).any (·.1) = false := by rfl) :
    DEJ X (JX X.K W Ed) (.Call (.Name x p) (e :: es) [] pos) (dMakeX C g fa Ed) := by
  obtain ⟨_, a1, a2⟩ := ha
  refine ⟨fun pins s σ H Q I h => ?_⟩
  obtain ⟨G, μ, F0, S, ρ, Qd, j, J, R, z, kk⟩ := h
  refine wpAny_Call_Name_kw (ld_glob I hg hm (PySem.W.callWith_K (h₀ := X.base) I.ok.mod.kin M.kp (thn (a1.run pos pins s σ H _ I (a2 G μ F0 S H σ ρ _ (fun vs H' => ∃ μ2 F2 S2 ws, Ext μ F0 μ2 F2 ∧ SI X.K G μ2 S2 F2 H' ∧ RWs X.K F2 μ2 vs ws ∧ g (.o S2.length :: ws) (S2 ++ [.ins C []]) (fun w S3 => w = .d .none ∧ Qd (.o S2.length) S3) (Ed ρ)) J R z fun μ2 F2 S2 H2 vs ws e2 I2 r2 z2 => ⟨μ2, F2, S2, ws, e2, I2, r2, z2⟩)) ?_) he hpl) hdb)
  rintro us s1 ⟨vs, H1, I1, r, μ1, F1, S1, ws, e1, J1, r1, z1⟩
  refine ⟨I1.kIn, makeGS M F.fn hr hb (passAt tk σ) I1 r fun y dx hy hdy hne => ?_⟩
  have I2 := J1.junk (o := .own y) hdy
  have hx2 : upd H1 dx (.own y) y = none := by rw [upd_ne (Ne.symm hne)]; exact hy
  obtain ⟨I3, e3⟩ := I2.own (o := .ins C dx []) (u := .ins C []) hx2 fun H2 q => ⟨dx, [], q, .nil⟩
  have hget : (μ1 ++ [y])[S1.length]? = some y := by rw [← J1.len]; simp
  refine ⟨G, μ1 ++ [y], F1, _, _, fun w S2 => w = .d .none ∧ Qd (.o S1.length) S2, Ed ρ, I3, .cons (.o hget) (r1.mono e3), z1, ?_, j σ ρ _ _ (e1.trans e3) (R.mono (e1.trans e3))⟩
  rintro μ' F' S' H' v w e4 I4 r4 ⟨rfl, q⟩
  exact ⟨of_non r4, kk μ' F' S' H' _ _ ((e1.trans e3).trans e4) I4 (.o (pre_get e4.pre hget)) q⟩
end
section
variable {X : Cx} {J : JT} {fb : DTS} {pos : Pos}
theorem dsj_for {tg iter : Expr} {body : List Stmt} {src : DTI} {vs : List Nat} {ftg : DTG} (hm : JM J) (hp : PassesOwn (model X.prog X.w) X.A X.env X.xe) (hc : X.calm = true) (hi : DI X tg iter src) (hg : DG X tg vs ftg) (hb : DSsJ X J body fb)
    (hs : ∀ x, foldedSetIterable iter X.env x = pure x := by intro _; rfl) : DSJ X J (.For tg iter body [] pos) (dFor src ftg fb) := by
  obtain ⟨_, i1, i2⟩ := hi
  obtain ⟨_, g1, g2⟩ := hg
  refine PS.imp (ps_for hp hc i1 g1 hb hs) ?_
  rintro D σ H ⟨G, μ, F, S, ρ, Dd, j, I, R, z, k⟩
  refine i2 G μ F S H σ ρ _ _ I R z ?_
  rintro μ1 F1 S1 H1 Jt items keep e1 I1 ok ⟨Wd, w0, hk, step, done⟩
  refine ⟨fun i m σ' H' => ∃ μ' F' S' ρ', Ext μ1 F1 μ' F' ∧ SI X.K G μ' S' F' H' ∧ ER X.K F' μ' σ' ρ' ∧ Wd (items.drop i) ρ' S' ∧ i ≤ items.length ∧ m = items.length - i, ⟨items.length, μ1, F1, S1, ρ, Ext.refl, I1, R.mono e1, w0, Nat.zero_le _, rfl⟩, ?_⟩
  rintro i m σ' H' ⟨μ', F', S', ρ', e2, I2, R2, wd, hle, rfl⟩
  by_cases hi : i < items.length
  · refine .inr ?_
    have okk := (ok G i μ' F' S' H' e2 I2 (hk _ _ _ wd)).1 hi
    refine ⟨okk.1, fun σ3 H3 => ∃ μ3 F3 S3 ρ3, Ext μ1 F1 μ3 F3 ∧ SI X.K G μ3 S3 F3 H3 ∧ ER X.K F3 μ3 σ3 ρ3 ∧ Wd (items.drop (i + 1)) ρ3 S3, ?_, ?_⟩
    · rintro σ3 H3 ⟨μ3, F3, S3, ρ3, a, b, c, d⟩
      exact ⟨items.length - (i + 1), by omega, μ3, F3, S3, ρ3, a, b, c, d, by omega, rfl⟩
    · intro x H2 hy
      obtain ⟨F3, w, e3, I3, hw, rw'⟩ := okk.2 x H2 hy
      rw [drop_cons hw] at wd
      refine g2 G μ' F3 S' H2 σ' ρ' x w _ _ I3 (R2.mono e3) rw' (step _ _ _ _ wd) ?_
      intro μ4 F4 S4 H4 σ4 ρ4 e4 I4 R4 _ z4
      have e14 := (e2.trans e3).trans e4
      have k4 := k.mono (e1.trans e14)
      exact ⟨G, μ4, F4, S4, ρ4, _, hm _ _ _ _ _ j (e1.trans e14), I4, R4, z4, ⟨fun μ5 F5 S5 H5 σ5 ρ5 e5 I5 R5 z5 => ⟨μ5, F5, S5, ρ5, e14.trans e5, I5, R5, z5⟩, k4.rt, k4.nx, fun μ5 F5 S5 H5 σ5 ρ5 e5 I5 R5 z5 => ⟨μ5, F5, S5, ρ5, e14.trans e5, I5, R5, z5⟩⟩⟩
  · have hi' : i = items.length := by omega
    subst hi'
    rw [List.drop_length] at wd
    exact .inl ⟨(ok G _ μ' F' S' H' e2 I2 (hk _ _ _ (by rw [← List.drop_length (l := items)] at wd; exact wd))).2 (Nat.le_refl _), k.nx _ _ _ _ _ _ (e1.trans e2) I2 R2 (done _ _ wd)⟩
end

end Dm
end
section
open PySem L2 Dm PyProof.Rows

namespace Dm
/-! ### classes of exceptions without an __init__ of their own; except without a name -/
structure XnC (K : PySem.W.Frag) (C : Addr) : Prop where
  ex : PySem.W.excIn K C [.type "ValueError", .type "Exception", .type "BaseException", .type "object"] "ValueError.__new__" = true
  kp : PySem.W.keepIn K (.ref C) = true
  sub : PySem.W.subIn K (.ref C) (.type "BaseException") = some true
  ty : PySem.W.typeIn K (.ref C) = some (.type "type")
def dRaiseN (C : Addr) (Ed : Rho → DXK) : DTS := fun _ ρ S => Ed ρ C none S
theorem dsj_raiseN {X : Cx} {W : WX} {Ed : Rho → DXK} {x m : Str} {jj : Nat} {C : Addr} {p p2 pos p3 : Pos} (hc : X.calm = true) (tk : Takes X W) (T : XnC X.K C) (hg : Gl X x) (hm : X.mg x = some (.ref C))
    (hdb : (x == ("__debug__" : Str)) = false := by decide) : DSJ X (JX X.K W Ed) (.Raise (some (.Call (.Name x p) [.Constant (.str m) jj p2] [] pos)) none p3) (dRaiseN C Ed) := by
  refine PS.imp (ps_raise hc tk (pmk_own PySem.F.excBase_ValueError T.ex hm T.kp (raises_own T.sub T.ty) hg hdb)) ?_
  rintro D σ H ⟨G, μ, F, S, ρ, Dd, j, I, R, z, kk⟩
  exact (j σ ρ μ F Ext.refl R).non μ F S H C Ext.refl I z
/-- try: fb / except c: fsu; sub: the classes that it catches -/
def dTryO (sub : Addr → Prop) (fb : (Rho → DXK) → DTS) (fsu : DTS) : DTS := fun D ρ S => fb (fun ρ1 C _ S1 => sub C ∧ fsu D ρ1 S1) D ρ S
theorem ds_tryO {X : Cx} {x : Str} {c : Value} {sub : Addr → Prop} {body suite : List Stmt} {b₀ : Stmt} {np pos pos' : Pos} {fb : (Rho → DXK) → DTS} {fsu : DTS}
    (hc : Names X x c) (hsub : ∀ C, sub C → PySem.W.exmOne X.K (.ref C) c = some true)
    (hb : ∀ (W : WX) (Ed : Rho → DXK) (pn : List (Addr × Obj)) (xe : Value → Shared → Prop), Takes (X.tr pn xe) W → PassesOwn (model X.prog X.w) X.A X.env xe → DSsJ (X.tr pn xe) (JX X.K W Ed) body (fb Ed))
    (hsu : ∀ (a : Addr) (oe : Obj) (d : Option Addr) (fo : Option (List (Str × Wv))) (pn : List (Addr × Obj)), DSsJ (X.suite a ((a, oe) :: pn)) (JU X.K d fo) (b₀ :: suite) fsu)
    (hs : X.stack = X.env :: X.outer := by rfl) (hf : X.env.frame = some X.env.locals := by rfl) :
    DS X (.Try body [.ExceptHandler (some (.Name x np)) none (b₀ :: suite) pos'] [] [] pos) (dTryO sub fb fsu) := by
  refine ⟨_, ps_try_only (Wout := fun _ _ _ _ => False) (tb := fun W D σ H => ∃ Ed, tSJ X.K (JX X.K W Ed) (fb Ed) D σ H) (ts := fun _ cls d D σ H => ∃ fo, tSJ X.K (JU X.K d fo) fsu D σ H) hs hf hc takes_none5 ?_ ?_, ?_⟩
  · intro W pn xe tk po
    exact ⟨fun pins s σ H D I ⟨Ed, h⟩ => (hb W Ed pn xe tk po).run pins s σ H D I h⟩
  · intro a oe cls d pn hz hfl
    refine ⟨fun pins s σ H D I h => ?_⟩
    obtain ⟨fo, h⟩ := h
    exact (hsu a oe d fo pn).run pins s σ H D I h
  · intro G μ F S H σ ρ Dd D I R z k
    refine ⟨_, G, μ, F, S, ρ, Dd, ?_, I, R, z, k⟩
    intro σ1 ρ1 μ1 F1 e1 R1
    refine ⟨?_, ?_⟩
    · intro μ2 F2 S2 H2 C d ys fs e2 I2 hG r2 ⟨q1, q2⟩
      refine ⟨true, hsub C q1, fun _ a _ => ?_, fun q => by cases q⟩
      refine ⟨some fs, _, μ2, F2, S2, _, _, .inr ⟨d, ys, fs, G, rfl, rfl, rfl, r2⟩, I2, R1.mono e2, q2, ⟨?_, ?_, ?_, ?_⟩⟩
      · intro μ3 F3 S3 H3 σ3 ρ3 e3 I3 R3 z3
        exact k.nx _ _ _ _ _ _ ((e1.trans e2).trans e3) (I3.forget hG) R3 z3
      · intro μ3 F3 S3 H3 v3 w3 e3 I3 R3 z3
        exact k.rt _ _ _ _ _ _ ((e1.trans e2).trans e3) (I3.forget hG) R3 z3
      · intro μ3 F3 S3 H3 σ3 ρ3 e3 I3 R3 z3
        exact k.bk _ _ _ _ _ _ ((e1.trans e2).trans e3) (I3.forget hG) R3 z3
      · intro μ3 F3 S3 H3 σ3 ρ3 e3 I3 R3 z3
        exact k.ct _ _ _ _ _ _ ((e1.trans e2).trans e3) (I3.forget hG) R3 z3
    · intro μ2 F2 S2 H2 C e2 I2 ⟨q1, q2⟩
      refine ⟨true, hsub C q1, fun _ a _ => ?_, fun q => by cases q⟩
      refine ⟨none, _, μ2, F2, S2, _, _, .inl ⟨rfl, rfl⟩, I2, R1.mono e2, q2, ⟨?_, ?_, ?_, ?_⟩⟩
      · intro μ3 F3 S3 H3 σ3 ρ3 e3 I3 R3 z3
        exact k.nx _ _ _ _ _ _ ((e1.trans e2).trans e3) I3 R3 z3
      · intro μ3 F3 S3 H3 v3 w3 e3 I3 R3 z3
        exact k.rt _ _ _ _ _ _ ((e1.trans e2).trans e3) I3 R3 z3
      · intro μ3 F3 S3 H3 σ3 ρ3 e3 I3 R3 z3
        exact k.bk _ _ _ _ _ _ ((e1.trans e2).trans e3) I3 R3 z3
      · intro μ3 F3 S3 H3 σ3 ρ3 e3 I3 R3 z3
        exact k.ct _ _ _ _ _ _ ((e1.trans e2).trans e3) I3 R3 z3

end Dm
end
section
open PySem L2 Dm PyProof.Rows

namespace Dm
/-! ### values beside a fact: calls of builtins, and, or, not -/
section
variable {X : Cx} {J : JT} {e a b : Expr} {es rest : List Expr} {fa fb : DTE} {fs : DTA} {pos p : Pos} {x : Str}
theorem dej_callB {id : String} {g : DRC} (hc : DCallR X (.builtin id) g) (hg : Gl X x) (hm : X.mg x = none) (hv : bootBuiltins x = some (.builtin id)) (ha : DAJ X J (e :: es) fs) (hn : x ≠ "__name__" := by decide) (hdb : (x == ("__debug__" : Str)) = false := by decide)
    (he : starEach (e :: es) X.env = (false, eval e X.env) :: starEach es X.env := by rfl) (hpl : (backTo pos (starEach es X.env)).any (·.1) = false := by rfl) : DEJ X J (.Call (.Name x p) (e :: es) [] pos) (dCB g fs) := by
  obtain ⟨_, c1, c2⟩ := hc
  exact PE.imp (pe_callB c1 hg hm hv ha hn hdb he hpl) fun σ H Q ⟨G, μ, F, S, ρ, Qd, j, I, R, z, k⟩ => ⟨G, μ, F, S, ρ, _, j, I, R, z, fun μ1 F1 S1 H1 vs ws e1 I1 r1 z1 => c2 G μ1 F1 S1 H1 vs ws Qd Q I1 r1 z1 (k.mono e1)⟩
theorem dej_bool1 {op : BoolOp} (h : DEJ X J a fa) : DEJ X J (.BoolOp op [a] pos) fa := PE.imp (pe_one h) fun _ _ _ z => z
theorem dej_and (hm : JM J) (h : DEJ X J a fa) (h' : DEJ X J (.BoolOp .And (b :: rest) pos) fb) : DEJ X J (.BoolOp .And (a :: b :: rest) pos) (dAndV fa fb) :=
  PE.imp (pe_and h h') fun σ H Q ⟨G, μ, F, S, ρ, Qd, j, I, R, z, k⟩ => ⟨G, μ, F, S, ρ, _, j, I, R, z, by
    rintro μ1 F1 S1 H1 v w e1 I1 r1 ⟨c, rfl, z1⟩
    refine ⟨c, of_bl r1, ?_⟩
    cases c with
    | true => exact ⟨G, μ1, F1, S1, ρ, Qd, hm _ _ _ _ _ j e1, I1, R.mono e1, z1, k.mono e1⟩
    | false => exact (k.mono e1).bl I1 z1⟩
theorem dej_or (hm : JM J) (h : DEJ X J a fa) (h' : DEJ X J (.BoolOp .Or (b :: rest) pos) fb) : DEJ X J (.BoolOp .Or (a :: b :: rest) pos) (dOrV fa fb) :=
  PE.imp (pe_or h h') fun σ H Q ⟨G, μ, F, S, ρ, Qd, j, I, R, z, k⟩ => ⟨G, μ, F, S, ρ, _, j, I, R, z, by
    rintro μ1 F1 S1 H1 v w e1 I1 r1 ⟨c, rfl, z1⟩
    refine ⟨c, of_bl r1, ?_⟩
    cases c with
    | true => exact (k.mono e1).bl I1 z1
    | false => exact ⟨G, μ1, F1, S1, ρ, Qd, hm _ _ _ _ _ j e1, I1, R.mono e1, z1, k.mono e1⟩⟩
theorem dej_not (h : DEJ X J a fa) : DEJ X J (.UnaryOp .Not a pos) (dNotV fa) :=
  PE.imp (pe_not h) fun σ H Q ⟨G, μ, F, S, ρ, Qd, j, I, R, z, k⟩ => ⟨G, μ, F, S, ρ, _, j, I, R, z, by
    rintro μ1 F1 S1 H1 v w e1 I1 r1 ⟨c, rfl, z1⟩
    exact ⟨c, of_bl r1, (k.mono e1).bl I1 z1⟩⟩
end

end Dm
end
section
open PySem L2 Dm PyProof.Rows

namespace Dm
/-! what is shown is text of code points -/
def Cp (x : Str) : Prop := ∀ c ∈ x.cps.toList, c < 0x110000
theorem cp_ok {x : Str} (h : Cp x) : PyData.strOk x = true := by
  unfold PyData.strOk
  rw [Array.all_eq_true_iff_forall_mem]
  exact fun c hc => decide_eq_true (h c (Array.mem_toList_iff.mpr hc))
theorem cp_of {x : Str} (h : PyData.strOk x = true) : Cp x := by
  unfold PyData.strOk at h
  rw [Array.all_eq_true_iff_forall_mem] at h
  exact fun c hc => of_decide_eq_true (h c (Array.mem_toList_iff.mp hc))
theorem char_lt (c : Char) : c.toNat < 0x110000 := by
  have h := c.valid
  rcases h with h | ⟨_, h⟩
  · show c.val.toNat < _; have : c.val.toNat < 0xd800 := h; omega
  · show c.val.toNat < _; exact h
theorem cp_lit (s : String) : Cp (Str.ofString s) := by
  rw [Str.ofString_eq_toList]
  intro c hc
  obtain ⟨z, _, rfl⟩ := List.mem_map.mp (show c ∈ s.toList.map Char.toNat from hc)
  exact char_lt z
theorem cp_app {a b : Str} (ha : Cp a) (hb : Cp b) : Cp (a ++ b) := by
  intro c hc
  have hc : c ∈ (a.cps ++ b.cps).toList := hc
  rw [Array.toList_append] at hc
  rcases List.mem_append.mp hc with h | h
  · exact ha c h
  · exact hb c h
theorem cp_join {s : Str} (hs : Cp s) : ∀ {ts : List Str}, (∀ t ∈ ts, Cp t) → Cp (Str.join s ts)
  | [], _ => by intro c hc; cases hc
  | [x], h => h x (by simp)
  | x :: y :: r, h => cp_app (cp_app (h x (by simp)) hs) (cp_join hs (ts := y :: r) fun t ht => h t (List.mem_cons_of_mem _ ht))
theorem cp_from : ∀ {ts : List Str} {k : Nat} {acc : Str}, Cp acc → (∀ t ∈ ts, Cp t) → Cp (textFrom k acc ts)
  | [], _, _, ha, _ => ha
  | t :: ts, k, acc, ha, h => by
    refine cp_from (ts := ts) (cp_app (cp_app ha ?_) (h t (by simp))) fun u hu => h u (List.mem_cons_of_mem _ hu)
    split
    · exact cp_lit _
    · exact cp_lit _
theorem cp_char {q c : Nat} (hc : c < 0x110000) : ∀ z ∈ Builtin.Str.reprChar q c, z < 0x110000 := by
  have hx : ∀ w, ∀ z ∈ (List.replicate (w - ((Nat.toDigits 16 c).map Char.toNat).length) 48 ++ (Nat.toDigits 16 c).map Char.toNat), z < 0x110000 := by
    intro w z hz
    rcases List.mem_append.mp hz with h | h
    · have := (List.mem_replicate.mp h).2; omega
    · obtain ⟨d, _, rfl⟩ := List.mem_map.mp h; exact char_lt d
  intro z hz
  unfold Builtin.Str.reprChar at hz
  dsimp only at hz
  split at hz
  · simp at hz; omega
  · split at hz
    · simp at hz; omega
    · split at hz
      · simp at hz; omega
      · split at hz
        · simp at hz; omega
        · split at hz
          · simp at hz; omega
          · split at hz
            · rcases List.mem_append.mp hz with h | h
              · simp at h; omega
              · exact hx _ z h
            · split at hz
              · rcases List.mem_append.mp hz with h | h
                · simp at h; omega
                · exact hx _ z h
              · rcases List.mem_append.mp hz with h | h
                · simp at h; omega
                · exact hx _ z h
theorem cp_fold {q : Nat} : ∀ {l : List Nat} {acc : Array Nat}, (∀ c ∈ acc.toList, c < 0x110000) → (∀ c ∈ l, c < 0x110000) → ∀ c ∈ (l.foldl (fun out c => out ++ (Builtin.Str.reprChar q c).toArray) acc).toList, c < 0x110000
  | [], _, ha, _ => ha
  | d :: l, acc, ha, hl => by
    refine cp_fold (l := l) (fun c hc => ?_) fun c hc => hl c (List.mem_cons_of_mem _ hc)
    rw [Array.toList_append] at hc
    rcases List.mem_append.mp hc with h | h
    · exact ha c h
    · exact cp_char (hl d (by simp)) c h
theorem cp_repr {x : Str} (h : Cp x) : Cp (reprText x) := by
  have hq : reprQuote x < 0x110000 := by unfold reprQuote; split <;> decide
  intro c hc
  unfold reprText at hc
  rw [Array.toList_push, ← Array.foldl_toList] at hc
  rcases List.mem_append.mp hc with h2 | h2
  · exact cp_fold (fun c hc => by simp at hc; omega) h c h2
  · simp at h2; omega
mutual
theorem cp_shown : ∀ (n : Nat) (d : PyData), okD n d = true → Cp d.shown
  | n, .none, _ => cp_lit "None"
  | n, .bool b, _ => by
    show Cp (if b then "True" else "False")
    split
    · exact cp_lit _
    · exact cp_lit _
  | n, .int i, _ => cp_lit (toString i)
  | n, .str x, h => cp_repr (cp_of (by simpa [okD] using h))
  | 0, .list xs, h => by simp [okD] at h
  | 0, .tuple xs, h => by simp [okD] at h
  | n + 1, .list xs, h => cp_app (cp_from (cp_lit "[") (cp_shownAll n xs (by simpa only [okD] using h))) (cp_lit "]")
  | n + 1, .tuple xs, h => by
    refine cp_app (cp_app (cp_lit "(") (cp_join (cp_lit ", ") (cp_shownAll n xs (by simpa only [okD] using h)))) ?_
    split
    · exact cp_lit _
    · exact cp_lit _
  | 0, .dict _, h => by simp [okD] at h
  | n + 1, .dict _, h => by simp [okD] at h
theorem cp_shownAll : ∀ (n : Nat) (xs : List PyData), okDs n xs = true → ∀ t ∈ PyData.shownAll xs, Cp t
  | _, [], _ => by intro t ht; cases ht
  | n, x :: xs, h => by
    have h' : okD n x = true ∧ okDs n xs = true := by simpa only [okDs, Bool.and_eq_true] using h
    intro t ht
    rcases List.mem_cons.mp (show t ∈ x.shown :: PyData.shownAll xs from ht) with e | e
    · exact e ▸ cp_shown n x h'.1
    · exact cp_shownAll n xs h'.2 t e
end

end Dm
end
section
open PySem L2 Dm PyProof.Rows

namespace Dm
open PySem.Spec
/-! dicts that are never written to, as data: how they are shown -/
theorem plain_nodict {d : PyData} (h : plainP d = true) : d.hasDict = false := by
  cases d <;> first | (simp only [PyData.hasDict]; done) | (cases h)
theorem plain_reads {h : Heap} {d : PyData} {u : Value} (hp : plainP d = true) (r : RelV (plainV d) u) : Reads h u d [] := by
  cases d with
  | none => cases r; exact .none
  | bool b => cases r; exact .bool b
  | int i => obtain ⟨t, rfl⟩ := r; exact .int i t
  | str x => obtain ⟨t, rfl⟩ := r; exact .str x t
  | list _ => cases hp
  | tuple _ => cases hp
  | dict _ => cases hp
theorem plain_pairs {P : Program} {w : World} {h : Heap} : ∀ {l : List DictEntry} {vs : List (Key × Value)} {fs : List (Key × PyData)}, (∀ p ∈ fs, plainP p.2 = true) → Pairs (mixKind P w) l vs → KV (fs.map fun p => (p.1, plainV p.2)) vs →
    ReadsAll h (l.map (·.key)) ((fs.map fun p => (keyP p.1, p.2)).map (·.1)) [] ∧ ReadsAll h (l.map (·.val)) ((fs.map fun p => (keyP p.1, p.2)).map (·.2)) []
  | [], [], [], _, _, _ => ⟨.nil, .nil⟩
  | e :: l, v :: vs, f :: fs, hp, .cons h1 h3 t1, .cons h2 t2 => by
    obtain ⟨a, b⟩ := plain_pairs (h := h) (fun p hm => hp p (List.mem_cons_of_mem _ hm)) t1 t2
    obtain ⟨e1, e2⟩ := h2
    have e1 : f.1 = v.1 := e1
    have hk : Reads h e.key (keyP f.1) [] := by
      rw [e1]
      rcases keyIs_shape h1 with ⟨i, t, h4, h5⟩ | ⟨x, t, h4, h5⟩
      · rw [h4, h5]; exact .int i t
      · rw [h4, h5]; exact .str x t
    have hv : Reads h e.val f.2 [] := by rw [h3]; exact plain_reads (hp f (List.mem_cons_self ..)) e2
    exact ⟨.cons (as := []) (bs := []) hk a, .cons (as := []) (bs := []) hv b⟩
theorem plains {fs : List (Key × PyData)} (hp : ∀ p ∈ fs, plainP p.2 = true) : (∀ d ∈ (fs.map fun p => (keyP p.1, p.2)).map (·.1), plainP d = true) ∧ ∀ d ∈ (fs.map fun p => (keyP p.1, p.2)).map (·.2), plainP d = true := by
  refine ⟨fun d hd => ?_, fun d hd => ?_⟩
  · obtain ⟨q, hq, rfl⟩ := List.mem_map.mp hd
    obtain ⟨p, hp', rfl⟩ := List.mem_map.mp hq
    cases p.1 <;> rfl
  · obtain ⟨q, hq, rfl⟩ := List.mem_map.mp hd
    obtain ⟨p, hp', rfl⟩ := List.mem_map.mp hq
    exact hp p hp'
theorem plain_all {P : Program} {w : World} {h : Heap} {n : Nat} : ∀ {ds : List PyData} {us : List Value} {as : List Addr}, (∀ d ∈ ds, plainP d = true) → ReadsAll h us ds as → PyData.showableAll ds = true → (∀ t ∈ PyData.shownAll ds, t.length ≤ sizeLine) → ReprAllK P w [] h n us (PyData.shownAll ds)
  | [], _, _, _, .nil, _, _ => by simp only [PyData.shownAll]; exact .nil
  | d :: ds, _, _, hp, .cons r rs, hs, hz => by
    have hs' : d.showable = true ∧ PyData.showableAll ds = true := by simpa [PyData.showableAll] using hs
    have h1 := hp d (List.mem_cons_self ..)
    have hz1 := hz _ (by simp only [PyData.shownAll]; exact List.mem_cons_self ..)
    have t := plain_all (P := P) (w := w) (n := n) (fun x hx => hp x (List.mem_cons_of_mem _ hx)) rs hs'.2 (fun t ht => hz t (by simp only [PyData.shownAll]; exact List.mem_cons_of_mem _ ht))
    simp only [PyData.shownAll]
    refine .cons ?_ t
    cases r with
    | none => simp only [PyData.shown]; exact .of_is ReprIs.none _ _ _
    | bool b => simp only [PyData.shown]; exact .of_is (ReprIs.bool b) _ _ _
    | int i t => simp only [PyData.shown]; exact .of_is (ReprIs.int t (by simpa [PyData.showable] using hs'.1)) _ _ _
    | str x t => simp only [PyData.shown]; exact .of_is (ReprIs.str x t (by simpa only [PyData.shown] using hz1)) _ _ _
    | list _ _ _ _ => cases h1
    | tuple _ _ _ _ => cases h1
    | dict _ _ _ _ _ => cases h1
section
variable {X : Cx} {pins : List (Addr × Obj)} {σ : L2.St} {H : Hp} {s : Shared}
/-- a dict in the heap -/
theorem dct_at (I : Inv X pins σ H s) {a : Addr} {fs : List (Key × PyData)} (ha : H a = some (.dK (fs.map fun p => (p.1, plainV p.2)))) (hp : ∀ p ∈ fs, plainP p.2 = true) : (a == sysModules) = false ∧ ∃ (o : Obj) (es : Array DictEntry) (n : Nat), s.heap.get? a = some o ∧ o.cls = .type "dict" ∧ o.data = .dict es n ∧
    ReadsAll s.heap (es.toList.map (·.key)) ((fs.map fun p => (keyP p.1, p.2)).map (·.1)) [] ∧ ReadsAll s.heap (es.toList.map (·.val)) ((fs.map fun p => (keyP p.1, p.2)).map (·.2)) [] := by
  obtain ⟨_, hsys, vs, rel, dof⟩ := dk_of I.hok ha
  obtain ⟨ep, o, es, ho, ex, hdat, hko, hpr, hnd⟩ := dof.dictAt
  obtain ⟨r1, r2⟩ := plain_pairs (h := s.heap) hp hpr rel
  exact ⟨hsys, o, es, _, ho, ex.1, hdat, r1, r2⟩
mutual
theorem dq_shows (I : Inv X pins σ H s) : ∀ (d : PyData) {v : V} {u : Value}, Dq H v d → RelV v u → d.showable = true → d.shown.length ≤ sizeLine → ∃ as bs, Reads s.heap u d as ∧ ReadAtMost s.heap d.depth bs ∧ (∀ (P : Program) (w : World), ReprK P w bs s.heap d.depth u d.shown)
  | .none, _, _, h, r, hs, hz => by
    cases h
    cases r
    exact ⟨_, [], .none, (fun _ h => nomatch h), fun P w => by simp only [PyData.shown]; exact .of_is ReprIs.none _ _ _⟩
  | .bool b, _, _, h, r, hs, hz => by
    cases h
    cases r
    exact ⟨_, [], .bool b, (fun _ h => nomatch h), fun P w => by simp only [PyData.shown]; exact .of_is (ReprIs.bool b) _ _ _⟩
  | .int i, _, _, h, r, hs, hz => by
    cases h
    obtain ⟨t, rfl⟩ := r
    exact ⟨_, [], .int i t, (fun _ h => nomatch h), fun P w => by simp only [PyData.shown]; exact .of_is (ReprIs.int t (by simpa [PyData.showable] using hs)) _ _ _⟩
  | .str x, _, _, h, r, hs, hz => by
    cases h
    obtain ⟨t, rfl⟩ := r
    exact ⟨_, [], .str x t, (fun _ h => nomatch h), fun P w => by simp only [PyData.shown]; exact .of_is (ReprIs.str x t (by simpa only [PyData.shown] using hz)) _ _ _⟩
  | .list ds, _, _, h, r, hs, hz => by
    cases h with
    | lst hh ha =>
      cases r
      have hz' : (listText (PyData.shownAll ds)).length ≤ sizeLine := by simpa only [PyData.shown] using hz
      obtain ⟨its, rv, ⟨o, n, ho, hc, _, hd⟩, _⟩ := I.list (.inl (.inl hh))
      obtain ⟨as, bs, R, hb, hk⟩ := dqs_shows I ds ha rv (by simpa [PyData.showable] using hs) (fun t ht => Nat.le_trans (listText_mem_le ht) hz')
      have r := Reads.list ho hc hd R
      have hna := not_mem_of_deeper r (by simp only [PyData.depth]; omega) hb
      refine ⟨_, _ :: bs, r, ReadAtMost.cons r (by simp only [PyData.depth]; omega) hb, ?_⟩
      intro P w
      have hk := hk P w
      simp only [PyData.depth, PyData.shown]
      cases its with
      | nil =>
        cases R
        simp only [PyData.shownAll, listText_nil]
        exact ReprK.listEmpty ho hc hd
      | cons x l => exact ReprK.list ho hc hd hna (by simpa using hk.length_eq) (fun i y e => hk.item i y (by simpa using e))
  | .tuple ds, _, _, h, r, hs, hz => by
    cases h with
    | tup hh ha =>
      cases r
      have hz' : (tupleText (PyData.shownAll ds)).length ≤ sizeLine := by simpa only [PyData.shown] using hz
      obtain ⟨its, rv, ⟨o, ho, hc, n, hd⟩, _⟩ := I.tuple (.inl (.inl hh))
      obtain ⟨as, bs, R, hb, hk⟩ := dqs_shows I ds ha rv (by simpa [PyData.showable] using hs) (fun t ht => Nat.le_trans (tupleText_mem_le ht) hz')
      have r := Reads.tuple ho hc hd R
      have hna := not_mem_of_deeper r (by simp only [PyData.depth]; omega) hb
      refine ⟨_, _ :: bs, r, ReadAtMost.cons r (by simp only [PyData.depth]; omega) hb, ?_⟩
      intro P w
      simp only [PyData.depth, PyData.shown]
      exact ReprK.tuple ho hc hd hna (hk P w)
  | .dict kvs, _, _, h, r, hs, hz => by
    cases h with
    | dct hh ekv hp =>
      cases r
      have hz' : (dictText (PyData.shownKv kvs)).length ≤ sizeLine := by simpa only [PyData.shown] using hz
      obtain ⟨hsys, o, es, n, ho, hc, hd, r1, r2⟩ := dct_at I hh hp
      rw [← ekv] at r1 r2
      obtain ⟨hs1, hs2⟩ := PyData.showableKv_split kvs (by simpa [PyData.showable] using hs)
      obtain ⟨p1, p2⟩ := plains hp
      rw [← ekv] at p1 p2
      have r := Reads.dict ho hc hd r1 r2
      have hb : ReadAtMost s.heap (PyData.depthKv kvs) [] := fun _ h => nomatch h
      have hna := not_mem_of_deeper r (by simp only [PyData.depth]; omega) hb
      refine ⟨_, [_], r, ReadAtMost.cons r (by simp only [PyData.depth]; omega) hb, ?_⟩
      intro P w
      have k1 := plain_all (P := P) (w := w) (n := PyData.depthKv kvs) p1 r1 hs1 (fun t ht => let ⟨p, hp, hl⟩ := PyData.shownKv_key_le kvs t ht; Nat.le_trans hl (Nat.le_trans (dictText_mem_le hp) hz'))
      have k2 := plain_all (P := P) (w := w) (n := PyData.depthKv kvs) p2 r2 hs2 (fun t ht => let ⟨p, hp, hl⟩ := PyData.shownKv_val_le kvs t ht; Nat.le_trans hl (Nat.le_trans (dictText_mem_le hp) hz'))
      simp only [PyData.depth, PyData.shown, PyData.shownKv_eq]
      exact ReprK.dict ho hc hd hsys hna (ReprEntriesK.of_two es.toList _ _ k1 k2)
theorem dqs_shows (I : Inv X pins σ H s) : ∀ (ds : List PyData) {vs : List V} {us : List Value}, Paired (Dq H) vs ds → Vals vs us → PyData.showableAll ds = true → (∀ t ∈ PyData.shownAll ds, t.length ≤ sizeLine) →
    ∃ as bs, ReadsAll s.heap us ds as ∧ ReadAtMost s.heap (PyData.depthAll ds) bs ∧ (∀ (P : Program) (w : World), ReprAllK P w bs s.heap (PyData.depthAll ds) us (PyData.shownAll ds))
  | [], _, _, h, r, _, _ => by
    cases h
    cases r
    exact ⟨[], [], .nil, (fun _ h => nomatch h), fun P w => by simp only [PyData.shownAll]; exact .nil⟩
  | d :: ds, _, _, h, r, hs, hz => by
    cases h with
    | cons h1 h2 =>
      cases r with
      | cons r1 r2 =>
        have hs' : d.showable = true ∧ PyData.showableAll ds = true := by simpa [PyData.showableAll] using hs
        obtain ⟨as1, b1, q1, hb1, k1⟩ := dq_shows I d h1 r1 hs'.1 (hz _ (by simp only [PyData.shownAll]; exact List.mem_cons_self ..))
        obtain ⟨as2, b2, q2, hb2, k2⟩ := dqs_shows I ds h2 r2 hs'.2 (fun t ht => hz t (by simp only [PyData.shownAll]; exact List.mem_cons_of_mem _ ht))
        refine ⟨_, b1 ++ b2, .cons q1 q2, ?_, ?_⟩
        · simp only [PyData.depthAll]
          exact (hb1.mono (Nat.le_max_left _ _)).append (hb2.mono (Nat.le_max_right _ _))
        · intro P w
          simp only [PyData.depthAll, PyData.shownAll]
          exact .cons (((k1 P w).more fun b hb => List.mem_append_left _ hb).level_le (Nat.le_max_left _ _)) ((k2 P w).more_le (fun b hb => List.mem_append_right _ hb) (Nat.le_max_right _ _))
end
/-- an object that is shown -/
theorem dq_by (I : Inv X pins σ H s) {a : Addr} {d : PyData} (h : Dq H (.ref a) d) (hs : d.showable = true) (hz : d.shown.length ≤ sizeLine) : ∃ T idr, ∀ (P : Program) (w : World), ShowsBy P w s.heap a d T idr := by
  cases h with
  | lst hh ha =>
    rename_i xs ds
    have hz' : (listText (PyData.shownAll ds)).length ≤ sizeLine := by simpa only [PyData.shown] using hz
    obtain ⟨its, rv, ⟨o, n, ho, hc, _, hd⟩, _⟩ := I.list (.inl (.inl hh))
    obtain ⟨as, bs, R, hb, hk⟩ := dqs_shows I ds ha rv (by simpa [PyData.showable] using hs) (fun t ht => Nat.le_trans (listText_mem_le ht) hz')
    have hna := not_mem_of_deeper (Reads.list ho hc hd R) (by simp only [PyData.depth]; omega) hb
    refine ⟨"list", "list.__repr__", fun P w => ⟨F.slot_list_repr.toG, F.slot_list_str, F.slot_list_format, fun s hk0 => ⟨o, hk0 _ _ ho, hc⟩, fun A E s Q hg hu hk0 hQ => ?_⟩⟩
    simp only [PyData.depth] at hu
    simp only [PyData.shown] at hQ
    cases its with
    | nil =>
      cases R
      simp only [PyData.shownAll, listText_nil] at hQ
      exact call_list_repr_empty ⟨o, hk0 _ _ ho, hc⟩ (hk0 _ _ ho) hd (hQ s.heap _ _ fun _ _ e => e)
    | cons x l => exact call_list_reprK ho hc hd hna (by simpa using (hk P w).length_eq) (fun i y e => (hk P w).item i y (by simpa using e)) hg (fun b _ => Clear.nil b) hu hk0 hQ hz'
  | tup hh ha =>
    rename_i xs ds
    have hz' : (tupleText (PyData.shownAll ds)).length ≤ sizeLine := by simpa only [PyData.shown] using hz
    obtain ⟨its, rv, ⟨o, ho, hc, n, hd⟩, _⟩ := I.tuple (.inl (.inl hh))
    obtain ⟨as, bs, R, hb, hk⟩ := dqs_shows I ds ha rv (by simpa [PyData.showable] using hs) (fun t ht => Nat.le_trans (tupleText_mem_le ht) hz')
    have hna := not_mem_of_deeper (Reads.tuple ho hc hd R) (by simp only [PyData.depth]; omega) hb
    refine ⟨"tuple", "tuple.__repr__", fun P w => ⟨F.slot_tuple_repr, F.slot_tuple_str, F.slot_tuple_format, fun s hk0 => ⟨o, hk0 _ _ ho, hc⟩, fun A E s Q hg hu hk0 hQ => ?_⟩⟩
    simp only [PyData.depth] at hu
    simp only [PyData.shown] at hQ
    exact call_tuple_reprK ho hc hd hna (hk P w) hg (fun b _ => Clear.nil b) hu hk0 hQ hz'
  | dct hh ekv hp =>
    rename_i fs kvs
    have hz' : (dictText (PyData.shownKv kvs)).length ≤ sizeLine := by simpa only [PyData.shown] using hz
    obtain ⟨hsys, o, es, n, ho, hc, hd, r1, r2⟩ := dct_at I hh hp
    rw [← ekv] at r1 r2
    obtain ⟨hs1, hs2⟩ := PyData.showableKv_split kvs (by simpa [PyData.showable] using hs)
    obtain ⟨p1, p2⟩ := plains hp
    rw [← ekv] at p1 p2
    have hna := not_mem_of_deeper (Reads.dict ho hc hd r1 r2) (by simp only [PyData.depth]; omega) (bs := []) (n := PyData.depthKv kvs) (fun _ h => nomatch h)
    refine ⟨"dict", "dict.__repr__", fun P w => ⟨F.slot_dict_repr, F.slot_dict_str, F.slot_dict_format, fun s hk0 => ⟨o, hk0 _ _ ho, hc⟩, fun A E s Q hg hu hk0 hQ => ?_⟩⟩
    simp only [PyData.depth] at hu
    simp only [PyData.shown, PyData.shownKv_eq] at hQ
    have k1 := plain_all (P := P) (w := w) (n := PyData.depthKv kvs) p1 r1 hs1 (fun t ht => let ⟨p, hp, hl⟩ := PyData.shownKv_key_le kvs t ht; Nat.le_trans hl (Nat.le_trans (dictText_mem_le hp) hz'))
    have k2 := plain_all (P := P) (w := w) (n := PyData.depthKv kvs) p2 r2 hs2 (fun t ht => let ⟨p, hp, hl⟩ := PyData.shownKv_val_le kvs t ht; Nat.le_trans hl (Nat.le_trans (dictText_mem_le hp) hz'))
    exact call_dict_reprK ho hc hd hsys hna (ReprEntriesK.of_two es.toList _ _ k1 k2) hg (fun b _ => Clear.nil b) hu hk0 hQ (by rw [← PyData.shownKv_eq]; exact hz')
end

end Dm
end
section
open PySem L2 Dm PyProof.Rows

namespace Dm
open PySem.Spec
/-! repr, str of any data; dicts settled; a tuple beside the empty one; pop(i); list(range(n)) -/
section
variable {X : Cx}
theorem call_reprF (hg : X.A.guards = some []) (hu : X.A.units + 65 < cLine) : CallR X (.builtin "repr") (fun xs H Q => ∃ v d, xs = [v] ∧ Dq H v d ∧ d.showable = true ∧ d.depth ≤ 60 ∧ d.shown.length ≤ sizeLine ∧ Q (.str d.shown) H) := by
  intro pins s σ H xs us Q I r h
  obtain ⟨v, d, rfl, hd, hs, hdp, hl, q⟩ := h
  obtain ⟨u, rfl, ru⟩ := vals1 r
  have go : ∀ a, v = .ref a → wpAny (model X.prog X.w) X.A (call (.builtin "repr") [u]) (EP X pins σ Q) X.xe s := by
    rintro a rfl
    obtain rfl : u = Value.ref a := ru
    obtain ⟨T, idr, S⟩ := dq_by I hd hs hl
    have S := S X.prog X.w
    exact call_repr_slot (by omega) (S.typeIs s fun _ _ e => e) S.slotRepr (S.call X.A.in1 X.xe s _ hg (by show X.A.units + 1 + _ < cLine; omega) (fun _ _ e => e) fun h' u tk hk => ⟨_, _, rfl, ⟨.str _, H, I.kept hk, ⟨_, rfl⟩, q⟩⟩)
  cases hd with
  | non => cases ru; exact PySem.P.repr_of_none ⟨.str _, H, I.tok _, ⟨_, rfl⟩, q⟩
  | bl b => cases ru; exact PySem.P.repr_of_bool ⟨.str _, H, I.tok _, ⟨_, rfl⟩, q⟩
  | int i => obtain ⟨t, rfl⟩ := ru; exact PySem.P.repr_of_int (by simpa [PyData.showable] using hs) ⟨.str _, H, I.tok _, ⟨_, rfl⟩, q⟩
  | str x => obtain ⟨t, rfl⟩ := ru; exact PySem.P.repr_of_str ⟨.str _, H, I.tok _, ⟨_, rfl⟩, q⟩ (by simpa only [PyData.shown] using hl)
  | lst _ _ => exact go _ rfl
  | tup _ _ => exact go _ rfl
  | dct _ _ _ => exact go _ rfl
def cReprF : DRC := fun ws S Q => ∃ d, ws = [.d d] ∧ d.showable = true ∧ d.depth ≤ 60 ∧ d.shown.length ≤ sizeLine ∧ Q (.d (.str d.shown)) S
theorem dc_reprF (hg : X.A.guards = some []) (hu : X.A.units + 65 < cLine) : DCallR X (.builtin "repr") cReprF := by
  refine ⟨_, call_reprF hg hu, ?_⟩
  rintro G μ F S H vs ws Qd Q I r ⟨d, rfl, h1, h2, h3, q⟩ k
  obtain ⟨v, rfl, rv⟩ := rws1 r
  exact ⟨v, d, rfl, I.dq rv, h1, h2, h3, k.str I q⟩
def strV : PyData → Str
  | .str s => s
  | d => d.shown
theorem call_strF (hg : X.A.guards = some []) (hu : X.A.units + 65 < cLine) : CallR X (.type "str") (fun xs H Q => ∃ v d, xs = [v] ∧ Dq H v d ∧ d.showable = true ∧ d.depth ≤ 60 ∧ d.shown.length ≤ sizeLine ∧ Q (.str (strV d)) H) := by
  intro pins s σ H xs us Q I r h
  obtain ⟨v, d, rfl, hd, hs, hdp, hl, q⟩ := h
  obtain ⟨u, rfl, ru⟩ := vals1 r
  have go : ∀ a, v = .ref a → strV d = d.shown → wpAny (model X.prog X.w) X.A (call (.type "str") [u]) (EP X pins σ Q) X.xe s := by
    rintro a rfl es
    rw [es] at q
    obtain rfl : u = Value.ref a := ru
    obtain ⟨T, idr, S⟩ := dq_by I hd hs hl
    exact callType_new PySem.F.called_str (by decide) (PySem.F.typeCall_str_1 _) (PySem.F.newCall_str_1 _) (fun obj => PySem.F.args_object_init_2 obj _) PySem.F.entry_str_new
      (meets_str_new (S := fun A' R s' => A'.guards = some [] ∧ A'.units + (d.depth + 2) < cLine ∧ (∀ b o, s.heap.get? b = some o → s'.heap.get? b = some o) ∧
          ∀ h' u tk, (∀ b o, s'.heap.get? b = some o → h'.get? b = some o) → R (.ok (.ret (.str d.shown u))) { s' with heap := h', toks := tk })
        fun prog' w' A' R s' h => wpAny_strOf_slot rfl (by show A'.units + 1 + 1 < cLine; have := h.2.1; omega) ((S prog' w').typeIs s' h.2.2.1) (S prog' w').slotStr (S prog' w').slotRepr ((S prog' w').call A'.in1.in1 _ s' _ h.1 (by show A'.units + 1 + 1 + d.depth < cLine; have := h.2.1; omega) h.2.2.1 fun h' u tk hk => ⟨_, _, rfl, h.2.2.2 h' u tk hk⟩))
      ⟨hg, by show X.A.units + 1 + (d.depth + 2) < cLine; omega, fun _ _ e => e, fun h' u tk hk => ⟨typeIs_str _ _ _, ⟨.str _, H, I.kept hk, ⟨_, rfl⟩, q⟩⟩⟩
  cases hd with
  | non => cases ru; exact PySem.P.str_of_none ⟨.str _, H, I.tok _, ⟨_, rfl⟩, q⟩
  | bl b => cases ru; exact PySem.P.str_of_bool ⟨.str _, H, I.tok _, ⟨_, rfl⟩, q⟩
  | int i => obtain ⟨t, rfl⟩ := ru; exact PySem.P.str_of_int (by simpa [PyData.showable] using hs) ⟨.str _, H, I.tok _, ⟨_, rfl⟩, q⟩
  | str x => obtain ⟨t, rfl⟩ := ru; exact PySem.P.str_of_str ⟨.str x, H, I, ⟨t, rfl⟩, q⟩
  | lst _ _ => exact go _ rfl rfl
  | tup _ _ => exact go _ rfl rfl
  | dct _ _ _ => exact go _ rfl rfl
def cStrF : DRC := fun ws S Q => ∃ d, ws = [.d d] ∧ d.showable = true ∧ d.depth ≤ 60 ∧ d.shown.length ≤ sizeLine ∧ Q (.d (.str (strV d))) S
theorem dc_strF (hg : X.A.guards = some []) (hu : X.A.units + 65 < cLine) : DCallR X (.type "str") cStrF := by
  refine ⟨_, call_strF hg hu, ?_⟩
  rintro G μ F S H vs ws Qd Q I r ⟨d, rfl, h1, h2, h3, q⟩ k
  obtain ⟨v, rfl, rv⟩ := rws1 r
  exact ⟨v, d, rfl, I.dq rv, h1, h2, h3, k.str I q⟩
/-! a dict is settled -/
theorem plain_v {F : Hp} {v : V} {d : PyData} (hp : plainP d = true) (h : Dq F v d) : v = plainV d := by
  cases h <;> first | rfl | (cases hp)
theorem rkv_plain {K : PySem.W.Frag} {F : Hp} {μ : List Addr} : ∀ {fs : List (Key × PyData)} {ys : List (Key × V)}, (∀ p ∈ fs, plainP p.2 = true) → RKV K F μ ys (fs.map fun p => (p.1, Wv.d p.2)) → ys = fs.map fun p => (p.1, plainV p.2)
  | [], _, _, .nil => rfl
  | f :: fs, (a, v) :: ys, hp, .cons ⟨e, r⟩ t => by
    cases r with
    | d r =>
      have e : a = f.1 := e
      have hv := plain_v (hp f (List.mem_cons_self ..)) r
      rw [rkv_plain (fun p hm => hp p (List.mem_cons_of_mem _ hm)) t, e, List.map_cons]
      have hv : v = plainV f.2 := hv
      rw [hv]
def dFrz (fe : DTE) : DTE := fun ρ S Q => fe ρ S fun w S1 => ∃ (k : Nat) (fs : List (Key × PyData)), w = .o k ∧ S1[k]? = some (.dk (fs.map fun p => (p.1, Wv.d p.2))) ∧ (∀ p ∈ fs, plainP p.2 = true) ∧ Q (.d (.dict (fs.map fun p => (keyP p.1, p.2)))) (S1.set k .gone)
theorem de_frz {e : Expr} {fe : DTE} (he : DE X e fe) : DE X e (dFrz fe) := by
  obtain ⟨_, a1, a2⟩ := he
  refine ⟨_, a1, fun G μ F S H σ ρ Qd Q I R z k => a2 G μ F S H σ ρ _ _ I R z ?_⟩
  rintro μ1 F1 S1 H1 v w e1 I1 r1 ⟨kk, fs, rfl, hS, hp, z1⟩
  obtain ⟨a, rfl, hk, ⟨ys, ea, rs⟩, _⟩ := I1.ref r1 hS
  obtain rfl := rkv_plain hp rs
  obtain ⟨I2, e2⟩ := I1.settle hk hS (fun z => nomatch z) ea
  exact k _ _ _ _ _ _ (e1.trans e2) I2 (.d (.dct upd_same rfl hp)) z1
/-! a tuple beside the empty one -/
theorem op_eqT0 (hu : X.A.units + 64 < cLine) : OpR X (compareOp .Eq) (fun x y H Q => ∃ a b xs, x = .ref a ∧ y = .ref b ∧ SqT X.K H a xs ∧ SqT X.K H b [] ∧ Q (.bl xs.isEmpty) H) := by
  intro pins s σ H x y v u Q I rx ry h
  obtain ⟨a, b, xs, rfl, rfl, ha, hb, q⟩ := h
  obtain rfl : v = Value.ref a := rx
  obtain rfl : u = Value.ref b := ry
  obtain ⟨its, rv, ia, _⟩ := I.tuple ha
  obtain ⟨its2, rv2, ib, _⟩ := I.tuple hb
  obtain rfl : its2 = [] := by cases rv2; rfl
  refine SeqAt.eq_tupleAt (e := fun _ => true) ia ib (by omega) (fun j h1 h2 => absurd h2 (Nat.not_lt_zero _)) ⟨.bl xs.isEmpty, H, I, ?_, q⟩
  cases rv <;> rfl
theorem op_neT0 (hu : X.A.units + 64 < cLine) : OpR X (compareOp .NotEq) (fun x y H Q => ∃ a b xs, x = .ref a ∧ y = .ref b ∧ SqT X.K H a xs ∧ SqT X.K H b [] ∧ Q (.bl (!xs.isEmpty)) H) := by
  intro pins s σ H x y v u Q I rx ry h
  obtain ⟨a, b, xs, rfl, rfl, ha, hb, q⟩ := h
  obtain rfl : v = Value.ref a := rx
  obtain rfl : u = Value.ref b := ry
  obtain ⟨its, rv, ia, _⟩ := I.tuple ha
  obtain ⟨its2, rv2, ib, _⟩ := I.tuple hb
  obtain rfl : its2 = [] := by cases rv2; rfl
  refine SeqAt.RcNeAt.tuples (e := fun _ => true) ia ib (by omega) (fun j h1 h2 => absurd h2 (Nat.not_lt_zero _)) _ _ _ _ ⟨.bl (!xs.isEmpty), H, I, ?_, q⟩
  cases rv <;> rfl
def gT0 (neg : Bool) : DR2 := fun x y S Q => ∃ ds, x = .d (.tuple ds) ∧ y = .d (.tuple []) ∧ Q (.d (.bool (if neg then !ds.isEmpty else ds.isEmpty))) S
theorem dop_eqT0 (hu : X.A.units + 64 < cLine) : DOpR X (compareOp .Eq) (gT0 false) := by
  refine ⟨_, op_eqT0 hu, ?_⟩
  rintro G μ F S H x y a b Qd Q I ra rb ⟨ds, rfl, rfl, h⟩ k
  obtain ⟨p, xs, rfl, ea, pa⟩ := of_tup ra
  obtain ⟨p2, ys, rfl, eb, pb⟩ := of_tup rb
  obtain rfl : ys = [] := by cases pb; rfl
  refine ⟨p, p2, xs, rfl, rfl, .inl (.inl (I.fr _ _ ea)), .inl (.inl (I.fr _ _ eb)), ?_⟩
  have : xs.isEmpty = ds.isEmpty := by cases pa <;> rfl
  rw [this]
  exact k.bl I h
theorem dop_neT0 (hu : X.A.units + 64 < cLine) : DOpR X (compareOp .NotEq) (gT0 true) := by
  refine ⟨_, op_neT0 hu, ?_⟩
  rintro G μ F S H x y a b Qd Q I ra rb ⟨ds, rfl, rfl, h⟩ k
  obtain ⟨p, xs, rfl, ea, pa⟩ := of_tup ra
  obtain ⟨p2, ys, rfl, eb, pb⟩ := of_tup rb
  obtain rfl : ys = [] := by cases pb; rfl
  refine ⟨p, p2, xs, rfl, rfl, .inl (.inl (I.fr _ _ ea)), .inl (.inl (I.fr _ _ eb)), ?_⟩
  have : xs.isEmpty = ds.isEmpty := by cases pa <;> rfl
  rw [this]
  exact k.bl I h
/-! xs.pop(i) -/
def mPopAt : DRM := fun w ws S Q => ∃ k l i y, w = .o k ∧ ws = [.d (.int i)] ∧ S[k]? = some (.lst l) ∧ 0 ≤ i ∧ i < 2 ^ 63 ∧ l[i.toNat]? = some y ∧ Q y (S.set k (.lst (l.eraseIdx i.toNat)))
theorem rws_erase {K : PySem.W.Frag} {F : Hp} {μ : List Addr} {xs : List V} {ws : List Wv} (r : RWs K F μ xs ws) (n : Nat) : RWs K F μ (xs.eraseIdx n) (ws.eraseIdx n) := by
  induction r generalizing n with
  | nil => exact .nil
  | cons a r ih => cases n with
    | zero => exact r
    | succ n => exact .cons a (ih n)
theorem dm_popAt : DMtR X "list.pop" mPopAt := by
  refine ⟨_, mt_popAt, ?_⟩
  rintro G μ F S H v w vs ws Qd Q I r rs ⟨k', l, i, y, rfl, rfl, hS, h0, h1, hy, q⟩ k
  obtain ⟨a, rfl, hk, ⟨xs, ea, rx⟩, _⟩ := I.ref r hS
  obtain ⟨u, rfl, ru⟩ := rws1 rs
  obtain rfl := of_int ru
  obtain ⟨z, hz, rz⟩ := paired_get rx hy
  have hlt := (List.getElem?_eq_some_iff.mp hz).1
  refine ⟨a, xs, i, i.toNat, z, rfl, rfl, ea, by omega, h1, ?_, hz, ?_⟩
  · unfold seqIndex?
    simp only [show ¬ i < 0 from by omega, if_false]
    have h2 : i < (xs.length : Int) := by omega
    simp [h0, h2]
  · have rr := rws_erase rx i.toNat
    exact k.val (I.put (u := .lst (l.eraseIdx i.toNat)) hk hS (fun z => nomatch z) fun H2 z => ⟨_, z, rr⟩) rz q
end
section
variable {S : Sto} {Q : Wv → Sto → Prop} {d : PyData} {ds : List PyData} {k : Nat} {ws : List Wv} {y : Wv} {i : Int}
theorem st_reprF (h1 : d.showable = true) (h2 : d.depth ≤ 60) (h3 : d.shown.length ≤ sizeLine) (q : Q (.d (.str d.shown)) S) : cReprF [.d d] S Q := ⟨d, rfl, h1, h2, h3, q⟩
theorem st_strF (h1 : d.showable = true) (h2 : d.depth ≤ 60) (h3 : d.shown.length ≤ sizeLine) (q : Q (.d (.str (strV d))) S) : cStrF [.d d] S Q := ⟨d, rfl, h1, h2, h3, q⟩
theorem st_eqT0 (q : Q (.d (.bool ds.isEmpty)) S) : gT0 false (.d (.tuple ds)) (.d (.tuple [])) S Q := ⟨ds, rfl, rfl, q⟩
theorem st_neT0 (q : Q (.d (.bool (!ds.isEmpty))) S) : gT0 true (.d (.tuple ds)) (.d (.tuple [])) S Q := ⟨ds, rfl, rfl, q⟩
theorem st_popAt (hS : S[k]? = some (.lst ws)) (h0 : 0 ≤ i) (h1 : i < 100000) (hy : ws[i.toNat]? = some y) (q : Q y (S.set k (.lst (ws.eraseIdx i.toNat)))) : mPopAt (.o k) [.d (.int i)] S Q := ⟨k, ws, i, y, rfl, rfl, hS, h0, by omega, hy, q⟩
end
section
variable {X : Cx} {e : Expr} {fe : DTE} {p p2 pos pos2 : Pos}
/-! list(range(n)), tuple(range(n)) -/
def rgD (n : Nat) : List PyData := (List.range n).map fun i => PyData.int (i : Nat)
theorem rg_dq {F : Hp} (n : Nat) : Paired (Dq F) (rgV 0 (n : Nat)) (rgD n) := by
  have h1 : rgV 0 (n : Nat) = ((List.range n).map fun i => ((i : Nat) : Int)).map V.int := by
    unfold rgV
    rw [Int.sub_zero, Int.toNat_natCast, List.map_map]
    refine List.map_congr_left fun i _ => ?_
    show V.int (0 + (i : Nat)) = V.int (i : Nat)
    rw [Int.zero_add]
  have h2 : rgD n = ((List.range n).map fun i => ((i : Nat) : Int)).map PyData.int := by
    unfold rgD
    rw [List.map_map]
    rfl
  rw [h1, h2]
  exact ints_dq _
def dLstRg (f : DTE) : DTE := fun ρ S Q => f ρ S fun w S1 => ∃ n : Nat, w = .d (.int n) ∧ n ≤ 100000 ∧ Q (.d (.list (rgD n))) S1
def dTupRg (f : DTE) : DTE := fun ρ S Q => f ρ S fun w S1 => ∃ n : Nat, w = .d (.int n) ∧ n ≤ 100000 ∧ Q (.d (.tuple (rgD n))) S1
theorem de_lstRg (hc : X.calm = true) (hg : Gl X "list") (hm : X.mg "list" = none) (hg2 : Gl X "range") (hm2 : X.mg "range" = none) (he : DE X e fe) (na : starEach [e] X.env = (false, eval e X.env) :: starEach [] X.env := by rfl)
    (na2 : starEach [Expr.Call (.Name "range" p2) [e] [] pos2] X.env = (false, eval (.Call (.Name "range" p2) [e] [] pos2) X.env) :: starEach [] X.env := by rfl) : DE X (.Call (.Name "list" p) [.Call (.Name "range" p2) [e] [] pos2] [] pos) (dLstRg fe) := by
  obtain ⟨_, a1, a2⟩ := he
  refine ⟨_, pe_listRg hc hg hm (prg_1 hg2 hm2 a1 na) na2, fun G μ F S H σ ρ Qd Q I R z k => a2 G μ F S H σ ρ _ _ I R z ?_⟩
  rintro μ1 F1 S1 H1 v w e1 I1 r1 ⟨n, rfl, hn, q⟩
  obtain rfl := of_int r1
  exact ⟨n, rfl, RgOk.of_le (by omega) (by omega) (by omega) (by omega), fun p hp => (k.mono e1).lst I1 hp (rg_dq n) q⟩
theorem de_tupRg (hc : X.calm = true) (hg : Gl X "tuple") (hm : X.mg "tuple" = none) (hg2 : Gl X "range") (hm2 : X.mg "range" = none) (he : DE X e fe) (na : starEach [e] X.env = (false, eval e X.env) :: starEach [] X.env := by rfl)
    (na2 : starEach [Expr.Call (.Name "range" p2) [e] [] pos2] X.env = (false, eval (.Call (.Name "range" p2) [e] [] pos2) X.env) :: starEach [] X.env := by rfl) : DE X (.Call (.Name "tuple" p) [.Call (.Name "range" p2) [e] [] pos2] [] pos) (dTupRg fe) := by
  obtain ⟨_, a1, a2⟩ := he
  refine ⟨_, pe_tupRg hc hg hm (prg_1 hg2 hm2 a1 na) na2, fun G μ F S H σ ρ Qd Q I R z k => a2 G μ F S H σ ρ _ _ I R z ?_⟩
  rintro μ1 F1 S1 H1 v w e1 I1 r1 ⟨n, rfl, hn, q⟩
  obtain rfl := of_int r1
  exact ⟨n, rfl, RgOk.of_le (by omega) (by omega) (by omega) (by omega), fun p hp => (k.mono e1).tup I1 hp (rg_dq n) q⟩
end

end Dm
end
section
open PySem L2 Dm PyProof.Rows

namespace Dm
/-! ### the caught exception handed to another def -/
structure RGH (k : Nat) (A : Around) : Prop where
  room : L2H.RoomH k A
  gd : A.guards = some []
theorem RGH.mono {j k : Nat} {A : Around} (r : RGH k A) (h : j ≤ k) : RGH j A := ⟨r.room.mono h, r.gd⟩
theorem RGH.deeper {k : Nat} {A : Around} (r : RGH (k + 1) A) (env : Env) : RGH k (A.deeper env) := ⟨r.room.deeper env, r.gd⟩
theorem RGH.u1 {k : Nat} {A : Around} (r : RGH k A) : A.units + 1 < cLine := by have := r.room.un; omega
theorem RGH.u64 {k : Nat} {A : Around} (r : RGH k A) : A.units + 64 < cLine := by have := r.room.un; omega
theorem RGH.u65 {k : Nat} {A : Around} (r : RGH k A) : A.units + 65 < cLine := by have := r.room.un; omega
theorem RG.hot {k : Nat} {A : Around} (r : RG k A) (x : Option Value) : RGH k (A.mark x) := ⟨⟨r.room.dp, r.room.un⟩, r.gd⟩
abbrev DSpV := Addr → Addr → Option (List (Str × Wv)) → DSp
def liftV (K : PySem.W.Frag) (p : Addr × Obj) (g : DSpV) : Sp := fun vs H Q _ => ∃ G μ F S ws Qd C d fo, Zc (.ref C) d p.2 ∧ (∃ vs, p.2.data = .fields vs) ∧ JU K d fo G μ F ∧ SI K G μ S F H ∧ RWs K F μ vs ws ∧ g p.1 C fo ws S Qd ∧ KE K G μ F Qd Q
structure FnV (P : Program) (w : World) (K : PySem.W.Frag) (mg : Str → Option Value) (base : Heap) (k : Nat) (f : Addr) (fd : FuncData) (ps : List Str) (g : DSpV) : Prop where
  len : ∀ a C fo ws S Q, g a C fo ws S Q → ws.length = ps.length
  run : ∀ (A : Around) (outer : List Env) (s : Shared) (H : Hp) (args : Args) (us : List Value) (vs : List V) (Q : VK) (E : XK) (p : Addr × Obj), RGH k A → L2H.PinOk outer H s p →
    Env0 P w K mg base A outer s H → BindsTo s fd args (ps.zip us) → Vals vs us → liftV K p g vs H Q E → codeAny (model P w) A (.call (.ref f) args) (CR CX0 outer P w H s Q E) s
section
variable {P : Program} {w : World} {K : PySem.W.Frag} {mg : Str → Option Value} {base : Heap}
theorem FnV.mono {j k : Nat} {f : Addr} {fd : FuncData} {ps : List Str} {g : DSpV} (F : FnV P w K mg base j f fd ps g) (h : j ≤ k) : FnV P w K mg base k f fd ps g := ⟨F.len, fun A outer s H args us vs Q E p hr => F.run A outer s H args us vs Q E p (hr.mono h)⟩
theorem fnV_of {x qual : Str} {st : Stmt} {f : Addr} {fd : FuncData} {N ps : List Str} {k : Nat} {g : DSpV} {n : Nat} (F : Fun K x qual st f fd) (S : FnScope N ps (defScope st)) (hn : N.length = n) (len : ∀ a C fo ws S Q, g a C fo ws S Q → ws.length = ps.length)
    (hbody : ∀ (cdv : Value) (A : Around) (outer : List Env) (s : Shared) (H : Hp) (E : XK) (ea : Addr) (oe : Obj) (eC : Addr) (ed : Option Addr) (efo : Option (List (Str × Wv))), RGH k (A.deeper (envOfC qual (defScope st) s.heap.objs.size f cdv)) → Zc (.ref eC) ed oe → (∃ vs, oe.data = .fields vs) →
      ∃ b, DSsJ (L2H.cxH CX0 P w K mg base N qual (defScope st) f cdv A outer s H E (ea, oe)) (JU K ed efo) (defBody st) b ∧ ∀ ws S Qd, g ea eC efo ws S Qd → b { nx := fun _ S' => Qd (.d .none) S', rt := Qd } (dstart n ws) S) : FnV P w K mg base (k + 1) f fd ps g := by
  obtain ⟨oc, od, kV, doc, pm, an, cdv, ct, osl, rfl, lk, hcd⟩ := F.ex
  refine ⟨len, fun A outer s H args us vs Q E p hr hpin e0 hb r hsp => ?_⟩
  obtain ⟨G, μ, F0, S0, ws, Qd, C, d, fo, hz, hf, j, I0, rw', hg, kk⟩ := hsp
  have hl : vs.length = ps.length := rw'.length.trans (len _ _ _ _ _ _ hg)
  have KX : K.In s.heap := e0.mod.kin.keeps fun b o e => (e0.bs b o e).1
  have lim : s.heap.NoLimit := e0.mod.nolimit.keeps fun b o e => (e0.bs b o e).1
  have hkind : ∀ y ∈ ps.zip us, (defScope st).names.lookup y.1 = some .local ∨ ((defScope st).names.lookup y.1 = some .cell ∧ ((cellsFrom (s.heap.objs.size + 1) (defScope st).names []).lookup y.1).isSome = true) := by
    rintro ⟨n, v⟩ hy
    exact (S.par n (List.of_mem_zip hy).1).imp id fun q => ⟨q, PySem.W.cellsFrom_some _ _ _ (.inl q)⟩
  refine codeAny_call_function hr.room.depth (KX _ _ lk) rfl S.co S.gen rfl (PySem.W.codeRec_of KX hcd) (hb _ _ _ _ (wpAny_newFunctionEnv_cells S.kind hkind ?_))
  rintro env rfl s1 x
  refine ⟨lim.keeps x.toInCall.keep, codeAny_func ?_⟩
  obtain ⟨b, ht, hq⟩ := hbody cdv A outer s H E p.1 p.2 C d fo (hr.deeper _) hz hf
  have I := L2H.inv_startH (CX := CX0) (E := E) S hpin e0 hl r x
  subst hn
  refine wpAny_mono (ht.run [] s1 (L2.start N vs) H { nx := fun _ H' => Q .non H', rt := Q } I ⟨G, μ, F0, S0, _, _, j, I0, er_start rw', hq ws S0 Qd hg, ⟨?_, ?_, fun _ _ _ _ _ _ _ _ _ z => z, fun _ _ _ _ _ _ _ _ _ z => z⟩⟩) ?_ fun e s' hs => hs
  · intro μ' F2 S2 H2 σ ρ e I R z
    exact kk μ' F2 S2 H2 .non (.d .none) e I (.d .non) z
  · intro μ' F2 S2 H2 v w' e I R z
    exact kk μ' F2 S2 H2 v w' e I R z
  intro fl s' hs
  match fl, hs with
  | .ret u, ⟨v, σ', H', J, rv, q⟩ => exact ⟨v, H', J.os, J.bare, J.base, J.hok, rv, q⟩
  | .next, ⟨σ', H', J, q⟩ => exact ⟨.non, H', J.os, J.bare, J.base, J.hok, rfl, q⟩
  | .brk, ⟨_, _, _, q⟩ => exact q.elim
  | .cont, ⟨_, _, _, q⟩ => exact q.elim
end
/-- e.f, e the exception that was handed: its classes by Pf -/
def dXfV (a C : Addr) (fo : Option (List (Str × Wv))) (Pf : Addr → Prop) (f : Str) (fe : DTE) : DTE := fun ρ S Q => fe ρ S fun w S1 => w = .v (.ref a) ∧ Pf C ∧ ∃ fs v, fo = some fs ∧ fs.lookup f = some v ∧ Q v S1
def dCallV (a C : Addr) (fo : Option (List (Str × Wv))) (g : DSpV) (fa : DTA) : DTE := fun ρ S Q => fa ρ S fun ws S1 => g a C fo ws S1 Q
section
variable {X : Cx} {a C : Addr} {oe : Obj} {d : Option Addr} {fo : Option (List (Str × Wv))} {e : Expr} {es : List Expr} {x : Str} {f : Addr} {fd : FuncData} {k : Nat} {p pos : Pos} {fa : DTA} {fe : DTE} {g : DSpV} {ps : List Str}
theorem dej_callV (hp : (a, oe) ∈ X.pn) (hz : Zc (.ref C) d oe) (hf : ∃ vs, oe.data = .fields vs) (F : FnV X.prog X.w X.K X.mg X.base k f fd ps g) (hr : RGH k X.A) (hg : Gl X x) (hm : X.mg x = some (.ref f)) (hk : PySem.W.keepIn X.K (.ref f) = true) (hb : Binds X.K fd ps []) (ha : DA X (e :: es) fa)
    (hdb : (x == ("__debug__" : Str)) = false := by decide) (he : starEach (e :: es) X.env = (false, eval e X.env) :: starEach es X.env := by rfl) (hpl : (backTo pos (starEach es X.env)).any (·.1) = false := by rfl) :
    DEJ X (JU X.K d fo) (.Call (.Name x p) (e :: es) [] pos) (dCallV a C fo g fa) := by
  obtain ⟨_, a1, a2⟩ := ha
  refine ⟨fun pins s σ H Q I h => ?_⟩
  obtain ⟨G, μ, F0, S, ρ, Qd, j, J, R, z, kk⟩ := h
  refine wpAny_Call_Name_kw (ld_glob I hg hm (PySem.W.callWith_K (h₀ := X.base) I.ok.mod.kin hk (thn (a1.run pos pins s σ H _ I (a2 G μ F0 S H σ ρ _ (fun vs H' => ∃ μ2 F2 S2 ws, Ext μ F0 μ2 F2 ∧ SI X.K G μ2 S2 F2 H' ∧ RWs X.K F2 μ2 vs ws ∧ g a C fo ws S2 Qd) J R z fun μ2 F2 S2 H2 vs ws e2 I2 r2 z2 => ⟨μ2, F2, S2, ws, e2, I2, r2, z2⟩)) ?_) he hpl) hdb)
  rintro us s1 ⟨vs, H1, I1, r, μ2, F2, S2, ws, e2, J2, rw2, z2⟩
  refine ⟨I1.kIn, ?_⟩
  have hl : us.length = ps.length := by rw [← r.length, rw2.length]; exact F.len _ _ _ _ _ _ z2
  have b := hb s1 us I1.kIn (by rw [List.append_nil]; exact hl)
  rw [List.append_nil] at b
  have P1 := I1.pin (a, oe) (List.mem_append_left _ hp)
  have hpin : L2H.PinOk X.stack H1 s1 (a, oe) := ⟨P1.1, P1.2.1, fun hm => (List.mem_cons.mp (I1.stkSub a hm)).elim P1.2.2.1 P1.2.2.2.1, P1.2.2.2.2⟩
  refine wpAny_call (codeAny_mono (F.run X.A X.stack s1 H1 ⟨us, []⟩ us vs Q (fun _ _ _ => False) (a, oe) hr hpin I1.env0 b r ⟨G, μ2, F2, S2, ws, Qd, C, d, fo, hz, hf, ju_m _ _ _ _ _ j e2, J2, rw2, z2, kk.mono e2⟩) fun r s' hq => ?_)
  match r, hq with
  | .error ev, hq => exact False.elim hq
  | .ok (.ret u), hq => exact I1.after hq
  | .ok .next, hq => exact False.elim hq
  | .ok .brk, hq => exact False.elim hq
  | .ok .cont, hq => exact False.elim hq
theorem call_isV {D : Addr} (hp : (a, oe) ∈ X.pn) (hz : Zc (.ref D) d oe) (hf : ∃ vs, oe.data = .fields vs) : CallR X (.builtin "isinstance") (rIsX X.K D a d) := by
  intro pins s σ H xs us Q I r ⟨C, hd, h⟩
  obtain ⟨hget, _⟩ := I.pin (a, oe) (List.mem_append_left _ hp)
  obtain ⟨vs, hv⟩ := hf
  have J : ∃ od, PySem.W.InstAt s.heap a oe D od := by
    cases hdd : d with
    | none => exact ⟨none, hget, hz.1, by unfold PySem.W.notCls; rw [hv] <;> rfl, by rw [hz.2, hdd]; trivial⟩
    | some dd =>
      obtain ⟨o, ho⟩ := hd dd hdd
      obtain ⟨u, hu⟩ := objOk_get (I.hok dd o ho)
      exact ⟨some u, hget, hz.1, by unfold PySem.W.notCls; rw [hv] <;> rfl, by rw [hz.2, hdd]; exact hu⟩
  obtain ⟨od, J⟩ := J
  have hcl : (PySem.W.clsIn X.K D).isSome = true := by
    obtain ⟨cd, hc, _⟩ := PySem.W.any_some C.hd
    rw [hc]; rfl
  rcases h with ⟨c, cv, b, rfl, hcv, e, q⟩ | ⟨p, cs, cvs, b, rfl, hp, hcs, e, q⟩
  · cases r with
    | cons rx rr =>
      cases rr with
      | cons rt rr =>
        cases rr
        cases rx
        have ec := hcv _ rt
        subst ec
        exact PySem.W.kia_one (PySem.W.kitx_exc hcl C.hg C.hk C.hs C.ha C.hn C.ht C.hm) I.kIn J e (fun z => nomatch z) fun tk => ⟨.bl b, H, I.kept (t' := tk) fun _ _ z => z, rfl, q⟩
  · cases r with
    | cons rx rr =>
      cases rr with
      | cons rt rr =>
        cases rr
        cases rx
        cases rt
        have hok : ObjOk X.prog X.w H s.heap p (.tup cs) := I.hok p _ hp
        obtain ⟨_, its, r2, o, ho, hc, n, hdat⟩ := hok
        have ei := hcs _ r2
        subst ei
        obtain ⟨oc, odd, odt, osl⟩ := o
        dsimp only at hc hdat
        subst hc hdat
        exact PySem.W.kia_tup (PySem.W.kitx_exc hcl C.hg C.hk C.hs C.ha C.hn C.ht C.hm) I.kIn J ho e (fun z => nomatch z) fun tk => ⟨.bl b, H, I.kept (t' := tk) fun _ _ z => z, rfl, q⟩
theorem dej_isV {P : Addr → Prop} {isF : Addr → V → Bool → Prop} (hp : (a, oe) ∈ X.pn)
    (hP : ∀ C, P C → ExcC X.K C) (hF : ∀ C t b, isF C t b → ∃ cv, (∀ u, RelV t u → u = cv) ∧ PySem.W.kitOne X.K (.ref C) cv = some b) (hz : Zc (.ref C) d oe) (hf : ∃ vs, oe.data = .fields vs)
    (hg : Gl X "isinstance") (hm : X.mg "isinstance" = none) (ha : DA X (e :: es) fa)
    (hv : bootBuiltins "isinstance" = some (.builtin "isinstance") := by decide +kernel) (he : starEach (e :: es) X.env = (false, eval e X.env) :: starEach es X.env := by rfl) (hpl : (backTo pos (starEach es X.env)).any (·.1) = false := by rfl) :
    DEJ X (JU X.K d fo) (.Call (.Name "isinstance" p) (e :: es) [] pos) (dCB (cIsE a C P isF) fa) := by
  obtain ⟨_, a1, a2⟩ := ha
  refine PE.imp (pe_callB (X := X) (call_isV (d := d) hp hz hf) hg hm hv a1 (by decide) (by decide) he hpl) ?_
  rintro σ H Q ⟨G, μ, F, S, ρ, Qd, j, I, R, z, k⟩
  refine a2 G μ F S H σ ρ _ _ I R z ?_
  rintro μ1 F1 S1 H1 vs ws e1 I1 r1 ⟨hPC, z1⟩
  refine ⟨hP C hPC, ?_, ?_⟩
  · intro dd hdd
    rcases j with ⟨h, _⟩ | ⟨dd', ys, fs', G0, h, _, rfl, _⟩
    · rw [h] at hdd; cases hdd
    · rw [h] at hdd; cases hdd
      exact ⟨_, (I1.gh dd _ upd_same).1⟩
  · rcases z1 with ⟨t, b, rfl, hb, q⟩ | ⟨q0, ts, b, rfl, hS, ⟨bs, hbs, rfl⟩, q⟩
    · cases r1 with
      | cons ra r1 =>
        cases r1 with
        | cons rb r1 =>
          cases r1
          cases ra
          cases rb
          obtain ⟨cv, h1, h2⟩ := hF C t b hb
          exact .inl ⟨t, cv, b, rfl, h1, h2, (k.mono e1).bl I1 q⟩
    · cases r1 with
      | cons ra r1 =>
        cases r1 with
        | cons rb r1 =>
          cases r1
          cases ra
          cases rb with
          | o hq =>
            obtain ⟨⟨xs, hx, rxs⟩, _⟩ := I1.cell _ _ _ hq hS
            obtain rfl := rws_v rxs
            obtain ⟨cvs, h1, h2⟩ := any_kit (fun t b => hF C t b) hbs
            exact .inr ⟨_, xs, cvs, _, rfl, hx, h1, h2, (k.mono e1).bl I1 q⟩
theorem dej_xv {Pf : Addr → Prop} {n : Str} (hp : (a, oe) ∈ X.pn) (hT : ∀ C, Pf C → XfC X.K C ∧ PySem.W.findIn X.K (.ref C) n = some none) (hz : Zc (.ref C) d oe) (hf : ∃ vs, oe.data = .fields vs) (he : DE X e fe) (hb : attributeBase e n X.env (eval e X.env) = eval e X.env := by rfl) :
    DEJ X (JU X.K d fo) (.Attribute e n pos) (dXfV a C fo Pf n fe) := by
  obtain ⟨_, p, q⟩ := he
  refine ⟨fun pins s σ H Q I h => ?_⟩
  refine attr_of hb (thn (p.run pins s σ H (fun v H1 => v = .ref a ∧ Pf C ∧ ∃ (dd : Addr) (ys : List (Str × V)) (y : V), d = some dd ∧ H1 dd = some (.xd ys) ∧ ys.lookup n = some y ∧ Q y H1) I ?_) fun u s1 hh => ?_)
  · obtain ⟨G, μ, F, S, ρ, Qd, j, J, R, z, k⟩ := h
    refine q G μ F S H σ ρ _ _ J R z ?_
    rintro μ1 F1 S1 H1 v w e1 I1 r1 ⟨rfl, hPC, fs, x, rfl, hl, z1⟩
    cases r1
    rcases j with ⟨_, h⟩ | ⟨dd, ys, fs', G0, rfl, h, rfl, rr⟩
    · cases h
    · cases h
      obtain ⟨y, hy, ry⟩ := lookup_some (rr.mono e1) hl
      exact ⟨rfl, hPC, dd, ys, y, rfl, (I1.gh dd _ upd_same).1, hy, k μ1 F1 S1 H1 y x e1 I1 ry z1⟩
  obtain ⟨x, H1, I1, rx, ex, ec, dd, fs, v, ed, ea, l, q⟩ := hh
  subst ex
  obtain rfl : u = Value.ref a := rx
  subst ed
  obtain ⟨T, hno⟩ := hT C ec
  obtain ⟨ha, _⟩ := I1.pin (a, oe) (List.mem_append_left _ hp)
  obtain ⟨vs, hd⟩ := hf
  have hx : ObjOk X.prog X.w H1 s1.heap dd (.xd fs) := I1.hok dd _ ea
  obtain ⟨mA, hns, hr⟩ := hx
  obtain ⟨od, ho, hl⟩ := lookIn_ns hns
  obtain ⟨u, hu, ru⟩ := RelO.some_of (v := v) (o := mA n) (by rw [← l]; exact hr n)
  have J : PySem.W.InstAt s1.heap a oe C (some od) := ⟨ha, hz.1, by unfold PySem.W.notCls; rw [hd] <;> rfl, by rw [hz.2]; exact ho⟩
  exact HandSPX.exc_get I1.kIn J T.ga T.gg T.exC (PySem.W.findObj_own T.hdC hno rfl (by rw [hl, hu])) (handed_of ru) ⟨v, H1, I1.tok _, ru, q⟩
end

end Dm
end
section
open PySem L2 Dm PyProof.Rows

namespace Dm
/-! ### several except clauses, each with a name or without; an exception of three fields -/
/-- a clause: the class, the slot of its name, the suite -/
structure Clause where
  cv : Value
  sl : Option Nat
  su : Addr → Value → Option Addr → TS
def slotOff (sl : Option Nat) (D : Ends) : Ends := match sl with
  | none => D
  | some i => { nx := fun σ H => D.nx (σ.set i none) H, rt := D.rt, bk := fun σ H => D.bk (σ.set i none) H, ct := fun σ H => D.ct (σ.set i none) H }
def slotOn (sl : Option Nat) (a : Addr) (σ : L2.St) : L2.St := match sl with
  | none => σ
  | some i => σ.set i (some (.ref a))
def clWish (K : PySem.W.Frag) (Wo : WX) (D : Ends) : List Clause → WX
  | [] => Wo
  | k :: r => fun cls d σ H => ∃ b, PySem.W.exmOne K cls k.cv = some b ∧ (b = true → ∀ a, H a = none → k.su a cls d (slotOff k.sl D) (slotOn k.sl a σ) H) ∧ (b = false → clWish K Wo D r cls d σ H)
inductive Clauses (X : Cx) : List ExceptHandler → List Clause → Prop
  | nil : Clauses X [] []
  | bare {x : Str} {cv : Value} {su : Addr → Value → Option Addr → TS} {st : Stmt} {sts : List Stmt} {p1 p2 : Pos} {hds : List ExceptHandler} {l : List Clause} (hn : Names X x cv)
      (run : ∀ (a : Addr) (oe : Obj) (cls : Value) (d : Option Addr) (pn : List (Addr × Obj)), Zc cls d oe ∧ (∃ vs, oe.data = .fields vs) → PSs (X.suite a ((a, oe) :: pn)) (st :: sts) (su a cls d))
      (r : Clauses X hds l) : Clauses X (.ExceptHandler (some (.Name x p1)) none (st :: sts) p2 :: hds) (⟨cv, none, su⟩ :: l)
  | named {x n : Str} {i : Nat} {cv : Value} {su : Addr → Value → Option Addr → TS} {st : Stmt} {sts : List Stmt} {p1 p2 : Pos} {hds : List ExceptHandler} {l : List Clause} (hn : Names X x cv)
      (hi : X.N[i]? = some n) (hk : X.env.kindOf n = some .local)
      (run : ∀ (a : Addr) (oe : Obj) (cls : Value) (d : Option Addr) (pn : List (Addr × Obj)), Zc cls d oe ∧ (∃ vs, oe.data = .fields vs) → PSs (X.suite a ((a, oe) :: pn)) (st :: sts) (su a cls d))
      (r : Clauses X hds l) : Clauses X (.ExceptHandler (some (.Name x p1)) (some n) (st :: sts) p2 :: hds) (⟨cv, some i, su⟩ :: l)
section
variable {X : Cx} {body : List Stmt} {hd : ExceptHandler} {tl : List ExceptHandler} {l : List Clause} {pos : Pos} {tb : WX → TS} {Wo : WX}
theorem ps_clauses (stk : X.stack = X.env :: X.outer) (frm : X.env.frame = some X.env.locals) (nd : X.N.Nodup) (tk : Takes X Wo)
    (run : ∀ (W : WX) (pn : List (Addr × Obj)) (xe : Value → Shared → Prop), Takes (X.tr pn xe) W → PassesOwn (model X.prog X.w) X.A X.env xe → PSs (X.tr pn xe) body (tb W))
    (cs : Clauses X (hd :: tl) l) : PS X (.Try body (hd :: tl) [] [] pos) (fun D σ H => tb (clWish X.K Wo D l) D σ H) := by
  refine ⟨fun pins s σ H D I start => ?_⟩
  have ok := I.ok
  have frames : X.A.frames = some (X.env :: X.outer) := by
    rw [ok.frames, stk]
  refine wpAny_Try_except (wpAny_mono ((run (clWish X.K Wo D l) (X.pn ++ pins)
    (fun e s1 => wpAny (model X.prog X.w) X.A (noteFrame e X.env)
      (fun _ s2 => wpAny (model X.prog X.w) X.A (setFlight e none) (fun _ s3 => wpAny (model X.prog X.w) X.A (handleBy e X.env (hd :: tl)) (SP X pins D) X.xe s3) X.xe s2) X.xe s1)
    (fun u s' caught => ?_) PassesOwn.looking).run [] s σ H D (I.toTry _) start) (fun fl s1 ended => ?_) fun e s1 z => z)
  · obtain ⟨a, B, sI, pins', σ', H', cls, d, rfl, Jt, nb, up, sky, na, os, ag, w⟩ := caught
    have J : Inv X pins σ' H' sI := Jt.ofTry ok
    rw [stk] at sky
    show wpAny (model X.prog X.w) X.A (noteFrame (.ref a) X.env) _ _ _
    refine Sky.land Zc.steady frames frm sky fun g fl3 up3 => ?_
    have Jg : Inv X pins σ' H' { s' with heap := g } := J.landed nb fl3.1 (up.trans up3) os ag
    obtain ⟨og, vg, hg1, hg2, hg3⟩ := fl3.there
    have apart : a ∉ frs (X.env :: X.outer) := fun hm => by
      obtain ⟨_, o2, h2, hnf⟩ := fl3.2.2.1.mem hm
      rw [hg1] at h2
      cases h2
      exact hnf _ hg3
    have nL : a ≠ X.env.locals := fun z => apart (List.mem_filterMap.mpr ⟨X.env, List.mem_cons_self, by rw [frm, z]⟩)
    have nF : a ∉ X.fs := fun hm => by
      obtain ⟨e, he, q⟩ := List.mem_filterMap.mp hm
      exact apart (List.mem_filterMap.mpr ⟨e, List.mem_cons_of_mem _ he, q⟩)
    have Sg := Jg.suite hg1 hg3 na nL nF
    have test : ∀ {x : Str} {cv : Value} {p : Pos} {Q E : Value → Shared → Prop}, Names X x cv → Q cv { s' with heap := g } →
        wpAny (model X.prog X.w) (X.A.mark (some (.ref a))) (eval (.Name x p) X.env) Q E { s' with heap := g } := by
      rintro x cv p Q E ⟨h1, h2, h3 | ⟨h3, h4, h5⟩⟩ q
      · exact ld_glob (X := X.suite a ((a, og) :: (X.pn ++ pins))) Sg h1 h3 q h2
      · exact ld_blt (X := X.suite a ((a, og) :: (X.pn ++ pins))) Sg h1 h3 h4 q h5 h2
    have look : ∀ {cv : Value} {b : Bool}, PySem.W.exmOne X.K cls cv = some b → _ := fun {cv b} hb =>
      PySem.W.exm_one (M := model X.prog X.w) Jg.kIn (fun A Q E s k q => wpAny_typeOf_ref (k _ _ hg1) (by rw [hg2.1]; exact q)) hb
    have go : ∀ {hs : List ExceptHandler} {ks : List Clause}, Clauses X hs ks → clWish X.K Wo D ks cls d σ' H' →
        wpAny (model X.prog X.w) X.A (handleBy (.ref a) X.env hs) (SP X pins D) X.xe { s' with heap := g } := by
      intro hs ks cks
      induction cks with
      | nil =>
        intro w
        refine wpAny_handleBy_nil ?_
        obtain ⟨_, _, _, oe, vs, T, oT, ts', he, _, hd', h1, _⟩ := id fl3
        unfold PySem.passOn
        refine wpAny_bind (wpAny_field he hd' h1 ?_)
        rw [if_neg (by simp : ¬ ((Value.ref T == Value.none) = true))]
        have fin : wpAny (model X.prog X.w) X.A (setFlight (.ref a) X.env.frame)
            (fun _ s4 => wpAny (model X.prog X.w) X.A (throw (.ref a) : Sem Flow) (SP X pins D) X.xe s4) X.xe { s' with heap := g } := by
          rw [frm]
          refine HandSPX.setFlight_upZ fl3 fun h4 hh4 up4 => wpAny_throw (tk _ _ ⟨a, B, sI, pins, σ', H', cls, d, rfl, J, nb, (up.trans up3).trans up4, ?_, na, os, ag, w⟩)
          exact .inr (.inr (by rw [stk]; exact hh4))
        first
          | exact wpAny_bind (wpAny_pure (wpAny_bind fin))
          | exact wpAny_bind fin
      | bare hn go1 r ih =>
        rintro ⟨b, hb, yes, no⟩
        refine wpAny_handleBy_cons (codeAny_handlers_test ?_) (by intro q; cases q)
        refine test hn ((look hb).here ?_)
        cases b with
        | false => exact ih (no rfl)
        | true =>
          refine codeAny_handlers_suite (HandSPX.lands_againZ fl3 fun h4 fl4 up4 => ?_)
          have J4 : Inv X pins σ' H' { s' with heap := h4 } := J.landed nb fl4.1 ((up.trans up3).trans up4) os ag
          obtain ⟨o4, v4, h41, h42, h43⟩ := fl4.there
          have S4 := J4.suite h41 h43 na nL nF
          refine wpAny_mono ((go1 a o4 cls d (X.pn ++ pins) ⟨h42, _, h43⟩).run [] _ _ H' _ S4 (yes rfl a na)) (fun f s6 hsp => ?_) fun _ _ z => z.elim
          match f, hsp with
          | .next, ⟨σ6, H6, S6, q6⟩ => exact ⟨_, _, S6.unsuite ok, q6⟩
          | .brk, ⟨σ6, H6, S6, q6⟩ => exact ⟨_, _, S6.unsuite ok, q6⟩
          | .cont, ⟨σ6, H6, S6, q6⟩ => exact ⟨_, _, S6.unsuite ok, q6⟩
          | .ret u, ⟨v6, σ6, H6, S6, r6, q6⟩ => exact ⟨_, _, _, S6.unsuite ok, r6, q6⟩
      | named hn hi hk go1 r ih =>
        rintro ⟨b, hb, yes, no⟩
        refine wpAny_handleBy_cons (codeAny_handlers_test ?_) (by intro q; cases q)
        refine test hn ((look hb).here ?_)
        cases b with
        | false => exact ih (no rfl)
        | true =>
          refine codeAny_handlers_suite_as (HandSPX.lands_againZ fl3 fun h4 fl4 up4 => ?_)
          have J4 : Inv X pins σ' H' { s' with heap := h4 } := J.landed nb fl4.1 ((up.trans up3).trans up4) os ag
          obtain ⟨o4, v4, h41, h42, h43⟩ := fl4.there
          have S4 := J4.suite h41 h43 na nL nF
          refine store_ok (X := X.suite a ((a, o4) :: (X.pn ++ pins))) (v := .ref a) S4 nd hi (.inl hk) rfl (fun s5 S5 => ?_) (.inr hk)
          refine wpAny_mono ((go1 a o4 cls d (X.pn ++ pins) ⟨h42, _, h43⟩).run [] s5 _ H' _ S5 (yes rfl a na)) (fun f s6 hsp => ?_) fun _ _ z => z.elim
          match f, hsp with
          | .next, ⟨σ6, H6, S6, q6⟩ => exact gone_ok (S6.unsuite ok) nd hi hk fun s7 J7 => ⟨_, _, J7, q6⟩
          | .brk, ⟨σ6, H6, S6, q6⟩ => exact gone_ok (S6.unsuite ok) nd hi hk fun s7 J7 => ⟨_, _, J7, q6⟩
          | .cont, ⟨σ6, H6, S6, q6⟩ => exact gone_ok (S6.unsuite ok) nd hi hk fun s7 J7 => ⟨_, _, J7, q6⟩
          | .ret u, ⟨v6, σ6, H6, S6, r6, q6⟩ => exact gone_ok (S6.unsuite ok) nd hi hk fun s7 J7 => ⟨_, _, _, J7, r6, q6⟩
    exact go cs w
  · match fl, ended with
    | .next, ⟨σ1, H1, J1, q⟩ => exact wpAny_execs_nil ⟨σ1, H1, J1.ofTry ok, q⟩
    | .brk, ⟨σ1, H1, J1, q⟩ => exact ⟨σ1, H1, J1.ofTry ok, q⟩
    | .cont, ⟨σ1, H1, J1, q⟩ => exact ⟨σ1, H1, J1.ofTry ok, q⟩
    | .ret u, ⟨v, σ1, H1, J1, r, q⟩ => exact ⟨v, σ1, H1, J1.ofTry ok, r, q⟩
end
/-- a clause over data: the classes that it takes, those that it lets by, the name's slot, the suite -/
structure DCl where
  yes : Addr → Prop
  no : Addr → Prop
  sl : Option Nat
  su : Addr → Addr → Option (List (Str × Wv)) → DTS
def dOff (sl : Option Nat) (D : DEnds) : DEnds := match sl with
  | none => D
  | some i => { nx := fun ρ S => D.nx (ρ.set i none) S, rt := D.rt, bk := fun ρ S => D.bk (ρ.set i none) S, ct := fun ρ S => D.ct (ρ.set i none) S }
def dOn (sl : Option Nat) (a : Addr) (ρ : Rho) : Rho := match sl with
  | none => ρ
  | some i => ρ.set i (some (.v (.ref a)))
def dCls (D : DEnds) (ρ : Rho) : List DCl → DXK
  | [] => fun _ _ _ => False
  | k :: r => fun C fo S => (k.yes C ∧ ∀ a, k.su a C fo (dOff k.sl D) (dOn k.sl a ρ) S) ∨ (k.no C ∧ dCls D ρ r C fo S)
/-- try: fb / except ..: .. / except ..: .. -/
def dTryM (fb : (Rho → DXK) → DTS) (l : List DCl) : DTS := fun D ρ S => fb (fun ρ1 => dCls D ρ1 l) D ρ S
def suOf (K : PySem.W.Frag) (su : Addr → Addr → Option (List (Str × Wv)) → DTS) : Addr → Value → Option Addr → TS := fun a cls d D σ H => ∃ C fo, cls = .ref C ∧ tSJ K (JU K d fo) (su a C fo) D σ H
inductive DClauses (X : Cx) : List ExceptHandler → List Clause → List DCl → Prop
  | nil : DClauses X [] [] []
  | bare {x : Str} {cv : Value} {yes no : Addr → Prop} {su : Addr → Addr → Option (List (Str × Wv)) → DTS} {st : Stmt} {sts : List Stmt} {p1 p2 : Pos} {hds : List ExceptHandler} {l : List Clause} {m : List DCl} (hn : Names X x cv)
      (hy : ∀ C, yes C → PySem.W.exmOne X.K (.ref C) cv = some true) (hno : ∀ C, no C → PySem.W.exmOne X.K (.ref C) cv = some false)
      (run : ∀ (a : Addr) (oe : Obj) (C : Addr) (d : Option Addr) (fo : Option (List (Str × Wv))) (pn : List (Addr × Obj)), Zc (.ref C) d oe → (∃ vs, oe.data = .fields vs) → DSsJ (X.suite a ((a, oe) :: pn)) (JU X.K d fo) (st :: sts) (su a C fo))
      (r : DClauses X hds l m) : DClauses X (.ExceptHandler (some (.Name x p1)) none (st :: sts) p2 :: hds) (⟨cv, none, suOf X.K su⟩ :: l) (⟨yes, no, none, su⟩ :: m)
  | named {x n : Str} {i : Nat} {cv : Value} {yes no : Addr → Prop} {su : Addr → Addr → Option (List (Str × Wv)) → DTS} {st : Stmt} {sts : List Stmt} {p1 p2 : Pos} {hds : List ExceptHandler} {l : List Clause} {m : List DCl} (hi : X.N[i]? = some n) (hk : X.env.kindOf n = some .local) (hn : Names X x cv)
      (hy : ∀ C, yes C → PySem.W.exmOne X.K (.ref C) cv = some true) (hno : ∀ C, no C → PySem.W.exmOne X.K (.ref C) cv = some false)
      (run : ∀ (a : Addr) (oe : Obj) (C : Addr) (d : Option Addr) (fo : Option (List (Str × Wv))) (pn : List (Addr × Obj)), Zc (.ref C) d oe → (∃ vs, oe.data = .fields vs) → DSsJ (X.suite a ((a, oe) :: pn)) (JU X.K d fo) (st :: sts) (su a C fo))
      (r : DClauses X hds l m) : DClauses X (.ExceptHandler (some (.Name x p1)) (some n) (st :: sts) p2 :: hds) (⟨cv, some i, suOf X.K su⟩ :: l) (⟨yes, no, some i, su⟩ :: m)
theorem DClauses.plain {X : Cx} {hds : List ExceptHandler} {l : List Clause} {m : List DCl} (c : DClauses X hds l m) : Clauses X hds l := by
  induction c with
  | nil => exact .nil
  | bare hn hy hno run r ih =>
    refine .bare hn (fun a oe cls d pn hz => ⟨fun pins s σ H D I h => ?_⟩) ih
    obtain ⟨C, fo, rfl, h⟩ := h
    exact (run a oe C d fo pn hz.1 hz.2).run pins s σ H D I h
  | named hi hk hn hy hno run r ih =>
    refine .named hn hi hk (fun a oe cls d pn hz => ⟨fun pins s σ H D I h => ?_⟩) ih
    obtain ⟨C, fo, rfl, h⟩ := h
    exact (run a oe C d fo pn hz.1 hz.2).run pins s σ H D I h
theorem er_on {K : PySem.W.Frag} {F : Hp} {μ : List Addr} {σ : L2.St} {ρ : Rho} (R : ER K F μ σ ρ) (sl : Option Nat) (a : Addr) : ER K F μ (slotOn sl a σ) (dOn sl a ρ) := by
  cases sl with
  | none => exact R
  | some i => exact R.set i .v
theorem ks_off {K : PySem.W.Frag} {G G' : Hp} {μ : List Addr} {F : Hp} {Dd : DEnds} {D : Ends} (k : KS K G μ F Dd D) (sl : Option Nat) (fg : ∀ μ' S' F' H', SI K G' μ' S' F' H' → SI K G μ' S' F' H') : KS K G' μ F (dOff sl Dd) (slotOff sl D) := by
  cases sl with
  | none => exact ⟨fun _ _ _ _ _ _ e I R z => k.nx _ _ _ _ _ _ e (fg _ _ _ _ I) R z, fun _ _ _ _ _ _ e I R z => k.rt _ _ _ _ _ _ e (fg _ _ _ _ I) R z, fun _ _ _ _ _ _ e I R z => k.bk _ _ _ _ _ _ e (fg _ _ _ _ I) R z, fun _ _ _ _ _ _ e I R z => k.ct _ _ _ _ _ _ e (fg _ _ _ _ I) R z⟩
  | some i => exact ⟨fun _ _ _ _ _ _ e I R z => k.nx _ _ _ _ _ _ e (fg _ _ _ _ I) (R.none i) z, fun _ _ _ _ _ _ e I R z => k.rt _ _ _ _ _ _ e (fg _ _ _ _ I) R z, fun _ _ _ _ _ _ e I R z => k.bk _ _ _ _ _ _ e (fg _ _ _ _ I) (R.none i) z, fun _ _ _ _ _ _ e I R z => k.ct _ _ _ _ _ _ e (fg _ _ _ _ I) (R.none i) z⟩
theorem DClauses.wish {X : Cx} {hds : List ExceptHandler} {l : List Clause} {m : List DCl} (c : DClauses X hds l m) {Dd : DEnds} {D : Ends} {G G' : Hp} {μ : List Addr} {F H : Hp} {S : Sto} {σ : L2.St} {ρ : Rho} {C : Addr} {d : Option Addr} {fo : Option (List (Str × Wv))}
    (j : JU X.K d fo G' μ F) (I : SI X.K G' μ S F H) (R : ER X.K F μ σ ρ) (k : KS X.K G μ F Dd D) (fg : ∀ μ' S' F' H', SI X.K G' μ' S' F' H' → SI X.K G μ' S' F' H') (h : dCls Dd ρ m C fo S) : clWish X.K (fun _ _ _ _ => False) D l (.ref C) d σ H := by
  induction c with
  | nil => exact h.elim
  | @bare x cv yes no su st sts p1 p2 hds l m hn hy hno run r ih =>
    rcases h with ⟨h1, h2⟩ | ⟨h1, h2⟩
    · exact ⟨true, hy C h1, fun _ a _ => ⟨C, fo, rfl, G', μ, F, S, _, _, j, I, er_on R none a, h2 a, ks_off k none fg⟩, fun z => by cases z⟩
    · exact ⟨false, hno C h1, (fun z => by cases z), fun _ => ih h2⟩
  | @named x n i cv yes no su st sts p1 p2 hds l m hi hk hn hy hno run r ih =>
    rcases h with ⟨h1, h2⟩ | ⟨h1, h2⟩
    · exact ⟨true, hy C h1, fun _ a _ => ⟨C, fo, rfl, G', μ, F, S, _, _, j, I, er_on R (some i) a, h2 a, ks_off k (some i) fg⟩, fun z => by cases z⟩
    · exact ⟨false, hno C h1, (fun z => by cases z), fun _ => ih h2⟩
theorem ds_tryM {X : Cx} {body : List Stmt} {hd : ExceptHandler} {tl : List ExceptHandler} {l : List Clause} {m : List DCl} {pos : Pos} {fb : (Rho → DXK) → DTS} (nd : X.N.Nodup)
    (run : ∀ (W : WX) (Ed : Rho → DXK) (pn : List (Addr × Obj)) (xe : Value → Shared → Prop), Takes (X.tr pn xe) W → PassesOwn (model X.prog X.w) X.A X.env xe → DSsJ (X.tr pn xe) (JX X.K W Ed) body (fb Ed))
    (c : DClauses X (hd :: tl) l m) (stk : X.stack = X.env :: X.outer := by rfl) (frm : X.env.frame = some X.env.locals := by rfl) : DS X (.Try body (hd :: tl) [] [] pos) (dTryM fb m) := by
  refine ⟨_, ps_clauses (Wo := fun _ _ _ _ => False) (tb := fun W D σ H => ∃ Ed, tSJ X.K (JX X.K W Ed) (fb Ed) D σ H) stk frm nd takes_none5 ?_ c.plain, ?_⟩
  · intro W pn xe tk po
    exact ⟨fun pins s σ H D I ⟨Ed, h⟩ => (run W Ed pn xe tk po).run pins s σ H D I h⟩
  · intro G μ F S H σ ρ Dd D I R z k
    refine ⟨_, G, μ, F, S, ρ, Dd, ?_, I, R, z, k⟩
    intro σ1 ρ1 μ1 F1 e1 R1
    refine ⟨?_, ?_⟩
    · intro μ2 F2 S2 H2 C d ys fs e2 I2 hG r2 q
      exact c.wish (.inr ⟨d, ys, fs, G, rfl, rfl, rfl, r2⟩) I2 (R1.mono e2) (k.mono (e1.trans e2)) (fun _ _ _ _ I3 => I3.forget hG) q
    · intro μ2 F2 S2 H2 C e2 I2 q
      exact c.wish (.inl ⟨rfl, rfl⟩) I2 (R1.mono e2) (k.mono (e1.trans e2)) (fun _ _ _ _ I3 => I3) q
theorem exm_no {K : PySem.W.Frag} {C : Addr} {cls : Value} (h1 : PySem.W.subIn K (.ref C) (.type "BaseException") = some true) (hdct : PySem.W.hasDictIn K C = true) (ht : PySem.W.typeIn K (.ref C) = some (.type "type")) (h4 : PySem.W.subIn K cls (.ref C) = some false) : PySem.W.exmOne K cls (.ref C) = some false := PySem.W.exm_ref h1 hdct ht h4
/-! ### an __init__ of three lines -/
def initSp3 (K : PySem.W.Frag) (f g h : Str) : Sp := fun vs H Q _ => ∃ a C u v w, vs = [.ref a, u, v, w] ∧ OexC K C ∧ (PySem.W.findIn K (.ref C) f = some none ∧ PySem.W.findIn K (.ref C) g = some none ∧ PySem.W.findIn K (.ref C) h = some none) ∧ H a = some (exo a C none) ∧
  ∀ dx, H dx = none → dx ≠ a → Q .non (upd (upd (upd (upd H dx (exd dx [(f, u)])) a (exo a C (some dx))) dx (exd dx [(g, v), (f, u)])) dx (exd dx [(h, w), (g, v), (f, u)]))
theorem init_len3 {K : PySem.W.Frag} {f g h : Str} : ∀ (vs : List V) (H : Hp) (Q : VK) (E : XK), initSp3 K f g h vs H Q E → vs.length = 4 := by
  rintro vs H Q E ⟨a, C, u, v, w, rfl, _⟩
  rfl
theorem init_sp3 {K : PySem.W.Frag} {N : List Str} {f g h : Str} {vs : List V} {H : Hp} {Q : VK} {E : XK} (z : initSp3 K f g h vs H Q E) :
    tSeq (tOst K f (tVar 0) (tVar 1)) (tSeq (tOst K g (tVar 0) (tVar 2)) (tOst K h (tVar 0) (tVar 3))) { nx := fun _ H' => Q .non H', rt := Q } (start N vs) H := by
  obtain ⟨a, C, u, v, w, rfl, T, ⟨n1, n2, n3⟩, ha, q⟩ := z
  refine ⟨u, rfl, .ref a, rfl, a, C, rfl, T, n1, .inl ⟨ha, fun dx hdx hne => ?_⟩⟩
  refine ⟨v, rfl, .ref a, rfl, a, C, rfl, T, n2, .inr ⟨dx, [(f, u)], upd_same, by rw [upd_ne hne, upd_same], by simp, ?_⟩⟩
  refine ⟨w, rfl, .ref a, rfl, a, C, rfl, T, n3, .inr ⟨dx, [(g, v), (f, u)], by rw [upd_ne (Ne.symm hne), upd_same], upd_same, by simp, ?_⟩⟩
  exact q dx hdx hne
def dRaise3 (C : Addr) (f g h : Str) (fa : DTA) (Ed : Rho → DXK) : DTS := fun _ ρ S => fa ρ S fun ws S1 => ∃ u v w, ws = [u, v, w] ∧ Ed ρ C (some [(h, w), (g, v), (f, u)]) S1
theorem upd_3 {H : Hp} {a d : Addr} {o1 o2 o3 o4 : HO} (hda : d ≠ a) : upd (upd (upd (upd H d o1) a o2) d o3) d o4 = upd (upd H d o4) a o2 := by
  funext b
  by_cases h1 : b = d
  · subst h1; rw [upd_same, upd_ne hda, upd_same]
  · rw [upd_ne h1, upd_ne h1]
    by_cases h2 : b = a
    · subst h2; rw [upd_same, upd_same]
    · rw [upd_ne h2, upd_ne h2, upd_ne h1, upd_ne h1]
section
variable {X : Cx} {W : WX} {Ed : Rho → DXK} {e : Expr} {es : List Expr} {x m f g h : Str} {C fI : Addr} {fd : FuncData} {k : Nat} {p p2 pos : Pos} {fa : DTA} {ps : List Str}
theorem dsj_raise3 (hc : X.calm = true) (tk : Takes X W) (T : OexC X.K C) (n1 : PySem.W.findIn X.K (.ref C) f = some none) (n2 : PySem.W.findIn X.K (.ref C) g = some none) (n3 : PySem.W.findIn X.K (.ref C) h = some none) (iC : PySem.W.findIn X.K (.ref C) "__init__" = some (some (.ref fI))) (tI : PySem.W.typeIn X.K (.ref fI) = some (.type "function"))
    (F1 : FnOk X.prog X.w X.K X.mg X.base CX0 k fI fd ps (initSp3 X.K f g h)) (hr : Room (k + 1) X.A) (hb : Binds X.K fd ps []) (hg : Gl X x) (hm : X.mg x = some (.ref C)) (he : DA X (e :: es) fa)
    (hdb : (x == ("__debug__" : Str)) = false := by decide) (hs : starEach (e :: es) X.env = (false, eval e X.env) :: starEach es X.env := by rfl) (hpl : (backTo pos (starEach es X.env)).any (·.1) = false := by rfl) :
    DSJ X (JX X.K W Ed) (.Raise (some (.Call (.Name x p) (e :: es) [] pos)) none p2) (dRaise3 C f g h fa Ed) := by
  obtain ⟨_, a1, a2⟩ := he
  refine PS.imp (ps_raise hc tk (pmk_oex (dvs := []) T iC tI F1 hr hb .nil pass0 hg hm a1 hdb hs hpl)) ?_
  rintro D σ H ⟨G, μ, F, S, ρ, Dd, j, I, R, z, kk⟩
  refine a2 G μ F S H σ ρ _ _ I R z ?_
  rintro μ1 F1 S1 H1 vs ws e1 I1 r1 ⟨w1, w2, w3, rfl, z1⟩
  obtain ⟨v1, v2, v3, rfl, r1, r2, r3⟩ : ∃ v1 v2 v3, vs = [v1, v2, v3] ∧ RW X.K F1 μ1 v1 w1 ∧ RW X.K F1 μ1 v2 w2 ∧ RW X.K F1 μ1 v3 w3 := by
    cases r1 with
    | cons a r => cases r with
      | cons b r => cases r with
        | cons c r => cases r; exact ⟨_, _, _, rfl, a, b, c⟩
  refine ⟨by simp, fun a ha => ⟨a, C, v1, v2, v3, rfl, T, ⟨n1, n2, n3⟩, upd_same, fun dx hdx hne => ⟨rfl, dx, [(h, v3), (g, v2), (f, v1)], ?_, upd_same, ?_, ?_⟩⟩⟩
  · rw [upd_3 hne, upd_same]
  · rw [upd_ne hne] at hdx; exact hdx
  · rw [upd_ne hne] at hdx
    rw [upd_3 hne, upd_del ha hne]
    exact (j σ ρ μ1 F1 e1 (R.mono e1)).one μ1 F1 S1 _ C dx [(h, v3), (g, v2), (f, v1)] [(h, w3), (g, w2), (f, w1)] Ext.refl (I1.aside hdx) (I1.noG hdx) (.cons ⟨rfl, r3⟩ (.cons ⟨rfl, r2⟩ (.cons ⟨rfl, r1⟩ .nil))) z1
end
section
variable {X : Cx} {J : JT} {a b : Expr} {es : List Expr} {fa fb : DTE} {fs : DTA} {pos : Pos}
/-- a list of data, and an operation, beside a fact -/
theorem dej_lst (h : DAJ X J es fs) : DEJ X J (.List es pos) (dLstD fs) :=
  PE.imp (pe_lst h) fun σ H Q ⟨G, μ, F, S, ρ, Qd, j, I, R, z, k⟩ => ⟨G, μ, F, S, ρ, _, j, I, R, z, fun μ1 F1 S1 H1 vs ws e1 I1 r1 ⟨ds, hd, hl, z1⟩ => by
    rw [allD_of hd] at r1
    have r2 := d_rws r1
    exact ⟨by rw [r2.length]; exact hl, fun p hp => (k.mono e1).lst I1 hp r2 z1⟩⟩
theorem dej_op {op : Operator} {g : DR2} (hj : JM J) (ho : DOpR X (binaryOp op) g) (ha : DEJ X J a fa) (hb : DEJ X J b fb) : DEJ X J (.BinOp a op b pos) (dOp g fa fb) := by
  obtain ⟨_, o1, o2⟩ := ho
  exact PE.imp (pe_op o1 ha hb) fun σ H Q ⟨G, μ, F, S, ρ, Qd, j, I, R, z, k⟩ => ⟨G, μ, F, S, ρ, _, j, I, R, z, fun μ1 F1 S1 H1 v w e1 I1 r1 z1 =>
    ⟨G, μ1, F1, S1, ρ, _, hj _ _ _ _ _ j e1, I1, R.mono e1, z1, fun μ2 F2 S2 H2 u y e2 I2 r2 z2 => o2 G μ2 F2 S2 H2 v u w y Qd Q I2 (r1.mono e2) r2 z2 (k.mono (e1.trans e2))⟩⟩
end
/-- raise C(e), C without an __init__ of its own -/
def dRaiseN1 (C : Addr) (fe : DTE) (Ed : Rho → DXK) : DTS := fun _ ρ S => fe ρ S fun _ S1 => Ed ρ C none S1
theorem dsj_raiseN1 {X : Cx} {W : WX} {Ed : Rho → DXK} {x : Str} {C : Addr} {e : Expr} {fe : DTE} {p pos p3 : Pos} (hc : X.calm = true) (tk : Takes X W) (T : XnC X.K C) (hg : Gl X x) (hm : X.mg x = some (.ref C)) (he : DE X e fe)
    (hs : starEach [e] X.env = (false, eval e X.env) :: starEach [] X.env := by rfl) (hdb : (x == ("__debug__" : Str)) = false := by decide) : DSJ X (JX X.K W Ed) (.Raise (some (.Call (.Name x p) [e] [] pos)) none p3) (dRaiseN1 C fe Ed) := by
  obtain ⟨_, a1, a2⟩ := he
  refine PS.imp (ps_raise hc tk (SkE.pmk_own1 PySem.F.excBase_ValueError T.ex hm T.kp (raises_own T.sub T.ty) hg a1 hs hdb)) ?_
  rintro D σ H ⟨G, μ, F, S, ρ, Dd, j, I, R, z, kk⟩
  refine a2 G μ F S H σ ρ _ _ I R z ?_
  intro μ1 F1 S1 H1 v w e1 I1 r1 z1
  exact (j σ ρ μ1 F1 e1 (R.mono e1)).non μ1 F1 S1 H1 C Ext.refl I1 z1

end Dm
end
section
open PySem L2 Dm PyProof.Rows

namespace Dm
open PySem.Spec
/-! a comparison beside a fact; lists beside the empty one; x in []; an owned sorted list -/
section
variable {X : Cx} {J : JT} {a b : Expr} {fa fb : DTE} {pos : Pos}
theorem dej_cmp {op : CmpOp} {g : DR2} (hj : JM J) (ho : DOpR X (compareOp op) g) (ha : DEJ X J a fa) (hb : DEJ X J b fb) (hm : behindInMarks op b = false := by first | rfl | exact nomark _) : DEJ X J (.Compare a [op] [b] pos) (dOp g fa fb) := by
  obtain ⟨_, o1, o2⟩ := ho
  exact PE.imp (pe_cmpR o1 ha hb hm) fun σ H Q ⟨G, μ, F, S, ρ, Qd, j, I, R, z, k⟩ => ⟨G, μ, F, S, ρ, _, j, I, R, z, fun μ1 F1 S1 H1 v w e1 I1 r1 z1 =>
    ⟨G, μ1, F1, S1, ρ, _, hj _ _ _ _ _ j e1, I1, R.mono e1, z1, fun μ2 F2 S2 H2 u y e2 I2 r2 z2 => o2 G μ2 F2 S2 H2 v u w y Qd Q I2 (r1.mono e2) r2 z2 (k.mono (e1.trans e2))⟩⟩
theorem op_eqL0 (hu : X.A.units + 64 < cLine) : OpR X (compareOp .Eq) (fun x y H Q => ∃ a b xs, x = .ref a ∧ y = .ref b ∧ SqL X.K H a xs ∧ SqL X.K H b [] ∧ Q (.bl xs.isEmpty) H) := by
  intro pins s σ H x y v u Q I rx ry h
  obtain ⟨a, b, xs, rfl, rfl, ha, hb, q⟩ := h
  obtain rfl : v = Value.ref a := rx
  obtain rfl : u = Value.ref b := ry
  obtain ⟨its, rv, ia, _⟩ := I.list ha
  obtain ⟨its2, rv2, ib, _⟩ := I.list hb
  obtain rfl : its2 = [] := by cases rv2; rfl
  cases rv with
  | nil => exact SeqAt.eq_listAt (e := fun _ => true) ia.isList ib.isList rfl (by omega) (fun j h1 h2 => absurd h2 (Nat.not_lt_zero _)) ⟨.bl true, H, I, rfl, q⟩
  | cons r t => exact SeqAt.eq_list_lengthsAt ia.isList ib.isList (by simp) (by omega) ⟨.bl false, H, I, rfl, q⟩
def gL0 : DR2 := fun x y S Q => ∃ ws, Seq S x false ws ∧ y = .d (.list []) ∧ Q (.d (.bool ws.isEmpty)) S
theorem dop_eqL0 (hu : X.A.units + 64 < cLine) : DOpR X (compareOp .Eq) gL0 := by
  refine ⟨_, op_eqL0 hu, ?_⟩
  rintro G μ F S H x y a b Qd Q I ra rb ⟨ws, hs, rfl, h⟩ k
  obtain ⟨p, xs, rfl, hq, rs⟩ := seq_at I ra hs
  obtain ⟨p2, ys, rfl, eb, pb⟩ := of_lst rb
  obtain rfl : ys = [] := by cases pb; rfl
  refine ⟨p, p2, xs, rfl, rfl, hq, .inl (.inl (I.fr _ _ eb)), ?_⟩
  have : xs.isEmpty = ws.isEmpty := by cases rs <;> rfl
  rw [this]
  exact k.bl I h
theorem op_in0 : OpR X (compareOp .In) (fun _ y H Q => ∃ b, y = .ref b ∧ SqL X.K H b [] ∧ Q (.bl false) H) := by
  intro pins s σ H x y v u Q I rx ry h
  obtain ⟨b, rfl, hb, q⟩ := h
  obtain rfl : u = Value.ref b := ry
  obtain ⟨its2, rv2, ib, _⟩ := I.list hb
  obtain rfl : its2 = [] := by cases rv2; rfl
  exact SeqAt.in_listAt (fun _ => false) ib.isList (fun y hy => by simp at hy) ⟨.bl false, H, I, by simp [L2.RelV], q⟩
theorem op_notin0 : OpR X (compareOp .NotIn) (fun _ y H Q => ∃ b, y = .ref b ∧ SqL X.K H b [] ∧ Q (.bl true) H) := by
  intro pins s σ H x y v u Q I rx ry h
  obtain ⟨b, rfl, hb, q⟩ := h
  obtain rfl : u = Value.ref b := ry
  obtain ⟨its2, rv2, ib, _⟩ := I.list hb
  obtain rfl : its2 = [] := by cases rv2; rfl
  exact SeqAt.notIn_listAt (fun _ => false) ib.isList (fun y hy => by simp at hy) ⟨.bl true, H, I, by simp [L2.RelV], q⟩
def gIn0 (neg : Bool) : DR2 := fun _ y S Q => Seq S y false [] ∧ Q (.d (.bool neg)) S
theorem dop_in0 : DOpR X (compareOp .In) (gIn0 false) := by
  refine ⟨_, op_in0, ?_⟩
  rintro G μ F S H x y a b Qd Q I ra rb ⟨hs, h⟩ k
  obtain ⟨p, xs, rfl, hq, rs⟩ := seq_at I rb hs
  obtain rfl : xs = [] := by cases rs; rfl
  exact ⟨p, rfl, hq, k.bl I h⟩
theorem dop_notin0 : DOpR X (compareOp .NotIn) (gIn0 true) := by
  refine ⟨_, op_notin0, ?_⟩
  rintro G μ F S H x y a b Qd Q I ra rb ⟨hs, h⟩ k
  obtain ⟨p, xs, rfl, hq, rs⟩ := seq_at I rb hs
  obtain rfl : xs = [] := by cases rs; rfl
  exact ⟨p, rfl, hq, k.bl I h⟩
open PySem.W in
def cSortDO : DRC := fun ws S Q => ∃ l, one ws S = some l ∧ AllAlike l ∧ Sortable l ∧ l.length ≤ sizeLine ∧ (∀ d ∈ l, d.depth ≤ 60) ∧ Q (.o S.length) (S ++ [.lst ((l.mergeSort (dataLe false id)).map .d)])
open PySem.W in
theorem dc_sortDO (hu : X.A.units + 65 < cLine) : DCallR X (.builtin "sorted") cSortDO := by
  refine ⟨_, cr_sortD hu, ?_⟩
  rintro G μ F S H vs ws Qd Q I r ⟨l, h1, h2, h3, h4, h5, q⟩ k
  obtain ⟨a, xs, rfl, e, p⟩ := one_at I r h1
  obtain ⟨z1, z2, z3⟩ := zip_paired p
  have hlen : (xs.zip l).length = l.length := by rw [← z2, List.length_map, z2]
  refine ⟨a, xs.zip l, rfl, by rw [z1]; exact .inl (.inl e), fun b hb => dq_dp _ _ (nodict_alike _ (h2 _ (z2 ▸ List.mem_map.mpr ⟨b, hb, rfl⟩) _ (z2 ▸ List.mem_map.mpr ⟨b, hb, rfl⟩))) (dq_mono I.fr _ (z3 b hb)), by rw [z2]; exact h2, by rw [z2]; exact h3, by rw [hlen]; exact h4, fun b hb => h5 _ (by rw [← z2]; exact List.mem_map.mpr ⟨b, hb, rfl⟩), fun p hp => ?_⟩
  have hm : ((xs.zip l).mergeSort (dataLe false Prod.snd)).map Prod.snd = l.mergeSort (dataLe false id) := by
    rw [sort_maps (r := dataLe false Prod.snd) (s := dataLe false id) Prod.snd (fun _ _ _ _ => rfl), z2]
  refine k.olst I hp ?_ q
  rw [← hm]
  exact rws_d (paired_map2 (F := F) fun b hb => z3 b ((List.mergeSort_perm ..).mem_iff.mp hb))
end
section
variable {S : Sto} {Q : Wv → Sto → Prop} {x y : Wv} {ws : List Wv}
theorem st_eqL0 (h : Seq S x false ws) (q : Q (.d (.bool ws.isEmpty)) S) : gL0 x (.d (.list [])) S Q := ⟨ws, h, rfl, q⟩
theorem st_in0 {neg : Bool} (h : Seq S y false []) (q : Q (.d (.bool neg)) S) : gIn0 neg x y S Q := ⟨h, q⟩
open PySem.W in
theorem st_sortDO0 {k : Nat} (hS : S[k]? = some (.lst [])) (q : Q (.o S.length) (S ++ [.lst []])) : cSortDO [.o k] S Q := by
  have no : ∀ d : PyData, d ∉ ([] : List PyData) := fun d hd => by cases hd
  refine ⟨[], ?_, fun d hd => absurd hd (no d), .inl fun d hd => absurd hd (no d), by decide, fun d hd => absurd hd (no d), ?_⟩
  · unfold one
    dsimp only
    rw [hS]
    rfl
  · rw [List.mergeSort_nil]
    exact q
end
/-! enumerate over a list of data, owned or not -/
section
variable {X : Cx} {e : Expr}
def diEnumW (f : DTA) : DTI := fun ρ S R => f ρ S fun ws S1 => ∃ w ds, ws = [w] ∧ Seq S1 w false (ds.map .d) ∧ R ((enumP ds).map .d) (fun S => Seq S w false (ds.map .d)) S1
theorem di_enumW {fa : DTA} {p pos tpos : Pos} {elts : List Expr} {kk : Nat} (hg : Gl X "enumerate") (hm : X.mg "enumerate" = none) (ha : DA X [e] fa) (hs : starEach [e] X.env = [(false, eval e X.env)] := by rfl) :
    DI X (.Tuple elts kk tpos) (.Call (.Name "enumerate" p) [e] [] pos) (diEnumW fa) := by
  obtain ⟨_, a1, a2⟩ := ha
  refine ⟨_, pi_enum hg hm a1 hs, fun G μ F S H σ ρ R Q I RR z k => a2 G μ F S H σ ρ _ _ I RR z ?_⟩
  rintro μ1 F1 S1 H1 v w e1 I1 r1 ⟨w, ds, rfl, hsq, z1⟩
  obtain ⟨u, rfl, ru⟩ := rws1 r1
  obtain ⟨a, xs, rfl, hq, rs⟩ := seq_at I1 ru hsq
  refine ⟨a, xs, rfl, hq, k _ _ _ _ _ _ _ e1 I1 ?_ z1⟩
  intro G2 i μ2 F2 S2 H2 e I hk2
  obtain ⟨a2, xs2, ea, hq2, rs2⟩ := seq_at I (ru.mono e) hk2
  cases ea
  have pa := d_rws rs2
  have s1 : SqL X.K H2 a xs2 := hq2
  have l1 := pa.length
  have hl : ((enumP ds).map Wv.d).length = ds.length := by simp [enumP]
  rw [hl]
  refine ⟨fun hi => ?_, fun hi => ⟨xs2, s1, by omega⟩⟩
  have hx : ds[i]? = some ds[i] := List.getElem?_eq_getElem (by omega)
  obtain ⟨v1, h1, r1⟩ := paired_get pa hx
  refine ⟨⟨xs2, v1, s1, h1⟩, ?_⟩
  rintro v H' ⟨T, x, rfl, hT, rfl, hx'⟩
  have q1 : some v1 = some x := h1.symm.trans (hx' xs2 s1)
  cases q1
  obtain ⟨I2, e2⟩ := I.data (o := .tup [.int (i : Nat), v1]) hT
  refine ⟨_, .d (.tuple [.int (i : Nat), ds[i]]), e2, I2, ?_, .d (.tup upd_same (.cons (.int _) (.cons (dq_mono e2.same _ r1) .nil)))⟩
  unfold enumP
  rw [List.getElem?_map, List.getElem?_map, List.getElem?_zipIdx, hx]
  simp
end

end Dm
end
section
open PySem L2 Dm PyProof.Rows

namespace Dm
open PySem.Spec
/-! a list times a number: data -/
def gMulL : DR2 := fun x y S Q => match x, y with
  | .d (.list a), .d (.int k) => (-(2 ^ 63) ≤ k ∧ k < 2 ^ 63) ∧ a.length * k.toNat ≤ sizeLine ∧ Q (.d (.list (List.replicate k.toNat a).flatten)) S
  | _, _ => False
theorem dop_mulL {X : Cx} : DOpR X (binaryOp .Mult) gMulL := by
  refine ⟨_, op_rep, ?_⟩
  intro G μ F S H x y a b Qd Q I ra rb h k
  unfold gMulL at h
  split at h
  · obtain ⟨p, xs, rfl, ea, pa⟩ := of_lst ra
    obtain rfl := of_int rb
    exact ⟨_, _, _, rfl, rfl, I.fr _ _ ea, h.1.1, h.1.2, by rw [pa.length]; exact h.2.1, fun z hz => k.lst I hz (paired_rep pa _) h.2.2⟩
  · exact h.elim
theorem st_mulL {S : Sto} {Q : Wv → Sto → Prop} {a : List PyData} {n : Int} (h0 : 0 ≤ n) (h1 : n < 100000) (ha : a.length * n.toNat ≤ 100000) (h : Q (.d (.list (List.replicate n.toNat a).flatten)) S) : gMulL (.d (.list a)) (.d (.int n)) S Q := ⟨⟨by omega, by omega⟩, le_line ha, h⟩

end Dm
end
section
open PySem L2 Dm PyProof.Rows

namespace Dm
/-! ### a family of exceptions: one class P and those right below it -/
abbrev xtl : List Value := [.type "ValueError", .type "Exception", .type "BaseException", .type "object"]
def MroIs (K : PySem.W.Frag) (C : Addr) (l : List Value) : Prop := (PySem.W.clsIn K C).map (·.mro) = some l
structure XFam (K : PySem.W.Frag) (P : Addr) (L : List Addr) : Prop where
  mro : ∀ C ∈ L, MroIs K C (.ref C :: .ref P :: xtl)
  top : MroIs K P (.ref P :: xtl)
  ty : ∀ C ∈ P :: L, PySem.W.typeIn K (.ref C) = some (.type "type")
  ec : ∀ C ∈ P :: L, ExcC K C
  nd : (P :: L).Nodup
theorem sub_by {K : PySem.W.Frag} {C : Addr} {l : List Value} (h : MroIs K C l) (hl : l.isEmpty = false) (b : Value) : PySem.W.subIn K (.ref C) b = some (l.contains b) := by
  unfold PySem.W.subIn PySem.W.mroIn
  dsimp only
  obtain ⟨cd, h1, h2⟩ := Option.map_eq_some_iff.mp h
  rw [h1]
  show (if cd.mro.isEmpty = true then none else some (cd.mro.contains b)) = _
  rw [h2, hl]
  rfl
section
variable {K : PySem.W.Frag} {P C B : Addr} {L : List Addr}
theorem XFam.has (F : XFam K P L) (h : C ∈ P :: L) : (PySem.W.clsIn K C).isSome = true := by
  rcases List.mem_cons.mp h with rfl | h
  · obtain ⟨cd, h1, _⟩ := Option.map_eq_some_iff.mp F.top
    rw [h1]; rfl
  · obtain ⟨cd, h1, _⟩ := Option.map_eq_some_iff.mp (F.mro C h)
    rw [h1]; rfl
theorem XFam.subT (F : XFam K P L) (h : C ∈ P :: L) {t : String} (ht : xtl.contains (.type t) = true) : PySem.W.subIn K (.ref C) (.type t) = some true := by
  rcases List.mem_cons.mp h with rfl | h
  · rw [sub_by F.top (by rfl), List.contains_cons, ht, Bool.or_true]
  · rw [sub_by (F.mro C h) (by rfl), List.contains_cons, List.contains_cons, ht, Bool.or_true, Bool.or_true]
theorem ref_beq {a b : Addr} : ((Value.ref a : Value) == .ref b) = decide (a = b) := by
  by_cases e : a = b
  · subst e; simp
  · rw [decide_eq_false e]
    simp [e]
theorem XFam.sub (F : XFam K P L) (h : C ∈ P :: L) : PySem.W.subIn K (.ref C) (.ref B) = some (decide (C = B ∨ B = P)) := by
  have h0 : xtl.contains (.ref B) = false := rfl
  have e : decide (C = B ∨ B = P) = (decide (B = C) || decide (B = P)) := by
    by_cases h1 : C = B
    · subst h1; simp
    · have h2 : ¬ B = C := fun z => h1 z.symm
      simp [h1, h2]
  rw [e]
  rcases List.mem_cons.mp h with rfl | h
  · rw [sub_by F.top (by rfl), List.contains_cons, h0, ref_beq, Bool.or_false, Bool.or_self]
  · rw [sub_by (F.mro C h) (by rfl), List.contains_cons, List.contains_cons, h0, ref_beq, ref_beq, Bool.or_false]
theorem XFam.kc (F : XFam K P L) (h : C ∈ P :: L) (hB : B ∈ P :: L) : PySem.W.kitCls K (.ref C) (.ref B) = some (decide (C = B ∨ B = P)) := by
  unfold PySem.W.kitCls
  dsimp only
  rw [F.has hB, F.ty B hB]
  exact (if_pos (by rfl)).trans (F.sub h)
theorem XFam.kit (F : XFam K P L) (h : C ∈ P :: L) (hB : B ∈ P :: L) : PySem.W.kitOne K (.ref C) (.ref B) = some (decide (C = B ∨ B = P)) := by
  unfold PySem.W.kitOne
  by_cases e : C = B
  · subst e; simp
  · rw [if_neg (by simpa using e)]
    exact F.kc h hB
theorem XFam.kitT (F : XFam K P L) (h : C ∈ P :: L) {t : String} (ht : xtl.contains (.type t) = true) (hm : PySem.W.kitMeta t = true) : PySem.W.kitOne K (.ref C) (.type t) = some true := kit_ty (F.subT h ht) hm
theorem XFam.exm (F : XFam K P L) (h : C ∈ P :: L) (hB : B ∈ P :: L) : PySem.W.exmOne K (.ref C) (.ref B) = some (decide (C = B ∨ B = P)) := by
  unfold PySem.W.exmOne
  rw [F.subT hB (by decide +kernel)]
  exact (if_pos (by rfl)).trans (F.kc h hB)
theorem XFam.exP (F : XFam K P L) (h : C ∈ P :: L) : PySem.W.exmOne K (.ref C) (.ref P) = some true := by
  rw [F.exm h List.mem_cons_self]; simp
theorem XFam.exY (F : XFam K P L) (hB : B ∈ L) (h : C = B) : PySem.W.exmOne K (.ref C) (.ref B) = some true := by
  subst h
  rw [F.exm (List.mem_cons_of_mem _ hB) (List.mem_cons_of_mem _ hB)]; simp
theorem XFam.exN (F : XFam K P L) (h : C ∈ P :: L) (hB : B ∈ L) (n : C ≠ B) : PySem.W.exmOne K (.ref C) (.ref B) = some false := by
  have hp : ¬ B = P := fun z => (List.nodup_cons.mp F.nd).1 (z ▸ hB)
  rw [F.exm h (List.mem_cons_of_mem _ hB)]; simp [n, hp]
end
/-- what isinstance answers of the family -/
def famF (P : Addr) (L : List Addr) : Addr → V → Bool → Prop := fun C t b => C ∈ P :: L ∧ ((∃ B ∈ P :: L, t = .ref B ∧ b = decide (C = B ∨ B = P)) ∨ (t = .ty "ValueError" ∧ b = true))
def famP (P : Addr) (L : List Addr) : Addr → Prop := fun C => C ∈ P :: L
theorem fam_hP {K : PySem.W.Frag} {P : Addr} {L : List Addr} (F : XFam K P L) : ∀ C, famP P L C → ExcC K C := fun C h => F.ec C h
theorem fam_hF {K : PySem.W.Frag} {P : Addr} {L : List Addr} (F : XFam K P L) : ∀ C t b, famF P L C t b → ∃ cv, (∀ u, RelV t u → u = cv) ∧ PySem.W.kitOne K (.ref C) cv = some b := by
  rintro C t b ⟨hC, ⟨B, hB, rfl, rfl⟩ | ⟨rfl, rfl⟩⟩
  · exact ⟨.ref B, fun u r => r, F.kit hC hB⟩
  · exact ⟨.type "ValueError", fun u r => r, F.kitT hC (by decide +kernel) (by decide +kernel)⟩

end Dm
end
section
open PySem L2 Dm PyProof.Rows

namespace Smp
/-! what stays beside some places -/
structure Off (L : List Nat) (S S' : Sto) : Prop where
  get : ∀ a, a ∉ L → ∀ o, S[a]? = some o → S'[a]? = some o
  len : S.length ≤ S'.length
section
variable {L L' : List Nat} {S S' S2 T : Sto} {a : Nat} {o : OO}
theorem Off.refl : Off L S S := ⟨fun _ _ _ h => h, Nat.le_refl _⟩
theorem Off.trans (h : Off L S S') (h' : Off L S' S2) : Off L S S2 := ⟨fun a n o e => h'.get a n o (h.get a n o e), Nat.le_trans h.len h'.len⟩
theorem Off.mono (h : Off L S S') (m : ∀ a ∈ L, a ∈ L') : Off L' S S' := ⟨fun a n o e => h.get a (fun z => n (m a z)) o e, h.len⟩
theorem Off.app (h : Off L S S') : Off L S (S' ++ T) := ⟨fun a n o e => get_app (h.get a n o e), by rw [List.length_append]; exact Nat.le_trans h.len (Nat.le_add_right ..)⟩
theorem Off.set (h : Off L S S') (ha : a ∈ L) : Off L S (S'.set a o) := ⟨fun b n u e => get_ne (fun z => n (z ▸ ha)) (h.get b n u e), by rw [List.length_set]; exact h.len⟩
theorem Off.setN (h : Off L S S') (ha : S.length ≤ a) : Off L S (S'.set a o) := ⟨fun b n u e => get_ne (fun z => by have := (List.getElem?_eq_some_iff.mp e).1; omega) (h.get b n u e), by rw [List.length_set]; exact h.len⟩
theorem Off.keep (h : Off [] S S') : Keep S S' := fun a o e => h.get a (by simp) o e
theorem off_keep (h : Keep S S') : Off L S S' := ⟨fun a _ o e => h a o e, keep_le h⟩
theorem Off.both (h : Off L S S') : Off (a :: L) S S' := h.mono fun _ m => List.mem_cons_of_mem _ m
theorem lt_of_get {a : Nat} {o : OO} (h : S[a]? = some o) : a < S.length := (List.getElem?_eq_some_iff.mp h).1
end
theorem Off.drop {L : List Nat} {S S' : Sto} {k : Nat} (h : Off (k :: L) S S') (hk : S.length ≤ k) : Off L S S' := ⟨fun a n o e => h.get a (by
  have := lt_of_get e
  simp only [List.mem_cons, not_or]
  exact ⟨by omega, n⟩) o e, h.len⟩

end Smp
end
namespace K17
open PySem L2 Dm
def topS (i : Nat) : Stmt := PySem.Challenge.pw_placedworks_k17_refusals_apart.main.body.getD i (.Pass ⟨0, 0, 0, 0⟩)
abbrev st_l_bag : Stmt := topS 19
abbrev n_l_bag : List Str := ["_law_script", "_law_cell"]
theorem sc_l_bag : FnScope n_l_bag ["_law_script"] (defScope st_l_bag) := ⟨rfl, rfl, rfl, by decide +kernel, rfl, by decide +kernel, by decide +kernel⟩
abbrev st_l_take : Stmt := topS 20
abbrev n_l_take : List Str := ["_law_bag_here", "_law_many", "_law_cell", "_law_value", "_law_first", "_law_second"]
theorem sc_l_take : FnScope n_l_take ["_law_bag_here", "_law_many"] (defScope st_l_take) := ⟨rfl, rfl, rfl, by decide +kernel, rfl, by decide +kernel, by decide +kernel⟩
abbrev st_l_thing : Stmt := topS 26
abbrev n_l_thing : List Str := ["_law_bag_here", "_law_number", "_law_some"]
theorem sc_l_thing : FnScope n_l_thing ["_law_bag_here"] (defScope st_l_thing) := ⟨rfl, rfl, rfl, by decide +kernel, rfl, by decide +kernel, by decide +kernel⟩
abbrev st_l_raised : Stmt := topS 21
abbrev n_l_raised : List Str := ["_law_k", "_law_thing_here", "_law_word"]
theorem sc_l_raised : FnScope n_l_raised ["_law_k", "_law_thing_here", "_law_word"] (defScope st_l_raised) := ⟨rfl, rfl, rfl, by decide +kernel, rfl, by decide +kernel, by decide +kernel⟩
abbrev st_l_kinds : Stmt := topS 22
abbrev n_l_kinds : List Str := ["_law_e", "_law_some"]
theorem sc_l_kinds : FnScope n_l_kinds ["_law_e"] (defScope st_l_kinds) := ⟨rfl, rfl, rfl, by decide +kernel, rfl, by decide +kernel, by decide +kernel⟩
abbrev st_l_caught : Stmt := topS 23
abbrev n_l_caught : List Str := ["_law_k", "_law_thing_here", "_law_word", "_law_e"]
theorem sc_l_caught : FnScope n_l_caught ["_law_k", "_law_thing_here", "_law_word"] (defScope st_l_caught) := ⟨rfl, rfl, rfl, by decide +kernel, rfl, by decide +kernel, by decide +kernel⟩
abbrev st_l_at : Stmt := topS 24
abbrev n_l_at : List Str := ["_law_k", "_law_thing_here", "_law_word", "_law_e"]
theorem sc_l_at : FnScope n_l_at ["_law_k", "_law_thing_here", "_law_word"] (defScope st_l_at) := ⟨rfl, rfl, rfl, by decide +kernel, rfl, by decide +kernel, by decide +kernel⟩
abbrev st_l_else : Stmt := topS 25
abbrev n_l_else : List Str := ["_law_k", "_law_thing_here", "_law_word", "_law_e"]
theorem sc_l_else : FnScope n_l_else ["_law_k", "_law_thing_here", "_law_word"] (defScope st_l_else) := ⟨rfl, rfl, rfl, by decide +kernel, rfl, by decide +kernel, by decide +kernel⟩
abbrev st_l_any : Stmt := topS 27
abbrev n_l_any : List Str := ["_law_e"]
theorem sc_l_any : FnScope n_l_any [] (defScope st_l_any) := ⟨rfl, rfl, rfl, by decide +kernel, rfl, by decide +kernel, by decide +kernel⟩
abbrev st_law : Stmt := topS 28
abbrev n_law : List Str := ["_law_script", "_law_bag_here", "_law_turn", "_law_k", "_law_thing_here", "_law_word", "_law_due", "_law_j"]
theorem sc_law : FnScope n_law ["_law_script"] (defScope st_law) := ⟨rfl, rfl, rfl, by decide +kernel, rfl, by decide +kernel, by decide +kernel⟩
abbrev st_BadAsked_init : Stmt := inClass (topS 9) 0
abbrev n_BadAsked_init : List Str := ["self", "at"]
theorem sc_BadAsked_init : FnScope n_BadAsked_init ["self", "at"] (defScope st_BadAsked_init) := ⟨rfl, rfl, rfl, by decide +kernel, rfl, by decide +kernel, by decide +kernel⟩
abbrev st_BadBerths_init : Stmt := inClass (topS 8) 0
abbrev n_BadBerths_init : List Str := ["self", "at"]
theorem sc_BadBerths_init : FnScope n_BadBerths_init ["self", "at"] (defScope st_BadBerths_init) := ⟨rfl, rfl, rfl, by decide +kernel, rfl, by decide +kernel, by decide +kernel⟩
abbrev st_BadName_init : Stmt := inClass (topS 7) 0
abbrev n_BadName_init : List Str := ["self", "at"]
theorem sc_BadName_init : FnScope n_BadName_init ["self", "at"] (defScope st_BadName_init) := ⟨rfl, rfl, rfl, by decide +kernel, rfl, by decide +kernel, by decide +kernel⟩
abbrev st_BadRow_init : Stmt := inClass (topS 11) 0
abbrev n_BadRow_init : List Str := ["self", "at"]
theorem sc_BadRow_init : FnScope n_BadRow_init ["self", "at"] (defScope st_BadRow_init) := ⟨rfl, rfl, rfl, by decide +kernel, rfl, by decide +kernel, by decide +kernel⟩
abbrev st_BadShare_init : Stmt := inClass (topS 10) 0
abbrev n_BadShare_init : List Str := ["self", "at"]
theorem sc_BadShare_init : FnScope n_BadShare_init ["self", "at"] (defScope st_BadShare_init) := ⟨rfl, rfl, rfl, by decide +kernel, rfl, by decide +kernel, by decide +kernel⟩
abbrev st_Early_init : Stmt := inClass (topS 17) 0
abbrev n_Early_init : List Str := ["self", "until"]
theorem sc_Early_init : FnScope n_Early_init ["self", "until"] (defScope st_Early_init) := ⟨rfl, rfl, rfl, by decide +kernel, rfl, by decide +kernel, by decide +kernel⟩
abbrev st_Known_init : Stmt := inClass (topS 13) 0
abbrev n_Known_init : List Str := ["self", "name"]
theorem sc_Known_init : FnScope n_Known_init ["self", "name"] (defScope st_Known_init) := ⟨rfl, rfl, rfl, by decide +kernel, rfl, by decide +kernel, by decide +kernel⟩
abbrev st_NoRoom_init : Stmt := inClass (topS 16) 0
abbrev n_NoRoom_init : List Str := ["self", "first", "demanded", "room"]
theorem sc_NoRoom_init : FnScope n_NoRoom_init ["self", "first", "demanded", "room"] (defScope st_NoRoom_init) := ⟨rfl, rfl, rfl, by decide +kernel, rfl, by decide +kernel, by decide +kernel⟩
abbrev st_NoRow_init : Stmt := inClass (topS 6) 0
abbrev n_NoRow_init : List Str := ["self", "at"]
theorem sc_NoRow_init : FnScope n_NoRow_init ["self", "at"] (defScope st_NoRow_init) := ⟨rfl, rfl, rfl, by decide +kernel, rfl, by decide +kernel, by decide +kernel⟩
abbrev st_TooMany_init : Stmt := inClass (topS 15) 0
abbrev n_TooMany_init : List Str := ["self", "most"]
theorem sc_TooMany_init : FnScope n_TooMany_init ["self", "most"] (defScope st_TooMany_init) := ⟨rfl, rfl, rfl, by decide +kernel, rfl, by decide +kernel, by decide +kernel⟩
abbrev st_Unknown_init : Stmt := inClass (topS 12) 0
abbrev n_Unknown_init : List Str := ["self", "name"]
theorem sc_Unknown_init : FnScope n_Unknown_init ["self", "name"] (defScope st_Unknown_init) := ⟨rfl, rfl, rfl, by decide +kernel, rfl, by decide +kernel, by decide +kernel⟩
abbrev st_Used_init : Stmt := inClass (topS 14) 0
abbrev n_Used_init : List Str := ["self", "name"]
theorem sc_Used_init : FnScope n_Used_init ["self", "name"] (defScope st_Used_init) := ⟨rfl, rfl, rfl, by decide +kernel, rfl, by decide +kernel, by decide +kernel⟩
structure Ad where
  f_l_bag : Addr
  fd_l_bag : FuncData
  f_l_take : Addr
  fd_l_take : FuncData
  f_l_thing : Addr
  fd_l_thing : FuncData
  f_l_raised : Addr
  fd_l_raised : FuncData
  f_l_kinds : Addr
  fd_l_kinds : FuncData
  f_l_caught : Addr
  fd_l_caught : FuncData
  f_l_at : Addr
  fd_l_at : FuncData
  f_l_else : Addr
  fd_l_else : FuncData
  f_l_any : Addr
  fd_l_any : FuncData
  f_law : Addr
  fd_law : FuncData
  f_BadAsked_init : Addr
  fd_BadAsked_init : FuncData
  f_BadBerths_init : Addr
  fd_BadBerths_init : FuncData
  f_BadName_init : Addr
  fd_BadName_init : FuncData
  f_BadRow_init : Addr
  fd_BadRow_init : FuncData
  f_BadShare_init : Addr
  fd_BadShare_init : FuncData
  f_Early_init : Addr
  fd_Early_init : FuncData
  f_Known_init : Addr
  fd_Known_init : FuncData
  f_NoRoom_init : Addr
  fd_NoRoom_init : FuncData
  f_NoRow_init : Addr
  fd_NoRow_init : FuncData
  f_TooMany_init : Addr
  fd_TooMany_init : FuncData
  f_Unknown_init : Addr
  fd_Unknown_init : FuncData
  f_Used_init : Addr
  fd_Used_init : FuncData
  C_BadAsked : Addr
  C_BadBerths : Addr
  C_BadName : Addr
  C_BadRow : Addr
  C_BadShare : Addr
  C_Early : Addr
  C_Known : Addr
  C_NoBack : Addr
  C_NoDeed : Addr
  C_NoLine : Addr
  C_NoRoom : Addr
  C_NoRow : Addr
  C_NoText : Addr
  C_PlaceError : Addr
  C_TooMany : Addr
  C_Unknown : Addr
  C_Used : Addr
structure Txt (K : PySem.W.Frag) (mg : Str → Option Value) (a : Ad) : Prop where
  m_BadAsked : mg "BadAsked" = some (.ref a.C_BadAsked)
  oex_BadAsked : OexC K a.C_BadAsked
  a_BadAsked_init : PySem.W.findIn K (.ref a.C_BadAsked) "__init__" = some (some (.ref a.f_BadAsked_init))
  ti_BadAsked : PySem.W.typeIn K (.ref a.f_BadAsked_init) = some (.type "function")
  xf_BadAsked : XfC K a.C_BadAsked
  m_BadBerths : mg "BadBerths" = some (.ref a.C_BadBerths)
  oex_BadBerths : OexC K a.C_BadBerths
  a_BadBerths_init : PySem.W.findIn K (.ref a.C_BadBerths) "__init__" = some (some (.ref a.f_BadBerths_init))
  ti_BadBerths : PySem.W.typeIn K (.ref a.f_BadBerths_init) = some (.type "function")
  xf_BadBerths : XfC K a.C_BadBerths
  m_BadName : mg "BadName" = some (.ref a.C_BadName)
  oex_BadName : OexC K a.C_BadName
  a_BadName_init : PySem.W.findIn K (.ref a.C_BadName) "__init__" = some (some (.ref a.f_BadName_init))
  ti_BadName : PySem.W.typeIn K (.ref a.f_BadName_init) = some (.type "function")
  xf_BadName : XfC K a.C_BadName
  m_BadRow : mg "BadRow" = some (.ref a.C_BadRow)
  oex_BadRow : OexC K a.C_BadRow
  a_BadRow_init : PySem.W.findIn K (.ref a.C_BadRow) "__init__" = some (some (.ref a.f_BadRow_init))
  ti_BadRow : PySem.W.typeIn K (.ref a.f_BadRow_init) = some (.type "function")
  xf_BadRow : XfC K a.C_BadRow
  m_BadShare : mg "BadShare" = some (.ref a.C_BadShare)
  oex_BadShare : OexC K a.C_BadShare
  a_BadShare_init : PySem.W.findIn K (.ref a.C_BadShare) "__init__" = some (some (.ref a.f_BadShare_init))
  ti_BadShare : PySem.W.typeIn K (.ref a.f_BadShare_init) = some (.type "function")
  xf_BadShare : XfC K a.C_BadShare
  m_Early : mg "Early" = some (.ref a.C_Early)
  oex_Early : OexC K a.C_Early
  a_Early_init : PySem.W.findIn K (.ref a.C_Early) "__init__" = some (some (.ref a.f_Early_init))
  ti_Early : PySem.W.typeIn K (.ref a.f_Early_init) = some (.type "function")
  xf_Early : XfC K a.C_Early
  m_Known : mg "Known" = some (.ref a.C_Known)
  oex_Known : OexC K a.C_Known
  a_Known_init : PySem.W.findIn K (.ref a.C_Known) "__init__" = some (some (.ref a.f_Known_init))
  ti_Known : PySem.W.typeIn K (.ref a.f_Known_init) = some (.type "function")
  xf_Known : XfC K a.C_Known
  m_NoBack : mg "NoBack" = some (.ref a.C_NoBack)
  xn_NoBack : XnC K a.C_NoBack
  m_NoDeed : mg "NoDeed" = some (.ref a.C_NoDeed)
  xn_NoDeed : XnC K a.C_NoDeed
  m_NoLine : mg "NoLine" = some (.ref a.C_NoLine)
  xn_NoLine : XnC K a.C_NoLine
  m_NoRoom : mg "NoRoom" = some (.ref a.C_NoRoom)
  oex_NoRoom : OexC K a.C_NoRoom
  a_NoRoom_init : PySem.W.findIn K (.ref a.C_NoRoom) "__init__" = some (some (.ref a.f_NoRoom_init))
  ti_NoRoom : PySem.W.typeIn K (.ref a.f_NoRoom_init) = some (.type "function")
  xf_NoRoom : XfC K a.C_NoRoom
  m_NoRow : mg "NoRow" = some (.ref a.C_NoRow)
  oex_NoRow : OexC K a.C_NoRow
  a_NoRow_init : PySem.W.findIn K (.ref a.C_NoRow) "__init__" = some (some (.ref a.f_NoRow_init))
  ti_NoRow : PySem.W.typeIn K (.ref a.f_NoRow_init) = some (.type "function")
  xf_NoRow : XfC K a.C_NoRow
  m_NoText : mg "NoText" = some (.ref a.C_NoText)
  xn_NoText : XnC K a.C_NoText
  m_PlaceError : mg "PlaceError" = some (.ref a.C_PlaceError)
  xn_PlaceError : XnC K a.C_PlaceError
  m_TooMany : mg "TooMany" = some (.ref a.C_TooMany)
  oex_TooMany : OexC K a.C_TooMany
  a_TooMany_init : PySem.W.findIn K (.ref a.C_TooMany) "__init__" = some (some (.ref a.f_TooMany_init))
  ti_TooMany : PySem.W.typeIn K (.ref a.f_TooMany_init) = some (.type "function")
  xf_TooMany : XfC K a.C_TooMany
  m_Unknown : mg "Unknown" = some (.ref a.C_Unknown)
  oex_Unknown : OexC K a.C_Unknown
  a_Unknown_init : PySem.W.findIn K (.ref a.C_Unknown) "__init__" = some (some (.ref a.f_Unknown_init))
  ti_Unknown : PySem.W.typeIn K (.ref a.f_Unknown_init) = some (.type "function")
  xf_Unknown : XfC K a.C_Unknown
  m_Used : mg "Used" = some (.ref a.C_Used)
  oex_Used : OexC K a.C_Used
  a_Used_init : PySem.W.findIn K (.ref a.C_Used) "__init__" = some (some (.ref a.f_Used_init))
  ti_Used : PySem.W.typeIn K (.ref a.f_Used_init) = some (.type "function")
  xf_Used : XfC K a.C_Used
  nf_BadAsked_at : PySem.W.findIn K (.ref a.C_BadAsked) "at" = some none
  nf_BadBerths_at : PySem.W.findIn K (.ref a.C_BadBerths) "at" = some none
  nf_BadName_at : PySem.W.findIn K (.ref a.C_BadName) "at" = some none
  nf_BadRow_at : PySem.W.findIn K (.ref a.C_BadRow) "at" = some none
  nf_BadShare_at : PySem.W.findIn K (.ref a.C_BadShare) "at" = some none
  nf_Early_until : PySem.W.findIn K (.ref a.C_Early) "until" = some none
  nf_Known_name : PySem.W.findIn K (.ref a.C_Known) "name" = some none
  nf_NoRoom_demanded : PySem.W.findIn K (.ref a.C_NoRoom) "demanded" = some none
  nf_NoRoom_first : PySem.W.findIn K (.ref a.C_NoRoom) "first" = some none
  nf_NoRoom_room : PySem.W.findIn K (.ref a.C_NoRoom) "room" = some none
  nf_NoRow_at : PySem.W.findIn K (.ref a.C_NoRow) "at" = some none
  nf_TooMany_most : PySem.W.findIn K (.ref a.C_TooMany) "most" = some none
  nf_Unknown_name : PySem.W.findIn K (.ref a.C_Unknown) "name" = some none
  nf_Used_name : PySem.W.findIn K (.ref a.C_Used) "name" = some none
  fam : XFam K a.C_PlaceError [a.C_NoRow , a.C_BadName , a.C_BadBerths , a.C_BadAsked , a.C_BadShare , a.C_BadRow , a.C_Unknown , a.C_Known , a.C_Used , a.C_TooMany , a.C_Early , a.C_NoText , a.C_NoDeed , a.C_NoBack , a.C_NoLine , a.C_NoRoom ]
  F_l_bag : Fun K "_law_bag" "_law_bag" st_l_bag a.f_l_bag a.fd_l_bag
  b_l_bag : Binds K a.fd_l_bag ["_law_script"] []
  m_l_bag : mg "_law_bag" = some (.ref a.f_l_bag)
  F_l_take : Fun K "_law_take" "_law_take" st_l_take a.f_l_take a.fd_l_take
  b_l_take : Binds K a.fd_l_take ["_law_bag_here", "_law_many"] []
  m_l_take : mg "_law_take" = some (.ref a.f_l_take)
  F_l_thing : Fun K "_law_thing" "_law_thing" st_l_thing a.f_l_thing a.fd_l_thing
  b_l_thing : Binds K a.fd_l_thing ["_law_bag_here"] []
  m_l_thing : mg "_law_thing" = some (.ref a.f_l_thing)
  F_l_raised : Fun K "_law_raised" "_law_raised" st_l_raised a.f_l_raised a.fd_l_raised
  b_l_raised : Binds K a.fd_l_raised ["_law_k", "_law_thing_here", "_law_word"] []
  m_l_raised : mg "_law_raised" = some (.ref a.f_l_raised)
  F_l_kinds : Fun K "_law_kinds" "_law_kinds" st_l_kinds a.f_l_kinds a.fd_l_kinds
  b_l_kinds : Binds K a.fd_l_kinds ["_law_e"] []
  m_l_kinds : mg "_law_kinds" = some (.ref a.f_l_kinds)
  F_l_caught : Fun K "_law_caught" "_law_caught" st_l_caught a.f_l_caught a.fd_l_caught
  b_l_caught : Binds K a.fd_l_caught ["_law_k", "_law_thing_here", "_law_word"] []
  m_l_caught : mg "_law_caught" = some (.ref a.f_l_caught)
  F_l_at : Fun K "_law_at" "_law_at" st_l_at a.f_l_at a.fd_l_at
  b_l_at : Binds K a.fd_l_at ["_law_k", "_law_thing_here", "_law_word"] []
  m_l_at : mg "_law_at" = some (.ref a.f_l_at)
  F_l_else : Fun K "_law_else" "_law_else" st_l_else a.f_l_else a.fd_l_else
  b_l_else : Binds K a.fd_l_else ["_law_k", "_law_thing_here", "_law_word"] []
  m_l_else : mg "_law_else" = some (.ref a.f_l_else)
  F_l_any : Fun K "_law_any" "_law_any" st_l_any a.f_l_any a.fd_l_any
  b_l_any : Binds K a.fd_l_any [] []
  m_l_any : mg "_law_any" = some (.ref a.f_l_any)
  F_law : Fun K "law" "law" st_law a.f_law a.fd_law
  b_law : Binds K a.fd_law ["_law_script"] []
  m_law : mg "law" = some (.ref a.f_law)
  F_BadAsked_init : Fun K "__init__" "BadAsked.__init__" st_BadAsked_init a.f_BadAsked_init a.fd_BadAsked_init
  b_BadAsked_init : Binds K a.fd_BadAsked_init ["self", "at"] []
  F_BadBerths_init : Fun K "__init__" "BadBerths.__init__" st_BadBerths_init a.f_BadBerths_init a.fd_BadBerths_init
  b_BadBerths_init : Binds K a.fd_BadBerths_init ["self", "at"] []
  F_BadName_init : Fun K "__init__" "BadName.__init__" st_BadName_init a.f_BadName_init a.fd_BadName_init
  b_BadName_init : Binds K a.fd_BadName_init ["self", "at"] []
  F_BadRow_init : Fun K "__init__" "BadRow.__init__" st_BadRow_init a.f_BadRow_init a.fd_BadRow_init
  b_BadRow_init : Binds K a.fd_BadRow_init ["self", "at"] []
  F_BadShare_init : Fun K "__init__" "BadShare.__init__" st_BadShare_init a.f_BadShare_init a.fd_BadShare_init
  b_BadShare_init : Binds K a.fd_BadShare_init ["self", "at"] []
  F_Early_init : Fun K "__init__" "Early.__init__" st_Early_init a.f_Early_init a.fd_Early_init
  b_Early_init : Binds K a.fd_Early_init ["self", "until"] []
  F_Known_init : Fun K "__init__" "Known.__init__" st_Known_init a.f_Known_init a.fd_Known_init
  b_Known_init : Binds K a.fd_Known_init ["self", "name"] []
  F_NoRoom_init : Fun K "__init__" "NoRoom.__init__" st_NoRoom_init a.f_NoRoom_init a.fd_NoRoom_init
  b_NoRoom_init : Binds K a.fd_NoRoom_init ["self", "first", "demanded", "room"] []
  F_NoRow_init : Fun K "__init__" "NoRow.__init__" st_NoRow_init a.f_NoRow_init a.fd_NoRow_init
  b_NoRow_init : Binds K a.fd_NoRow_init ["self", "at"] []
  F_TooMany_init : Fun K "__init__" "TooMany.__init__" st_TooMany_init a.f_TooMany_init a.fd_TooMany_init
  b_TooMany_init : Binds K a.fd_TooMany_init ["self", "most"] []
  F_Unknown_init : Fun K "__init__" "Unknown.__init__" st_Unknown_init a.f_Unknown_init a.fd_Unknown_init
  b_Unknown_init : Binds K a.fd_Unknown_init ["self", "name"] []
  F_Used_init : Fun K "__init__" "Used.__init__" st_Used_init a.f_Used_init a.fd_Used_init
  b_Used_init : Binds K a.fd_Used_init ["self", "name"] []
  z_ValueError : mg "ValueError" = none
  z_abs : mg "abs" = none
  z_int : mg "int" = none
  z_isinstance : mg "isinstance" = none
  z_len : mg "len" = none
  z_range : mg "range" = none
  z_repr : mg "repr" = none
section
variable {P : Program} {w : World} {K : PySem.W.Frag} {mg : Str → Option Value} {base : Heap} {a : Ad}
theorem ok_BadAsked_init (T : Txt K mg a) : FnOk P w K mg base CX0 1 a.f_BadAsked_init a.fd_BadAsked_init ["self", "at"] (initSp K "at") :=
  Fun.ok (k := 0) T.F_BadAsked_init sc_BadAsked_init init_len (fun cdv A outer s H vs Q E hr hsp => ⟨_, pss_one (ps_ost (pe_var (i := 0) rfl (Or.inl rfl)) (pe_var (i := 1) rfl (Or.inl rfl))), init_sp hsp⟩)
theorem ok_BadBerths_init (T : Txt K mg a) : FnOk P w K mg base CX0 1 a.f_BadBerths_init a.fd_BadBerths_init ["self", "at"] (initSp K "at") :=
  Fun.ok (k := 0) T.F_BadBerths_init sc_BadBerths_init init_len (fun cdv A outer s H vs Q E hr hsp => ⟨_, pss_one (ps_ost (pe_var (i := 0) rfl (Or.inl rfl)) (pe_var (i := 1) rfl (Or.inl rfl))), init_sp hsp⟩)
theorem ok_BadName_init (T : Txt K mg a) : FnOk P w K mg base CX0 1 a.f_BadName_init a.fd_BadName_init ["self", "at"] (initSp K "at") :=
  Fun.ok (k := 0) T.F_BadName_init sc_BadName_init init_len (fun cdv A outer s H vs Q E hr hsp => ⟨_, pss_one (ps_ost (pe_var (i := 0) rfl (Or.inl rfl)) (pe_var (i := 1) rfl (Or.inl rfl))), init_sp hsp⟩)
theorem ok_BadRow_init (T : Txt K mg a) : FnOk P w K mg base CX0 1 a.f_BadRow_init a.fd_BadRow_init ["self", "at"] (initSp K "at") :=
  Fun.ok (k := 0) T.F_BadRow_init sc_BadRow_init init_len (fun cdv A outer s H vs Q E hr hsp => ⟨_, pss_one (ps_ost (pe_var (i := 0) rfl (Or.inl rfl)) (pe_var (i := 1) rfl (Or.inl rfl))), init_sp hsp⟩)
theorem ok_BadShare_init (T : Txt K mg a) : FnOk P w K mg base CX0 1 a.f_BadShare_init a.fd_BadShare_init ["self", "at"] (initSp K "at") :=
  Fun.ok (k := 0) T.F_BadShare_init sc_BadShare_init init_len (fun cdv A outer s H vs Q E hr hsp => ⟨_, pss_one (ps_ost (pe_var (i := 0) rfl (Or.inl rfl)) (pe_var (i := 1) rfl (Or.inl rfl))), init_sp hsp⟩)
theorem ok_Early_init (T : Txt K mg a) : FnOk P w K mg base CX0 1 a.f_Early_init a.fd_Early_init ["self", "until"] (initSp K "until") :=
  Fun.ok (k := 0) T.F_Early_init sc_Early_init init_len (fun cdv A outer s H vs Q E hr hsp => ⟨_, pss_one (ps_ost (pe_var (i := 0) rfl (Or.inl rfl)) (pe_var (i := 1) rfl (Or.inl rfl))), init_sp hsp⟩)
theorem ok_Known_init (T : Txt K mg a) : FnOk P w K mg base CX0 1 a.f_Known_init a.fd_Known_init ["self", "name"] (initSp K "name") :=
  Fun.ok (k := 0) T.F_Known_init sc_Known_init init_len (fun cdv A outer s H vs Q E hr hsp => ⟨_, pss_one (ps_ost (pe_var (i := 0) rfl (Or.inl rfl)) (pe_var (i := 1) rfl (Or.inl rfl))), init_sp hsp⟩)
theorem ok_NoRoom_init (T : Txt K mg a) : FnOk P w K mg base CX0 1 a.f_NoRoom_init a.fd_NoRoom_init ["self", "first", "demanded", "room"] (initSp3 K "first" "demanded" "room") :=
  Fun.ok (k := 0) T.F_NoRoom_init sc_NoRoom_init init_len3 (fun cdv A outer s H vs Q E hr hsp => ⟨_, pss_cons (ps_ost (pe_var (i := 0) rfl (Or.inl rfl)) (pe_var (i := 1) rfl (Or.inl rfl))) (pss_cons (ps_ost (pe_var (i := 0) rfl (Or.inl rfl)) (pe_var (i := 2) rfl (Or.inl rfl))) (pss_one (ps_ost (pe_var (i := 0) rfl (Or.inl rfl)) (pe_var (i := 3) rfl (Or.inl rfl))))), init_sp3 hsp⟩)
theorem ok_NoRow_init (T : Txt K mg a) : FnOk P w K mg base CX0 1 a.f_NoRow_init a.fd_NoRow_init ["self", "at"] (initSp K "at") :=
  Fun.ok (k := 0) T.F_NoRow_init sc_NoRow_init init_len (fun cdv A outer s H vs Q E hr hsp => ⟨_, pss_one (ps_ost (pe_var (i := 0) rfl (Or.inl rfl)) (pe_var (i := 1) rfl (Or.inl rfl))), init_sp hsp⟩)
theorem ok_TooMany_init (T : Txt K mg a) : FnOk P w K mg base CX0 1 a.f_TooMany_init a.fd_TooMany_init ["self", "most"] (initSp K "most") :=
  Fun.ok (k := 0) T.F_TooMany_init sc_TooMany_init init_len (fun cdv A outer s H vs Q E hr hsp => ⟨_, pss_one (ps_ost (pe_var (i := 0) rfl (Or.inl rfl)) (pe_var (i := 1) rfl (Or.inl rfl))), init_sp hsp⟩)
theorem ok_Unknown_init (T : Txt K mg a) : FnOk P w K mg base CX0 1 a.f_Unknown_init a.fd_Unknown_init ["self", "name"] (initSp K "name") :=
  Fun.ok (k := 0) T.F_Unknown_init sc_Unknown_init init_len (fun cdv A outer s H vs Q E hr hsp => ⟨_, pss_one (ps_ost (pe_var (i := 0) rfl (Or.inl rfl)) (pe_var (i := 1) rfl (Or.inl rfl))), init_sp hsp⟩)
theorem ok_Used_init (T : Txt K mg a) : FnOk P w K mg base CX0 1 a.f_Used_init a.fd_Used_init ["self", "name"] (initSp K "name") :=
  Fun.ok (k := 0) T.F_Used_init sc_Used_init init_len (fun cdv A outer s H vs Q E hr hsp => ⟨_, pss_one (ps_ost (pe_var (i := 0) rfl (Or.inl rfl)) (pe_var (i := 1) rfl (Or.inl rfl))), init_sp hsp⟩)
def body_l_bag : DTS :=
  dRet (dLstO (dCons (dC (.int 0)) (dCons (dC (.int 1234567891)) (dCons (dC (.int 0)) (dCons (dLc (diSeq false (dSl (dVar 0) (dNo) (dPart (dC (.int 63))))) (dgName 1) (dYes) (dCB cAbs (dCons (dVar 1) (dNil))) [1]) (dNil))))))
theorem ok_l_bag (T : Txt K mg a) {g : DSp} (len : ∀ ws S Q, g ws S Q → ws.length = 1)
    (h : ∀ ws S Qd, g ws S Qd → body_l_bag { nx := fun _ S' => Qd (.d .none) S', rt := Qd } (dstart 2 ws) S) : FnD P w K mg base 1 a.f_l_bag a.fd_l_bag ["_law_script"] g := by
  refine fnD_of (k := 0) T.F_l_bag sc_l_bag rfl len (fun cdv A outer s H E hr => ⟨_, ?_, h⟩)
  exact dss_one (ds_ret (de_lstO (da_cons (de_int) (da_cons (de_int) (da_cons (de_int) (da_cons (de_lc rfl sc_l_bag.nd (own := [("_law_cell", 1)]) (di_list (de_slice (de_var 0) (do_none) (do_some (de_int)))) (blkOk_by (N := n_l_bag) (sc := defScope st_l_bag) (by decide +kernel)) (fun _ _ _ _ _ => dg_name 1 sc_l_bag.nd rfl (by first | exact Or.inl rfl | exact Or.inr rfl) (by decide)) (fun _ _ _ _ _ => dts_nil) (fun _ _ _ _ _ => de_callB dc_abs rfl T.z_abs (by decide +kernel) (da_cons (de_var 1) (da_nil)))) (da_nil)))))))
def body_l_take : DTS :=
  dSeq (dIfS (dTest (dOp gEq (dOp gIx (dVar 0) (dC (.int 0))) (dC (.int 0)))) (dSeq (dAsg (dC (.int 0)) (dgName 2))
      (dSeq (dIfS (dTest (dOp gLt (dOp gIx (dVar 0) (dC (.int 2))) (dCB cLen (dCons (dOp gIx (dVar 0) (dC (.int 3))) (dNil))))) (dAsg (dOp gIx (dOp gIx (dVar 0) (dC (.int 3))) (dOp gIx (dVar 0) (dC (.int 2)))) (dgName 2)) (dNext))
      (dSeq (dAugS (dVar 0) (dC (.int 2)) (dC (.int 1)) gAddI)
      (dSeq (dIfS (dTest (dOp gGe (dVar 2) (dC (.int 1000000000000000000)))) (dAsg (dVar 2) (dgSet (dVar 0) (dC (.int 0)))) (dNext))
      (dAsg (dOp gMod (dOp gAdd (dOp gAdd (dOp gMul (dOp gIx (dVar 0) (dC (.int 1))) (dC (.int 48271))) (dOp gMod (dVar 2) (dC (.int 2147483647)))) (dOp gMul (dC (.int 7919)) (dOp gIx (dVar 0) (dC (.int 2))))) (dC (.int 2147483647))) (dgSet (dVar 0) (dC (.int 1)))))))) (dNext))
      (dSeq (dIfS (dTest (dOp gGt (dOp gIx (dVar 0) (dC (.int 0))) (dC (.int 0)))) (dSeq (dAsg (dOp gMod (dOp gIx (dVar 0) (dC (.int 0))) (dVar 1)) (dgName 3))
      (dSeq (dAsg (dOp gDiv (dOp gIx (dVar 0) (dC (.int 0))) (dVar 1)) (dgSet (dVar 0) (dC (.int 0))))
      (dRet (dVar 3)))) (dNext))
      (dSeq (dAsg (dOp gMod (dOp gMul (dOp gAdd (dOp gIx (dVar 0) (dC (.int 1))) (dC (.int 1))) (dC (.int 39373))) (dC (.int 1000000007))) (dgName 4))
      (dSeq (dAsg (dOp gMod (dOp gMul (dOp gMod (dOp gMul (dVar 4) (dVar 4)) (dC (.int 998244353))) (dC (.int 30011))) (dC (.int 998244353))) (dgName 5))
      (dSeq (dIfS (dTest (dOp gGt (dVar 1) (dC (.int 1000000)))) (dRet (dOp gMod (dOp gAdd (dOp gMul (dVar 5) (dC (.int 1000000007))) (dVar 4)) (dVar 1))) (dNext))
      (dRet (dOp gMod (dOp gDiv (dVar 5) (dC (.int 7))) (dVar 1)))))))
theorem ok_l_take (T : Txt K mg a) {g : DSp} (len : ∀ ws S Q, g ws S Q → ws.length = 2)
    (h : ∀ ws S Qd, g ws S Qd → body_l_take { nx := fun _ S' => Qd (.d .none) S', rt := Qd } (dstart 6 ws) S) : FnD P w K mg base 1 a.f_l_take a.fd_l_take ["_law_bag_here", "_law_many"] g := by
  refine fnD_of (k := 0) T.F_l_take sc_l_take rfl len (fun cdv A outer s H E hr => ⟨_, ?_, h⟩)
  exact dss_cons (ds_if (dt_cmp (dop_eq hr.u64) (de_ix (de_var 0) (de_int)) (de_int)) (dss_cons (ds_set 2 sc_l_take.nd rfl (by first | exact Or.inl rfl | exact Or.inr rfl) (de_int)) (dss_cons (ds_if (dt_cmp dop_lt (de_ix (de_var 0) (de_int)) (de_callB dc_len rfl T.z_len (by decide +kernel) (da_cons (de_ix (de_var 0) (de_int)) (da_nil)))) (dss_one (ds_set 2 sc_l_take.nd rfl (by first | exact Or.inl rfl | exact Or.inr rfl) (de_ix (de_ix (de_var 0) (de_int)) (de_ix (de_var 0) (de_int))))) (dss_nil)) (dss_cons (ds_augS (de_var 0) (de_int) (de_int) dip_add) (dss_cons (ds_if (dt_cmp dop_ge (de_var 2) (de_int)) (dss_one (ds_asg (vs := []) (de_var 2) (dg_set (de_var 0) (de_int)))) (dss_nil)) (dss_one (ds_asg (vs := []) (de_op dop_mod (de_op dop_add (de_op dop_add (de_op dop_mul (de_ix (de_var 0) (de_int)) (de_int)) (de_op dop_mod (de_var 2) (de_int))) (de_op dop_mul (de_int) (de_ix (de_var 0) (de_int)))) (de_int)) (dg_set (de_var 0) (de_int)))))))) (dss_nil)) (dss_cons (ds_if (dt_cmp dop_gt (de_ix (de_var 0) (de_int)) (de_int)) (dss_cons (ds_set 3 sc_l_take.nd rfl (by first | exact Or.inl rfl | exact Or.inr rfl) (de_op dop_mod (de_ix (de_var 0) (de_int)) (de_var 1))) (dss_cons (ds_asg (vs := []) (de_op dop_div (de_ix (de_var 0) (de_int)) (de_var 1)) (dg_set (de_var 0) (de_int))) (dss_one (ds_ret (de_var 3))))) (dss_nil)) (dss_cons (ds_set 4 sc_l_take.nd rfl (by first | exact Or.inl rfl | exact Or.inr rfl) (de_op dop_mod (de_op dop_mul (de_op dop_add (de_ix (de_var 0) (de_int)) (de_int)) (de_int)) (de_int))) (dss_cons (ds_set 5 sc_l_take.nd rfl (by first | exact Or.inl rfl | exact Or.inr rfl) (de_op dop_mod (de_op dop_mul (de_op dop_mod (de_op dop_mul (de_var 4) (de_var 4)) (de_int)) (de_int)) (de_int))) (dss_cons (ds_if (dt_cmp dop_gt (de_var 1) (de_int)) (dss_one (ds_ret (de_op dop_mod (de_op dop_add (de_op dop_mul (de_var 5) (de_int)) (de_var 4)) (de_var 1)))) (dss_nil)) (dss_one (ds_ret (de_op dop_mod (de_op dop_div (de_var 5) (de_int)) (de_var 1))))))))
def body_l_thing (g_l_take : DSp) : DTS :=
  dSeq (dAsg (dCall g_l_take (dCons (dVar 0) (dCons (dOp gPow (dC (.int 10)) (dC (.int 6))) (dNil)))) (dgName 1))
      (dSeq (dAsg (dLstD (dCons (dVar 1) (dCons (dOp gSub (dUn gNeg (dVar 1)) (dC (.int 1))) (dCons (dOp gAdd (dOp gPow (dC (.int 10)) (dC (.int 40))) (dVar 1)) (dCons (dC (.str "word")) (dCons (dC (.str "")) (dCons (dC (.bool true)) (dCons (dC (.bool false)) (dCons (dC .none) (dCons (dTupD (dCons (dVar 1) (dCons (dC (.str "a")) (dNil)))) (dCons (dTupD (dNil)) (dCons (dLstD (dCons (dVar 1) (dNil))) (dCons (dLstD (dNil)) (dNil)))))))))))))) (dgName 2))
      (dSeq (dAsg (dOp gAdd (dVar 2) (dLstD (dCons (dLstD (dCons (dLstD (dCons (dVar 1) (dNil))) (dCons (dTupD (dNil)) (dNil)))) (dCons (dFrz (dDisp ((dVar 1, dC (.int 1)) :: []))) (dCons (dFrz (dDk)) (dCons (dTupD (dCons (dC .none) (dCons (dTupD (dCons (dC (.bool true)) (dNil))) (dNil)))) (dNil))))))) (dgName 2))
      (dRet (dOp gIx (dVar 2) (dCall g_l_take (dCons (dVar 0) (dCons (dC (.int 16)) (dNil))))))))
theorem ok_l_thing (T : Txt K mg a) {g_l_take : DSp} (G_l_take : FnD P w K mg base 1 a.f_l_take a.fd_l_take ["_law_bag_here", "_law_many"] g_l_take) {g : DSp} (len : ∀ ws S Q, g ws S Q → ws.length = 1)
    (h : ∀ ws S Qd, g ws S Qd → body_l_thing g_l_take { nx := fun _ S' => Qd (.d .none) S', rt := Qd } (dstart 3 ws) S) : FnD P w K mg base 2 a.f_l_thing a.fd_l_thing ["_law_bag_here"] g := by
  refine fnD_of (k := 1) T.F_l_thing sc_l_thing rfl len (fun cdv A outer s H E hr => ⟨_, ?_, h⟩)
  exact dss_cons (ds_set 1 sc_l_thing.nd rfl (by first | exact Or.inl rfl | exact Or.inr rfl) (de_call G_l_take (hr.mono (by decide)) rfl T.m_l_take T.F_l_take.kp T.b_l_take (da_cons (de_var 0) (da_cons (de_op dop_pow (de_int) (de_int)) (da_nil))))) (dss_cons (ds_set 2 sc_l_thing.nd rfl (by first | exact Or.inl rfl | exact Or.inr rfl) (de_lst (da_cons (de_var 1) (da_cons (de_op dop_sub (de_un dun_neg (de_var 1)) (de_int)) (da_cons (de_op dop_add (de_op dop_pow (de_int) (de_int)) (de_var 1)) (da_cons (de_str) (da_cons (de_str) (da_cons (de_bl) (da_cons (de_bl) (da_cons (de_non) (da_cons (de_tup (da_cons (de_var 1) (da_cons (de_str) (da_nil)))) (da_cons (de_tup (da_nil)) (da_cons (de_lst (da_cons (de_var 1) (da_nil))) (da_cons (de_lst (da_nil)) (da_nil))))))))))))))) (dss_cons (ds_set 2 sc_l_thing.nd rfl (by first | exact Or.inl rfl | exact Or.inr rfl) (de_op dop_add (de_var 2) (de_lst (da_cons (de_lst (da_cons (de_lst (da_cons (de_var 1) (da_nil))) (da_cons (de_tup (da_nil)) (da_nil)))) (da_cons (de_frz (de_disp (dps_cons (de_var 1) (de_int) (dps_nil)) rfl rfl (by decide) (by decide))) (da_cons (de_frz (de_dk)) (da_cons (de_tup (da_cons (de_non) (da_cons (de_tup (da_cons (de_bl) (da_nil))) (da_nil)))) (da_nil)))))))) (dss_one (ds_ret (de_ix (de_var 2) (de_call G_l_take (hr.mono (by decide)) rfl T.m_l_take T.F_l_take.kp T.b_l_take (da_cons (de_var 0) (da_cons (de_int) (da_nil)))))))))
def body_l_raised : DTS :=
  dSeq (dIfS (dTest (dOp gEq (dVar 0) (dC (.int 0)))) (dNever) (dNext))
      (dSeq (dIfS (dTest (dOp gEq (dVar 0) (dC (.int 1)))) (dNever) (dNext))
      (dSeq (dIfS (dTest (dOp gEq (dVar 0) (dC (.int 2)))) (dNever) (dNext))
      (dSeq (dIfS (dTest (dOp gEq (dVar 0) (dC (.int 3)))) (dNever) (dNext))
      (dSeq (dIfS (dTest (dOp gEq (dVar 0) (dC (.int 4)))) (dNever) (dNext))
      (dSeq (dIfS (dTest (dOp gEq (dVar 0) (dC (.int 5)))) (dNever) (dNext))
      (dSeq (dIfS (dTest (dOp gEq (dVar 0) (dC (.int 6)))) (dNever) (dNext))
      (dSeq (dIfS (dTest (dOp gEq (dVar 0) (dC (.int 7)))) (dNever) (dNext))
      (dSeq (dIfS (dTest (dOp gEq (dVar 0) (dC (.int 8)))) (dNever) (dNext))
      (dSeq (dIfS (dTest (dOp gEq (dVar 0) (dC (.int 9)))) (dNever) (dNext))
      (dSeq (dIfS (dTest (dOp gEq (dVar 0) (dC (.int 10)))) (dNever) (dNext))
      (dSeq (dIfS (dTest (dOp gEq (dVar 0) (dC (.int 11)))) (dNever) (dNext))
      (dSeq (dIfS (dTest (dOp gEq (dVar 0) (dC (.int 12)))) (dNever) (dNext))
      (dSeq (dIfS (dTest (dOp gEq (dVar 0) (dC (.int 13)))) (dNever) (dNext))
      (dSeq (dIfS (dTest (dOp gEq (dVar 0) (dC (.int 14)))) (dNever) (dNext))
      (dNever)))))))))))))))
theorem ok_l_raised (T : Txt K mg a) {g : DSp} (len : ∀ ws S Q, g ws S Q → ws.length = 3)
    (h : ∀ ws S Qd, g ws S Qd → body_l_raised { nx := fun _ S' => Qd (.d .none) S', rt := Qd } (dstart 3 ws) S) : FnD P w K mg base 1 a.f_l_raised a.fd_l_raised ["_law_k", "_law_thing_here", "_law_word"] g := by
  refine fnD_of (k := 0) T.F_l_raised sc_l_raised rfl len (fun cdv A outer s H E hr => ⟨_, ?_, h⟩)
  exact dss_cons (ds_if (dt_cmp (dop_eq hr.u64) (de_var 0) (de_int)) (dss_one (ds_never)) (dss_nil)) (dss_cons (ds_if (dt_cmp (dop_eq hr.u64) (de_var 0) (de_int)) (dss_one (ds_never)) (dss_nil)) (dss_cons (ds_if (dt_cmp (dop_eq hr.u64) (de_var 0) (de_int)) (dss_one (ds_never)) (dss_nil)) (dss_cons (ds_if (dt_cmp (dop_eq hr.u64) (de_var 0) (de_int)) (dss_one (ds_never)) (dss_nil)) (dss_cons (ds_if (dt_cmp (dop_eq hr.u64) (de_var 0) (de_int)) (dss_one (ds_never)) (dss_nil)) (dss_cons (ds_if (dt_cmp (dop_eq hr.u64) (de_var 0) (de_int)) (dss_one (ds_never)) (dss_nil)) (dss_cons (ds_if (dt_cmp (dop_eq hr.u64) (de_var 0) (de_int)) (dss_one (ds_never)) (dss_nil)) (dss_cons (ds_if (dt_cmp (dop_eq hr.u64) (de_var 0) (de_int)) (dss_one (ds_never)) (dss_nil)) (dss_cons (ds_if (dt_cmp (dop_eq hr.u64) (de_var 0) (de_int)) (dss_one (ds_never)) (dss_nil)) (dss_cons (ds_if (dt_cmp (dop_eq hr.u64) (de_var 0) (de_int)) (dss_one (ds_never)) (dss_nil)) (dss_cons (ds_if (dt_cmp (dop_eq hr.u64) (de_var 0) (de_int)) (dss_one (ds_never)) (dss_nil)) (dss_cons (ds_if (dt_cmp (dop_eq hr.u64) (de_var 0) (de_int)) (dss_one (ds_never)) (dss_nil)) (dss_cons (ds_if (dt_cmp (dop_eq hr.u64) (de_var 0) (de_int)) (dss_one (ds_never)) (dss_nil)) (dss_cons (ds_if (dt_cmp (dop_eq hr.u64) (de_var 0) (de_int)) (dss_one (ds_never)) (dss_nil)) (dss_cons (ds_if (dt_cmp (dop_eq hr.u64) (de_var 0) (de_int)) (dss_one (ds_never)) (dss_nil)) (dss_one (ds_never))))))))))))))))
def body_l_raised_x (C_BadAsked : Addr) (C_BadBerths : Addr) (C_BadName : Addr) (C_BadRow : Addr) (C_BadShare : Addr) (C_Early : Addr) (C_Known : Addr) (C_NoBack : Addr) (C_NoDeed : Addr) (C_NoLine : Addr) (C_NoRoom : Addr) (C_NoRow : Addr) (C_NoText : Addr) (C_TooMany : Addr) (C_Unknown : Addr) (C_Used : Addr) (Ed : Rho → DXK) : DTS :=
  dSeq (dIfS (dTest (dOp gEq (dVar 0) (dC (.int 0)))) (dRaise1 C_NoRow "at" (dVar 1) Ed) (dNext))
      (dSeq (dIfS (dTest (dOp gEq (dVar 0) (dC (.int 1)))) (dRaise1 C_BadName "at" (dVar 1) Ed) (dNext))
      (dSeq (dIfS (dTest (dOp gEq (dVar 0) (dC (.int 2)))) (dRaise1 C_BadBerths "at" (dVar 1) Ed) (dNext))
      (dSeq (dIfS (dTest (dOp gEq (dVar 0) (dC (.int 3)))) (dRaise1 C_BadAsked "at" (dVar 1) Ed) (dNext))
      (dSeq (dIfS (dTest (dOp gEq (dVar 0) (dC (.int 4)))) (dRaise1 C_BadShare "at" (dVar 1) Ed) (dNext))
      (dSeq (dIfS (dTest (dOp gEq (dVar 0) (dC (.int 5)))) (dRaise1 C_BadRow "at" (dVar 1) Ed) (dNext))
      (dSeq (dIfS (dTest (dOp gEq (dVar 0) (dC (.int 6)))) (dRaise1 C_Unknown "name" (dVar 1) Ed) (dNext))
      (dSeq (dIfS (dTest (dOp gEq (dVar 0) (dC (.int 7)))) (dRaise1 C_Known "name" (dVar 1) Ed) (dNext))
      (dSeq (dIfS (dTest (dOp gEq (dVar 0) (dC (.int 8)))) (dRaise1 C_Used "name" (dVar 1) Ed) (dNext))
      (dSeq (dIfS (dTest (dOp gEq (dVar 0) (dC (.int 9)))) (dRaise1 C_TooMany "most" (dVar 1) Ed) (dNext))
      (dSeq (dIfS (dTest (dOp gEq (dVar 0) (dC (.int 10)))) (dRaise1 C_Early "until" (dVar 1) Ed) (dNext))
      (dSeq (dIfS (dTest (dOp gEq (dVar 0) (dC (.int 11)))) (dRaiseN1 C_NoText (dVar 2) Ed) (dNext))
      (dSeq (dIfS (dTest (dOp gEq (dVar 0) (dC (.int 12)))) (dRaiseN1 C_NoDeed (dVar 2) Ed) (dNext))
      (dSeq (dIfS (dTest (dOp gEq (dVar 0) (dC (.int 13)))) (dRaiseN1 C_NoBack (dVar 2) Ed) (dNext))
      (dSeq (dIfS (dTest (dOp gEq (dVar 0) (dC (.int 14)))) (dRaiseN1 C_NoLine (dVar 2) Ed) (dNext))
      (dRaise3 C_NoRoom "first" "demanded" "room" (dCons (dVar 1) (dCons (dLstD (dCons (dVar 1) (dNil))) (dCons (dVar 2) (dNil)))) Ed)))))))))))))))
theorem ok_l_raised_x (T : Txt K mg a) {g : DSpE} (len : ∀ ws S Q Ed, g ws S Q Ed → ws.length = 3)
    (h : ∀ ws S Qd Ed, g ws S Qd Ed → body_l_raised_x a.C_BadAsked a.C_BadBerths a.C_BadName a.C_BadRow a.C_BadShare a.C_Early a.C_Known a.C_NoBack a.C_NoDeed a.C_NoLine a.C_NoRoom a.C_NoRow a.C_NoText a.C_TooMany a.C_Unknown a.C_Used (fun _ => Ed) { nx := fun _ S' => Qd (.d .none) S', rt := Qd } (dstart 3 ws) S) : FnE P w K mg base 3 a.f_l_raised a.fd_l_raised ["_law_k", "_law_thing_here", "_law_word"] g := by
  refine fnE_of (k := 2) T.F_l_raised sc_l_raised rfl len (fun cdv A outer s H E W Ed hr tk => ⟨fun Ed => body_l_raised_x a.C_BadAsked a.C_BadBerths a.C_BadName a.C_BadRow a.C_BadShare a.C_Early a.C_Known a.C_NoBack a.C_NoDeed a.C_NoLine a.C_NoRoom a.C_NoRow a.C_NoText a.C_TooMany a.C_Unknown a.C_Used Ed, ?_, fun ws S Qd => h ws S Qd Ed⟩)
  exact dssj_cons jx_m (dsj_if jx_m (dt_cmp (dop_eq hr.u64) (de_var 0) (de_int)) (dssj_one (dsj_raise1 rfl tk T.oex_NoRow T.nf_NoRow_at T.a_NoRow_init T.ti_NoRow (ok_NoRow_init T) (hr.mono (by decide)).room T.b_NoRow_init rfl T.m_NoRow (de_var 1))) (dssj_of (dss_nil))) (dssj_cons jx_m (dsj_if jx_m (dt_cmp (dop_eq hr.u64) (de_var 0) (de_int)) (dssj_one (dsj_raise1 rfl tk T.oex_BadName T.nf_BadName_at T.a_BadName_init T.ti_BadName (ok_BadName_init T) (hr.mono (by decide)).room T.b_BadName_init rfl T.m_BadName (de_var 1))) (dssj_of (dss_nil))) (dssj_cons jx_m (dsj_if jx_m (dt_cmp (dop_eq hr.u64) (de_var 0) (de_int)) (dssj_one (dsj_raise1 rfl tk T.oex_BadBerths T.nf_BadBerths_at T.a_BadBerths_init T.ti_BadBerths (ok_BadBerths_init T) (hr.mono (by decide)).room T.b_BadBerths_init rfl T.m_BadBerths (de_var 1))) (dssj_of (dss_nil))) (dssj_cons jx_m (dsj_if jx_m (dt_cmp (dop_eq hr.u64) (de_var 0) (de_int)) (dssj_one (dsj_raise1 rfl tk T.oex_BadAsked T.nf_BadAsked_at T.a_BadAsked_init T.ti_BadAsked (ok_BadAsked_init T) (hr.mono (by decide)).room T.b_BadAsked_init rfl T.m_BadAsked (de_var 1))) (dssj_of (dss_nil))) (dssj_cons jx_m (dsj_if jx_m (dt_cmp (dop_eq hr.u64) (de_var 0) (de_int)) (dssj_one (dsj_raise1 rfl tk T.oex_BadShare T.nf_BadShare_at T.a_BadShare_init T.ti_BadShare (ok_BadShare_init T) (hr.mono (by decide)).room T.b_BadShare_init rfl T.m_BadShare (de_var 1))) (dssj_of (dss_nil))) (dssj_cons jx_m (dsj_if jx_m (dt_cmp (dop_eq hr.u64) (de_var 0) (de_int)) (dssj_one (dsj_raise1 rfl tk T.oex_BadRow T.nf_BadRow_at T.a_BadRow_init T.ti_BadRow (ok_BadRow_init T) (hr.mono (by decide)).room T.b_BadRow_init rfl T.m_BadRow (de_var 1))) (dssj_of (dss_nil))) (dssj_cons jx_m (dsj_if jx_m (dt_cmp (dop_eq hr.u64) (de_var 0) (de_int)) (dssj_one (dsj_raise1 rfl tk T.oex_Unknown T.nf_Unknown_name T.a_Unknown_init T.ti_Unknown (ok_Unknown_init T) (hr.mono (by decide)).room T.b_Unknown_init rfl T.m_Unknown (de_var 1))) (dssj_of (dss_nil))) (dssj_cons jx_m (dsj_if jx_m (dt_cmp (dop_eq hr.u64) (de_var 0) (de_int)) (dssj_one (dsj_raise1 rfl tk T.oex_Known T.nf_Known_name T.a_Known_init T.ti_Known (ok_Known_init T) (hr.mono (by decide)).room T.b_Known_init rfl T.m_Known (de_var 1))) (dssj_of (dss_nil))) (dssj_cons jx_m (dsj_if jx_m (dt_cmp (dop_eq hr.u64) (de_var 0) (de_int)) (dssj_one (dsj_raise1 rfl tk T.oex_Used T.nf_Used_name T.a_Used_init T.ti_Used (ok_Used_init T) (hr.mono (by decide)).room T.b_Used_init rfl T.m_Used (de_var 1))) (dssj_of (dss_nil))) (dssj_cons jx_m (dsj_if jx_m (dt_cmp (dop_eq hr.u64) (de_var 0) (de_int)) (dssj_one (dsj_raise1 rfl tk T.oex_TooMany T.nf_TooMany_most T.a_TooMany_init T.ti_TooMany (ok_TooMany_init T) (hr.mono (by decide)).room T.b_TooMany_init rfl T.m_TooMany (de_var 1))) (dssj_of (dss_nil))) (dssj_cons jx_m (dsj_if jx_m (dt_cmp (dop_eq hr.u64) (de_var 0) (de_int)) (dssj_one (dsj_raise1 rfl tk T.oex_Early T.nf_Early_until T.a_Early_init T.ti_Early (ok_Early_init T) (hr.mono (by decide)).room T.b_Early_init rfl T.m_Early (de_var 1))) (dssj_of (dss_nil))) (dssj_cons jx_m (dsj_if jx_m (dt_cmp (dop_eq hr.u64) (de_var 0) (de_int)) (dssj_one (dsj_raiseN1 rfl tk T.xn_NoText rfl T.m_NoText (de_var 2))) (dssj_of (dss_nil))) (dssj_cons jx_m (dsj_if jx_m (dt_cmp (dop_eq hr.u64) (de_var 0) (de_int)) (dssj_one (dsj_raiseN1 rfl tk T.xn_NoDeed rfl T.m_NoDeed (de_var 2))) (dssj_of (dss_nil))) (dssj_cons jx_m (dsj_if jx_m (dt_cmp (dop_eq hr.u64) (de_var 0) (de_int)) (dssj_one (dsj_raiseN1 rfl tk T.xn_NoBack rfl T.m_NoBack (de_var 2))) (dssj_of (dss_nil))) (dssj_cons jx_m (dsj_if jx_m (dt_cmp (dop_eq hr.u64) (de_var 0) (de_int)) (dssj_one (dsj_raiseN1 rfl tk T.xn_NoLine rfl T.m_NoLine (de_var 2))) (dssj_of (dss_nil))) (dssj_one (dsj_raise3 rfl tk T.oex_NoRoom T.nf_NoRoom_first T.nf_NoRoom_demanded T.nf_NoRoom_room T.a_NoRoom_init T.ti_NoRoom (ok_NoRoom_init T) (hr.mono (by decide)).room T.b_NoRoom_init rfl T.m_NoRoom (da_cons (de_var 1) (da_cons (de_lst (da_cons (de_var 1) (da_nil))) (da_cons (de_var 2) (da_nil))))))))))))))))))))
theorem hP_l_kinds (T : Txt K mg a) : ∀ C, famP a.C_PlaceError [a.C_NoRow , a.C_BadName , a.C_BadBerths , a.C_BadAsked , a.C_BadShare , a.C_BadRow , a.C_Unknown , a.C_Known , a.C_Used , a.C_TooMany , a.C_Early , a.C_NoText , a.C_NoDeed , a.C_NoBack , a.C_NoLine , a.C_NoRoom ] C → ExcC K C := fam_hP T.fam
theorem hF_l_kinds (T : Txt K mg a) : ∀ C t b, famF a.C_PlaceError [a.C_NoRow , a.C_BadName , a.C_BadBerths , a.C_BadAsked , a.C_BadShare , a.C_BadRow , a.C_Unknown , a.C_Known , a.C_Used , a.C_TooMany , a.C_Early , a.C_NoText , a.C_NoDeed , a.C_NoBack , a.C_NoLine , a.C_NoRoom ] C t b → ∃ cv, (∀ u, RelV t u → u = cv) ∧ PySem.W.kitOne K (.ref C) cv = some b := fam_hF T.fam
def body_l_kinds (C_BadAsked : Addr) (C_BadBerths : Addr) (C_BadName : Addr) (C_BadRow : Addr) (C_BadShare : Addr) (C_Early : Addr) (C_Known : Addr) (C_NoBack : Addr) (C_NoDeed : Addr) (C_NoLine : Addr) (C_NoRoom : Addr) (C_NoRow : Addr) (C_NoText : Addr) (C_PlaceError : Addr) (C_TooMany : Addr) (C_Unknown : Addr) (C_Used : Addr) (ea eC : Addr) (efo : Option (List (Str × Wv))) : DTS :=
  dSeq (dAsg (dLstD (dCons (dCB (cIsE ea eC (famP C_PlaceError [C_NoRow , C_BadName , C_BadBerths , C_BadAsked , C_BadShare , C_BadRow , C_Unknown , C_Known , C_Used , C_TooMany , C_Early , C_NoText , C_NoDeed , C_NoBack , C_NoLine , C_NoRoom ]) (famF C_PlaceError [C_NoRow , C_BadName , C_BadBerths , C_BadAsked , C_BadShare , C_BadRow , C_Unknown , C_Known , C_Used , C_TooMany , C_Early , C_NoText , C_NoDeed , C_NoBack , C_NoLine , C_NoRoom ])) (dCons (dVar 0) (dCons (dV (.ref C_NoRow)) (dNil)))) (dCons (dCB (cIsE ea eC (famP C_PlaceError [C_NoRow , C_BadName , C_BadBerths , C_BadAsked , C_BadShare , C_BadRow , C_Unknown , C_Known , C_Used , C_TooMany , C_Early , C_NoText , C_NoDeed , C_NoBack , C_NoLine , C_NoRoom ]) (famF C_PlaceError [C_NoRow , C_BadName , C_BadBerths , C_BadAsked , C_BadShare , C_BadRow , C_Unknown , C_Known , C_Used , C_TooMany , C_Early , C_NoText , C_NoDeed , C_NoBack , C_NoLine , C_NoRoom ])) (dCons (dVar 0) (dCons (dV (.ref C_BadName)) (dNil)))) (dCons (dCB (cIsE ea eC (famP C_PlaceError [C_NoRow , C_BadName , C_BadBerths , C_BadAsked , C_BadShare , C_BadRow , C_Unknown , C_Known , C_Used , C_TooMany , C_Early , C_NoText , C_NoDeed , C_NoBack , C_NoLine , C_NoRoom ]) (famF C_PlaceError [C_NoRow , C_BadName , C_BadBerths , C_BadAsked , C_BadShare , C_BadRow , C_Unknown , C_Known , C_Used , C_TooMany , C_Early , C_NoText , C_NoDeed , C_NoBack , C_NoLine , C_NoRoom ])) (dCons (dVar 0) (dCons (dV (.ref C_BadBerths)) (dNil)))) (dCons (dCB (cIsE ea eC (famP C_PlaceError [C_NoRow , C_BadName , C_BadBerths , C_BadAsked , C_BadShare , C_BadRow , C_Unknown , C_Known , C_Used , C_TooMany , C_Early , C_NoText , C_NoDeed , C_NoBack , C_NoLine , C_NoRoom ]) (famF C_PlaceError [C_NoRow , C_BadName , C_BadBerths , C_BadAsked , C_BadShare , C_BadRow , C_Unknown , C_Known , C_Used , C_TooMany , C_Early , C_NoText , C_NoDeed , C_NoBack , C_NoLine , C_NoRoom ])) (dCons (dVar 0) (dCons (dV (.ref C_BadAsked)) (dNil)))) (dNil)))))) (dgName 1))
      (dSeq (dAsg (dOp gAdd (dVar 1) (dLstD (dCons (dCB (cIsE ea eC (famP C_PlaceError [C_NoRow , C_BadName , C_BadBerths , C_BadAsked , C_BadShare , C_BadRow , C_Unknown , C_Known , C_Used , C_TooMany , C_Early , C_NoText , C_NoDeed , C_NoBack , C_NoLine , C_NoRoom ]) (famF C_PlaceError [C_NoRow , C_BadName , C_BadBerths , C_BadAsked , C_BadShare , C_BadRow , C_Unknown , C_Known , C_Used , C_TooMany , C_Early , C_NoText , C_NoDeed , C_NoBack , C_NoLine , C_NoRoom ])) (dCons (dVar 0) (dCons (dV (.ref C_BadShare)) (dNil)))) (dCons (dCB (cIsE ea eC (famP C_PlaceError [C_NoRow , C_BadName , C_BadBerths , C_BadAsked , C_BadShare , C_BadRow , C_Unknown , C_Known , C_Used , C_TooMany , C_Early , C_NoText , C_NoDeed , C_NoBack , C_NoLine , C_NoRoom ]) (famF C_PlaceError [C_NoRow , C_BadName , C_BadBerths , C_BadAsked , C_BadShare , C_BadRow , C_Unknown , C_Known , C_Used , C_TooMany , C_Early , C_NoText , C_NoDeed , C_NoBack , C_NoLine , C_NoRoom ])) (dCons (dVar 0) (dCons (dV (.ref C_BadRow)) (dNil)))) (dCons (dCB (cIsE ea eC (famP C_PlaceError [C_NoRow , C_BadName , C_BadBerths , C_BadAsked , C_BadShare , C_BadRow , C_Unknown , C_Known , C_Used , C_TooMany , C_Early , C_NoText , C_NoDeed , C_NoBack , C_NoLine , C_NoRoom ]) (famF C_PlaceError [C_NoRow , C_BadName , C_BadBerths , C_BadAsked , C_BadShare , C_BadRow , C_Unknown , C_Known , C_Used , C_TooMany , C_Early , C_NoText , C_NoDeed , C_NoBack , C_NoLine , C_NoRoom ])) (dCons (dVar 0) (dCons (dV (.ref C_Unknown)) (dNil)))) (dCons (dCB (cIsE ea eC (famP C_PlaceError [C_NoRow , C_BadName , C_BadBerths , C_BadAsked , C_BadShare , C_BadRow , C_Unknown , C_Known , C_Used , C_TooMany , C_Early , C_NoText , C_NoDeed , C_NoBack , C_NoLine , C_NoRoom ]) (famF C_PlaceError [C_NoRow , C_BadName , C_BadBerths , C_BadAsked , C_BadShare , C_BadRow , C_Unknown , C_Known , C_Used , C_TooMany , C_Early , C_NoText , C_NoDeed , C_NoBack , C_NoLine , C_NoRoom ])) (dCons (dVar 0) (dCons (dV (.ref C_Known)) (dNil)))) (dNil))))))) (dgName 1))
      (dSeq (dAsg (dOp gAdd (dVar 1) (dLstD (dCons (dCB (cIsE ea eC (famP C_PlaceError [C_NoRow , C_BadName , C_BadBerths , C_BadAsked , C_BadShare , C_BadRow , C_Unknown , C_Known , C_Used , C_TooMany , C_Early , C_NoText , C_NoDeed , C_NoBack , C_NoLine , C_NoRoom ]) (famF C_PlaceError [C_NoRow , C_BadName , C_BadBerths , C_BadAsked , C_BadShare , C_BadRow , C_Unknown , C_Known , C_Used , C_TooMany , C_Early , C_NoText , C_NoDeed , C_NoBack , C_NoLine , C_NoRoom ])) (dCons (dVar 0) (dCons (dV (.ref C_Used)) (dNil)))) (dCons (dCB (cIsE ea eC (famP C_PlaceError [C_NoRow , C_BadName , C_BadBerths , C_BadAsked , C_BadShare , C_BadRow , C_Unknown , C_Known , C_Used , C_TooMany , C_Early , C_NoText , C_NoDeed , C_NoBack , C_NoLine , C_NoRoom ]) (famF C_PlaceError [C_NoRow , C_BadName , C_BadBerths , C_BadAsked , C_BadShare , C_BadRow , C_Unknown , C_Known , C_Used , C_TooMany , C_Early , C_NoText , C_NoDeed , C_NoBack , C_NoLine , C_NoRoom ])) (dCons (dVar 0) (dCons (dV (.ref C_TooMany)) (dNil)))) (dCons (dCB (cIsE ea eC (famP C_PlaceError [C_NoRow , C_BadName , C_BadBerths , C_BadAsked , C_BadShare , C_BadRow , C_Unknown , C_Known , C_Used , C_TooMany , C_Early , C_NoText , C_NoDeed , C_NoBack , C_NoLine , C_NoRoom ]) (famF C_PlaceError [C_NoRow , C_BadName , C_BadBerths , C_BadAsked , C_BadShare , C_BadRow , C_Unknown , C_Known , C_Used , C_TooMany , C_Early , C_NoText , C_NoDeed , C_NoBack , C_NoLine , C_NoRoom ])) (dCons (dVar 0) (dCons (dV (.ref C_Early)) (dNil)))) (dCons (dCB (cIsE ea eC (famP C_PlaceError [C_NoRow , C_BadName , C_BadBerths , C_BadAsked , C_BadShare , C_BadRow , C_Unknown , C_Known , C_Used , C_TooMany , C_Early , C_NoText , C_NoDeed , C_NoBack , C_NoLine , C_NoRoom ]) (famF C_PlaceError [C_NoRow , C_BadName , C_BadBerths , C_BadAsked , C_BadShare , C_BadRow , C_Unknown , C_Known , C_Used , C_TooMany , C_Early , C_NoText , C_NoDeed , C_NoBack , C_NoLine , C_NoRoom ])) (dCons (dVar 0) (dCons (dV (.ref C_NoText)) (dNil)))) (dNil))))))) (dgName 1))
      (dSeq (dAsg (dOp gAdd (dVar 1) (dLstD (dCons (dCB (cIsE ea eC (famP C_PlaceError [C_NoRow , C_BadName , C_BadBerths , C_BadAsked , C_BadShare , C_BadRow , C_Unknown , C_Known , C_Used , C_TooMany , C_Early , C_NoText , C_NoDeed , C_NoBack , C_NoLine , C_NoRoom ]) (famF C_PlaceError [C_NoRow , C_BadName , C_BadBerths , C_BadAsked , C_BadShare , C_BadRow , C_Unknown , C_Known , C_Used , C_TooMany , C_Early , C_NoText , C_NoDeed , C_NoBack , C_NoLine , C_NoRoom ])) (dCons (dVar 0) (dCons (dV (.ref C_NoDeed)) (dNil)))) (dCons (dCB (cIsE ea eC (famP C_PlaceError [C_NoRow , C_BadName , C_BadBerths , C_BadAsked , C_BadShare , C_BadRow , C_Unknown , C_Known , C_Used , C_TooMany , C_Early , C_NoText , C_NoDeed , C_NoBack , C_NoLine , C_NoRoom ]) (famF C_PlaceError [C_NoRow , C_BadName , C_BadBerths , C_BadAsked , C_BadShare , C_BadRow , C_Unknown , C_Known , C_Used , C_TooMany , C_Early , C_NoText , C_NoDeed , C_NoBack , C_NoLine , C_NoRoom ])) (dCons (dVar 0) (dCons (dV (.ref C_NoBack)) (dNil)))) (dCons (dCB (cIsE ea eC (famP C_PlaceError [C_NoRow , C_BadName , C_BadBerths , C_BadAsked , C_BadShare , C_BadRow , C_Unknown , C_Known , C_Used , C_TooMany , C_Early , C_NoText , C_NoDeed , C_NoBack , C_NoLine , C_NoRoom ]) (famF C_PlaceError [C_NoRow , C_BadName , C_BadBerths , C_BadAsked , C_BadShare , C_BadRow , C_Unknown , C_Known , C_Used , C_TooMany , C_Early , C_NoText , C_NoDeed , C_NoBack , C_NoLine , C_NoRoom ])) (dCons (dVar 0) (dCons (dV (.ref C_NoLine)) (dNil)))) (dCons (dCB (cIsE ea eC (famP C_PlaceError [C_NoRow , C_BadName , C_BadBerths , C_BadAsked , C_BadShare , C_BadRow , C_Unknown , C_Known , C_Used , C_TooMany , C_Early , C_NoText , C_NoDeed , C_NoBack , C_NoLine , C_NoRoom ]) (famF C_PlaceError [C_NoRow , C_BadName , C_BadBerths , C_BadAsked , C_BadShare , C_BadRow , C_Unknown , C_Known , C_Used , C_TooMany , C_Early , C_NoText , C_NoDeed , C_NoBack , C_NoLine , C_NoRoom ])) (dCons (dVar 0) (dCons (dV (.ref C_NoRoom)) (dNil)))) (dNil))))))) (dgName 1))
      (dRet (dOp gAdd (dVar 1) (dLstD (dCons (dCB (cIsE ea eC (famP C_PlaceError [C_NoRow , C_BadName , C_BadBerths , C_BadAsked , C_BadShare , C_BadRow , C_Unknown , C_Known , C_Used , C_TooMany , C_Early , C_NoText , C_NoDeed , C_NoBack , C_NoLine , C_NoRoom ]) (famF C_PlaceError [C_NoRow , C_BadName , C_BadBerths , C_BadAsked , C_BadShare , C_BadRow , C_Unknown , C_Known , C_Used , C_TooMany , C_Early , C_NoText , C_NoDeed , C_NoBack , C_NoLine , C_NoRoom ])) (dCons (dVar 0) (dCons (dV (.ty "ValueError")) (dNil)))) (dNil))))))))
theorem ok_l_kinds (T : Txt K mg a) {g : DSpV} (len : ∀ ea eC efo ws S Q, g ea eC efo ws S Q → ws.length = 1)
    (h : ∀ ea eC efo ws S Qd, g ea eC efo ws S Qd → body_l_kinds a.C_BadAsked a.C_BadBerths a.C_BadName a.C_BadRow a.C_BadShare a.C_Early a.C_Known a.C_NoBack a.C_NoDeed a.C_NoLine a.C_NoRoom a.C_NoRow a.C_NoText a.C_PlaceError a.C_TooMany a.C_Unknown a.C_Used ea eC efo { nx := fun _ S' => Qd (.d .none) S', rt := Qd } (dstart 2 ws) S) : FnV P w K mg base 1 a.f_l_kinds a.fd_l_kinds ["_law_e"] g := by
  refine fnV_of (k := 0) T.F_l_kinds sc_l_kinds rfl len (fun cdv A outer s H E ea oe eC ed efo hr hz hzf => ⟨body_l_kinds a.C_BadAsked a.C_BadBerths a.C_BadName a.C_BadRow a.C_BadShare a.C_Early a.C_Known a.C_NoBack a.C_NoDeed a.C_NoLine a.C_NoRoom a.C_NoRow a.C_NoText a.C_PlaceError a.C_TooMany a.C_Unknown a.C_Used ea eC efo, ?_, h ea eC efo⟩)
  exact dssj_cons ju_m (dsj_set 1 sc_l_kinds.nd rfl (by first | exact Or.inl rfl | exact Or.inr rfl) (dej_lst (daj_cons ju_m (dej_isV List.mem_cons_self (hP_l_kinds T) (hF_l_kinds T) hz hzf rfl T.z_isinstance (da_cons (de_var 0) (da_cons (de_cls (v := .ref a.C_NoRow) rfl T.m_NoRow rfl) (da_nil)))) (daj_cons ju_m (dej_isV List.mem_cons_self (hP_l_kinds T) (hF_l_kinds T) hz hzf rfl T.z_isinstance (da_cons (de_var 0) (da_cons (de_cls (v := .ref a.C_BadName) rfl T.m_BadName rfl) (da_nil)))) (daj_cons ju_m (dej_isV List.mem_cons_self (hP_l_kinds T) (hF_l_kinds T) hz hzf rfl T.z_isinstance (da_cons (de_var 0) (da_cons (de_cls (v := .ref a.C_BadBerths) rfl T.m_BadBerths rfl) (da_nil)))) (daj_cons ju_m (dej_isV List.mem_cons_self (hP_l_kinds T) (hF_l_kinds T) hz hzf rfl T.z_isinstance (da_cons (de_var 0) (da_cons (de_cls (v := .ref a.C_BadAsked) rfl T.m_BadAsked rfl) (da_nil)))) (daj_nil))))))) (dssj_cons ju_m (dsj_set 1 sc_l_kinds.nd rfl (by first | exact Or.inl rfl | exact Or.inr rfl) (dej_op ju_m dop_add (dej_of (de_var 1)) (dej_lst (daj_cons ju_m (dej_isV List.mem_cons_self (hP_l_kinds T) (hF_l_kinds T) hz hzf rfl T.z_isinstance (da_cons (de_var 0) (da_cons (de_cls (v := .ref a.C_BadShare) rfl T.m_BadShare rfl) (da_nil)))) (daj_cons ju_m (dej_isV List.mem_cons_self (hP_l_kinds T) (hF_l_kinds T) hz hzf rfl T.z_isinstance (da_cons (de_var 0) (da_cons (de_cls (v := .ref a.C_BadRow) rfl T.m_BadRow rfl) (da_nil)))) (daj_cons ju_m (dej_isV List.mem_cons_self (hP_l_kinds T) (hF_l_kinds T) hz hzf rfl T.z_isinstance (da_cons (de_var 0) (da_cons (de_cls (v := .ref a.C_Unknown) rfl T.m_Unknown rfl) (da_nil)))) (daj_cons ju_m (dej_isV List.mem_cons_self (hP_l_kinds T) (hF_l_kinds T) hz hzf rfl T.z_isinstance (da_cons (de_var 0) (da_cons (de_cls (v := .ref a.C_Known) rfl T.m_Known rfl) (da_nil)))) (daj_nil)))))))) (dssj_cons ju_m (dsj_set 1 sc_l_kinds.nd rfl (by first | exact Or.inl rfl | exact Or.inr rfl) (dej_op ju_m dop_add (dej_of (de_var 1)) (dej_lst (daj_cons ju_m (dej_isV List.mem_cons_self (hP_l_kinds T) (hF_l_kinds T) hz hzf rfl T.z_isinstance (da_cons (de_var 0) (da_cons (de_cls (v := .ref a.C_Used) rfl T.m_Used rfl) (da_nil)))) (daj_cons ju_m (dej_isV List.mem_cons_self (hP_l_kinds T) (hF_l_kinds T) hz hzf rfl T.z_isinstance (da_cons (de_var 0) (da_cons (de_cls (v := .ref a.C_TooMany) rfl T.m_TooMany rfl) (da_nil)))) (daj_cons ju_m (dej_isV List.mem_cons_self (hP_l_kinds T) (hF_l_kinds T) hz hzf rfl T.z_isinstance (da_cons (de_var 0) (da_cons (de_cls (v := .ref a.C_Early) rfl T.m_Early rfl) (da_nil)))) (daj_cons ju_m (dej_isV List.mem_cons_self (hP_l_kinds T) (hF_l_kinds T) hz hzf rfl T.z_isinstance (da_cons (de_var 0) (da_cons (de_cls (v := .ref a.C_NoText) rfl T.m_NoText rfl) (da_nil)))) (daj_nil)))))))) (dssj_cons ju_m (dsj_set 1 sc_l_kinds.nd rfl (by first | exact Or.inl rfl | exact Or.inr rfl) (dej_op ju_m dop_add (dej_of (de_var 1)) (dej_lst (daj_cons ju_m (dej_isV List.mem_cons_self (hP_l_kinds T) (hF_l_kinds T) hz hzf rfl T.z_isinstance (da_cons (de_var 0) (da_cons (de_cls (v := .ref a.C_NoDeed) rfl T.m_NoDeed rfl) (da_nil)))) (daj_cons ju_m (dej_isV List.mem_cons_self (hP_l_kinds T) (hF_l_kinds T) hz hzf rfl T.z_isinstance (da_cons (de_var 0) (da_cons (de_cls (v := .ref a.C_NoBack) rfl T.m_NoBack rfl) (da_nil)))) (daj_cons ju_m (dej_isV List.mem_cons_self (hP_l_kinds T) (hF_l_kinds T) hz hzf rfl T.z_isinstance (da_cons (de_var 0) (da_cons (de_cls (v := .ref a.C_NoLine) rfl T.m_NoLine rfl) (da_nil)))) (daj_cons ju_m (dej_isV List.mem_cons_self (hP_l_kinds T) (hF_l_kinds T) hz hzf rfl T.z_isinstance (da_cons (de_var 0) (da_cons (de_cls (v := .ref a.C_NoRoom) rfl T.m_NoRoom rfl) (da_nil)))) (daj_nil)))))))) (dssj_one (dsj_ret (dej_op ju_m dop_add (dej_of (de_var 1)) (dej_lst (daj_cons ju_m (dej_isV List.mem_cons_self (hP_l_kinds T) (hF_l_kinds T) hz hzf rfl T.z_isinstance (da_cons (de_var 0) (da_cons (de_bltn (v := .ty "ValueError") rfl T.z_ValueError (by decide +kernel) rfl) (da_nil)))) (daj_nil)))))))))
def body_l_caught (g_l_raised_x : DSpE) (g_l_kinds : DSpV) (C_BadAsked : Addr) (C_BadBerths : Addr) (C_BadName : Addr) (C_BadRow : Addr) (C_BadShare : Addr) (C_Early : Addr) (C_Known : Addr) (C_NoBack : Addr) (C_NoDeed : Addr) (C_NoLine : Addr) (C_NoRoom : Addr) (C_NoRow : Addr) (C_NoText : Addr) (C_PlaceError : Addr) (C_TooMany : Addr) (C_Unknown : Addr) (C_Used : Addr) : DTS :=
  dSeq (dTryM (fun Ed => dDrop (dCallX g_l_raised_x (dCons (dVar 0) (dCons (dVar 1) (dCons (dVar 2) (dNil)))) Ed)) [⟨(fun C => C ∈ C_PlaceError :: [C_NoRow , C_BadName , C_BadBerths , C_BadAsked , C_BadShare , C_BadRow , C_Unknown , C_Known , C_Used , C_TooMany , C_Early , C_NoText , C_NoDeed , C_NoBack , C_NoLine , C_NoRoom ]), (fun _ => False), some 3, fun ea eC efo => dRet (dCallV ea eC efo g_l_kinds (dCons (dVar 3) (dNil)))⟩])
      (dRet (dLstD (dNil)))
theorem ok_l_caught (T : Txt K mg a) {g_l_raised_x : DSpE} (G_l_raised_x : FnE P w K mg base 3 a.f_l_raised a.fd_l_raised ["_law_k", "_law_thing_here", "_law_word"] g_l_raised_x) {g_l_kinds : DSpV} (G_l_kinds : FnV P w K mg base 1 a.f_l_kinds a.fd_l_kinds ["_law_e"] g_l_kinds) {g : DSp} (len : ∀ ws S Q, g ws S Q → ws.length = 3)
    (h : ∀ ws S Qd, g ws S Qd → body_l_caught g_l_raised_x g_l_kinds a.C_BadAsked a.C_BadBerths a.C_BadName a.C_BadRow a.C_BadShare a.C_Early a.C_Known a.C_NoBack a.C_NoDeed a.C_NoLine a.C_NoRoom a.C_NoRow a.C_NoText a.C_PlaceError a.C_TooMany a.C_Unknown a.C_Used { nx := fun _ S' => Qd (.d .none) S', rt := Qd } (dstart 4 ws) S) : FnD P w K mg base 4 a.f_l_caught a.fd_l_caught ["_law_k", "_law_thing_here", "_law_word"] g := by
  refine fnD_of (k := 3) T.F_l_caught sc_l_caught rfl len (fun cdv A outer s H E hr => ⟨_, ?_, h⟩)
  exact dss_cons (ds_tryM sc_l_caught.nd (fun W Ed pn xe tk po => dssj_one (dsj_expr (dej_call tk G_l_raised_x (hr.mono (by decide)) rfl T.m_l_raised T.F_l_raised.kp T.b_l_raised (da_cons (de_var 0) (da_cons (de_var 1) (da_cons (de_var 2) (da_nil))))))) (.named (yes := (fun C => C ∈ a.C_PlaceError :: [a.C_NoRow , a.C_BadName , a.C_BadBerths , a.C_BadAsked , a.C_BadShare , a.C_BadRow , a.C_Unknown , a.C_Known , a.C_Used , a.C_TooMany , a.C_Early , a.C_NoText , a.C_NoDeed , a.C_NoBack , a.C_NoLine , a.C_NoRoom ])) (no := (fun _ => False)) rfl rfl ⟨rfl, by decide, .inl T.m_PlaceError⟩ (fun C h => T.fam.exP h) (fun C h => h.elim) (fun ea oe eC ed efo epn hz hzf => dssj_one (dsj_ret (dej_callV List.mem_cons_self hz hzf G_l_kinds ((hr.mono (by decide)).hot _) rfl T.m_l_kinds T.F_l_kinds.kp T.b_l_kinds (da_cons (de_var 3) (da_nil))))) .nil)) (dss_one (ds_ret (de_lst (da_nil))))
def body_l_at (g_l_raised_x : DSpE) (C_BadAsked : Addr) (C_BadBerths : Addr) (C_BadName : Addr) (C_BadRow : Addr) (C_BadShare : Addr) (C_Early : Addr) (C_Known : Addr) (C_NoBack : Addr) (C_NoDeed : Addr) (C_NoLine : Addr) (C_NoRoom : Addr) (C_NoRow : Addr) (C_NoText : Addr) (C_PlaceError : Addr) (C_TooMany : Addr) (C_Unknown : Addr) (C_Used : Addr) : DTS :=
  dSeq (dTryM (fun Ed => dDrop (dCallX g_l_raised_x (dCons (dVar 0) (dCons (dVar 1) (dCons (dVar 2) (dNil)))) Ed)) [⟨(fun C => C = C_NoRow ), (fun C => C ∈ C_PlaceError :: [C_NoRow , C_BadName , C_BadBerths , C_BadAsked , C_BadShare , C_BadRow , C_Unknown , C_Known , C_Used , C_TooMany , C_Early , C_NoText , C_NoDeed , C_NoBack , C_NoLine , C_NoRoom ] ∧ C ≠ C_NoRow ), some 3, fun ea eC efo => dRet (dLstD (dCons (dXf ea eC efo C_NoRow "at" (dVar 3)) (dNil)))⟩,
      ⟨(fun C => C = C_BadName ), (fun C => C ∈ C_PlaceError :: [C_NoRow , C_BadName , C_BadBerths , C_BadAsked , C_BadShare , C_BadRow , C_Unknown , C_Known , C_Used , C_TooMany , C_Early , C_NoText , C_NoDeed , C_NoBack , C_NoLine , C_NoRoom ] ∧ C ≠ C_BadName ), some 3, fun ea eC efo => dRet (dLstD (dCons (dXf ea eC efo C_BadName "at" (dVar 3)) (dNil)))⟩,
      ⟨(fun C => C = C_BadBerths ), (fun C => C ∈ C_PlaceError :: [C_NoRow , C_BadName , C_BadBerths , C_BadAsked , C_BadShare , C_BadRow , C_Unknown , C_Known , C_Used , C_TooMany , C_Early , C_NoText , C_NoDeed , C_NoBack , C_NoLine , C_NoRoom ] ∧ C ≠ C_BadBerths ), some 3, fun ea eC efo => dRet (dLstD (dCons (dXf ea eC efo C_BadBerths "at" (dVar 3)) (dNil)))⟩,
      ⟨(fun C => C = C_BadAsked ), (fun C => C ∈ C_PlaceError :: [C_NoRow , C_BadName , C_BadBerths , C_BadAsked , C_BadShare , C_BadRow , C_Unknown , C_Known , C_Used , C_TooMany , C_Early , C_NoText , C_NoDeed , C_NoBack , C_NoLine , C_NoRoom ] ∧ C ≠ C_BadAsked ), some 3, fun ea eC efo => dRet (dLstD (dCons (dXf ea eC efo C_BadAsked "at" (dVar 3)) (dNil)))⟩,
      ⟨(fun C => C = C_BadShare ), (fun C => C ∈ C_PlaceError :: [C_NoRow , C_BadName , C_BadBerths , C_BadAsked , C_BadShare , C_BadRow , C_Unknown , C_Known , C_Used , C_TooMany , C_Early , C_NoText , C_NoDeed , C_NoBack , C_NoLine , C_NoRoom ] ∧ C ≠ C_BadShare ), some 3, fun ea eC efo => dRet (dLstD (dCons (dXf ea eC efo C_BadShare "at" (dVar 3)) (dNil)))⟩,
      ⟨(fun C => C = C_BadRow ), (fun C => C ∈ C_PlaceError :: [C_NoRow , C_BadName , C_BadBerths , C_BadAsked , C_BadShare , C_BadRow , C_Unknown , C_Known , C_Used , C_TooMany , C_Early , C_NoText , C_NoDeed , C_NoBack , C_NoLine , C_NoRoom ] ∧ C ≠ C_BadRow ), some 3, fun ea eC efo => dRet (dLstD (dCons (dXf ea eC efo C_BadRow "at" (dVar 3)) (dNil)))⟩,
      ⟨(fun C => C ∈ C_PlaceError :: [C_NoRow , C_BadName , C_BadBerths , C_BadAsked , C_BadShare , C_BadRow , C_Unknown , C_Known , C_Used , C_TooMany , C_Early , C_NoText , C_NoDeed , C_NoBack , C_NoLine , C_NoRoom ]), (fun _ => False), none, fun ea eC efo => dRet (dLstD (dNil))⟩])
      (dRet (dLstD (dNil)))
theorem ok_l_at (T : Txt K mg a) {g_l_raised_x : DSpE} (G_l_raised_x : FnE P w K mg base 3 a.f_l_raised a.fd_l_raised ["_law_k", "_law_thing_here", "_law_word"] g_l_raised_x) {g : DSp} (len : ∀ ws S Q, g ws S Q → ws.length = 3)
    (h : ∀ ws S Qd, g ws S Qd → body_l_at g_l_raised_x a.C_BadAsked a.C_BadBerths a.C_BadName a.C_BadRow a.C_BadShare a.C_Early a.C_Known a.C_NoBack a.C_NoDeed a.C_NoLine a.C_NoRoom a.C_NoRow a.C_NoText a.C_PlaceError a.C_TooMany a.C_Unknown a.C_Used { nx := fun _ S' => Qd (.d .none) S', rt := Qd } (dstart 4 ws) S) : FnD P w K mg base 4 a.f_l_at a.fd_l_at ["_law_k", "_law_thing_here", "_law_word"] g := by
  refine fnD_of (k := 3) T.F_l_at sc_l_at rfl len (fun cdv A outer s H E hr => ⟨_, ?_, h⟩)
  exact dss_cons (ds_tryM sc_l_at.nd (fun W Ed pn xe tk po => dssj_one (dsj_expr (dej_call tk G_l_raised_x (hr.mono (by decide)) rfl T.m_l_raised T.F_l_raised.kp T.b_l_raised (da_cons (de_var 0) (da_cons (de_var 1) (da_cons (de_var 2) (da_nil))))))) (.named (yes := (fun C => C = a.C_NoRow )) (no := (fun C => C ∈ a.C_PlaceError :: [a.C_NoRow , a.C_BadName , a.C_BadBerths , a.C_BadAsked , a.C_BadShare , a.C_BadRow , a.C_Unknown , a.C_Known , a.C_Used , a.C_TooMany , a.C_Early , a.C_NoText , a.C_NoDeed , a.C_NoBack , a.C_NoLine , a.C_NoRoom ] ∧ C ≠ a.C_NoRow )) rfl rfl ⟨rfl, by decide, .inl T.m_NoRow⟩ (fun C h => T.fam.exY (by simp only [List.mem_cons, true_or, or_true]) h) (fun C h => T.fam.exN h.1 (by simp only [List.mem_cons, true_or, or_true]) h.2) (fun ea oe eC ed efo epn hz hzf => dssj_one (dsj_ret (dej_lst (daj_cons ju_m (dej_xf T.xf_NoRow T.nf_NoRow_at hz hzf (de_var 3)) (daj_nil))))) (.named (yes := (fun C => C = a.C_BadName )) (no := (fun C => C ∈ a.C_PlaceError :: [a.C_NoRow , a.C_BadName , a.C_BadBerths , a.C_BadAsked , a.C_BadShare , a.C_BadRow , a.C_Unknown , a.C_Known , a.C_Used , a.C_TooMany , a.C_Early , a.C_NoText , a.C_NoDeed , a.C_NoBack , a.C_NoLine , a.C_NoRoom ] ∧ C ≠ a.C_BadName )) rfl rfl ⟨rfl, by decide, .inl T.m_BadName⟩ (fun C h => T.fam.exY (by simp only [List.mem_cons, true_or, or_true]) h) (fun C h => T.fam.exN h.1 (by simp only [List.mem_cons, true_or, or_true]) h.2) (fun ea oe eC ed efo epn hz hzf => dssj_one (dsj_ret (dej_lst (daj_cons ju_m (dej_xf T.xf_BadName T.nf_BadName_at hz hzf (de_var 3)) (daj_nil))))) (.named (yes := (fun C => C = a.C_BadBerths )) (no := (fun C => C ∈ a.C_PlaceError :: [a.C_NoRow , a.C_BadName , a.C_BadBerths , a.C_BadAsked , a.C_BadShare , a.C_BadRow , a.C_Unknown , a.C_Known , a.C_Used , a.C_TooMany , a.C_Early , a.C_NoText , a.C_NoDeed , a.C_NoBack , a.C_NoLine , a.C_NoRoom ] ∧ C ≠ a.C_BadBerths )) rfl rfl ⟨rfl, by decide, .inl T.m_BadBerths⟩ (fun C h => T.fam.exY (by simp only [List.mem_cons, true_or, or_true]) h) (fun C h => T.fam.exN h.1 (by simp only [List.mem_cons, true_or, or_true]) h.2) (fun ea oe eC ed efo epn hz hzf => dssj_one (dsj_ret (dej_lst (daj_cons ju_m (dej_xf T.xf_BadBerths T.nf_BadBerths_at hz hzf (de_var 3)) (daj_nil))))) (.named (yes := (fun C => C = a.C_BadAsked )) (no := (fun C => C ∈ a.C_PlaceError :: [a.C_NoRow , a.C_BadName , a.C_BadBerths , a.C_BadAsked , a.C_BadShare , a.C_BadRow , a.C_Unknown , a.C_Known , a.C_Used , a.C_TooMany , a.C_Early , a.C_NoText , a.C_NoDeed , a.C_NoBack , a.C_NoLine , a.C_NoRoom ] ∧ C ≠ a.C_BadAsked )) rfl rfl ⟨rfl, by decide, .inl T.m_BadAsked⟩ (fun C h => T.fam.exY (by simp only [List.mem_cons, true_or, or_true]) h) (fun C h => T.fam.exN h.1 (by simp only [List.mem_cons, true_or, or_true]) h.2) (fun ea oe eC ed efo epn hz hzf => dssj_one (dsj_ret (dej_lst (daj_cons ju_m (dej_xf T.xf_BadAsked T.nf_BadAsked_at hz hzf (de_var 3)) (daj_nil))))) (.named (yes := (fun C => C = a.C_BadShare )) (no := (fun C => C ∈ a.C_PlaceError :: [a.C_NoRow , a.C_BadName , a.C_BadBerths , a.C_BadAsked , a.C_BadShare , a.C_BadRow , a.C_Unknown , a.C_Known , a.C_Used , a.C_TooMany , a.C_Early , a.C_NoText , a.C_NoDeed , a.C_NoBack , a.C_NoLine , a.C_NoRoom ] ∧ C ≠ a.C_BadShare )) rfl rfl ⟨rfl, by decide, .inl T.m_BadShare⟩ (fun C h => T.fam.exY (by simp only [List.mem_cons, true_or, or_true]) h) (fun C h => T.fam.exN h.1 (by simp only [List.mem_cons, true_or, or_true]) h.2) (fun ea oe eC ed efo epn hz hzf => dssj_one (dsj_ret (dej_lst (daj_cons ju_m (dej_xf T.xf_BadShare T.nf_BadShare_at hz hzf (de_var 3)) (daj_nil))))) (.named (yes := (fun C => C = a.C_BadRow )) (no := (fun C => C ∈ a.C_PlaceError :: [a.C_NoRow , a.C_BadName , a.C_BadBerths , a.C_BadAsked , a.C_BadShare , a.C_BadRow , a.C_Unknown , a.C_Known , a.C_Used , a.C_TooMany , a.C_Early , a.C_NoText , a.C_NoDeed , a.C_NoBack , a.C_NoLine , a.C_NoRoom ] ∧ C ≠ a.C_BadRow )) rfl rfl ⟨rfl, by decide, .inl T.m_BadRow⟩ (fun C h => T.fam.exY (by simp only [List.mem_cons, true_or, or_true]) h) (fun C h => T.fam.exN h.1 (by simp only [List.mem_cons, true_or, or_true]) h.2) (fun ea oe eC ed efo epn hz hzf => dssj_one (dsj_ret (dej_lst (daj_cons ju_m (dej_xf T.xf_BadRow T.nf_BadRow_at hz hzf (de_var 3)) (daj_nil))))) (.bare (yes := (fun C => C ∈ a.C_PlaceError :: [a.C_NoRow , a.C_BadName , a.C_BadBerths , a.C_BadAsked , a.C_BadShare , a.C_BadRow , a.C_Unknown , a.C_Known , a.C_Used , a.C_TooMany , a.C_Early , a.C_NoText , a.C_NoDeed , a.C_NoBack , a.C_NoLine , a.C_NoRoom ])) (no := (fun _ => False)) ⟨rfl, by decide, .inl T.m_PlaceError⟩ (fun C h => T.fam.exP h) (fun C h => h.elim) (fun ea oe eC ed efo epn hz hzf => dssj_of (dss_one (ds_ret (de_lst (da_nil))))) .nil)))))))) (dss_one (ds_ret (de_lst (da_nil))))
def body_l_else (g_l_raised_x : DSpE) (C_BadAsked : Addr) (C_BadBerths : Addr) (C_BadName : Addr) (C_BadRow : Addr) (C_BadShare : Addr) (C_Early : Addr) (C_Known : Addr) (C_NoBack : Addr) (C_NoDeed : Addr) (C_NoLine : Addr) (C_NoRoom : Addr) (C_NoRow : Addr) (C_NoText : Addr) (C_PlaceError : Addr) (C_TooMany : Addr) (C_Unknown : Addr) (C_Used : Addr) : DTS :=
  dSeq (dTryM (fun Ed => dDrop (dCallX g_l_raised_x (dCons (dVar 0) (dCons (dVar 1) (dCons (dVar 2) (dNil)))) Ed)) [⟨(fun C => C = C_Unknown ), (fun C => C ∈ C_PlaceError :: [C_NoRow , C_BadName , C_BadBerths , C_BadAsked , C_BadShare , C_BadRow , C_Unknown , C_Known , C_Used , C_TooMany , C_Early , C_NoText , C_NoDeed , C_NoBack , C_NoLine , C_NoRoom ] ∧ C ≠ C_Unknown ), some 3, fun ea eC efo => dRet (dLstD (dCons (dXf ea eC efo C_Unknown "name" (dVar 3)) (dNil)))⟩,
      ⟨(fun C => C = C_Known ), (fun C => C ∈ C_PlaceError :: [C_NoRow , C_BadName , C_BadBerths , C_BadAsked , C_BadShare , C_BadRow , C_Unknown , C_Known , C_Used , C_TooMany , C_Early , C_NoText , C_NoDeed , C_NoBack , C_NoLine , C_NoRoom ] ∧ C ≠ C_Known ), some 3, fun ea eC efo => dRet (dLstD (dCons (dXf ea eC efo C_Known "name" (dVar 3)) (dNil)))⟩,
      ⟨(fun C => C = C_Used ), (fun C => C ∈ C_PlaceError :: [C_NoRow , C_BadName , C_BadBerths , C_BadAsked , C_BadShare , C_BadRow , C_Unknown , C_Known , C_Used , C_TooMany , C_Early , C_NoText , C_NoDeed , C_NoBack , C_NoLine , C_NoRoom ] ∧ C ≠ C_Used ), some 3, fun ea eC efo => dRet (dLstD (dCons (dXf ea eC efo C_Used "name" (dVar 3)) (dNil)))⟩,
      ⟨(fun C => C = C_TooMany ), (fun C => C ∈ C_PlaceError :: [C_NoRow , C_BadName , C_BadBerths , C_BadAsked , C_BadShare , C_BadRow , C_Unknown , C_Known , C_Used , C_TooMany , C_Early , C_NoText , C_NoDeed , C_NoBack , C_NoLine , C_NoRoom ] ∧ C ≠ C_TooMany ), some 3, fun ea eC efo => dRet (dLstD (dCons (dXf ea eC efo C_TooMany "most" (dVar 3)) (dNil)))⟩,
      ⟨(fun C => C = C_Early ), (fun C => C ∈ C_PlaceError :: [C_NoRow , C_BadName , C_BadBerths , C_BadAsked , C_BadShare , C_BadRow , C_Unknown , C_Known , C_Used , C_TooMany , C_Early , C_NoText , C_NoDeed , C_NoBack , C_NoLine , C_NoRoom ] ∧ C ≠ C_Early ), some 3, fun ea eC efo => dRet (dLstD (dCons (dXf ea eC efo C_Early "until" (dVar 3)) (dNil)))⟩,
      ⟨(fun C => C = C_NoRoom ), (fun C => C ∈ C_PlaceError :: [C_NoRow , C_BadName , C_BadBerths , C_BadAsked , C_BadShare , C_BadRow , C_Unknown , C_Known , C_Used , C_TooMany , C_Early , C_NoText , C_NoDeed , C_NoBack , C_NoLine , C_NoRoom ] ∧ C ≠ C_NoRoom ), some 3, fun ea eC efo => dRet (dLstD (dCons (dXf ea eC efo C_NoRoom "first" (dVar 3)) (dCons (dXf ea eC efo C_NoRoom "demanded" (dVar 3)) (dCons (dXf ea eC efo C_NoRoom "room" (dVar 3)) (dNil)))))⟩,
      ⟨(fun C => C ∈ C_PlaceError :: [C_NoRow , C_BadName , C_BadBerths , C_BadAsked , C_BadShare , C_BadRow , C_Unknown , C_Known , C_Used , C_TooMany , C_Early , C_NoText , C_NoDeed , C_NoBack , C_NoLine , C_NoRoom ]), (fun _ => False), none, fun ea eC efo => dRet (dLstD (dNil))⟩])
      (dRet (dLstD (dNil)))
theorem ok_l_else (T : Txt K mg a) {g_l_raised_x : DSpE} (G_l_raised_x : FnE P w K mg base 3 a.f_l_raised a.fd_l_raised ["_law_k", "_law_thing_here", "_law_word"] g_l_raised_x) {g : DSp} (len : ∀ ws S Q, g ws S Q → ws.length = 3)
    (h : ∀ ws S Qd, g ws S Qd → body_l_else g_l_raised_x a.C_BadAsked a.C_BadBerths a.C_BadName a.C_BadRow a.C_BadShare a.C_Early a.C_Known a.C_NoBack a.C_NoDeed a.C_NoLine a.C_NoRoom a.C_NoRow a.C_NoText a.C_PlaceError a.C_TooMany a.C_Unknown a.C_Used { nx := fun _ S' => Qd (.d .none) S', rt := Qd } (dstart 4 ws) S) : FnD P w K mg base 4 a.f_l_else a.fd_l_else ["_law_k", "_law_thing_here", "_law_word"] g := by
  refine fnD_of (k := 3) T.F_l_else sc_l_else rfl len (fun cdv A outer s H E hr => ⟨_, ?_, h⟩)
  exact dss_cons (ds_tryM sc_l_else.nd (fun W Ed pn xe tk po => dssj_one (dsj_expr (dej_call tk G_l_raised_x (hr.mono (by decide)) rfl T.m_l_raised T.F_l_raised.kp T.b_l_raised (da_cons (de_var 0) (da_cons (de_var 1) (da_cons (de_var 2) (da_nil))))))) (.named (yes := (fun C => C = a.C_Unknown )) (no := (fun C => C ∈ a.C_PlaceError :: [a.C_NoRow , a.C_BadName , a.C_BadBerths , a.C_BadAsked , a.C_BadShare , a.C_BadRow , a.C_Unknown , a.C_Known , a.C_Used , a.C_TooMany , a.C_Early , a.C_NoText , a.C_NoDeed , a.C_NoBack , a.C_NoLine , a.C_NoRoom ] ∧ C ≠ a.C_Unknown )) rfl rfl ⟨rfl, by decide, .inl T.m_Unknown⟩ (fun C h => T.fam.exY (by simp only [List.mem_cons, true_or, or_true]) h) (fun C h => T.fam.exN h.1 (by simp only [List.mem_cons, true_or, or_true]) h.2) (fun ea oe eC ed efo epn hz hzf => dssj_one (dsj_ret (dej_lst (daj_cons ju_m (dej_xf T.xf_Unknown T.nf_Unknown_name hz hzf (de_var 3)) (daj_nil))))) (.named (yes := (fun C => C = a.C_Known )) (no := (fun C => C ∈ a.C_PlaceError :: [a.C_NoRow , a.C_BadName , a.C_BadBerths , a.C_BadAsked , a.C_BadShare , a.C_BadRow , a.C_Unknown , a.C_Known , a.C_Used , a.C_TooMany , a.C_Early , a.C_NoText , a.C_NoDeed , a.C_NoBack , a.C_NoLine , a.C_NoRoom ] ∧ C ≠ a.C_Known )) rfl rfl ⟨rfl, by decide, .inl T.m_Known⟩ (fun C h => T.fam.exY (by simp only [List.mem_cons, true_or, or_true]) h) (fun C h => T.fam.exN h.1 (by simp only [List.mem_cons, true_or, or_true]) h.2) (fun ea oe eC ed efo epn hz hzf => dssj_one (dsj_ret (dej_lst (daj_cons ju_m (dej_xf T.xf_Known T.nf_Known_name hz hzf (de_var 3)) (daj_nil))))) (.named (yes := (fun C => C = a.C_Used )) (no := (fun C => C ∈ a.C_PlaceError :: [a.C_NoRow , a.C_BadName , a.C_BadBerths , a.C_BadAsked , a.C_BadShare , a.C_BadRow , a.C_Unknown , a.C_Known , a.C_Used , a.C_TooMany , a.C_Early , a.C_NoText , a.C_NoDeed , a.C_NoBack , a.C_NoLine , a.C_NoRoom ] ∧ C ≠ a.C_Used )) rfl rfl ⟨rfl, by decide, .inl T.m_Used⟩ (fun C h => T.fam.exY (by simp only [List.mem_cons, true_or, or_true]) h) (fun C h => T.fam.exN h.1 (by simp only [List.mem_cons, true_or, or_true]) h.2) (fun ea oe eC ed efo epn hz hzf => dssj_one (dsj_ret (dej_lst (daj_cons ju_m (dej_xf T.xf_Used T.nf_Used_name hz hzf (de_var 3)) (daj_nil))))) (.named (yes := (fun C => C = a.C_TooMany )) (no := (fun C => C ∈ a.C_PlaceError :: [a.C_NoRow , a.C_BadName , a.C_BadBerths , a.C_BadAsked , a.C_BadShare , a.C_BadRow , a.C_Unknown , a.C_Known , a.C_Used , a.C_TooMany , a.C_Early , a.C_NoText , a.C_NoDeed , a.C_NoBack , a.C_NoLine , a.C_NoRoom ] ∧ C ≠ a.C_TooMany )) rfl rfl ⟨rfl, by decide, .inl T.m_TooMany⟩ (fun C h => T.fam.exY (by simp only [List.mem_cons, true_or, or_true]) h) (fun C h => T.fam.exN h.1 (by simp only [List.mem_cons, true_or, or_true]) h.2) (fun ea oe eC ed efo epn hz hzf => dssj_one (dsj_ret (dej_lst (daj_cons ju_m (dej_xf T.xf_TooMany T.nf_TooMany_most hz hzf (de_var 3)) (daj_nil))))) (.named (yes := (fun C => C = a.C_Early )) (no := (fun C => C ∈ a.C_PlaceError :: [a.C_NoRow , a.C_BadName , a.C_BadBerths , a.C_BadAsked , a.C_BadShare , a.C_BadRow , a.C_Unknown , a.C_Known , a.C_Used , a.C_TooMany , a.C_Early , a.C_NoText , a.C_NoDeed , a.C_NoBack , a.C_NoLine , a.C_NoRoom ] ∧ C ≠ a.C_Early )) rfl rfl ⟨rfl, by decide, .inl T.m_Early⟩ (fun C h => T.fam.exY (by simp only [List.mem_cons, true_or, or_true]) h) (fun C h => T.fam.exN h.1 (by simp only [List.mem_cons, true_or, or_true]) h.2) (fun ea oe eC ed efo epn hz hzf => dssj_one (dsj_ret (dej_lst (daj_cons ju_m (dej_xf T.xf_Early T.nf_Early_until hz hzf (de_var 3)) (daj_nil))))) (.named (yes := (fun C => C = a.C_NoRoom )) (no := (fun C => C ∈ a.C_PlaceError :: [a.C_NoRow , a.C_BadName , a.C_BadBerths , a.C_BadAsked , a.C_BadShare , a.C_BadRow , a.C_Unknown , a.C_Known , a.C_Used , a.C_TooMany , a.C_Early , a.C_NoText , a.C_NoDeed , a.C_NoBack , a.C_NoLine , a.C_NoRoom ] ∧ C ≠ a.C_NoRoom )) rfl rfl ⟨rfl, by decide, .inl T.m_NoRoom⟩ (fun C h => T.fam.exY (by simp only [List.mem_cons, true_or, or_true]) h) (fun C h => T.fam.exN h.1 (by simp only [List.mem_cons, true_or, or_true]) h.2) (fun ea oe eC ed efo epn hz hzf => dssj_one (dsj_ret (dej_lst (daj_cons ju_m (dej_xf T.xf_NoRoom T.nf_NoRoom_first hz hzf (de_var 3)) (daj_cons ju_m (dej_xf T.xf_NoRoom T.nf_NoRoom_demanded hz hzf (de_var 3)) (daj_cons ju_m (dej_xf T.xf_NoRoom T.nf_NoRoom_room hz hzf (de_var 3)) (daj_nil))))))) (.bare (yes := (fun C => C ∈ a.C_PlaceError :: [a.C_NoRow , a.C_BadName , a.C_BadBerths , a.C_BadAsked , a.C_BadShare , a.C_BadRow , a.C_Unknown , a.C_Known , a.C_Used , a.C_TooMany , a.C_Early , a.C_NoText , a.C_NoDeed , a.C_NoBack , a.C_NoLine , a.C_NoRoom ])) (no := (fun _ => False)) ⟨rfl, by decide, .inl T.m_PlaceError⟩ (fun C h => T.fam.exP h) (fun C h => h.elim) (fun ea oe eC ed efo epn hz hzf => dssj_of (dss_one (ds_ret (de_lst (da_nil))))) .nil)))))))) (dss_one (ds_ret (de_lst (da_nil))))
def body_l_any (g_l_kinds : DSpV) (C_BadAsked : Addr) (C_BadBerths : Addr) (C_BadName : Addr) (C_BadRow : Addr) (C_BadShare : Addr) (C_Early : Addr) (C_Known : Addr) (C_NoBack : Addr) (C_NoDeed : Addr) (C_NoLine : Addr) (C_NoRoom : Addr) (C_NoRow : Addr) (C_NoText : Addr) (C_PlaceError : Addr) (C_TooMany : Addr) (C_Unknown : Addr) (C_Used : Addr) : DTS :=
  dTryM (fun Ed => dRaiseN C_PlaceError Ed) [⟨(fun C => C ∈ C_PlaceError :: [C_NoRow , C_BadName , C_BadBerths , C_BadAsked , C_BadShare , C_BadRow , C_Unknown , C_Known , C_Used , C_TooMany , C_Early , C_NoText , C_NoDeed , C_NoBack , C_NoLine , C_NoRoom ]), (fun _ => False), some 0, fun ea eC efo => dRet (dOp gEq (dCallV ea eC efo g_l_kinds (dCons (dVar 0) (dNil))) (dOp gAdd (dOp gMulL (dLstD (dCons (dC (.bool false)) (dNil))) (dC (.int 16))) (dLstD (dCons (dC (.bool true)) (dNil)))))⟩]
theorem ok_l_any (T : Txt K mg a) {g_l_kinds : DSpV} (G_l_kinds : FnV P w K mg base 1 a.f_l_kinds a.fd_l_kinds ["_law_e"] g_l_kinds) {g : DSp} (len : ∀ ws S Q, g ws S Q → ws.length = 0)
    (h : ∀ ws S Qd, g ws S Qd → body_l_any g_l_kinds a.C_BadAsked a.C_BadBerths a.C_BadName a.C_BadRow a.C_BadShare a.C_Early a.C_Known a.C_NoBack a.C_NoDeed a.C_NoLine a.C_NoRoom a.C_NoRow a.C_NoText a.C_PlaceError a.C_TooMany a.C_Unknown a.C_Used { nx := fun _ S' => Qd (.d .none) S', rt := Qd } (dstart 1 ws) S) : FnD P w K mg base 2 a.f_l_any a.fd_l_any [] g := by
  refine fnD_of (k := 1) T.F_l_any sc_l_any rfl len (fun cdv A outer s H E hr => ⟨_, ?_, h⟩)
  exact dss_one (ds_tryM sc_l_any.nd (fun W Ed pn xe tk po => dssj_one (dsj_raiseN rfl tk T.xn_PlaceError rfl T.m_PlaceError)) (.named (yes := (fun C => C ∈ a.C_PlaceError :: [a.C_NoRow , a.C_BadName , a.C_BadBerths , a.C_BadAsked , a.C_BadShare , a.C_BadRow , a.C_Unknown , a.C_Known , a.C_Used , a.C_TooMany , a.C_Early , a.C_NoText , a.C_NoDeed , a.C_NoBack , a.C_NoLine , a.C_NoRoom ])) (no := (fun _ => False)) rfl rfl ⟨rfl, by decide, .inl T.m_PlaceError⟩ (fun C h => T.fam.exP h) (fun C h => h.elim) (fun ea oe eC ed efo epn hz hzf => dssj_one (dsj_ret (dej_cmp ju_m (dop_eq hr.u64) (dej_callV List.mem_cons_self hz hzf G_l_kinds ((hr.mono (by decide)).hot _) rfl T.m_l_kinds T.F_l_kinds.kp T.b_l_kinds (da_cons (de_var 0) (da_nil))) (dej_of (de_op dop_add (de_op dop_mulL (de_lst (da_cons (de_bl) (da_nil))) (de_int)) (de_lst (da_cons (de_bl) (da_nil)))))))) .nil))
def body_law (g_l_bag : DSp) (g_l_thing : DSp) (g_l_take : DSp) (g_l_caught : DSp) (g_l_at : DSp) (g_l_else : DSp) (g_l_any : DSp) : DTS :=
  dSeq (dAsg (dCall g_l_bag (dCons (dVar 0) (dNil))) (dgName 1))
      (dSeq (dFor (diRng1 (dCons (dC (.int 2)) (dNil))) (dgName 2) (dFor (diRng1 (dCons (dC (.int 16)) (dNil))) (dgName 3) (dSeq (dAsg (dCall g_l_thing (dCons (dVar 1) (dNil))) (dgName 4))
      (dSeq (dAsg (dOp gIx (dLstD (dCons (dC (.str "")) (dCons (dC (.str "a")) (dCons (dC (.str "no")) (dCons (dC (.str "word word")) (dNil)))))) (dCall g_l_take (dCons (dVar 1) (dCons (dC (.int 4)) (dNil))))) (dgName 5))
      (dSeq (dIfS (dTest (dOp gNe (dCall g_l_caught (dCons (dVar 3) (dCons (dVar 4) (dCons (dVar 5) (dNil))))) (dOp gAdd (dLc (diRng1 (dCons (dC (.int 16)) (dNil))) (dgName 7) (dYes) (dOp gEq (dVar 3) (dVar 7)) [7]) (dLstD (dCons (dC (.bool true)) (dNil)))))) (dRet (dC (.bool false))) (dNext))
      (dSeq (dAsg (dOp gMulL (dLstD (dCons (dVar 4) (dNil))) (dCB cInt (dCons (dOp gLt (dVar 3) (dC (.int 11))) (dNil)))) (dgName 6))
      (dSeq (dIfS (dTest (dOp gEq (dVar 3) (dC (.int 15)))) (dAsg (dLstD (dCons (dVar 4) (dCons (dLstD (dCons (dVar 4) (dNil))) (dCons (dVar 5) (dNil))))) (dgName 6)) (dNext))
      (dIfS (dTest (dOp gNe (dCB cReprF (dCons (dOp gAdd (dCall g_l_at (dCons (dVar 3) (dCons (dVar 4) (dCons (dVar 5) (dNil))))) (dCall g_l_else (dCons (dVar 3) (dCons (dVar 4) (dCons (dVar 5) (dNil)))))) (dNil))) (dCB cReprF (dCons (dVar 6) (dNil))))) (dRet (dC (.bool false))) (dNext)))))))))
      (dRet (dCall g_l_any dNil)))
theorem ok_law (T : Txt K mg a) {g_l_bag : DSp} (G_l_bag : FnD P w K mg base 1 a.f_l_bag a.fd_l_bag ["_law_script"] g_l_bag) {g_l_thing : DSp} (G_l_thing : FnD P w K mg base 2 a.f_l_thing a.fd_l_thing ["_law_bag_here"] g_l_thing) {g_l_take : DSp} (G_l_take : FnD P w K mg base 1 a.f_l_take a.fd_l_take ["_law_bag_here", "_law_many"] g_l_take) {g_l_caught : DSp} (G_l_caught : FnD P w K mg base 4 a.f_l_caught a.fd_l_caught ["_law_k", "_law_thing_here", "_law_word"] g_l_caught) {g_l_at : DSp} (G_l_at : FnD P w K mg base 4 a.f_l_at a.fd_l_at ["_law_k", "_law_thing_here", "_law_word"] g_l_at) {g_l_else : DSp} (G_l_else : FnD P w K mg base 4 a.f_l_else a.fd_l_else ["_law_k", "_law_thing_here", "_law_word"] g_l_else) {g_l_any : DSp} (G_l_any : FnD P w K mg base 2 a.f_l_any a.fd_l_any [] g_l_any) {g : DSp} (len : ∀ ws S Q, g ws S Q → ws.length = 1)
    (h : ∀ ws S Qd, g ws S Qd → body_law g_l_bag g_l_thing g_l_take g_l_caught g_l_at g_l_else g_l_any { nx := fun _ S' => Qd (.d .none) S', rt := Qd } (dstart 8 ws) S) : FnD P w K mg base 5 a.f_law a.fd_law ["_law_script"] g := by
  refine fnD_of (k := 4) T.F_law sc_law rfl len (fun cdv A outer s H E hr => ⟨_, ?_, h⟩)
  exact dss_cons (ds_set 1 sc_law.nd rfl (by first | exact Or.inl rfl | exact Or.inr rfl) (de_call G_l_bag (hr.mono (by decide)) rfl T.m_l_bag T.F_l_bag.kp T.b_l_bag (da_cons (de_var 0) (da_nil)))) (dss_cons (ds_for (vs := [2]) PassesOwn.never rfl (di_range1 rfl T.z_range (da_cons (de_int) (da_nil))) (dg_name 2 sc_law.nd rfl (by first | exact Or.inl rfl | exact Or.inr rfl) (by decide)) (dss_one (ds_for (vs := [3]) PassesOwn.never rfl (di_range1 rfl T.z_range (da_cons (de_int) (da_nil))) (dg_name 3 sc_law.nd rfl (by first | exact Or.inl rfl | exact Or.inr rfl) (by decide)) (dss_cons (ds_set 4 sc_law.nd rfl (by first | exact Or.inl rfl | exact Or.inr rfl) (de_call G_l_thing (hr.mono (by decide)) rfl T.m_l_thing T.F_l_thing.kp T.b_l_thing (da_cons (de_var 1) (da_nil)))) (dss_cons (ds_set 5 sc_law.nd rfl (by first | exact Or.inl rfl | exact Or.inr rfl) (de_ix (de_lst (da_cons (de_str) (da_cons (de_str) (da_cons (de_str) (da_cons (de_str) (da_nil)))))) (de_call G_l_take (hr.mono (by decide)) rfl T.m_l_take T.F_l_take.kp T.b_l_take (da_cons (de_var 1) (da_cons (de_int) (da_nil)))))) (dss_cons (ds_if (dt_cmp (dop_ne hr.u64) (de_call G_l_caught (hr.mono (by decide)) rfl T.m_l_caught T.F_l_caught.kp T.b_l_caught (da_cons (de_var 3) (da_cons (de_var 4) (da_cons (de_var 5) (da_nil))))) (de_op dop_add (de_lc rfl sc_law.nd (own := [("_law_j", 7)]) (di_range1 rfl T.z_range (da_cons (de_int) (da_nil))) (blkOk_by (N := n_law) (sc := defScope st_law) (by decide +kernel)) (fun _ _ _ _ _ => dg_name 7 sc_law.nd rfl (by first | exact Or.inl rfl | exact Or.inr rfl) (by decide)) (fun _ _ _ _ _ => dts_nil) (fun _ _ _ _ _ => de_cmp (dop_eq hr.u64) (de_var 3) (de_var 7))) (de_lst (da_cons (de_bl) (da_nil))))) (dss_one (ds_ret (de_bl))) (dss_nil)) (dss_cons (ds_set 6 sc_law.nd rfl (by first | exact Or.inl rfl | exact Or.inr rfl) (de_op dop_mulL (de_lst (da_cons (de_var 4) (da_nil))) (de_callTy dc_int rfl T.z_int (by decide +kernel) (da_cons (de_cmp dop_lt (de_var 3) (de_int)) (da_nil))))) (dss_cons (ds_if (dt_cmp (dop_eq hr.u64) (de_var 3) (de_int)) (dss_one (ds_set 6 sc_law.nd rfl (by first | exact Or.inl rfl | exact Or.inr rfl) (de_lst (da_cons (de_var 4) (da_cons (de_lst (da_cons (de_var 4) (da_nil))) (da_cons (de_var 5) (da_nil))))))) (dss_nil)) (dss_one (ds_if (dt_cmp (dop_ne hr.u64) (de_callB (dc_reprF hr.gd hr.u65) rfl T.z_repr (by decide +kernel) (da_cons (de_op dop_add (de_call G_l_at (hr.mono (by decide)) rfl T.m_l_at T.F_l_at.kp T.b_l_at (da_cons (de_var 3) (da_cons (de_var 4) (da_cons (de_var 5) (da_nil))))) (de_call G_l_else (hr.mono (by decide)) rfl T.m_l_else T.F_l_else.kp T.b_l_else (da_cons (de_var 3) (da_cons (de_var 4) (da_cons (de_var 5) (da_nil)))))) (da_nil))) (de_callB (dc_reprF hr.gd hr.u65) rfl T.z_repr (by decide +kernel) (da_cons (de_var 6) (da_nil)))) (dss_one (ds_ret (de_bl))) (dss_nil))))))))))) (dss_one (ds_ret (de_call0 G_l_any (hr.mono (by decide)) rfl T.m_l_any T.F_l_any.kp T.b_l_any))))
end
theorem mk_txt {K : PySem.W.Frag} {h : Heap} {mg : Str → Option Value} {C_BadAsked : Addr} {C_BadBerths : Addr} {C_BadName : Addr} {C_BadRow : Addr} {C_BadShare : Addr} {C_Early : Addr} {C_Known : Addr} {C_NoBack : Addr} {C_NoDeed : Addr} {C_NoLine : Addr} {C_NoRoom : Addr} {C_NoRow : Addr} {C_NoText : Addr} {C_PlaceError : Addr} {C_TooMany : Addr} {C_Unknown : Addr} {C_Used : Addr} {f_l_bag : Addr} {f_l_take : Addr} {f_l_thing : Addr} {f_l_raised : Addr} {f_l_kinds : Addr} {f_l_caught : Addr} {f_l_at : Addr} {f_l_else : Addr} {f_l_any : Addr} {f_law : Addr} {f_BadAsked_init : Addr} {f_BadBerths_init : Addr} {f_BadName_init : Addr} {f_BadRow_init : Addr} {f_BadShare_init : Addr} {f_Early_init : Addr} {f_Known_init : Addr} {f_NoRoom_init : Addr} {f_NoRow_init : Addr} {f_TooMany_init : Addr} {f_Unknown_init : Addr} {f_Used_init : Addr} (X : K.In h) (G : h.Ns mainGlobals mg)
    {od_l_bag an_l_bag od_l_take an_l_take od_l_thing an_l_thing od_l_raised an_l_raised od_l_kinds an_l_kinds od_l_caught an_l_caught od_l_at an_l_at od_l_else an_l_else od_l_any an_l_any od_law an_law od_BadAsked_init an_BadAsked_init od_BadBerths_init an_BadBerths_init od_BadName_init an_BadName_init od_BadRow_init an_BadRow_init od_BadShare_init an_BadShare_init od_Early_init an_Early_init od_Known_init an_Known_init od_NoRoom_init an_NoRoom_init od_NoRow_init an_NoRow_init od_TooMany_init an_TooMany_init od_Unknown_init an_Unknown_init od_Used_init an_Used_init : Option Addr} {sl_l_bag sl_l_take sl_l_thing sl_l_raised sl_l_kinds sl_l_caught sl_l_at sl_l_else sl_l_any sl_law sl_BadAsked_init sl_BadBerths_init sl_BadName_init sl_BadRow_init sl_BadShare_init sl_Early_init sl_Known_init sl_NoRoom_init sl_NoRow_init sl_TooMany_init sl_Unknown_init sl_Used_init : Array (Option Value)} {oc_l_bag kV_l_bag dc_l_bag pm_l_bag cd_l_bag ct_l_bag oc_l_take kV_l_take dc_l_take pm_l_take cd_l_take ct_l_take oc_l_thing kV_l_thing dc_l_thing pm_l_thing cd_l_thing ct_l_thing oc_l_raised kV_l_raised dc_l_raised pm_l_raised cd_l_raised ct_l_raised oc_l_kinds kV_l_kinds dc_l_kinds pm_l_kinds cd_l_kinds ct_l_kinds oc_l_caught kV_l_caught dc_l_caught pm_l_caught cd_l_caught ct_l_caught oc_l_at kV_l_at dc_l_at pm_l_at cd_l_at ct_l_at oc_l_else kV_l_else dc_l_else pm_l_else cd_l_else ct_l_else oc_l_any kV_l_any dc_l_any pm_l_any cd_l_any ct_l_any oc_law kV_law dc_law pm_law cd_law ct_law oc_BadAsked_init kV_BadAsked_init dc_BadAsked_init pm_BadAsked_init cd_BadAsked_init ct_BadAsked_init oc_BadBerths_init kV_BadBerths_init dc_BadBerths_init pm_BadBerths_init cd_BadBerths_init ct_BadBerths_init oc_BadName_init kV_BadName_init dc_BadName_init pm_BadName_init cd_BadName_init ct_BadName_init oc_BadRow_init kV_BadRow_init dc_BadRow_init pm_BadRow_init cd_BadRow_init ct_BadRow_init oc_BadShare_init kV_BadShare_init dc_BadShare_init pm_BadShare_init cd_BadShare_init ct_BadShare_init oc_Early_init kV_Early_init dc_Early_init pm_Early_init cd_Early_init ct_Early_init oc_Known_init kV_Known_init dc_Known_init pm_Known_init cd_Known_init ct_Known_init oc_NoRoom_init kV_NoRoom_init dc_NoRoom_init pm_NoRoom_init cd_NoRoom_init ct_NoRoom_init oc_NoRow_init kV_NoRow_init dc_NoRow_init pm_NoRow_init cd_NoRow_init ct_NoRow_init oc_TooMany_init kV_TooMany_init dc_TooMany_init pm_TooMany_init cd_TooMany_init ct_TooMany_init oc_Unknown_init kV_Unknown_init dc_Unknown_init pm_Unknown_init cd_Unknown_init ct_Unknown_init oc_Used_init kV_Used_init dc_Used_init pm_Used_init cd_Used_init ct_Used_init : Value}
    {xnm_BadAsked xq_BadAsked : Str} {xN_BadAsked : Addr} {xbs_BadAsked xbm_BadAsked xsub_BadAsked : List Value} {xsn_BadAsked : List Str} {xab_BadAsked : Bool} {xcol_BadAsked : Option Bool} {xdd_BadAsked : Option Addr} {xk0_BadAsked xk1_BadAsked xk2_BadAsked xk3_BadAsked xk5_BadAsked : Option Value}
    {xnm_BadBerths xq_BadBerths : Str} {xN_BadBerths : Addr} {xbs_BadBerths xbm_BadBerths xsub_BadBerths : List Value} {xsn_BadBerths : List Str} {xab_BadBerths : Bool} {xcol_BadBerths : Option Bool} {xdd_BadBerths : Option Addr} {xk0_BadBerths xk1_BadBerths xk2_BadBerths xk3_BadBerths xk5_BadBerths : Option Value}
    {xnm_BadName xq_BadName : Str} {xN_BadName : Addr} {xbs_BadName xbm_BadName xsub_BadName : List Value} {xsn_BadName : List Str} {xab_BadName : Bool} {xcol_BadName : Option Bool} {xdd_BadName : Option Addr} {xk0_BadName xk1_BadName xk2_BadName xk3_BadName xk5_BadName : Option Value}
    {xnm_BadRow xq_BadRow : Str} {xN_BadRow : Addr} {xbs_BadRow xbm_BadRow xsub_BadRow : List Value} {xsn_BadRow : List Str} {xab_BadRow : Bool} {xcol_BadRow : Option Bool} {xdd_BadRow : Option Addr} {xk0_BadRow xk1_BadRow xk2_BadRow xk3_BadRow xk5_BadRow : Option Value}
    {xnm_BadShare xq_BadShare : Str} {xN_BadShare : Addr} {xbs_BadShare xbm_BadShare xsub_BadShare : List Value} {xsn_BadShare : List Str} {xab_BadShare : Bool} {xcol_BadShare : Option Bool} {xdd_BadShare : Option Addr} {xk0_BadShare xk1_BadShare xk2_BadShare xk3_BadShare xk5_BadShare : Option Value}
    {xnm_Early xq_Early : Str} {xN_Early : Addr} {xbs_Early xbm_Early xsub_Early : List Value} {xsn_Early : List Str} {xab_Early : Bool} {xcol_Early : Option Bool} {xdd_Early : Option Addr} {xk0_Early xk1_Early xk2_Early xk3_Early xk5_Early : Option Value}
    {xnm_Known xq_Known : Str} {xN_Known : Addr} {xbs_Known xbm_Known xsub_Known : List Value} {xsn_Known : List Str} {xab_Known : Bool} {xcol_Known : Option Bool} {xdd_Known : Option Addr} {xk0_Known xk1_Known xk2_Known xk3_Known xk5_Known : Option Value}
    {xnm_NoRoom xq_NoRoom : Str} {xN_NoRoom : Addr} {xbs_NoRoom xbm_NoRoom xsub_NoRoom : List Value} {xsn_NoRoom : List Str} {xab_NoRoom : Bool} {xcol_NoRoom : Option Bool} {xdd_NoRoom : Option Addr} {xk0_NoRoom xk1_NoRoom xk2_NoRoom xk3_NoRoom xk5_NoRoom : Option Value}
    {xnm_NoRow xq_NoRow : Str} {xN_NoRow : Addr} {xbs_NoRow xbm_NoRow xsub_NoRow : List Value} {xsn_NoRow : List Str} {xab_NoRow : Bool} {xcol_NoRow : Option Bool} {xdd_NoRow : Option Addr} {xk0_NoRow xk1_NoRow xk2_NoRow xk3_NoRow xk5_NoRow : Option Value}
    {xnm_TooMany xq_TooMany : Str} {xN_TooMany : Addr} {xbs_TooMany xbm_TooMany xsub_TooMany : List Value} {xsn_TooMany : List Str} {xab_TooMany : Bool} {xcol_TooMany : Option Bool} {xdd_TooMany : Option Addr} {xk0_TooMany xk1_TooMany xk2_TooMany xk3_TooMany xk5_TooMany : Option Value}
    {xnm_Unknown xq_Unknown : Str} {xN_Unknown : Addr} {xbs_Unknown xbm_Unknown xsub_Unknown : List Value} {xsn_Unknown : List Str} {xab_Unknown : Bool} {xcol_Unknown : Option Bool} {xdd_Unknown : Option Addr} {xk0_Unknown xk1_Unknown xk2_Unknown xk3_Unknown xk5_Unknown : Option Value}
    {xnm_Used xq_Used : Str} {xN_Used : Addr} {xbs_Used xbm_Used xsub_Used : List Value} {xsn_Used : List Str} {xab_Used : Bool} {xcol_Used : Option Bool} {xdd_Used : Option Addr} {xk0_Used xk1_Used xk2_Used xk3_Used xk5_Used : Option Value}
    (aC_Used : PySem.W.nsIn K mainGlobals "Used" = some (some (.ref C_Used)))
    (aC_Unknown : PySem.W.nsIn K mainGlobals "Unknown" = some (some (.ref C_Unknown)))
    (aC_TooMany : PySem.W.nsIn K mainGlobals "TooMany" = some (some (.ref C_TooMany)))
    (aC_PlaceError : PySem.W.nsIn K mainGlobals "PlaceError" = some (some (.ref C_PlaceError)))
    (aC_NoText : PySem.W.nsIn K mainGlobals "NoText" = some (some (.ref C_NoText)))
    (aC_NoRow : PySem.W.nsIn K mainGlobals "NoRow" = some (some (.ref C_NoRow)))
    (aC_NoRoom : PySem.W.nsIn K mainGlobals "NoRoom" = some (some (.ref C_NoRoom)))
    (aC_NoLine : PySem.W.nsIn K mainGlobals "NoLine" = some (some (.ref C_NoLine)))
    (aC_NoDeed : PySem.W.nsIn K mainGlobals "NoDeed" = some (some (.ref C_NoDeed)))
    (aC_NoBack : PySem.W.nsIn K mainGlobals "NoBack" = some (some (.ref C_NoBack)))
    (aC_Known : PySem.W.nsIn K mainGlobals "Known" = some (some (.ref C_Known)))
    (aC_Early : PySem.W.nsIn K mainGlobals "Early" = some (some (.ref C_Early)))
    (aC_BadShare : PySem.W.nsIn K mainGlobals "BadShare" = some (some (.ref C_BadShare)))
    (aC_BadRow : PySem.W.nsIn K mainGlobals "BadRow" = some (some (.ref C_BadRow)))
    (aC_BadName : PySem.W.nsIn K mainGlobals "BadName" = some (some (.ref C_BadName)))
    (aC_BadBerths : PySem.W.nsIn K mainGlobals "BadBerths" = some (some (.ref C_BadBerths)))
    (aC_BadAsked : PySem.W.nsIn K mainGlobals "BadAsked" = some (some (.ref C_BadAsked)))
    (a_l_bag : PySem.W.nsIn K mainGlobals "_law_bag" = some (some (.ref f_l_bag)))
    (l_l_bag : K.lookup f_l_bag = some ⟨oc_l_bag, od_l_bag, .func (PySem.W.fnOf "_law_bag" "_law_bag" (defArgs st_l_bag) (defBody st_l_bag) (defScope st_l_bag) .none kV_l_bag dc_l_bag pm_l_bag an_l_bag cd_l_bag ct_l_bag), sl_l_bag⟩)
    (c_l_bag : PySem.W.codeIn K cd_l_bag "_law_bag" = true)
    (k_l_bag : PySem.W.keepIn K (.ref f_l_bag) = true)
    (a_l_take : PySem.W.nsIn K mainGlobals "_law_take" = some (some (.ref f_l_take)))
    (l_l_take : K.lookup f_l_take = some ⟨oc_l_take, od_l_take, .func (PySem.W.fnOf "_law_take" "_law_take" (defArgs st_l_take) (defBody st_l_take) (defScope st_l_take) .none kV_l_take dc_l_take pm_l_take an_l_take cd_l_take ct_l_take), sl_l_take⟩)
    (c_l_take : PySem.W.codeIn K cd_l_take "_law_take" = true)
    (k_l_take : PySem.W.keepIn K (.ref f_l_take) = true)
    (a_l_thing : PySem.W.nsIn K mainGlobals "_law_thing" = some (some (.ref f_l_thing)))
    (l_l_thing : K.lookup f_l_thing = some ⟨oc_l_thing, od_l_thing, .func (PySem.W.fnOf "_law_thing" "_law_thing" (defArgs st_l_thing) (defBody st_l_thing) (defScope st_l_thing) .none kV_l_thing dc_l_thing pm_l_thing an_l_thing cd_l_thing ct_l_thing), sl_l_thing⟩)
    (c_l_thing : PySem.W.codeIn K cd_l_thing "_law_thing" = true)
    (k_l_thing : PySem.W.keepIn K (.ref f_l_thing) = true)
    (a_l_raised : PySem.W.nsIn K mainGlobals "_law_raised" = some (some (.ref f_l_raised)))
    (l_l_raised : K.lookup f_l_raised = some ⟨oc_l_raised, od_l_raised, .func (PySem.W.fnOf "_law_raised" "_law_raised" (defArgs st_l_raised) (defBody st_l_raised) (defScope st_l_raised) .none kV_l_raised dc_l_raised pm_l_raised an_l_raised cd_l_raised ct_l_raised), sl_l_raised⟩)
    (c_l_raised : PySem.W.codeIn K cd_l_raised "_law_raised" = true)
    (k_l_raised : PySem.W.keepIn K (.ref f_l_raised) = true)
    (a_l_kinds : PySem.W.nsIn K mainGlobals "_law_kinds" = some (some (.ref f_l_kinds)))
    (l_l_kinds : K.lookup f_l_kinds = some ⟨oc_l_kinds, od_l_kinds, .func (PySem.W.fnOf "_law_kinds" "_law_kinds" (defArgs st_l_kinds) (defBody st_l_kinds) (defScope st_l_kinds) .none kV_l_kinds dc_l_kinds pm_l_kinds an_l_kinds cd_l_kinds ct_l_kinds), sl_l_kinds⟩)
    (c_l_kinds : PySem.W.codeIn K cd_l_kinds "_law_kinds" = true)
    (k_l_kinds : PySem.W.keepIn K (.ref f_l_kinds) = true)
    (a_l_caught : PySem.W.nsIn K mainGlobals "_law_caught" = some (some (.ref f_l_caught)))
    (l_l_caught : K.lookup f_l_caught = some ⟨oc_l_caught, od_l_caught, .func (PySem.W.fnOf "_law_caught" "_law_caught" (defArgs st_l_caught) (defBody st_l_caught) (defScope st_l_caught) .none kV_l_caught dc_l_caught pm_l_caught an_l_caught cd_l_caught ct_l_caught), sl_l_caught⟩)
    (c_l_caught : PySem.W.codeIn K cd_l_caught "_law_caught" = true)
    (k_l_caught : PySem.W.keepIn K (.ref f_l_caught) = true)
    (a_l_at : PySem.W.nsIn K mainGlobals "_law_at" = some (some (.ref f_l_at)))
    (l_l_at : K.lookup f_l_at = some ⟨oc_l_at, od_l_at, .func (PySem.W.fnOf "_law_at" "_law_at" (defArgs st_l_at) (defBody st_l_at) (defScope st_l_at) .none kV_l_at dc_l_at pm_l_at an_l_at cd_l_at ct_l_at), sl_l_at⟩)
    (c_l_at : PySem.W.codeIn K cd_l_at "_law_at" = true)
    (k_l_at : PySem.W.keepIn K (.ref f_l_at) = true)
    (a_l_else : PySem.W.nsIn K mainGlobals "_law_else" = some (some (.ref f_l_else)))
    (l_l_else : K.lookup f_l_else = some ⟨oc_l_else, od_l_else, .func (PySem.W.fnOf "_law_else" "_law_else" (defArgs st_l_else) (defBody st_l_else) (defScope st_l_else) .none kV_l_else dc_l_else pm_l_else an_l_else cd_l_else ct_l_else), sl_l_else⟩)
    (c_l_else : PySem.W.codeIn K cd_l_else "_law_else" = true)
    (k_l_else : PySem.W.keepIn K (.ref f_l_else) = true)
    (a_l_any : PySem.W.nsIn K mainGlobals "_law_any" = some (some (.ref f_l_any)))
    (l_l_any : K.lookup f_l_any = some ⟨oc_l_any, od_l_any, .func (PySem.W.fnOf "_law_any" "_law_any" (defArgs st_l_any) (defBody st_l_any) (defScope st_l_any) .none kV_l_any dc_l_any pm_l_any an_l_any cd_l_any ct_l_any), sl_l_any⟩)
    (c_l_any : PySem.W.codeIn K cd_l_any "_law_any" = true)
    (k_l_any : PySem.W.keepIn K (.ref f_l_any) = true)
    (a_law : PySem.W.nsIn K mainGlobals "law" = some (some (.ref f_law)))
    (l_law : K.lookup f_law = some ⟨oc_law, od_law, .func (PySem.W.fnOf "law" "law" (defArgs st_law) (defBody st_law) (defScope st_law) .none kV_law dc_law pm_law an_law cd_law ct_law), sl_law⟩)
    (c_law : PySem.W.codeIn K cd_law "law" = true)
    (k_law : PySem.W.keepIn K (.ref f_law) = true)
    (a_BadAsked_init : PySem.W.findIn K (.ref C_BadAsked) "__init__" = some (some (.ref f_BadAsked_init)))
    (i_BadAsked_init : PySem.W.isFn K (.ref f_BadAsked_init) = true)
    (l_BadAsked_init : K.lookup f_BadAsked_init = some ⟨oc_BadAsked_init, od_BadAsked_init, .func (PySem.W.fnOf "__init__" "BadAsked.__init__" (defArgs st_BadAsked_init) (defBody st_BadAsked_init) (defScope st_BadAsked_init) .none kV_BadAsked_init dc_BadAsked_init pm_BadAsked_init an_BadAsked_init cd_BadAsked_init ct_BadAsked_init), sl_BadAsked_init⟩)
    (c_BadAsked_init : PySem.W.codeIn K cd_BadAsked_init "BadAsked.__init__" = true)
    (k_BadAsked_init : PySem.W.keepIn K (.ref f_BadAsked_init) = true)
    (a_BadBerths_init : PySem.W.findIn K (.ref C_BadBerths) "__init__" = some (some (.ref f_BadBerths_init)))
    (i_BadBerths_init : PySem.W.isFn K (.ref f_BadBerths_init) = true)
    (l_BadBerths_init : K.lookup f_BadBerths_init = some ⟨oc_BadBerths_init, od_BadBerths_init, .func (PySem.W.fnOf "__init__" "BadBerths.__init__" (defArgs st_BadBerths_init) (defBody st_BadBerths_init) (defScope st_BadBerths_init) .none kV_BadBerths_init dc_BadBerths_init pm_BadBerths_init an_BadBerths_init cd_BadBerths_init ct_BadBerths_init), sl_BadBerths_init⟩)
    (c_BadBerths_init : PySem.W.codeIn K cd_BadBerths_init "BadBerths.__init__" = true)
    (k_BadBerths_init : PySem.W.keepIn K (.ref f_BadBerths_init) = true)
    (a_BadName_init : PySem.W.findIn K (.ref C_BadName) "__init__" = some (some (.ref f_BadName_init)))
    (i_BadName_init : PySem.W.isFn K (.ref f_BadName_init) = true)
    (l_BadName_init : K.lookup f_BadName_init = some ⟨oc_BadName_init, od_BadName_init, .func (PySem.W.fnOf "__init__" "BadName.__init__" (defArgs st_BadName_init) (defBody st_BadName_init) (defScope st_BadName_init) .none kV_BadName_init dc_BadName_init pm_BadName_init an_BadName_init cd_BadName_init ct_BadName_init), sl_BadName_init⟩)
    (c_BadName_init : PySem.W.codeIn K cd_BadName_init "BadName.__init__" = true)
    (k_BadName_init : PySem.W.keepIn K (.ref f_BadName_init) = true)
    (a_BadRow_init : PySem.W.findIn K (.ref C_BadRow) "__init__" = some (some (.ref f_BadRow_init)))
    (i_BadRow_init : PySem.W.isFn K (.ref f_BadRow_init) = true)
    (l_BadRow_init : K.lookup f_BadRow_init = some ⟨oc_BadRow_init, od_BadRow_init, .func (PySem.W.fnOf "__init__" "BadRow.__init__" (defArgs st_BadRow_init) (defBody st_BadRow_init) (defScope st_BadRow_init) .none kV_BadRow_init dc_BadRow_init pm_BadRow_init an_BadRow_init cd_BadRow_init ct_BadRow_init), sl_BadRow_init⟩)
    (c_BadRow_init : PySem.W.codeIn K cd_BadRow_init "BadRow.__init__" = true)
    (k_BadRow_init : PySem.W.keepIn K (.ref f_BadRow_init) = true)
    (a_BadShare_init : PySem.W.findIn K (.ref C_BadShare) "__init__" = some (some (.ref f_BadShare_init)))
    (i_BadShare_init : PySem.W.isFn K (.ref f_BadShare_init) = true)
    (l_BadShare_init : K.lookup f_BadShare_init = some ⟨oc_BadShare_init, od_BadShare_init, .func (PySem.W.fnOf "__init__" "BadShare.__init__" (defArgs st_BadShare_init) (defBody st_BadShare_init) (defScope st_BadShare_init) .none kV_BadShare_init dc_BadShare_init pm_BadShare_init an_BadShare_init cd_BadShare_init ct_BadShare_init), sl_BadShare_init⟩)
    (c_BadShare_init : PySem.W.codeIn K cd_BadShare_init "BadShare.__init__" = true)
    (k_BadShare_init : PySem.W.keepIn K (.ref f_BadShare_init) = true)
    (a_Early_init : PySem.W.findIn K (.ref C_Early) "__init__" = some (some (.ref f_Early_init)))
    (i_Early_init : PySem.W.isFn K (.ref f_Early_init) = true)
    (l_Early_init : K.lookup f_Early_init = some ⟨oc_Early_init, od_Early_init, .func (PySem.W.fnOf "__init__" "Early.__init__" (defArgs st_Early_init) (defBody st_Early_init) (defScope st_Early_init) .none kV_Early_init dc_Early_init pm_Early_init an_Early_init cd_Early_init ct_Early_init), sl_Early_init⟩)
    (c_Early_init : PySem.W.codeIn K cd_Early_init "Early.__init__" = true)
    (k_Early_init : PySem.W.keepIn K (.ref f_Early_init) = true)
    (a_Known_init : PySem.W.findIn K (.ref C_Known) "__init__" = some (some (.ref f_Known_init)))
    (i_Known_init : PySem.W.isFn K (.ref f_Known_init) = true)
    (l_Known_init : K.lookup f_Known_init = some ⟨oc_Known_init, od_Known_init, .func (PySem.W.fnOf "__init__" "Known.__init__" (defArgs st_Known_init) (defBody st_Known_init) (defScope st_Known_init) .none kV_Known_init dc_Known_init pm_Known_init an_Known_init cd_Known_init ct_Known_init), sl_Known_init⟩)
    (c_Known_init : PySem.W.codeIn K cd_Known_init "Known.__init__" = true)
    (k_Known_init : PySem.W.keepIn K (.ref f_Known_init) = true)
    (a_NoRoom_init : PySem.W.findIn K (.ref C_NoRoom) "__init__" = some (some (.ref f_NoRoom_init)))
    (i_NoRoom_init : PySem.W.isFn K (.ref f_NoRoom_init) = true)
    (l_NoRoom_init : K.lookup f_NoRoom_init = some ⟨oc_NoRoom_init, od_NoRoom_init, .func (PySem.W.fnOf "__init__" "NoRoom.__init__" (defArgs st_NoRoom_init) (defBody st_NoRoom_init) (defScope st_NoRoom_init) .none kV_NoRoom_init dc_NoRoom_init pm_NoRoom_init an_NoRoom_init cd_NoRoom_init ct_NoRoom_init), sl_NoRoom_init⟩)
    (c_NoRoom_init : PySem.W.codeIn K cd_NoRoom_init "NoRoom.__init__" = true)
    (k_NoRoom_init : PySem.W.keepIn K (.ref f_NoRoom_init) = true)
    (a_NoRow_init : PySem.W.findIn K (.ref C_NoRow) "__init__" = some (some (.ref f_NoRow_init)))
    (i_NoRow_init : PySem.W.isFn K (.ref f_NoRow_init) = true)
    (l_NoRow_init : K.lookup f_NoRow_init = some ⟨oc_NoRow_init, od_NoRow_init, .func (PySem.W.fnOf "__init__" "NoRow.__init__" (defArgs st_NoRow_init) (defBody st_NoRow_init) (defScope st_NoRow_init) .none kV_NoRow_init dc_NoRow_init pm_NoRow_init an_NoRow_init cd_NoRow_init ct_NoRow_init), sl_NoRow_init⟩)
    (c_NoRow_init : PySem.W.codeIn K cd_NoRow_init "NoRow.__init__" = true)
    (k_NoRow_init : PySem.W.keepIn K (.ref f_NoRow_init) = true)
    (a_TooMany_init : PySem.W.findIn K (.ref C_TooMany) "__init__" = some (some (.ref f_TooMany_init)))
    (i_TooMany_init : PySem.W.isFn K (.ref f_TooMany_init) = true)
    (l_TooMany_init : K.lookup f_TooMany_init = some ⟨oc_TooMany_init, od_TooMany_init, .func (PySem.W.fnOf "__init__" "TooMany.__init__" (defArgs st_TooMany_init) (defBody st_TooMany_init) (defScope st_TooMany_init) .none kV_TooMany_init dc_TooMany_init pm_TooMany_init an_TooMany_init cd_TooMany_init ct_TooMany_init), sl_TooMany_init⟩)
    (c_TooMany_init : PySem.W.codeIn K cd_TooMany_init "TooMany.__init__" = true)
    (k_TooMany_init : PySem.W.keepIn K (.ref f_TooMany_init) = true)
    (a_Unknown_init : PySem.W.findIn K (.ref C_Unknown) "__init__" = some (some (.ref f_Unknown_init)))
    (i_Unknown_init : PySem.W.isFn K (.ref f_Unknown_init) = true)
    (l_Unknown_init : K.lookup f_Unknown_init = some ⟨oc_Unknown_init, od_Unknown_init, .func (PySem.W.fnOf "__init__" "Unknown.__init__" (defArgs st_Unknown_init) (defBody st_Unknown_init) (defScope st_Unknown_init) .none kV_Unknown_init dc_Unknown_init pm_Unknown_init an_Unknown_init cd_Unknown_init ct_Unknown_init), sl_Unknown_init⟩)
    (c_Unknown_init : PySem.W.codeIn K cd_Unknown_init "Unknown.__init__" = true)
    (k_Unknown_init : PySem.W.keepIn K (.ref f_Unknown_init) = true)
    (a_Used_init : PySem.W.findIn K (.ref C_Used) "__init__" = some (some (.ref f_Used_init)))
    (i_Used_init : PySem.W.isFn K (.ref f_Used_init) = true)
    (l_Used_init : K.lookup f_Used_init = some ⟨oc_Used_init, od_Used_init, .func (PySem.W.fnOf "__init__" "Used.__init__" (defArgs st_Used_init) (defBody st_Used_init) (defScope st_Used_init) .none kV_Used_init dc_Used_init pm_Used_init an_Used_init cd_Used_init ct_Used_init), sl_Used_init⟩)
    (c_Used_init : PySem.W.codeIn K cd_Used_init "Used.__init__" = true)
    (k_Used_init : PySem.W.keepIn K (.ref f_Used_init) = true)
    (xb_BadAsked : PySem.W.subIn K (.ref C_BadAsked) (.type "BaseException") = some true)
    (xd_BadAsked : PySem.W.hasDictIn K C_BadAsked = true)
    (xt_BadAsked : PySem.W.typeIn K (.ref C_BadAsked) = some (.type "type"))
    (xl_BadAsked : K.lookup C_BadAsked = some (excClassObj xnm_BadAsked xq_BadAsked C_BadAsked xN_BadAsked xbs_BadAsked xbm_BadAsked true xsn_BadAsked xsub_BadAsked xab_BadAsked xcol_BadAsked xdd_BadAsked xk0_BadAsked xk1_BadAsked xk2_BadAsked xk3_BadAsked xk5_BadAsked "ValueError.__new__"))
    (xr_BadAsked : PySem.HandSPX.refsVE xbm_BadAsked = true)
    (xs_BadAsked : PySem.W.findIn K (.ref C_BadAsked) "__setattr__" = some (some (.builtin "object.__setattr__")))
    (xk_BadAsked : PySem.W.keepIn K (.ref C_BadAsked) = true)
    (xi_BadAsked : PySem.W.typeIn K (.ref f_BadAsked_init) = some (.type "function"))
    (xz_BadAsked : PySem.W.findIn K (.ref C_BadAsked) "__class__" = some (some (.builtin "object.__class__")))
    (xo_BadAsked : PySem.W.mroIn K C_BadAsked (.type "object") = some true)
    (xg_BadAsked : PySem.W.findIn K (.ref C_BadAsked) "__getattribute__" = some (some (.builtin "BaseException.__getattribute__")))
    (xh_BadAsked : PySem.W.findIn K (.ref C_BadAsked) "__getattr__" = some none)
    (xb_BadBerths : PySem.W.subIn K (.ref C_BadBerths) (.type "BaseException") = some true)
    (xd_BadBerths : PySem.W.hasDictIn K C_BadBerths = true)
    (xt_BadBerths : PySem.W.typeIn K (.ref C_BadBerths) = some (.type "type"))
    (xl_BadBerths : K.lookup C_BadBerths = some (excClassObj xnm_BadBerths xq_BadBerths C_BadBerths xN_BadBerths xbs_BadBerths xbm_BadBerths true xsn_BadBerths xsub_BadBerths xab_BadBerths xcol_BadBerths xdd_BadBerths xk0_BadBerths xk1_BadBerths xk2_BadBerths xk3_BadBerths xk5_BadBerths "ValueError.__new__"))
    (xr_BadBerths : PySem.HandSPX.refsVE xbm_BadBerths = true)
    (xs_BadBerths : PySem.W.findIn K (.ref C_BadBerths) "__setattr__" = some (some (.builtin "object.__setattr__")))
    (xk_BadBerths : PySem.W.keepIn K (.ref C_BadBerths) = true)
    (xi_BadBerths : PySem.W.typeIn K (.ref f_BadBerths_init) = some (.type "function"))
    (xz_BadBerths : PySem.W.findIn K (.ref C_BadBerths) "__class__" = some (some (.builtin "object.__class__")))
    (xo_BadBerths : PySem.W.mroIn K C_BadBerths (.type "object") = some true)
    (xg_BadBerths : PySem.W.findIn K (.ref C_BadBerths) "__getattribute__" = some (some (.builtin "BaseException.__getattribute__")))
    (xh_BadBerths : PySem.W.findIn K (.ref C_BadBerths) "__getattr__" = some none)
    (xb_BadName : PySem.W.subIn K (.ref C_BadName) (.type "BaseException") = some true)
    (xd_BadName : PySem.W.hasDictIn K C_BadName = true)
    (xt_BadName : PySem.W.typeIn K (.ref C_BadName) = some (.type "type"))
    (xl_BadName : K.lookup C_BadName = some (excClassObj xnm_BadName xq_BadName C_BadName xN_BadName xbs_BadName xbm_BadName true xsn_BadName xsub_BadName xab_BadName xcol_BadName xdd_BadName xk0_BadName xk1_BadName xk2_BadName xk3_BadName xk5_BadName "ValueError.__new__"))
    (xr_BadName : PySem.HandSPX.refsVE xbm_BadName = true)
    (xs_BadName : PySem.W.findIn K (.ref C_BadName) "__setattr__" = some (some (.builtin "object.__setattr__")))
    (xk_BadName : PySem.W.keepIn K (.ref C_BadName) = true)
    (xi_BadName : PySem.W.typeIn K (.ref f_BadName_init) = some (.type "function"))
    (xz_BadName : PySem.W.findIn K (.ref C_BadName) "__class__" = some (some (.builtin "object.__class__")))
    (xo_BadName : PySem.W.mroIn K C_BadName (.type "object") = some true)
    (xg_BadName : PySem.W.findIn K (.ref C_BadName) "__getattribute__" = some (some (.builtin "BaseException.__getattribute__")))
    (xh_BadName : PySem.W.findIn K (.ref C_BadName) "__getattr__" = some none)
    (xb_BadRow : PySem.W.subIn K (.ref C_BadRow) (.type "BaseException") = some true)
    (xd_BadRow : PySem.W.hasDictIn K C_BadRow = true)
    (xt_BadRow : PySem.W.typeIn K (.ref C_BadRow) = some (.type "type"))
    (xl_BadRow : K.lookup C_BadRow = some (excClassObj xnm_BadRow xq_BadRow C_BadRow xN_BadRow xbs_BadRow xbm_BadRow true xsn_BadRow xsub_BadRow xab_BadRow xcol_BadRow xdd_BadRow xk0_BadRow xk1_BadRow xk2_BadRow xk3_BadRow xk5_BadRow "ValueError.__new__"))
    (xr_BadRow : PySem.HandSPX.refsVE xbm_BadRow = true)
    (xs_BadRow : PySem.W.findIn K (.ref C_BadRow) "__setattr__" = some (some (.builtin "object.__setattr__")))
    (xk_BadRow : PySem.W.keepIn K (.ref C_BadRow) = true)
    (xi_BadRow : PySem.W.typeIn K (.ref f_BadRow_init) = some (.type "function"))
    (xz_BadRow : PySem.W.findIn K (.ref C_BadRow) "__class__" = some (some (.builtin "object.__class__")))
    (xo_BadRow : PySem.W.mroIn K C_BadRow (.type "object") = some true)
    (xg_BadRow : PySem.W.findIn K (.ref C_BadRow) "__getattribute__" = some (some (.builtin "BaseException.__getattribute__")))
    (xh_BadRow : PySem.W.findIn K (.ref C_BadRow) "__getattr__" = some none)
    (xb_BadShare : PySem.W.subIn K (.ref C_BadShare) (.type "BaseException") = some true)
    (xd_BadShare : PySem.W.hasDictIn K C_BadShare = true)
    (xt_BadShare : PySem.W.typeIn K (.ref C_BadShare) = some (.type "type"))
    (xl_BadShare : K.lookup C_BadShare = some (excClassObj xnm_BadShare xq_BadShare C_BadShare xN_BadShare xbs_BadShare xbm_BadShare true xsn_BadShare xsub_BadShare xab_BadShare xcol_BadShare xdd_BadShare xk0_BadShare xk1_BadShare xk2_BadShare xk3_BadShare xk5_BadShare "ValueError.__new__"))
    (xr_BadShare : PySem.HandSPX.refsVE xbm_BadShare = true)
    (xs_BadShare : PySem.W.findIn K (.ref C_BadShare) "__setattr__" = some (some (.builtin "object.__setattr__")))
    (xk_BadShare : PySem.W.keepIn K (.ref C_BadShare) = true)
    (xi_BadShare : PySem.W.typeIn K (.ref f_BadShare_init) = some (.type "function"))
    (xz_BadShare : PySem.W.findIn K (.ref C_BadShare) "__class__" = some (some (.builtin "object.__class__")))
    (xo_BadShare : PySem.W.mroIn K C_BadShare (.type "object") = some true)
    (xg_BadShare : PySem.W.findIn K (.ref C_BadShare) "__getattribute__" = some (some (.builtin "BaseException.__getattribute__")))
    (xh_BadShare : PySem.W.findIn K (.ref C_BadShare) "__getattr__" = some none)
    (xb_Early : PySem.W.subIn K (.ref C_Early) (.type "BaseException") = some true)
    (xd_Early : PySem.W.hasDictIn K C_Early = true)
    (xt_Early : PySem.W.typeIn K (.ref C_Early) = some (.type "type"))
    (xl_Early : K.lookup C_Early = some (excClassObj xnm_Early xq_Early C_Early xN_Early xbs_Early xbm_Early true xsn_Early xsub_Early xab_Early xcol_Early xdd_Early xk0_Early xk1_Early xk2_Early xk3_Early xk5_Early "ValueError.__new__"))
    (xr_Early : PySem.HandSPX.refsVE xbm_Early = true)
    (xs_Early : PySem.W.findIn K (.ref C_Early) "__setattr__" = some (some (.builtin "object.__setattr__")))
    (xk_Early : PySem.W.keepIn K (.ref C_Early) = true)
    (xi_Early : PySem.W.typeIn K (.ref f_Early_init) = some (.type "function"))
    (xz_Early : PySem.W.findIn K (.ref C_Early) "__class__" = some (some (.builtin "object.__class__")))
    (xo_Early : PySem.W.mroIn K C_Early (.type "object") = some true)
    (xg_Early : PySem.W.findIn K (.ref C_Early) "__getattribute__" = some (some (.builtin "BaseException.__getattribute__")))
    (xh_Early : PySem.W.findIn K (.ref C_Early) "__getattr__" = some none)
    (xb_Known : PySem.W.subIn K (.ref C_Known) (.type "BaseException") = some true)
    (xd_Known : PySem.W.hasDictIn K C_Known = true)
    (xt_Known : PySem.W.typeIn K (.ref C_Known) = some (.type "type"))
    (xl_Known : K.lookup C_Known = some (excClassObj xnm_Known xq_Known C_Known xN_Known xbs_Known xbm_Known true xsn_Known xsub_Known xab_Known xcol_Known xdd_Known xk0_Known xk1_Known xk2_Known xk3_Known xk5_Known "ValueError.__new__"))
    (xr_Known : PySem.HandSPX.refsVE xbm_Known = true)
    (xs_Known : PySem.W.findIn K (.ref C_Known) "__setattr__" = some (some (.builtin "object.__setattr__")))
    (xk_Known : PySem.W.keepIn K (.ref C_Known) = true)
    (xi_Known : PySem.W.typeIn K (.ref f_Known_init) = some (.type "function"))
    (xz_Known : PySem.W.findIn K (.ref C_Known) "__class__" = some (some (.builtin "object.__class__")))
    (xo_Known : PySem.W.mroIn K C_Known (.type "object") = some true)
    (xg_Known : PySem.W.findIn K (.ref C_Known) "__getattribute__" = some (some (.builtin "BaseException.__getattribute__")))
    (xh_Known : PySem.W.findIn K (.ref C_Known) "__getattr__" = some none)
    (xb_NoBack : PySem.W.subIn K (.ref C_NoBack) (.type "BaseException") = some true)
    (xd_NoBack : PySem.W.hasDictIn K C_NoBack = true)
    (xt_NoBack : PySem.W.typeIn K (.ref C_NoBack) = some (.type "type"))
    (xw_NoBack : PySem.W.excIn K C_NoBack [.type "ValueError", .type "Exception", .type "BaseException", .type "object"] "ValueError.__new__" = true)
    (xkn_NoBack : PySem.W.keepIn K (.ref C_NoBack) = true)
    (xz_NoBack : PySem.W.findIn K (.ref C_NoBack) "__class__" = some (some (.builtin "object.__class__")))
    (xo_NoBack : PySem.W.mroIn K C_NoBack (.type "object") = some true)
    (xg_NoBack : PySem.W.findIn K (.ref C_NoBack) "__getattribute__" = some (some (.builtin "BaseException.__getattribute__")))
    (xh_NoBack : PySem.W.findIn K (.ref C_NoBack) "__getattr__" = some none)
    (xb_NoDeed : PySem.W.subIn K (.ref C_NoDeed) (.type "BaseException") = some true)
    (xd_NoDeed : PySem.W.hasDictIn K C_NoDeed = true)
    (xt_NoDeed : PySem.W.typeIn K (.ref C_NoDeed) = some (.type "type"))
    (xw_NoDeed : PySem.W.excIn K C_NoDeed [.type "ValueError", .type "Exception", .type "BaseException", .type "object"] "ValueError.__new__" = true)
    (xkn_NoDeed : PySem.W.keepIn K (.ref C_NoDeed) = true)
    (xz_NoDeed : PySem.W.findIn K (.ref C_NoDeed) "__class__" = some (some (.builtin "object.__class__")))
    (xo_NoDeed : PySem.W.mroIn K C_NoDeed (.type "object") = some true)
    (xg_NoDeed : PySem.W.findIn K (.ref C_NoDeed) "__getattribute__" = some (some (.builtin "BaseException.__getattribute__")))
    (xh_NoDeed : PySem.W.findIn K (.ref C_NoDeed) "__getattr__" = some none)
    (xb_NoLine : PySem.W.subIn K (.ref C_NoLine) (.type "BaseException") = some true)
    (xd_NoLine : PySem.W.hasDictIn K C_NoLine = true)
    (xt_NoLine : PySem.W.typeIn K (.ref C_NoLine) = some (.type "type"))
    (xw_NoLine : PySem.W.excIn K C_NoLine [.type "ValueError", .type "Exception", .type "BaseException", .type "object"] "ValueError.__new__" = true)
    (xkn_NoLine : PySem.W.keepIn K (.ref C_NoLine) = true)
    (xz_NoLine : PySem.W.findIn K (.ref C_NoLine) "__class__" = some (some (.builtin "object.__class__")))
    (xo_NoLine : PySem.W.mroIn K C_NoLine (.type "object") = some true)
    (xg_NoLine : PySem.W.findIn K (.ref C_NoLine) "__getattribute__" = some (some (.builtin "BaseException.__getattribute__")))
    (xh_NoLine : PySem.W.findIn K (.ref C_NoLine) "__getattr__" = some none)
    (xb_NoRoom : PySem.W.subIn K (.ref C_NoRoom) (.type "BaseException") = some true)
    (xd_NoRoom : PySem.W.hasDictIn K C_NoRoom = true)
    (xt_NoRoom : PySem.W.typeIn K (.ref C_NoRoom) = some (.type "type"))
    (xl_NoRoom : K.lookup C_NoRoom = some (excClassObj xnm_NoRoom xq_NoRoom C_NoRoom xN_NoRoom xbs_NoRoom xbm_NoRoom true xsn_NoRoom xsub_NoRoom xab_NoRoom xcol_NoRoom xdd_NoRoom xk0_NoRoom xk1_NoRoom xk2_NoRoom xk3_NoRoom xk5_NoRoom "ValueError.__new__"))
    (xr_NoRoom : PySem.HandSPX.refsVE xbm_NoRoom = true)
    (xs_NoRoom : PySem.W.findIn K (.ref C_NoRoom) "__setattr__" = some (some (.builtin "object.__setattr__")))
    (xk_NoRoom : PySem.W.keepIn K (.ref C_NoRoom) = true)
    (xi_NoRoom : PySem.W.typeIn K (.ref f_NoRoom_init) = some (.type "function"))
    (xz_NoRoom : PySem.W.findIn K (.ref C_NoRoom) "__class__" = some (some (.builtin "object.__class__")))
    (xo_NoRoom : PySem.W.mroIn K C_NoRoom (.type "object") = some true)
    (xg_NoRoom : PySem.W.findIn K (.ref C_NoRoom) "__getattribute__" = some (some (.builtin "BaseException.__getattribute__")))
    (xh_NoRoom : PySem.W.findIn K (.ref C_NoRoom) "__getattr__" = some none)
    (xb_NoRow : PySem.W.subIn K (.ref C_NoRow) (.type "BaseException") = some true)
    (xd_NoRow : PySem.W.hasDictIn K C_NoRow = true)
    (xt_NoRow : PySem.W.typeIn K (.ref C_NoRow) = some (.type "type"))
    (xl_NoRow : K.lookup C_NoRow = some (excClassObj xnm_NoRow xq_NoRow C_NoRow xN_NoRow xbs_NoRow xbm_NoRow true xsn_NoRow xsub_NoRow xab_NoRow xcol_NoRow xdd_NoRow xk0_NoRow xk1_NoRow xk2_NoRow xk3_NoRow xk5_NoRow "ValueError.__new__"))
    (xr_NoRow : PySem.HandSPX.refsVE xbm_NoRow = true)
    (xs_NoRow : PySem.W.findIn K (.ref C_NoRow) "__setattr__" = some (some (.builtin "object.__setattr__")))
    (xk_NoRow : PySem.W.keepIn K (.ref C_NoRow) = true)
    (xi_NoRow : PySem.W.typeIn K (.ref f_NoRow_init) = some (.type "function"))
    (xz_NoRow : PySem.W.findIn K (.ref C_NoRow) "__class__" = some (some (.builtin "object.__class__")))
    (xo_NoRow : PySem.W.mroIn K C_NoRow (.type "object") = some true)
    (xg_NoRow : PySem.W.findIn K (.ref C_NoRow) "__getattribute__" = some (some (.builtin "BaseException.__getattribute__")))
    (xh_NoRow : PySem.W.findIn K (.ref C_NoRow) "__getattr__" = some none)
    (xb_NoText : PySem.W.subIn K (.ref C_NoText) (.type "BaseException") = some true)
    (xd_NoText : PySem.W.hasDictIn K C_NoText = true)
    (xt_NoText : PySem.W.typeIn K (.ref C_NoText) = some (.type "type"))
    (xw_NoText : PySem.W.excIn K C_NoText [.type "ValueError", .type "Exception", .type "BaseException", .type "object"] "ValueError.__new__" = true)
    (xkn_NoText : PySem.W.keepIn K (.ref C_NoText) = true)
    (xz_NoText : PySem.W.findIn K (.ref C_NoText) "__class__" = some (some (.builtin "object.__class__")))
    (xo_NoText : PySem.W.mroIn K C_NoText (.type "object") = some true)
    (xg_NoText : PySem.W.findIn K (.ref C_NoText) "__getattribute__" = some (some (.builtin "BaseException.__getattribute__")))
    (xh_NoText : PySem.W.findIn K (.ref C_NoText) "__getattr__" = some none)
    (xb_PlaceError : PySem.W.subIn K (.ref C_PlaceError) (.type "BaseException") = some true)
    (xd_PlaceError : PySem.W.hasDictIn K C_PlaceError = true)
    (xt_PlaceError : PySem.W.typeIn K (.ref C_PlaceError) = some (.type "type"))
    (xw_PlaceError : PySem.W.excIn K C_PlaceError [.type "ValueError", .type "Exception", .type "BaseException", .type "object"] "ValueError.__new__" = true)
    (xkn_PlaceError : PySem.W.keepIn K (.ref C_PlaceError) = true)
    (xz_PlaceError : PySem.W.findIn K (.ref C_PlaceError) "__class__" = some (some (.builtin "object.__class__")))
    (xo_PlaceError : PySem.W.mroIn K C_PlaceError (.type "object") = some true)
    (xg_PlaceError : PySem.W.findIn K (.ref C_PlaceError) "__getattribute__" = some (some (.builtin "BaseException.__getattribute__")))
    (xh_PlaceError : PySem.W.findIn K (.ref C_PlaceError) "__getattr__" = some none)
    (xb_TooMany : PySem.W.subIn K (.ref C_TooMany) (.type "BaseException") = some true)
    (xd_TooMany : PySem.W.hasDictIn K C_TooMany = true)
    (xt_TooMany : PySem.W.typeIn K (.ref C_TooMany) = some (.type "type"))
    (xl_TooMany : K.lookup C_TooMany = some (excClassObj xnm_TooMany xq_TooMany C_TooMany xN_TooMany xbs_TooMany xbm_TooMany true xsn_TooMany xsub_TooMany xab_TooMany xcol_TooMany xdd_TooMany xk0_TooMany xk1_TooMany xk2_TooMany xk3_TooMany xk5_TooMany "ValueError.__new__"))
    (xr_TooMany : PySem.HandSPX.refsVE xbm_TooMany = true)
    (xs_TooMany : PySem.W.findIn K (.ref C_TooMany) "__setattr__" = some (some (.builtin "object.__setattr__")))
    (xk_TooMany : PySem.W.keepIn K (.ref C_TooMany) = true)
    (xi_TooMany : PySem.W.typeIn K (.ref f_TooMany_init) = some (.type "function"))
    (xz_TooMany : PySem.W.findIn K (.ref C_TooMany) "__class__" = some (some (.builtin "object.__class__")))
    (xo_TooMany : PySem.W.mroIn K C_TooMany (.type "object") = some true)
    (xg_TooMany : PySem.W.findIn K (.ref C_TooMany) "__getattribute__" = some (some (.builtin "BaseException.__getattribute__")))
    (xh_TooMany : PySem.W.findIn K (.ref C_TooMany) "__getattr__" = some none)
    (xb_Unknown : PySem.W.subIn K (.ref C_Unknown) (.type "BaseException") = some true)
    (xd_Unknown : PySem.W.hasDictIn K C_Unknown = true)
    (xt_Unknown : PySem.W.typeIn K (.ref C_Unknown) = some (.type "type"))
    (xl_Unknown : K.lookup C_Unknown = some (excClassObj xnm_Unknown xq_Unknown C_Unknown xN_Unknown xbs_Unknown xbm_Unknown true xsn_Unknown xsub_Unknown xab_Unknown xcol_Unknown xdd_Unknown xk0_Unknown xk1_Unknown xk2_Unknown xk3_Unknown xk5_Unknown "ValueError.__new__"))
    (xr_Unknown : PySem.HandSPX.refsVE xbm_Unknown = true)
    (xs_Unknown : PySem.W.findIn K (.ref C_Unknown) "__setattr__" = some (some (.builtin "object.__setattr__")))
    (xk_Unknown : PySem.W.keepIn K (.ref C_Unknown) = true)
    (xi_Unknown : PySem.W.typeIn K (.ref f_Unknown_init) = some (.type "function"))
    (xz_Unknown : PySem.W.findIn K (.ref C_Unknown) "__class__" = some (some (.builtin "object.__class__")))
    (xo_Unknown : PySem.W.mroIn K C_Unknown (.type "object") = some true)
    (xg_Unknown : PySem.W.findIn K (.ref C_Unknown) "__getattribute__" = some (some (.builtin "BaseException.__getattribute__")))
    (xh_Unknown : PySem.W.findIn K (.ref C_Unknown) "__getattr__" = some none)
    (xb_Used : PySem.W.subIn K (.ref C_Used) (.type "BaseException") = some true)
    (xd_Used : PySem.W.hasDictIn K C_Used = true)
    (xt_Used : PySem.W.typeIn K (.ref C_Used) = some (.type "type"))
    (xl_Used : K.lookup C_Used = some (excClassObj xnm_Used xq_Used C_Used xN_Used xbs_Used xbm_Used true xsn_Used xsub_Used xab_Used xcol_Used xdd_Used xk0_Used xk1_Used xk2_Used xk3_Used xk5_Used "ValueError.__new__"))
    (xr_Used : PySem.HandSPX.refsVE xbm_Used = true)
    (xs_Used : PySem.W.findIn K (.ref C_Used) "__setattr__" = some (some (.builtin "object.__setattr__")))
    (xk_Used : PySem.W.keepIn K (.ref C_Used) = true)
    (xi_Used : PySem.W.typeIn K (.ref f_Used_init) = some (.type "function"))
    (xz_Used : PySem.W.findIn K (.ref C_Used) "__class__" = some (some (.builtin "object.__class__")))
    (xo_Used : PySem.W.mroIn K C_Used (.type "object") = some true)
    (xg_Used : PySem.W.findIn K (.ref C_Used) "__getattribute__" = some (some (.builtin "BaseException.__getattribute__")))
    (xh_Used : PySem.W.findIn K (.ref C_Used) "__getattr__" = some none)
    (xn_BadAsked_at : PySem.W.findIn K (.ref C_BadAsked) "at" = some none)
    (xn_BadBerths_at : PySem.W.findIn K (.ref C_BadBerths) "at" = some none)
    (xn_BadName_at : PySem.W.findIn K (.ref C_BadName) "at" = some none)
    (xn_BadRow_at : PySem.W.findIn K (.ref C_BadRow) "at" = some none)
    (xn_BadShare_at : PySem.W.findIn K (.ref C_BadShare) "at" = some none)
    (xn_Early_until : PySem.W.findIn K (.ref C_Early) "until" = some none)
    (xn_Known_name : PySem.W.findIn K (.ref C_Known) "name" = some none)
    (xn_NoRoom_demanded : PySem.W.findIn K (.ref C_NoRoom) "demanded" = some none)
    (xn_NoRoom_first : PySem.W.findIn K (.ref C_NoRoom) "first" = some none)
    (xn_NoRoom_room : PySem.W.findIn K (.ref C_NoRoom) "room" = some none)
    (xn_NoRow_at : PySem.W.findIn K (.ref C_NoRow) "at" = some none)
    (xn_TooMany_most : PySem.W.findIn K (.ref C_TooMany) "most" = some none)
    (xn_Unknown_name : PySem.W.findIn K (.ref C_Unknown) "name" = some none)
    (xn_Used_name : PySem.W.findIn K (.ref C_Used) "name" = some none)
    (xsp : PySem.W.specialIn K (.builtin "object.__class__") "__get__" = some (some (.builtin "getset_descriptor.__get__")))
    (xtk : PySem.W.takesIn K (.builtin "object.__class__") = some true)
    (xm_PlaceError : MroIs K C_PlaceError (.ref C_PlaceError :: xtl))
    (xm_NoRow : MroIs K C_NoRow (.ref C_NoRow :: .ref C_PlaceError :: xtl))
    (xm_BadName : MroIs K C_BadName (.ref C_BadName :: .ref C_PlaceError :: xtl))
    (xm_BadBerths : MroIs K C_BadBerths (.ref C_BadBerths :: .ref C_PlaceError :: xtl))
    (xm_BadAsked : MroIs K C_BadAsked (.ref C_BadAsked :: .ref C_PlaceError :: xtl))
    (xm_BadShare : MroIs K C_BadShare (.ref C_BadShare :: .ref C_PlaceError :: xtl))
    (xm_BadRow : MroIs K C_BadRow (.ref C_BadRow :: .ref C_PlaceError :: xtl))
    (xm_Unknown : MroIs K C_Unknown (.ref C_Unknown :: .ref C_PlaceError :: xtl))
    (xm_Known : MroIs K C_Known (.ref C_Known :: .ref C_PlaceError :: xtl))
    (xm_Used : MroIs K C_Used (.ref C_Used :: .ref C_PlaceError :: xtl))
    (xm_TooMany : MroIs K C_TooMany (.ref C_TooMany :: .ref C_PlaceError :: xtl))
    (xm_Early : MroIs K C_Early (.ref C_Early :: .ref C_PlaceError :: xtl))
    (xm_NoText : MroIs K C_NoText (.ref C_NoText :: .ref C_PlaceError :: xtl))
    (xm_NoDeed : MroIs K C_NoDeed (.ref C_NoDeed :: .ref C_PlaceError :: xtl))
    (xm_NoBack : MroIs K C_NoBack (.ref C_NoBack :: .ref C_PlaceError :: xtl))
    (xm_NoLine : MroIs K C_NoLine (.ref C_NoLine :: .ref C_PlaceError :: xtl))
    (xm_NoRoom : MroIs K C_NoRoom (.ref C_NoRoom :: .ref C_PlaceError :: xtl))
    (xnd : (C_PlaceError :: [C_NoRow , C_BadName , C_BadBerths , C_BadAsked , C_BadShare , C_BadRow , C_Unknown , C_Known , C_Used , C_TooMany , C_Early , C_NoText , C_NoDeed , C_NoBack , C_NoLine , C_NoRoom ]).Nodup)
    (z_ValueError : PySem.W.nsIn K mainGlobals "ValueError" = some none)
    (z_abs : PySem.W.nsIn K mainGlobals "abs" = some none)
    (z_int : PySem.W.nsIn K mainGlobals "int" = some none)
    (z_isinstance : PySem.W.nsIn K mainGlobals "isinstance" = some none)
    (z_len : PySem.W.nsIn K mainGlobals "len" = some none)
    (z_range : PySem.W.nsIn K mainGlobals "range" = some none)
    (z_repr : PySem.W.nsIn K mainGlobals "repr" = some none)
    : ∃ a : Ad, a.f_law = f_law ∧ a.fd_law = PySem.W.fnOf "law" "law" (defArgs st_law) (defBody st_law) (defScope st_law) .none kV_law dc_law pm_law an_law cd_law ct_law ∧ Txt K mg a := by
  have famH : XFam K C_PlaceError [C_NoRow , C_BadName , C_BadBerths , C_BadAsked , C_BadShare , C_BadRow , C_Unknown , C_Known , C_Used , C_TooMany , C_Early , C_NoText , C_NoDeed , C_NoBack , C_NoLine , C_NoRoom ] := ⟨(List.forall_mem_cons.2 ⟨xm_NoRow, (List.forall_mem_cons.2 ⟨xm_BadName, (List.forall_mem_cons.2 ⟨xm_BadBerths, (List.forall_mem_cons.2 ⟨xm_BadAsked, (List.forall_mem_cons.2 ⟨xm_BadShare, (List.forall_mem_cons.2 ⟨xm_BadRow, (List.forall_mem_cons.2 ⟨xm_Unknown, (List.forall_mem_cons.2 ⟨xm_Known, (List.forall_mem_cons.2 ⟨xm_Used, (List.forall_mem_cons.2 ⟨xm_TooMany, (List.forall_mem_cons.2 ⟨xm_Early, (List.forall_mem_cons.2 ⟨xm_NoText, (List.forall_mem_cons.2 ⟨xm_NoDeed, (List.forall_mem_cons.2 ⟨xm_NoBack, (List.forall_mem_cons.2 ⟨xm_NoLine, (List.forall_mem_cons.2 ⟨xm_NoRoom, (fun _ h => absurd h List.not_mem_nil)⟩)⟩)⟩)⟩)⟩)⟩)⟩)⟩)⟩)⟩)⟩)⟩)⟩)⟩)⟩)⟩), xm_PlaceError, (List.forall_mem_cons.2 ⟨xt_PlaceError, (List.forall_mem_cons.2 ⟨xt_NoRow, (List.forall_mem_cons.2 ⟨xt_BadName, (List.forall_mem_cons.2 ⟨xt_BadBerths, (List.forall_mem_cons.2 ⟨xt_BadAsked, (List.forall_mem_cons.2 ⟨xt_BadShare, (List.forall_mem_cons.2 ⟨xt_BadRow, (List.forall_mem_cons.2 ⟨xt_Unknown, (List.forall_mem_cons.2 ⟨xt_Known, (List.forall_mem_cons.2 ⟨xt_Used, (List.forall_mem_cons.2 ⟨xt_TooMany, (List.forall_mem_cons.2 ⟨xt_Early, (List.forall_mem_cons.2 ⟨xt_NoText, (List.forall_mem_cons.2 ⟨xt_NoDeed, (List.forall_mem_cons.2 ⟨xt_NoBack, (List.forall_mem_cons.2 ⟨xt_NoLine, (List.forall_mem_cons.2 ⟨xt_NoRoom, (fun _ h => absurd h List.not_mem_nil)⟩)⟩)⟩)⟩)⟩)⟩)⟩)⟩)⟩)⟩)⟩)⟩)⟩)⟩)⟩)⟩)⟩), (List.forall_mem_cons.2 ⟨⟨xg_PlaceError, xh_PlaceError, xb_PlaceError, xd_PlaceError, xz_PlaceError, xsp, xtk, xo_PlaceError⟩, (List.forall_mem_cons.2 ⟨⟨xg_NoRow, xh_NoRow, xb_NoRow, xd_NoRow, xz_NoRow, xsp, xtk, xo_NoRow⟩, (List.forall_mem_cons.2 ⟨⟨xg_BadName, xh_BadName, xb_BadName, xd_BadName, xz_BadName, xsp, xtk, xo_BadName⟩, (List.forall_mem_cons.2 ⟨⟨xg_BadBerths, xh_BadBerths, xb_BadBerths, xd_BadBerths, xz_BadBerths, xsp, xtk, xo_BadBerths⟩, (List.forall_mem_cons.2 ⟨⟨xg_BadAsked, xh_BadAsked, xb_BadAsked, xd_BadAsked, xz_BadAsked, xsp, xtk, xo_BadAsked⟩, (List.forall_mem_cons.2 ⟨⟨xg_BadShare, xh_BadShare, xb_BadShare, xd_BadShare, xz_BadShare, xsp, xtk, xo_BadShare⟩, (List.forall_mem_cons.2 ⟨⟨xg_BadRow, xh_BadRow, xb_BadRow, xd_BadRow, xz_BadRow, xsp, xtk, xo_BadRow⟩, (List.forall_mem_cons.2 ⟨⟨xg_Unknown, xh_Unknown, xb_Unknown, xd_Unknown, xz_Unknown, xsp, xtk, xo_Unknown⟩, (List.forall_mem_cons.2 ⟨⟨xg_Known, xh_Known, xb_Known, xd_Known, xz_Known, xsp, xtk, xo_Known⟩, (List.forall_mem_cons.2 ⟨⟨xg_Used, xh_Used, xb_Used, xd_Used, xz_Used, xsp, xtk, xo_Used⟩, (List.forall_mem_cons.2 ⟨⟨xg_TooMany, xh_TooMany, xb_TooMany, xd_TooMany, xz_TooMany, xsp, xtk, xo_TooMany⟩, (List.forall_mem_cons.2 ⟨⟨xg_Early, xh_Early, xb_Early, xd_Early, xz_Early, xsp, xtk, xo_Early⟩, (List.forall_mem_cons.2 ⟨⟨xg_NoText, xh_NoText, xb_NoText, xd_NoText, xz_NoText, xsp, xtk, xo_NoText⟩, (List.forall_mem_cons.2 ⟨⟨xg_NoDeed, xh_NoDeed, xb_NoDeed, xd_NoDeed, xz_NoDeed, xsp, xtk, xo_NoDeed⟩, (List.forall_mem_cons.2 ⟨⟨xg_NoBack, xh_NoBack, xb_NoBack, xd_NoBack, xz_NoBack, xsp, xtk, xo_NoBack⟩, (List.forall_mem_cons.2 ⟨⟨xg_NoLine, xh_NoLine, xb_NoLine, xd_NoLine, xz_NoLine, xsp, xtk, xo_NoLine⟩, (List.forall_mem_cons.2 ⟨⟨xg_NoRoom, xh_NoRoom, xb_NoRoom, xd_NoRoom, xz_NoRoom, xsp, xtk, xo_NoRoom⟩, (fun _ h => absurd h List.not_mem_nil)⟩)⟩)⟩)⟩)⟩)⟩)⟩)⟩)⟩)⟩)⟩)⟩)⟩)⟩)⟩)⟩)⟩), xnd⟩
  refine ⟨{ f_l_bag := f_l_bag, fd_l_bag := PySem.W.fnOf "_law_bag" "_law_bag" (defArgs st_l_bag) (defBody st_l_bag) (defScope st_l_bag) .none kV_l_bag dc_l_bag pm_l_bag an_l_bag cd_l_bag ct_l_bag, f_l_take := f_l_take, fd_l_take := PySem.W.fnOf "_law_take" "_law_take" (defArgs st_l_take) (defBody st_l_take) (defScope st_l_take) .none kV_l_take dc_l_take pm_l_take an_l_take cd_l_take ct_l_take, f_l_thing := f_l_thing, fd_l_thing := PySem.W.fnOf "_law_thing" "_law_thing" (defArgs st_l_thing) (defBody st_l_thing) (defScope st_l_thing) .none kV_l_thing dc_l_thing pm_l_thing an_l_thing cd_l_thing ct_l_thing, f_l_raised := f_l_raised, fd_l_raised := PySem.W.fnOf "_law_raised" "_law_raised" (defArgs st_l_raised) (defBody st_l_raised) (defScope st_l_raised) .none kV_l_raised dc_l_raised pm_l_raised an_l_raised cd_l_raised ct_l_raised, f_l_kinds := f_l_kinds, fd_l_kinds := PySem.W.fnOf "_law_kinds" "_law_kinds" (defArgs st_l_kinds) (defBody st_l_kinds) (defScope st_l_kinds) .none kV_l_kinds dc_l_kinds pm_l_kinds an_l_kinds cd_l_kinds ct_l_kinds, f_l_caught := f_l_caught, fd_l_caught := PySem.W.fnOf "_law_caught" "_law_caught" (defArgs st_l_caught) (defBody st_l_caught) (defScope st_l_caught) .none kV_l_caught dc_l_caught pm_l_caught an_l_caught cd_l_caught ct_l_caught, f_l_at := f_l_at, fd_l_at := PySem.W.fnOf "_law_at" "_law_at" (defArgs st_l_at) (defBody st_l_at) (defScope st_l_at) .none kV_l_at dc_l_at pm_l_at an_l_at cd_l_at ct_l_at, f_l_else := f_l_else, fd_l_else := PySem.W.fnOf "_law_else" "_law_else" (defArgs st_l_else) (defBody st_l_else) (defScope st_l_else) .none kV_l_else dc_l_else pm_l_else an_l_else cd_l_else ct_l_else, f_l_any := f_l_any, fd_l_any := PySem.W.fnOf "_law_any" "_law_any" (defArgs st_l_any) (defBody st_l_any) (defScope st_l_any) .none kV_l_any dc_l_any pm_l_any an_l_any cd_l_any ct_l_any, f_law := f_law, fd_law := PySem.W.fnOf "law" "law" (defArgs st_law) (defBody st_law) (defScope st_law) .none kV_law dc_law pm_law an_law cd_law ct_law, f_BadAsked_init := f_BadAsked_init, fd_BadAsked_init := PySem.W.fnOf "__init__" "BadAsked.__init__" (defArgs st_BadAsked_init) (defBody st_BadAsked_init) (defScope st_BadAsked_init) .none kV_BadAsked_init dc_BadAsked_init pm_BadAsked_init an_BadAsked_init cd_BadAsked_init ct_BadAsked_init, f_BadBerths_init := f_BadBerths_init, fd_BadBerths_init := PySem.W.fnOf "__init__" "BadBerths.__init__" (defArgs st_BadBerths_init) (defBody st_BadBerths_init) (defScope st_BadBerths_init) .none kV_BadBerths_init dc_BadBerths_init pm_BadBerths_init an_BadBerths_init cd_BadBerths_init ct_BadBerths_init, f_BadName_init := f_BadName_init, fd_BadName_init := PySem.W.fnOf "__init__" "BadName.__init__" (defArgs st_BadName_init) (defBody st_BadName_init) (defScope st_BadName_init) .none kV_BadName_init dc_BadName_init pm_BadName_init an_BadName_init cd_BadName_init ct_BadName_init, f_BadRow_init := f_BadRow_init, fd_BadRow_init := PySem.W.fnOf "__init__" "BadRow.__init__" (defArgs st_BadRow_init) (defBody st_BadRow_init) (defScope st_BadRow_init) .none kV_BadRow_init dc_BadRow_init pm_BadRow_init an_BadRow_init cd_BadRow_init ct_BadRow_init, f_BadShare_init := f_BadShare_init, fd_BadShare_init := PySem.W.fnOf "__init__" "BadShare.__init__" (defArgs st_BadShare_init) (defBody st_BadShare_init) (defScope st_BadShare_init) .none kV_BadShare_init dc_BadShare_init pm_BadShare_init an_BadShare_init cd_BadShare_init ct_BadShare_init, f_Early_init := f_Early_init, fd_Early_init := PySem.W.fnOf "__init__" "Early.__init__" (defArgs st_Early_init) (defBody st_Early_init) (defScope st_Early_init) .none kV_Early_init dc_Early_init pm_Early_init an_Early_init cd_Early_init ct_Early_init, f_Known_init := f_Known_init, fd_Known_init := PySem.W.fnOf "__init__" "Known.__init__" (defArgs st_Known_init) (defBody st_Known_init) (defScope st_Known_init) .none kV_Known_init dc_Known_init pm_Known_init an_Known_init cd_Known_init ct_Known_init, f_NoRoom_init := f_NoRoom_init, fd_NoRoom_init := PySem.W.fnOf "__init__" "NoRoom.__init__" (defArgs st_NoRoom_init) (defBody st_NoRoom_init) (defScope st_NoRoom_init) .none kV_NoRoom_init dc_NoRoom_init pm_NoRoom_init an_NoRoom_init cd_NoRoom_init ct_NoRoom_init, f_NoRow_init := f_NoRow_init, fd_NoRow_init := PySem.W.fnOf "__init__" "NoRow.__init__" (defArgs st_NoRow_init) (defBody st_NoRow_init) (defScope st_NoRow_init) .none kV_NoRow_init dc_NoRow_init pm_NoRow_init an_NoRow_init cd_NoRow_init ct_NoRow_init, f_TooMany_init := f_TooMany_init, fd_TooMany_init := PySem.W.fnOf "__init__" "TooMany.__init__" (defArgs st_TooMany_init) (defBody st_TooMany_init) (defScope st_TooMany_init) .none kV_TooMany_init dc_TooMany_init pm_TooMany_init an_TooMany_init cd_TooMany_init ct_TooMany_init, f_Unknown_init := f_Unknown_init, fd_Unknown_init := PySem.W.fnOf "__init__" "Unknown.__init__" (defArgs st_Unknown_init) (defBody st_Unknown_init) (defScope st_Unknown_init) .none kV_Unknown_init dc_Unknown_init pm_Unknown_init an_Unknown_init cd_Unknown_init ct_Unknown_init, f_Used_init := f_Used_init, fd_Used_init := PySem.W.fnOf "__init__" "Used.__init__" (defArgs st_Used_init) (defBody st_Used_init) (defScope st_Used_init) .none kV_Used_init dc_Used_init pm_Used_init an_Used_init cd_Used_init ct_Used_init, C_BadAsked := C_BadAsked, C_BadBerths := C_BadBerths, C_BadName := C_BadName, C_BadRow := C_BadRow, C_BadShare := C_BadShare, C_Early := C_Early, C_Known := C_Known, C_NoBack := C_NoBack, C_NoDeed := C_NoDeed, C_NoLine := C_NoLine, C_NoRoom := C_NoRoom, C_NoRow := C_NoRow, C_NoText := C_NoText, C_PlaceError := C_PlaceError, C_TooMany := C_TooMany, C_Unknown := C_Unknown, C_Used := C_Used }, rfl, rfl, { F_l_bag := fun_mk (st := st_l_bag) l_l_bag c_l_bag k_l_bag, b_l_bag := (fun_mk (st := st_l_bag) l_l_bag c_l_bag k_l_bag).binds (ps := ["_law_script"]) fun _ _ _ _ _ _ us hl => match us, hl with | [_], _ => rfl, m_l_bag := PySem.W.mg_of X G a_l_bag, F_l_take := fun_mk (st := st_l_take) l_l_take c_l_take k_l_take, b_l_take := (fun_mk (st := st_l_take) l_l_take c_l_take k_l_take).binds (ps := ["_law_bag_here", "_law_many"]) fun _ _ _ _ _ _ us hl => match us, hl with | [_, _], _ => rfl, m_l_take := PySem.W.mg_of X G a_l_take, F_l_thing := fun_mk (st := st_l_thing) l_l_thing c_l_thing k_l_thing, b_l_thing := (fun_mk (st := st_l_thing) l_l_thing c_l_thing k_l_thing).binds (ps := ["_law_bag_here"]) fun _ _ _ _ _ _ us hl => match us, hl with | [_], _ => rfl, m_l_thing := PySem.W.mg_of X G a_l_thing, F_l_raised := fun_mk (st := st_l_raised) l_l_raised c_l_raised k_l_raised, b_l_raised := (fun_mk (st := st_l_raised) l_l_raised c_l_raised k_l_raised).binds (ps := ["_law_k", "_law_thing_here", "_law_word"]) fun _ _ _ _ _ _ us hl => match us, hl with | [_, _, _], _ => rfl, m_l_raised := PySem.W.mg_of X G a_l_raised, F_l_kinds := fun_mk (st := st_l_kinds) l_l_kinds c_l_kinds k_l_kinds, b_l_kinds := (fun_mk (st := st_l_kinds) l_l_kinds c_l_kinds k_l_kinds).binds (ps := ["_law_e"]) fun _ _ _ _ _ _ us hl => match us, hl with | [_], _ => rfl, m_l_kinds := PySem.W.mg_of X G a_l_kinds, F_l_caught := fun_mk (st := st_l_caught) l_l_caught c_l_caught k_l_caught, b_l_caught := (fun_mk (st := st_l_caught) l_l_caught c_l_caught k_l_caught).binds (ps := ["_law_k", "_law_thing_here", "_law_word"]) fun _ _ _ _ _ _ us hl => match us, hl with | [_, _, _], _ => rfl, m_l_caught := PySem.W.mg_of X G a_l_caught, F_l_at := fun_mk (st := st_l_at) l_l_at c_l_at k_l_at, b_l_at := (fun_mk (st := st_l_at) l_l_at c_l_at k_l_at).binds (ps := ["_law_k", "_law_thing_here", "_law_word"]) fun _ _ _ _ _ _ us hl => match us, hl with | [_, _, _], _ => rfl, m_l_at := PySem.W.mg_of X G a_l_at, F_l_else := fun_mk (st := st_l_else) l_l_else c_l_else k_l_else, b_l_else := (fun_mk (st := st_l_else) l_l_else c_l_else k_l_else).binds (ps := ["_law_k", "_law_thing_here", "_law_word"]) fun _ _ _ _ _ _ us hl => match us, hl with | [_, _, _], _ => rfl, m_l_else := PySem.W.mg_of X G a_l_else, F_l_any := fun_mk (st := st_l_any) l_l_any c_l_any k_l_any, b_l_any := (fun_mk (st := st_l_any) l_l_any c_l_any k_l_any).binds (ps := []) fun _ _ _ _ _ _ us hl => match us, hl with | [], _ => rfl, m_l_any := PySem.W.mg_of X G a_l_any, F_law := fun_mk (st := st_law) l_law c_law k_law, b_law := (fun_mk (st := st_law) l_law c_law k_law).binds (ps := ["_law_script"]) fun _ _ _ _ _ _ us hl => match us, hl with | [_], _ => rfl, m_law := PySem.W.mg_of X G a_law, F_BadAsked_init := fun_mk (st := st_BadAsked_init) l_BadAsked_init c_BadAsked_init k_BadAsked_init, b_BadAsked_init := (fun_mk (st := st_BadAsked_init) l_BadAsked_init c_BadAsked_init k_BadAsked_init).binds (ps := ["self", "at"]) fun _ _ _ _ _ _ us hl => match us, hl with | [_, _], _ => rfl, F_BadBerths_init := fun_mk (st := st_BadBerths_init) l_BadBerths_init c_BadBerths_init k_BadBerths_init, b_BadBerths_init := (fun_mk (st := st_BadBerths_init) l_BadBerths_init c_BadBerths_init k_BadBerths_init).binds (ps := ["self", "at"]) fun _ _ _ _ _ _ us hl => match us, hl with | [_, _], _ => rfl, F_BadName_init := fun_mk (st := st_BadName_init) l_BadName_init c_BadName_init k_BadName_init, b_BadName_init := (fun_mk (st := st_BadName_init) l_BadName_init c_BadName_init k_BadName_init).binds (ps := ["self", "at"]) fun _ _ _ _ _ _ us hl => match us, hl with | [_, _], _ => rfl, F_BadRow_init := fun_mk (st := st_BadRow_init) l_BadRow_init c_BadRow_init k_BadRow_init, b_BadRow_init := (fun_mk (st := st_BadRow_init) l_BadRow_init c_BadRow_init k_BadRow_init).binds (ps := ["self", "at"]) fun _ _ _ _ _ _ us hl => match us, hl with | [_, _], _ => rfl, F_BadShare_init := fun_mk (st := st_BadShare_init) l_BadShare_init c_BadShare_init k_BadShare_init, b_BadShare_init := (fun_mk (st := st_BadShare_init) l_BadShare_init c_BadShare_init k_BadShare_init).binds (ps := ["self", "at"]) fun _ _ _ _ _ _ us hl => match us, hl with | [_, _], _ => rfl, F_Early_init := fun_mk (st := st_Early_init) l_Early_init c_Early_init k_Early_init, b_Early_init := (fun_mk (st := st_Early_init) l_Early_init c_Early_init k_Early_init).binds (ps := ["self", "until"]) fun _ _ _ _ _ _ us hl => match us, hl with | [_, _], _ => rfl, F_Known_init := fun_mk (st := st_Known_init) l_Known_init c_Known_init k_Known_init, b_Known_init := (fun_mk (st := st_Known_init) l_Known_init c_Known_init k_Known_init).binds (ps := ["self", "name"]) fun _ _ _ _ _ _ us hl => match us, hl with | [_, _], _ => rfl, F_NoRoom_init := fun_mk (st := st_NoRoom_init) l_NoRoom_init c_NoRoom_init k_NoRoom_init, b_NoRoom_init := (fun_mk (st := st_NoRoom_init) l_NoRoom_init c_NoRoom_init k_NoRoom_init).binds (ps := ["self", "first", "demanded", "room"]) fun _ _ _ _ _ _ us hl => match us, hl with | [_, _, _, _], _ => rfl, F_NoRow_init := fun_mk (st := st_NoRow_init) l_NoRow_init c_NoRow_init k_NoRow_init, b_NoRow_init := (fun_mk (st := st_NoRow_init) l_NoRow_init c_NoRow_init k_NoRow_init).binds (ps := ["self", "at"]) fun _ _ _ _ _ _ us hl => match us, hl with | [_, _], _ => rfl, F_TooMany_init := fun_mk (st := st_TooMany_init) l_TooMany_init c_TooMany_init k_TooMany_init, b_TooMany_init := (fun_mk (st := st_TooMany_init) l_TooMany_init c_TooMany_init k_TooMany_init).binds (ps := ["self", "most"]) fun _ _ _ _ _ _ us hl => match us, hl with | [_, _], _ => rfl, F_Unknown_init := fun_mk (st := st_Unknown_init) l_Unknown_init c_Unknown_init k_Unknown_init, b_Unknown_init := (fun_mk (st := st_Unknown_init) l_Unknown_init c_Unknown_init k_Unknown_init).binds (ps := ["self", "name"]) fun _ _ _ _ _ _ us hl => match us, hl with | [_, _], _ => rfl, F_Used_init := fun_mk (st := st_Used_init) l_Used_init c_Used_init k_Used_init, b_Used_init := (fun_mk (st := st_Used_init) l_Used_init c_Used_init k_Used_init).binds (ps := ["self", "name"]) fun _ _ _ _ _ _ us hl => match us, hl with | [_, _], _ => rfl, m_BadAsked := PySem.W.mg_of X G aC_BadAsked, oex_BadAsked := ⟨⟨_, _, _, _, _, _, _, _, _, _, _, _, _, _, _, xl_BadAsked, xr_BadAsked⟩, xs_BadAsked, xb_BadAsked, xt_BadAsked, xk_BadAsked⟩, a_BadAsked_init := a_BadAsked_init, ti_BadAsked := xi_BadAsked, xf_BadAsked := ⟨xg_BadAsked, xh_BadAsked, xb_BadAsked, xd_BadAsked⟩, m_BadBerths := PySem.W.mg_of X G aC_BadBerths, oex_BadBerths := ⟨⟨_, _, _, _, _, _, _, _, _, _, _, _, _, _, _, xl_BadBerths, xr_BadBerths⟩, xs_BadBerths, xb_BadBerths, xt_BadBerths, xk_BadBerths⟩, a_BadBerths_init := a_BadBerths_init, ti_BadBerths := xi_BadBerths, xf_BadBerths := ⟨xg_BadBerths, xh_BadBerths, xb_BadBerths, xd_BadBerths⟩, m_BadName := PySem.W.mg_of X G aC_BadName, oex_BadName := ⟨⟨_, _, _, _, _, _, _, _, _, _, _, _, _, _, _, xl_BadName, xr_BadName⟩, xs_BadName, xb_BadName, xt_BadName, xk_BadName⟩, a_BadName_init := a_BadName_init, ti_BadName := xi_BadName, xf_BadName := ⟨xg_BadName, xh_BadName, xb_BadName, xd_BadName⟩, m_BadRow := PySem.W.mg_of X G aC_BadRow, oex_BadRow := ⟨⟨_, _, _, _, _, _, _, _, _, _, _, _, _, _, _, xl_BadRow, xr_BadRow⟩, xs_BadRow, xb_BadRow, xt_BadRow, xk_BadRow⟩, a_BadRow_init := a_BadRow_init, ti_BadRow := xi_BadRow, xf_BadRow := ⟨xg_BadRow, xh_BadRow, xb_BadRow, xd_BadRow⟩, m_BadShare := PySem.W.mg_of X G aC_BadShare, oex_BadShare := ⟨⟨_, _, _, _, _, _, _, _, _, _, _, _, _, _, _, xl_BadShare, xr_BadShare⟩, xs_BadShare, xb_BadShare, xt_BadShare, xk_BadShare⟩, a_BadShare_init := a_BadShare_init, ti_BadShare := xi_BadShare, xf_BadShare := ⟨xg_BadShare, xh_BadShare, xb_BadShare, xd_BadShare⟩, m_Early := PySem.W.mg_of X G aC_Early, oex_Early := ⟨⟨_, _, _, _, _, _, _, _, _, _, _, _, _, _, _, xl_Early, xr_Early⟩, xs_Early, xb_Early, xt_Early, xk_Early⟩, a_Early_init := a_Early_init, ti_Early := xi_Early, xf_Early := ⟨xg_Early, xh_Early, xb_Early, xd_Early⟩, m_Known := PySem.W.mg_of X G aC_Known, oex_Known := ⟨⟨_, _, _, _, _, _, _, _, _, _, _, _, _, _, _, xl_Known, xr_Known⟩, xs_Known, xb_Known, xt_Known, xk_Known⟩, a_Known_init := a_Known_init, ti_Known := xi_Known, xf_Known := ⟨xg_Known, xh_Known, xb_Known, xd_Known⟩, m_NoBack := PySem.W.mg_of X G aC_NoBack, xn_NoBack := ⟨xw_NoBack, xkn_NoBack, xb_NoBack, xt_NoBack⟩, m_NoDeed := PySem.W.mg_of X G aC_NoDeed, xn_NoDeed := ⟨xw_NoDeed, xkn_NoDeed, xb_NoDeed, xt_NoDeed⟩, m_NoLine := PySem.W.mg_of X G aC_NoLine, xn_NoLine := ⟨xw_NoLine, xkn_NoLine, xb_NoLine, xt_NoLine⟩, m_NoRoom := PySem.W.mg_of X G aC_NoRoom, oex_NoRoom := ⟨⟨_, _, _, _, _, _, _, _, _, _, _, _, _, _, _, xl_NoRoom, xr_NoRoom⟩, xs_NoRoom, xb_NoRoom, xt_NoRoom, xk_NoRoom⟩, a_NoRoom_init := a_NoRoom_init, ti_NoRoom := xi_NoRoom, xf_NoRoom := ⟨xg_NoRoom, xh_NoRoom, xb_NoRoom, xd_NoRoom⟩, m_NoRow := PySem.W.mg_of X G aC_NoRow, oex_NoRow := ⟨⟨_, _, _, _, _, _, _, _, _, _, _, _, _, _, _, xl_NoRow, xr_NoRow⟩, xs_NoRow, xb_NoRow, xt_NoRow, xk_NoRow⟩, a_NoRow_init := a_NoRow_init, ti_NoRow := xi_NoRow, xf_NoRow := ⟨xg_NoRow, xh_NoRow, xb_NoRow, xd_NoRow⟩, m_NoText := PySem.W.mg_of X G aC_NoText, xn_NoText := ⟨xw_NoText, xkn_NoText, xb_NoText, xt_NoText⟩, m_PlaceError := PySem.W.mg_of X G aC_PlaceError, xn_PlaceError := ⟨xw_PlaceError, xkn_PlaceError, xb_PlaceError, xt_PlaceError⟩, m_TooMany := PySem.W.mg_of X G aC_TooMany, oex_TooMany := ⟨⟨_, _, _, _, _, _, _, _, _, _, _, _, _, _, _, xl_TooMany, xr_TooMany⟩, xs_TooMany, xb_TooMany, xt_TooMany, xk_TooMany⟩, a_TooMany_init := a_TooMany_init, ti_TooMany := xi_TooMany, xf_TooMany := ⟨xg_TooMany, xh_TooMany, xb_TooMany, xd_TooMany⟩, m_Unknown := PySem.W.mg_of X G aC_Unknown, oex_Unknown := ⟨⟨_, _, _, _, _, _, _, _, _, _, _, _, _, _, _, xl_Unknown, xr_Unknown⟩, xs_Unknown, xb_Unknown, xt_Unknown, xk_Unknown⟩, a_Unknown_init := a_Unknown_init, ti_Unknown := xi_Unknown, xf_Unknown := ⟨xg_Unknown, xh_Unknown, xb_Unknown, xd_Unknown⟩, m_Used := PySem.W.mg_of X G aC_Used, oex_Used := ⟨⟨_, _, _, _, _, _, _, _, _, _, _, _, _, _, _, xl_Used, xr_Used⟩, xs_Used, xb_Used, xt_Used, xk_Used⟩, a_Used_init := a_Used_init, ti_Used := xi_Used, xf_Used := ⟨xg_Used, xh_Used, xb_Used, xd_Used⟩, fam := famH, nf_BadAsked_at := xn_BadAsked_at, nf_BadBerths_at := xn_BadBerths_at, nf_BadName_at := xn_BadName_at, nf_BadRow_at := xn_BadRow_at, nf_BadShare_at := xn_BadShare_at, nf_Early_until := xn_Early_until, nf_Known_name := xn_Known_name, nf_NoRoom_demanded := xn_NoRoom_demanded, nf_NoRoom_first := xn_NoRoom_first, nf_NoRoom_room := xn_NoRoom_room, nf_NoRow_at := xn_NoRow_at, nf_TooMany_most := xn_TooMany_most, nf_Unknown_name := xn_Unknown_name, nf_Used_name := xn_Used_name, z_ValueError := PySem.W.mg_none_of X G z_ValueError, z_abs := PySem.W.mg_none_of X G z_abs, z_int := PySem.W.mg_none_of X G z_int, z_isinstance := PySem.W.mg_none_of X G z_isinstance, z_len := PySem.W.mg_none_of X G z_len, z_range := PySem.W.mg_none_of X G z_range, z_repr := PySem.W.mg_none_of X G z_repr }⟩
end K17

section
open PySem L2 Dm PyProof.Rows
local macro_rules | `(tactic| walk_at "lk") => `(tactic| first | assumption | rfl | exact get_new | ((with_reducible apply get_set); walk_at "lk") | ((with_reducible apply get_ne); (first | decide | assumption | (apply Ne.symm; assumption) | omega); walk_at "lk") | ((with_reducible apply get_app); walk_at "lk"))
local macro_rules | `(tactic| walk_at "s") => `(tactic| with_reducible first
  | refine st_seq ?_ | refine st_next ?_ | refine st_ret ?_ | refine st_retN ?_ | refine st_drop ?_ | refine st_ifS ?_ | refine st_asg ?_ | refine st_gname ?_ | refine st_c ?_ | refine st_cwI ?_ | refine st_cwS ?_ | refine st_cwB ?_ | refine st_cwL ?_ | refine st_cwT ?_  | refine st_v ?_ | refine st_op ?_ | refine st_un ?_
  | refine st_test ?_ | refine st_testB ?_ | refine st_not ?_ | refine st_and ?_ | refine st_or ?_ | refine st_andV ?_ | refine st_orV ?_ | refine st_notV ?_ | refine st_ifE ?_ | refine st_chain ?_ | refine st_nil ?_ | refine st_cons ?_ | refine st_cb ?_ | refine st_call ?_
  | refine st_sl ?_ | refine st_no ?_ | refine st_part ?_ | refine st_partI ?_ | refine st_tupD ?_ | refine st_lstD ?_ | refine st_lstO ?_ | refine st_tupO ?_ | refine st_dk ?_ | refine st_dt ?_ | refine st_par ?_ | refine st_parE ?_ | refine st_gcons ?_ | refine st_gnil ?_ | refine st_gconsM ?_ | refine st_gnilM ?_
  | refine st_addI ?_ | refine st_subI ?_ | refine st_addJ ?_ | refine st_negI ?_ | refine st_eqI ?_ | refine st_eqS ?_ | refine st_eqB ?_ | refine st_neI ?_ | refine st_neS ?_ | refine st_neB ?_ | refine st_cmpI ?_ | refine st_cmpS ?_ | refine st_isN ?_ | refine st_isntN ?_
  | refine st_len ?_ | refine st_abs ?_ | (refine st_max2c ?_; intro _ _ _ _) | (refine st_min2c ?_; intro _ _ _ _) | (refine st_intBc ?_; intro _ _ _ _) | refine st_intI ?_ | refine st_listD ?_ | refine st_slL ?_ | refine st_tt ?_ | refine st_ff ?_ | refine st_xt ?_ | refine st_xf ?_ | refine st_brk ?_ | refine st_cnt ?_ | refine st_gset ?_ | refine st_augS ?_ | refine st_for ?_ | refine st_lc ?_ | refine st_seqI ?_ | refine st_srcL ?_ | refine st_srcT ?_ | refine st_rng1 ?_ | refine st_rng2 ?_ | refine st_yes ?_ | refine st_fld ?_ | refine st_meth ?_ | refine st_make ?_ | refine st_refl ?_ | refine st_fldS ?_ | refine st_fldAug ?_ | refine st_dget ?_ | refine st_get1 ?_ | refine st_get2 ?_ | refine st_din0 ?_ | refine st_din1 ?_ | refine st_dput ?_ | refine st_daug ?_ | refine st_bm ?_ | refine st_tyL ?_ | refine st_count ?_ | refine st_bm0 ?_ | refine st_keys ?_ | refine st_items ?_)
local macro_rules | `(tactic| walk_at "v") => `(tactic| first
  | ((with_reducible refine' st_var ?k1 ?_); (case k1 => rfl))
  | ((with_reducible refine' st_ixO ?k1 ?k2 ?_); (case k1 => walk_at "lk"); (case k2 => rfl)) | ((with_reducible refine' st_ixL ?k2 ?_); (case k2 => rfl)) | ((with_reducible refine' st_ixT ?k2 ?_); (case k2 => rfl)) | ((with_reducible refine' st_lenO ?k1 ?_); (case k1 => walk_at "lk"))
  | (with_reducible refine st_modI (by first | decide | omega) ?_) | (with_reducible refine st_divI (by first | decide | omega) (by first | decide | omega) ?_) | (with_reducible refine st_mulI (by omega) ?_)
  | ((with_reducible refine' st_disp ?k1 ?k2 ?_); (case k1 => first | ((repeat (with_reducible apply allD_c)); (with_reducible apply allD_n); done) | rfl); (case k2 => first | exact Nat.le_of_ble_eq_true rfl | (simp; done)))
  | (with_reducible refine st_size (by first | exact Nat.le_of_ble_eq_true rfl | assumption | (simp; done) | omega) ?_))
local macro_rules | `(tactic| walk_at "w") => `(tactic| first
  | ((with_reducible refine' st_gsetE ?k1 ?k2 ?_); (case k1 => walk_at "lk"); (case k2 => rfl))
  | ((with_reducible refine' st_augSE ?k1 ?k2 ?k3 ?k4 ?_); (case k1 => walk_at "lk"); (case k2 => first | decide | omega); (case k3 => first | decide | omega); (case k4 => rfl))
  | ((with_reducible refine' st_augSF ?k1 ?k2 ?_); (case k1 => walk_at "lk"); (case k2 => rfl))
  | ((with_reducible refine' st_aug ?k1 ?_); (case k1 => rfl))
  | ((with_reducible refine' st_srcO ?k1 ?_); (case k1 => walk_at "lk"))
  | (with_reducible refine st_rng1E (by omega) (by omega) ?_) | (with_reducible refine st_rng2E (by omega) ?_)
  | (with_reducible refine st_el (by first | assumption | (simp; omega) | omega) ?_))
local macro_rules | `(tactic| walk_at "x") => `(tactic| first
  | (with_reducible refine st_powI (by decide) ?_)
  | ((with_reducible refine' st_fldE ?k1 ?k2 ?_); (case k1 => walk_at "lk"); (case k2 => rfl)) | ((with_reducible refine' st_methE ?k1 ?k2 ?_); (case k1 => walk_at "lk"); (case k2 => rfl))
  | ((with_reducible refine' st_fldSE ?k1 ?k2 ?_); (case k1 => walk_at "lk"); (case k2 => first | decide | exact Nat.le_of_ble_eq_true rfl)) | ((with_reducible refine' st_fldAugE ?k1 ?k2 ?_); (case k1 => walk_at "lk"); (case k2 => rfl)) | ((with_reducible refine' st_fldAugF ?k1 ?k2 ?_); (case k1 => walk_at "lk"); (case k2 => decide))
  | ((with_reducible refine' st_lookD ?k1 ?k2 ?_); (case k1 => walk_at "lk"); (case k2 => rfl)) | ((with_reducible refine' st_lookT ?k1 ?k2 ?_); (case k1 => walk_at "lk"); (case k2 => rfl))
  | ((with_reducible refine' st_dgetD ?k1 ?k2 ?k3 ?_); (case k1 => walk_at "lk"); (case k2 => rfl); (case k3 => assumption)) | ((with_reducible refine' st_dgetL ?k1 ?k2 ?k3 ?_); (case k1 => walk_at "lk"); (case k2 => rfl); (case k3 => assumption)) | ((with_reducible refine' st_dgetT ?k1 ?k2 ?k3 ?_); (case k1 => walk_at "lk"); (case k2 => rfl); (case k3 => assumption))
  | ((with_reducible refine' st_putD ?k1 ?k2 ?k3 ?_); (case k1 => walk_at "lk"); (case k2 => rfl); (case k3 => first | assumption | omega)) | ((with_reducible refine' st_putT ?k1 ?k2 ?k3 ?_); (case k1 => walk_at "lk"); (case k2 => rfl); (case k3 => first | assumption | omega))
  | ((with_reducible refine' st_isd ?k1 ?_); (case k1 => walk_at "lk")) | ((with_reducible refine' st_isdt ?k1 ?_); (case k1 => walk_at "lk"))
  | ((with_reducible refine' st_keysE ?k1 ?_); (case k1 => walk_at "lk"))
  | ((with_reducible refine' st_tgt ?k1 ?k2 ?_); (case k1 => rfl); (case k2 => rfl))
  | ((with_reducible refine' st_clear ?k1 ?_); (case k1 => walk_at "lk")) | ((with_reducible refine' st_tyO ?k1 ?_); (case k1 => walk_at "lk")) | ((with_reducible refine' st_append ?k1 ?k2 ?_); (case k1 => walk_at "lk"); (case k2 => first | assumption | (simp; omega) | omega)) | ((with_reducible refine' st_reverse ?k1 ?_); (case k1 => walk_at "lk")))
local macro_rules | `(tactic| walk_at "t") => `(tactic| ((with_reducible refine' st_take ?k1 ?k2 ?k3 ?k4 ?_); (case k1 => walk_at "lk"); (case k2 => assumption); (case k3 => first | decide | omega); (case k4 => first | decide | omega); intro _ _ _ _ _))
local macro_rules | `(tactic| walk_at "if") => `(tactic| first
  | (with_reducible refine st_T (by first | assumption | omega | rfl) ?_) | (with_reducible refine st_F (by first | assumption | omega) ?_) | (with_reducible refine st_nT (by first | assumption | omega) ?_) | (with_reducible refine st_nF (by first | assumption | omega | rfl) ?_))
local macro_rules | `(tactic| walk_at "y") => `(tactic| with_reducible first | refine st_kget ?_ | refine st_kget2 ?_ | refine st_coe2 ?_ | refine st_revD ?_ | refine st_revDE ?_ | refine st_coe ?_ | refine st_tidx ?_ | refine st_zipM ?_ | refine st_sortVA ?_ | refine st_sortVR ?_ | refine st_sumS ?_ | refine st_maxDf ?_ | refine st_enumS ?_ | refine st_str ?_ | refine st_strE ?_ | refine st_enum ?_ | refine st_enumE ?_ | refine st_enumO ?_ | refine st_settle ?_ | refine st_lcO ?_ | refine st_elO (by assumption) ?_ | refine st_gput ?_ | refine st_gfld ?_ | refine st_vals ?_ | refine st_dispD ?_ | refine st_pc ?_ | refine st_pn ?_ | refine st_isB ?_ | refine st_isntB ?_)
local macro_rules | `(tactic| walk_at "g") => `(tactic| repeat (first | walk_at "s" | walk_at "v" | walk_at "w" | walk_at "x" | walk_at "if" | walk_at "y"))
local macro_rules | `(tactic| walk_at "sp") => `(tactic| with_reducible first | refine st_2 (fun hif => ?_) (fun hif => ?_) | refine st_n2 (fun hif => ?_) (fun hif => ?_))

namespace K17
open Smp
/-! how wide a thing is when it is shown -/
structure Sw (n w : Nat) (d : PyData) : Prop where
  sh : d.showable = true
  dp : d.depth ≤ n
  ln : d.shown.length ≤ w
  cp : Cp d.shown
theorem Sw.le {n w m v : Nat} {d : PyData} (h : Sw n w d) (h1 : n ≤ m) (h2 : w ≤ v) : Sw m v d := ⟨h.sh, Nat.le_trans h.dp h1, Nat.le_trans h.ln h2, h.cp⟩
theorem sw_none {n : Nat} : Sw n 8 .none := ⟨rfl, Nat.zero_le _, by simp only [PyData.shown]; decide, cp_lit "None"⟩
theorem sw_bool {n : Nat} {b : Bool} : Sw n 8 (.bool b) := ⟨rfl, Nat.zero_le _, by cases b <;> (simp only [PyData.shown]; decide), by cases b <;> exact cp_lit _⟩
theorem sw_int {n : Nat} {i : Int} (h : i.natAbs.log2 < 1920) : Sw n 1921 (.int i) := ⟨decide_eq_true h, Nat.zero_le _, int_text_len_1921 h, cp_lit _⟩
theorem sw_small {n : Nat} {i : Int} (h1 : -1000000000000000000 < i) (h2 : i < 1000000000000000000) : Sw n 1921 (.int i) := sw_int (by
  rcases Nat.eq_zero_or_pos i.natAbs with h | h
  · rw [h]; decide
  · refine Nat.lt_of_lt_of_le ((Nat.log2_lt (by omega)).mpr (?_ : i.natAbs < 2 ^ 60)) (by decide)
    omega)
theorem sw_str {n : Nat} {x : Str} (h : PyData.strOk x = true) : Sw n (10 * x.length + 2) (.str x) := by
  have f := fits_str (n := 1) h
  exact ⟨rfl, Nat.zero_le _, Nat.le_trans (shown_le 1 (.str x) f.ok f.sh) f.wt, cp_shown 1 _ f.ok⟩
theorem sw_all {n w : Nat} : ∀ {ds : List PyData}, (∀ d ∈ ds, Sw n w d) → PyData.showableAll ds = true ∧ PyData.depthAll ds ≤ n ∧ ((PyData.shownAll ds).map (·.length)).sum ≤ ds.length * w ∧ ∀ t ∈ PyData.shownAll ds, Cp t
  | [], _ => ⟨rfl, Nat.zero_le _, by simp [PyData.shownAll], by intro t ht; simp [PyData.shownAll] at ht⟩
  | d :: r, h => by
    obtain ⟨a1, a2, a3, a4⟩ := sw_all (ds := r) fun x hx => h x (List.mem_cons_of_mem _ hx)
    have h0 := h d (List.mem_cons_self ..)
    refine ⟨by simp only [PyData.showableAll, h0.sh, a1, Bool.and_self], by simp only [PyData.depthAll]; exact Nat.max_le.mpr ⟨h0.dp, a2⟩, ?_, ?_⟩
    · have := h0.ln
      simp only [PyData.shownAll, List.map_cons, List.sum_cons, List.length_cons, Nat.add_mul]
      omega
    · intro t ht
      simp only [PyData.shownAll, List.mem_cons] at ht
      rcases ht with rfl | ht
      · exact h0.cp
      · exact a4 t ht
theorem sw_list {n w : Nat} {ds : List PyData} (h : ∀ d ∈ ds, Sw n w d) : Sw (n + 1) (ds.length * (w + 2) + 3) (.list ds) := by
  obtain ⟨a1, a2, a3, a4⟩ := sw_all h
  have h3 := listText_len_le (PyData.shownAll ds)
  rw [shownAll_len] at h3
  refine ⟨by simpa only [PyData.showable] using a1, by simp only [PyData.depth]; omega, ?_, ?_⟩
  · simp only [PyData.shown]
    rw [Nat.mul_add]
    omega
  · exact cp_app (cp_from (cp_lit "[") a4) (cp_lit "]")
theorem sw_tup {n w : Nat} {ds : List PyData} (h : ∀ d ∈ ds, Sw n w d) : Sw (n + 1) (ds.length * (w + 2) + 3) (.tuple ds) := by
  obtain ⟨a1, a2, a3, a4⟩ := sw_all h
  have h3 := tupleText_len_le (PyData.shownAll ds)
  rw [shownAll_len] at h3
  refine ⟨by simpa only [PyData.showable] using a1, by simp only [PyData.depth]; omega, ?_, ?_⟩
  · simp only [PyData.shown]
    rw [Nat.mul_add]
    omega
  · refine cp_app (cp_app (cp_lit "(") (cp_join (cp_lit ", ") a4)) ?_
    split
    · exact cp_lit _
    · exact cp_lit _
theorem shown_d0 : (PyData.dict []).shown.length ≤ 50 ∧ ∀ c ∈ (PyData.dict []).shown.cps.toList, c < 0x110000 := by decide +kernel
theorem sw_d0 {n : Nat} : Sw (n + 1) 50 (.dict []) := ⟨rfl, by simp [PyData.depth, PyData.depthKv], shown_d0.1, shown_d0.2⟩
theorem sw_line {n w : Nat} {d : PyData} (h : Sw n w d) (h1 : n ≤ 60) (h2 : w ≤ 10000000) : d.showable = true ∧ d.depth ≤ 60 ∧ d.shown.length ≤ sizeLine := ⟨h.sh, Nat.le_trans h.dp h1, Nat.le_trans h.ln (Nat.le_trans h2 (by decide))⟩
def BagAt (b : Nat) (S : Sto) : Prop := ∃ o, S[b]? = some o ∧ BagOk o
theorem BagAt.app {b : Nat} {S T : Sto} (G : BagAt b S) : BagAt b (S ++ T) := let ⟨o, g1, g2⟩ := G; ⟨o, get_app g1, g2⟩
theorem BagAt.off {b : Nat} {S S' : Sto} (G : BagAt b S) (of : Off [] S S') : BagAt b S' := let ⟨o, g1, g2⟩ := G; ⟨o, of.get _ (by simp) _ g1, g2⟩
theorem bag_take {b : Nat} {S : Sto} {m : Int} {Q : Wv → Sto → Prop} (G : BagAt b S) (h0 : 0 < m) (h1 : m < 1073741824) (h : ∀ v o, 0 ≤ v → v < m → Off [b] S (S.set b o) → BagAt b (S.set b o) → Q (.d (.int v)) (S.set b o)) : gTake [.o b, .d (.int m)] S Q := by
  obtain ⟨o, g1, g2⟩ := G
  exact st_take g1 g2 h0 h1 fun v o' h2 h3 h4 => h v o' h2 h3 (Off.refl.set (by simp)) ⟨_, get_set g1, h4⟩

end K17
namespace K17
open Smp
/-! the sixteen refusals -/
structure XC where
  NoRow : Addr
  BadName : Addr
  BadBerths : Addr
  BadAsked : Addr
  BadShare : Addr
  BadRow : Addr
  Unknown : Addr
  Known : Addr
  Used : Addr
  TooMany : Addr
  Early : Addr
  NoText : Addr
  NoDeed : Addr
  NoBack : Addr
  NoLine : Addr
  NoRoom : Addr
  P : Addr
def XC.l (c : XC) : List Addr := [c.NoRow, c.BadName, c.BadBerths, c.BadAsked, c.BadShare, c.BadRow, c.Unknown, c.Known, c.Used, c.TooMany, c.Early, c.NoText, c.NoDeed, c.NoBack, c.NoLine, c.NoRoom]
def XC.k (c : XC) (k : Nat) : Addr := c.l.getD k 0
def XC.Ok (c : XC) : Prop := (c.P :: c.l).Nodup
def fldsOf (k : Nat) (t : PyData) (w : Str) : Option (List (Str × Wv)) :=
  if k < 6 then some [("at", .d t)] else if k < 9 then some [("name", .d t)] else if k = 9 then some [("most", .d t)] else if k = 10 then some [("until", .d t)]
  else if k = 15 then some [("room", .d (.str w)), ("demanded", .d (.list [t])), ("first", .d t)] else none
section
variable {c : XC} {k j : Nat}
theorem k_get (h : k < 16) : c.l[k]? = some (c.k k) := by
  have hl : k < c.l.length := h
  unfold XC.k
  simp [List.getD, hl]
theorem k_in (h : k < 16) : c.k k ∈ c.l := List.mem_of_getElem? (k_get h)
theorem k_mem (h : k < 16) : c.k k ∈ c.P :: c.l := List.mem_cons_of_mem _ (k_in h)
theorem k_ne (n : c.Ok) (h : k < 16) (h' : j < 16) (e : k ≠ j) : c.k k ≠ c.k j := fun z => by
  have h1 := k_get (c := c) h
  have h2 := k_get (c := c) h'
  rw [← z] at h2
  obtain ⟨a1, a2⟩ := List.getElem?_eq_some_iff.mp h1
  obtain ⟨b1, b2⟩ := List.getElem?_eq_some_iff.mp h2
  exact e ((List.getElem_inj (List.nodup_cons.mp n).2).mp (a2.trans b2.symm))
theorem k_P (n : c.Ok) (h : k < 16) : c.k k ≠ c.P := fun z => (List.nodup_cons.mp n).1 (z ▸ k_in h)
def kindsL (c : XC) (C : Addr) : List PyData := c.l.map (fun B => .bool (decide (C = B ∨ B = c.P))) ++ [.bool true]
def dueL (k : Nat) : List PyData := (List.range 16).map (fun j => .bool (decide (k = j))) ++ [.bool true]
theorem kinds_k (n : c.Ok) (h : k < 16) : kindsL c (c.k k) = dueL k := by
  have e : c.l = (List.range 16).map c.k := rfl
  unfold kindsL dueL
  congr 1
  rw [e, List.map_map]
  refine List.map_congr_left fun j hj => ?_
  have hj : j < 16 := List.mem_range.mp hj
  show PyData.bool (decide (c.k k = c.k j ∨ c.k j = c.P)) = _
  have hp := k_P n hj
  by_cases z : k = j
  · subst z; simp
  · simp [z, k_ne n h hj z, hp]
theorem kinds_P (n : c.Ok) : kindsL c c.P = (List.replicate 16 (PyData.bool false)) ++ [.bool true] := by
  unfold kindsL
  congr 1
  have e : c.l = (List.range 16).map c.k := rfl
  have e2 : (List.replicate 16 (PyData.bool false)) = (List.range 16).map fun _ => .bool false := rfl
  rw [e, List.map_map, e2]
  refine List.map_congr_left fun j hj => ?_
  have hp := k_P n (List.mem_range.mp hj)
  show PyData.bool (decide (c.P = c.k j ∨ c.k j = c.P)) = _
  simp [hp, Ne.symm hp]
end
/-! what they do -/
def gRaised (c : XC) : DSpE := fun ws S Q Ed => ∃ (k : Nat) (t : PyData) (w : Str), ws = [.d (.int (k : Nat)), .d t, .d (.str w)] ∧ k < 16 ∧ Ed (c.k k) (fldsOf k t w) S
theorem len_raised (c : XC) : ∀ ws S Q Ed, gRaised c ws S Q Ed → ws.length = 3 := by rintro ws S Q Ed ⟨k, t, w, rfl, _⟩; rfl
theorem spec_raised (c : XC) : ∀ ws S Qd Ed, gRaised c ws S Qd Ed → body_l_raised_x c.BadAsked c.BadBerths c.BadName c.BadRow c.BadShare c.Early c.Known c.NoBack c.NoDeed c.NoLine c.NoRoom c.NoRow c.NoText c.TooMany c.Unknown c.Used (fun _ => Ed) { nx := fun _ S' => Qd (.d .none) S', rt := Qd } (dstart 3 ws) S := by
  rintro ws S Q Ed ⟨k, t, w, rfl, hk, q⟩
  unfold body_l_raised_x
  walk_at "g"
  refine st_2 (fun hif => ?_) (fun hif => ?_)
  · obtain rfl : k = 0 := by omega
    unfold dRaise1
    walk_at "g"
    exact q
  walk_at "g"
  refine st_2 (fun hif => ?_) (fun hif => ?_)
  · obtain rfl : k = 1 := by omega
    unfold dRaise1
    walk_at "g"
    exact q
  walk_at "g"
  refine st_2 (fun hif => ?_) (fun hif => ?_)
  · obtain rfl : k = 2 := by omega
    unfold dRaise1
    walk_at "g"
    exact q
  walk_at "g"
  refine st_2 (fun hif => ?_) (fun hif => ?_)
  · obtain rfl : k = 3 := by omega
    unfold dRaise1
    walk_at "g"
    exact q
  walk_at "g"
  refine st_2 (fun hif => ?_) (fun hif => ?_)
  · obtain rfl : k = 4 := by omega
    unfold dRaise1
    walk_at "g"
    exact q
  walk_at "g"
  refine st_2 (fun hif => ?_) (fun hif => ?_)
  · obtain rfl : k = 5 := by omega
    unfold dRaise1
    walk_at "g"
    exact q
  walk_at "g"
  refine st_2 (fun hif => ?_) (fun hif => ?_)
  · obtain rfl : k = 6 := by omega
    unfold dRaise1
    walk_at "g"
    exact q
  walk_at "g"
  refine st_2 (fun hif => ?_) (fun hif => ?_)
  · obtain rfl : k = 7 := by omega
    unfold dRaise1
    walk_at "g"
    exact q
  walk_at "g"
  refine st_2 (fun hif => ?_) (fun hif => ?_)
  · obtain rfl : k = 8 := by omega
    unfold dRaise1
    walk_at "g"
    exact q
  walk_at "g"
  refine st_2 (fun hif => ?_) (fun hif => ?_)
  · obtain rfl : k = 9 := by omega
    unfold dRaise1
    walk_at "g"
    exact q
  walk_at "g"
  refine st_2 (fun hif => ?_) (fun hif => ?_)
  · obtain rfl : k = 10 := by omega
    unfold dRaise1
    walk_at "g"
    exact q
  walk_at "g"
  refine st_2 (fun hif => ?_) (fun hif => ?_)
  · obtain rfl : k = 11 := by omega
    unfold dRaiseN1
    walk_at "g"
    exact q
  walk_at "g"
  refine st_2 (fun hif => ?_) (fun hif => ?_)
  · obtain rfl : k = 12 := by omega
    unfold dRaiseN1
    walk_at "g"
    exact q
  walk_at "g"
  refine st_2 (fun hif => ?_) (fun hif => ?_)
  · obtain rfl : k = 13 := by omega
    unfold dRaiseN1
    walk_at "g"
    exact q
  walk_at "g"
  refine st_2 (fun hif => ?_) (fun hif => ?_)
  · obtain rfl : k = 14 := by omega
    unfold dRaiseN1
    walk_at "g"
    exact q
  walk_at "g"
  obtain rfl : k = 15 := by omega
  unfold dRaise3
  walk_at "g"
  exact ⟨_, _, _, rfl, q⟩
theorem st_isF {P : Addr} {L : List Addr} {ea C B : Addr} {S : Sto} {Q : Wv → Sto → Prop} (hC : C ∈ P :: L) (hB : B ∈ P :: L) (q : Q (.d (.bool (decide (C = B ∨ B = P)))) S) : cIsE ea C (famP P L) (famF P L) [.v (.ref ea), .v (.ref B)] S Q :=
  ⟨hC, .inl ⟨_, _, rfl, ⟨hC, .inl ⟨B, hB, rfl, rfl⟩⟩, q⟩⟩
theorem st_isV {P : Addr} {L : List Addr} {ea C : Addr} {S : Sto} {Q : Wv → Sto → Prop} (hC : C ∈ P :: L) (q : Q (.d (.bool true)) S) : cIsE ea C (famP P L) (famF P L) [.v (.ref ea), .v (.ty "ValueError")] S Q :=
  ⟨hC, .inl ⟨_, _, rfl, ⟨hC, .inr ⟨rfl, rfl⟩⟩, q⟩⟩
def gKinds (c : XC) : DSpV := fun ea C efo ws S Q => ws = [.v (.ref ea)] ∧ C ∈ c.P :: c.l ∧ Q (.d (.list (kindsL c C))) S
theorem len_kinds (c : XC) : ∀ ea C efo ws S Q, gKinds c ea C efo ws S Q → ws.length = 1 := by rintro ea C efo ws S Q ⟨rfl, _⟩; rfl
theorem spec_kinds (c : XC) : ∀ ea C efo ws S Qd, gKinds c ea C efo ws S Qd → body_l_kinds c.BadAsked c.BadBerths c.BadName c.BadRow c.BadShare c.Early c.Known c.NoBack c.NoDeed c.NoLine c.NoRoom c.NoRow c.NoText c.P c.TooMany c.Unknown c.Used ea C efo { nx := fun _ S' => Qd (.d .none) S', rt := Qd } (dstart 2 ws) S := by
  rintro ea C efo ws S Q ⟨rfl, hC, q⟩
  have hC : C ∈ c.P :: [c.NoRow, c.BadName, c.BadBerths, c.BadAsked, c.BadShare, c.BadRow, c.Unknown, c.Known, c.Used, c.TooMany, c.Early, c.NoText, c.NoDeed, c.NoBack, c.NoLine, c.NoRoom] := hC
  unfold body_l_kinds
  walk_at "g"
  refine st_isF hC (by simp only [List.mem_cons, true_or, or_true]) ?_
  walk_at "g"
  refine st_isF hC (by simp only [List.mem_cons, true_or, or_true]) ?_
  walk_at "g"
  refine st_isF hC (by simp only [List.mem_cons, true_or, or_true]) ?_
  walk_at "g"
  refine st_isF hC (by simp only [List.mem_cons, true_or, or_true]) ?_
  walk_at "g"
  walk_at "g"
  refine st_isF hC (by simp only [List.mem_cons, true_or, or_true]) ?_
  walk_at "g"
  refine st_isF hC (by simp only [List.mem_cons, true_or, or_true]) ?_
  walk_at "g"
  refine st_isF hC (by simp only [List.mem_cons, true_or, or_true]) ?_
  walk_at "g"
  refine st_isF hC (by simp only [List.mem_cons, true_or, or_true]) ?_
  walk_at "g"
  refine st_addL (Nat.le_of_ble_eq_true rfl) ?_
  walk_at "g"
  refine st_isF hC (by simp only [List.mem_cons, true_or, or_true]) ?_
  walk_at "g"
  refine st_isF hC (by simp only [List.mem_cons, true_or, or_true]) ?_
  walk_at "g"
  refine st_isF hC (by simp only [List.mem_cons, true_or, or_true]) ?_
  walk_at "g"
  refine st_isF hC (by simp only [List.mem_cons, true_or, or_true]) ?_
  walk_at "g"
  refine st_addL (Nat.le_of_ble_eq_true rfl) ?_
  walk_at "g"
  refine st_isF hC (by simp only [List.mem_cons, true_or, or_true]) ?_
  walk_at "g"
  refine st_isF hC (by simp only [List.mem_cons, true_or, or_true]) ?_
  walk_at "g"
  refine st_isF hC (by simp only [List.mem_cons, true_or, or_true]) ?_
  walk_at "g"
  refine st_isF hC (by simp only [List.mem_cons, true_or, or_true]) ?_
  walk_at "g"
  refine st_addL (Nat.le_of_ble_eq_true rfl) ?_
  walk_at "g"
  refine st_isV hC ?_
  walk_at "g"
  refine st_addL (Nat.le_of_ble_eq_true rfl) ?_
  exact q
def gCaught (c : XC) : DSp := fun ws S Q => ∃ (k : Nat) (t : PyData) (w : Str), ws = [.d (.int (k : Nat)), .d t, .d (.str w)] ∧ k < 16 ∧ Q (.d (.list (dueL k))) S
theorem len_caught (c : XC) : ∀ ws S Q, gCaught c ws S Q → ws.length = 3 := by rintro ws S Q ⟨k, t, w, rfl, _⟩; rfl
theorem spec_caught (c : XC) (n : c.Ok) : ∀ ws S Qd, gCaught c ws S Qd → body_l_caught (gRaised c) (gKinds c) c.BadAsked c.BadBerths c.BadName c.BadRow c.BadShare c.Early c.Known c.NoBack c.NoDeed c.NoLine c.NoRoom c.NoRow c.NoText c.P c.TooMany c.Unknown c.Used { nx := fun _ S' => Qd (.d .none) S', rt := Qd } (dstart 4 ws) S := by
  rintro ws S Q ⟨k, t, w, rfl, hk, q⟩
  unfold body_l_caught
  walk_at "g"
  unfold dTryM
  dsimp only
  walk_at "g"
  unfold dCallX
  walk_at "g"
  refine ⟨k, t, w, rfl, hk, .inl ⟨k_mem hk, fun a => ?_⟩⟩
  dsimp only [dOff, dOn]
  walk_at "g"
  unfold dCallV
  walk_at "g"
  refine ⟨rfl, k_mem hk, ?_⟩
  rw [kinds_k n hk]
  exact q
def gAny (c : XC) : DSp := fun ws S Q => ws = [] ∧ Q (.d (.bool true)) S
theorem len_any (c : XC) : ∀ ws S Q, gAny c ws S Q → ws.length = 0 := by rintro ws S Q ⟨rfl, _⟩; rfl
theorem spec_any (c : XC) (n : c.Ok) : ∀ ws S Qd, gAny c ws S Qd → body_l_any (gKinds c) c.BadAsked c.BadBerths c.BadName c.BadRow c.BadShare c.Early c.Known c.NoBack c.NoDeed c.NoLine c.NoRoom c.NoRow c.NoText c.P c.TooMany c.Unknown c.Used { nx := fun _ S' => Qd (.d .none) S', rt := Qd } (dstart 1 ws) S := by
  rintro ws S Q ⟨rfl, q⟩
  unfold body_l_any
  walk_at "g"
  unfold dTryM dRaiseN
  dsimp only
  refine .inl ⟨List.mem_cons_self, fun a => ?_⟩
  dsimp only [dOff, dOn]
  walk_at "g"
  unfold dCallV
  walk_at "g"
  refine ⟨rfl, List.mem_cons_self, ?_⟩
  rw [kinds_P n]
  walk_at "g"
  refine st_mulL (by decide) (by decide) (by decide) ?_
  walk_at "g"
  refine st_addL (Nat.le_of_ble_eq_true rfl) ?_
  refine st_eq (st_eqSame (.d _) (.d _) (by decide) ?_)
  exact q
def g_at (c : XC) : DSp := fun ws S Q => ∃ (k : Nat) (t : PyData) (w : Str), ws = [.d (.int (k : Nat)), .d t, .d (.str w)] ∧ k < 16 ∧ Q (.d (.list (if k < 6 then [t] else []))) S
theorem len_at (c : XC) : ∀ ws S Q, g_at c ws S Q → ws.length = 3 := by rintro ws S Q ⟨k, t, w, rfl, _⟩; rfl
theorem spec_at (c : XC) (n : c.Ok) : ∀ ws S Qd, g_at c ws S Qd → body_l_at (gRaised c) c.BadAsked c.BadBerths c.BadName c.BadRow c.BadShare c.Early c.Known c.NoBack c.NoDeed c.NoLine c.NoRoom c.NoRow c.NoText c.P c.TooMany c.Unknown c.Used { nx := fun _ S' => Qd (.d .none) S', rt := Qd } (dstart 4 ws) S := by
  rintro ws S Q ⟨k, t, w, rfl, hk, q⟩
  unfold body_l_at
  walk_at "g"
  unfold dTryM
  dsimp only
  walk_at "g"
  unfold dCallX
  walk_at "g"
  refine ⟨k, t, w, rfl, hk, ?_⟩
  by_cases h0 : k = 0
  · subst h0
    refine .inl ⟨rfl, fun a => ?_⟩
    dsimp only [dOff, dOn]
    unfold dXf
    walk_at "g"
    refine ⟨rfl, _, _, rfl, rfl, ?_⟩
    walk_at "g"
    exact q
  refine .inr ⟨⟨k_mem hk, (k_ne n hk (by decide) h0 : c.k k ≠ c.k 0)⟩, ?_⟩
  by_cases h1 : k = 1
  · subst h1
    refine .inl ⟨rfl, fun a => ?_⟩
    dsimp only [dOff, dOn]
    unfold dXf
    walk_at "g"
    refine ⟨rfl, _, _, rfl, rfl, ?_⟩
    walk_at "g"
    exact q
  refine .inr ⟨⟨k_mem hk, (k_ne n hk (by decide) h1 : c.k k ≠ c.k 1)⟩, ?_⟩
  by_cases h2 : k = 2
  · subst h2
    refine .inl ⟨rfl, fun a => ?_⟩
    dsimp only [dOff, dOn]
    unfold dXf
    walk_at "g"
    refine ⟨rfl, _, _, rfl, rfl, ?_⟩
    walk_at "g"
    exact q
  refine .inr ⟨⟨k_mem hk, (k_ne n hk (by decide) h2 : c.k k ≠ c.k 2)⟩, ?_⟩
  by_cases h3 : k = 3
  · subst h3
    refine .inl ⟨rfl, fun a => ?_⟩
    dsimp only [dOff, dOn]
    unfold dXf
    walk_at "g"
    refine ⟨rfl, _, _, rfl, rfl, ?_⟩
    walk_at "g"
    exact q
  refine .inr ⟨⟨k_mem hk, (k_ne n hk (by decide) h3 : c.k k ≠ c.k 3)⟩, ?_⟩
  by_cases h4 : k = 4
  · subst h4
    refine .inl ⟨rfl, fun a => ?_⟩
    dsimp only [dOff, dOn]
    unfold dXf
    walk_at "g"
    refine ⟨rfl, _, _, rfl, rfl, ?_⟩
    walk_at "g"
    exact q
  refine .inr ⟨⟨k_mem hk, (k_ne n hk (by decide) h4 : c.k k ≠ c.k 4)⟩, ?_⟩
  by_cases h5 : k = 5
  · subst h5
    refine .inl ⟨rfl, fun a => ?_⟩
    dsimp only [dOff, dOn]
    unfold dXf
    walk_at "g"
    refine ⟨rfl, _, _, rfl, rfl, ?_⟩
    walk_at "g"
    exact q
  refine .inr ⟨⟨k_mem hk, (k_ne n hk (by decide) h5 : c.k k ≠ c.k 5)⟩, ?_⟩
  refine .inl ⟨k_mem hk, fun a => ?_⟩
  dsimp only [dOff, dOn]
  walk_at "g"
  rw [if_neg (by omega)] at q
  exact q
def g_else (c : XC) : DSp := fun ws S Q => ∃ (k : Nat) (t : PyData) (w : Str), ws = [.d (.int (k : Nat)), .d t, .d (.str w)] ∧ k < 16 ∧ Q (.d (.list (if k < 6 then [] else if k < 11 then [t] else if k = 15 then [t, .list [t], .str w] else []))) S
theorem len_else (c : XC) : ∀ ws S Q, g_else c ws S Q → ws.length = 3 := by rintro ws S Q ⟨k, t, w, rfl, _⟩; rfl
theorem spec_else (c : XC) (n : c.Ok) : ∀ ws S Qd, g_else c ws S Qd → body_l_else (gRaised c) c.BadAsked c.BadBerths c.BadName c.BadRow c.BadShare c.Early c.Known c.NoBack c.NoDeed c.NoLine c.NoRoom c.NoRow c.NoText c.P c.TooMany c.Unknown c.Used { nx := fun _ S' => Qd (.d .none) S', rt := Qd } (dstart 4 ws) S := by
  rintro ws S Q ⟨k, t, w, rfl, hk, q⟩
  unfold body_l_else
  walk_at "g"
  unfold dTryM
  dsimp only
  walk_at "g"
  unfold dCallX
  walk_at "g"
  refine ⟨k, t, w, rfl, hk, ?_⟩
  by_cases h6 : k = 6
  · subst h6
    refine .inl ⟨rfl, fun a => ?_⟩
    dsimp only [dOff, dOn]
    unfold dXf
    walk_at "g"
    refine ⟨rfl, _, _, rfl, rfl, ?_⟩
    walk_at "g"
    exact q
  refine .inr ⟨⟨k_mem hk, (k_ne n hk (by decide) h6 : c.k k ≠ c.k 6)⟩, ?_⟩
  by_cases h7 : k = 7
  · subst h7
    refine .inl ⟨rfl, fun a => ?_⟩
    dsimp only [dOff, dOn]
    unfold dXf
    walk_at "g"
    refine ⟨rfl, _, _, rfl, rfl, ?_⟩
    walk_at "g"
    exact q
  refine .inr ⟨⟨k_mem hk, (k_ne n hk (by decide) h7 : c.k k ≠ c.k 7)⟩, ?_⟩
  by_cases h8 : k = 8
  · subst h8
    refine .inl ⟨rfl, fun a => ?_⟩
    dsimp only [dOff, dOn]
    unfold dXf
    walk_at "g"
    refine ⟨rfl, _, _, rfl, rfl, ?_⟩
    walk_at "g"
    exact q
  refine .inr ⟨⟨k_mem hk, (k_ne n hk (by decide) h8 : c.k k ≠ c.k 8)⟩, ?_⟩
  by_cases h9 : k = 9
  · subst h9
    refine .inl ⟨rfl, fun a => ?_⟩
    dsimp only [dOff, dOn]
    unfold dXf
    walk_at "g"
    refine ⟨rfl, _, _, rfl, rfl, ?_⟩
    walk_at "g"
    exact q
  refine .inr ⟨⟨k_mem hk, (k_ne n hk (by decide) h9 : c.k k ≠ c.k 9)⟩, ?_⟩
  by_cases h10 : k = 10
  · subst h10
    refine .inl ⟨rfl, fun a => ?_⟩
    dsimp only [dOff, dOn]
    unfold dXf
    walk_at "g"
    refine ⟨rfl, _, _, rfl, rfl, ?_⟩
    walk_at "g"
    exact q
  refine .inr ⟨⟨k_mem hk, (k_ne n hk (by decide) h10 : c.k k ≠ c.k 10)⟩, ?_⟩
  by_cases h15 : k = 15
  · subst h15
    refine .inl ⟨rfl, fun a => ?_⟩
    dsimp only [dOff, dOn]
    unfold dXf
    walk_at "g"
    refine ⟨rfl, _, _, rfl, rfl, ?_⟩
    walk_at "g"
    refine ⟨rfl, _, _, rfl, rfl, ?_⟩
    walk_at "g"
    refine ⟨rfl, _, _, rfl, rfl, ?_⟩
    walk_at "g"
    exact q
  refine .inr ⟨⟨k_mem hk, (k_ne n hk (by decide) h15 : c.k k ≠ c.k 15)⟩, ?_⟩
  refine .inl ⟨k_mem hk, fun a => ?_⟩
  dsimp only [dOff, dOn]
  walk_at "g"
  have q2 : Q (.d (.list [])) S := by
    by_cases h6 : k < 6
    · rwa [if_pos h6] at q
    · rwa [if_neg h6, if_neg (by omega), if_neg (by omega)] at q
  have q := q2
  exact q

end K17
namespace K17
open Smp
/-! things of any kind, and the law -/
theorem len_app (a b : Str) : (a ++ b).length = a.length + b.length := by
  show (a.cps ++ b.cps).size = _
  rw [Array.size_append]
  rfl
theorem sw_big {n : Nat} {i : Int} (h1 : 0 ≤ i) (h2 : i < 10 ^ 41) : Sw n 1921 (.int i) := sw_int (by
  rcases Nat.eq_zero_or_pos i.natAbs with h | h
  · rw [h]; decide
  · refine Nat.lt_of_lt_of_le ((Nat.log2_lt (by omega)).mpr (?_ : i.natAbs < 2 ^ 200)) (by decide)
    have : (10 : Int) ^ 41 < 2 ^ 200 := by decide
    omega)
def oneI (i : Int) : PyData := .dict [(.int i, .int 1)]
theorem sw_oneI {i : Int} (h1 : -1000000000000000000 < i) (h2 : i < 1000000000000000000) : Sw 1 5000 (oneI i) := by
  have hs : Sw 0 1921 (.int i) := sw_small h1 h2
  have hb : Sw 0 1921 (.int 1) := sw_small (by decide) (by decide)
  have e : (oneI i).shown = ("{" : Str) ++ ((PyData.int i).shown ++ ": " ++ (PyData.int 1).shown) ++ "}" := by
    simp only [oneI, PyData.shown, PyData.shownKv]
    rfl
  refine ⟨?_, ?_, ?_, ?_⟩
  · have a1 := hs.sh
    have a2 := hb.sh
    simp only [oneI, PyData.showable, PyData.showableKv] at a1 a2 ⊢
    simp [a1]
    decide
  · simp [oneI, PyData.depth, PyData.depthKv]
  · have l1 : ("{" : Str).length = 1 := by decide +kernel
    have l2 : ("}" : Str).length = 1 := by decide +kernel
    have l3 : (": " : Str).length = 2 := by decide +kernel
    have := hs.ln
    have := hb.ln
    rw [e, len_app, len_app, len_app, len_app, l1, l2, l3]
    omega
  · rw [e]
    exact cp_app (cp_app (cp_lit "{") (cp_app (cp_app hs.cp (cp_lit ": ")) hb.cp)) (cp_lit "}")
def gThing : DSp := fun ws S Q => ∃ b, ws = [.o b] ∧ BagAt b S ∧ ∀ t S', Sw 3 20000 t → BagAt b S' → Q (.d t) S'
theorem len_thing : ∀ ws S Q, gThing ws S Q → ws.length = 1 := by rintro ws S Q ⟨b, rfl, _⟩; rfl
def thA (n : Int) : List PyData := [.int n, .int (-n - 1), .int (10 ^ 40 + n), .str "word", .str "", .bool true, .bool false, .none, .tuple [.int n, .str "a"], .tuple [], .list [.int n], .list []]
def thB (n : Int) : List PyData := [.list [.list [.int n], .tuple []], oneI n, .dict [], .tuple [.none, .tuple [.bool true]]]
theorem th_sw {n : Int} (h0 : 0 ≤ n) (h1 : n < 1000000) : ∀ t ∈ thA n ++ thB n, Sw 3 20000 t := by
  have hn : ∀ {m : Nat}, Sw m 1921 (.int n) := sw_small (by omega) (by omega)
  have hs1 : Sw 0 1921 (.str "a") := (sw_str (n := 0) (x := "a") (by decide +kernel)).le (Nat.le_refl _) (by decide +kernel)
  have hp : ∀ d ∈ [PyData.int n, .str "a"], Sw 0 1921 d := by
    intro d hd
    simp only [List.mem_cons, List.mem_nil_iff, or_false] at hd
    rcases hd with rfl | rfl
    · exact hn
    · exact hs1
  have h1' : ∀ d ∈ [PyData.int n], Sw 0 1921 d := by
    intro d hd
    rw [List.mem_singleton.mp hd]; exact hn
  have he : ∀ d ∈ ([] : List PyData), Sw 0 1921 d := fun d hd => absurd hd List.not_mem_nil
  have hb : ∀ d ∈ [PyData.bool true], Sw 0 1921 d := by
    intro d hd
    rw [List.mem_singleton.mp hd]; exact sw_bool.le (Nat.le_refl _) (by decide)
  have l0 : ∀ {a : Nat}, a ≤ 3 → ∀ {m : Nat}, m ≤ 3 → a * (1921 + 2) + 3 ≤ 20000 := by intro a ha m _; omega
  have hll : ∀ d ∈ [PyData.list [.int n], .tuple []], Sw 1 4000 d := by
    intro d hd
    simp only [List.mem_cons, List.mem_nil_iff, or_false] at hd
    rcases hd with rfl | rfl
    · exact (sw_list h1').le (Nat.le_refl _) (by simp)
    · exact (sw_tup he).le (Nat.le_refl _) (by simp)
  have htt : ∀ d ∈ [PyData.none, .tuple [.bool true]], Sw 1 4000 d := by
    intro d hd
    simp only [List.mem_cons, List.mem_nil_iff, or_false] at hd
    rcases hd with rfl | rfl
    · exact sw_none.le (Nat.le_refl _) (by decide)
    · exact (sw_tup hb).le (Nat.le_refl _) (by simp)
  intro t ht
  simp only [thA, thB, List.cons_append, List.nil_append, List.mem_cons, List.mem_nil_iff, or_false] at ht
  rcases ht with rfl | rfl | rfl | rfl | rfl | rfl | rfl | rfl | rfl | rfl | rfl | rfl | rfl | rfl | rfl | rfl
  · exact hn.le (Nat.le_refl _) (by decide)
  · exact (sw_small (n := 3) (by omega) (by omega)).le (Nat.le_refl _) (by decide)
  · exact (sw_big (n := 3) (by have : (0 : Int) ≤ 10 ^ 40 := by decide
                               omega) (by have : (10 : Int) ^ 40 + 1000000 < 10 ^ 41 := by decide
                                          omega)).le (Nat.le_refl _) (by decide)
  · exact (sw_str (n := 3) (x := "word") (by decide +kernel)).le (Nat.le_refl _) (by decide +kernel)
  · exact (sw_str (n := 3) (x := "") (by decide +kernel)).le (Nat.le_refl _) (by decide +kernel)
  · exact sw_bool.le (Nat.le_refl _) (by decide)
  · exact sw_bool.le (Nat.le_refl _) (by decide)
  · exact sw_none.le (Nat.le_refl _) (by decide)
  · exact (sw_tup hp).le (by decide) (by simp)
  · exact (sw_tup he).le (by decide) (by simp)
  · exact (sw_list h1').le (by decide) (by simp)
  · exact (sw_list he).le (by decide) (by simp)
  · exact (sw_list hll).le (by decide) (by simp)
  · exact (sw_oneI (by omega) (by omega)).le (by decide) (by decide)
  · exact (sw_d0 (n := 2)).le (Nat.le_refl _) (by decide)
  · exact (sw_tup htt).le (by decide) (by simp)
theorem spec_thing : ∀ ws S Qd, gThing ws S Qd → body_l_thing gTake { nx := fun _ S' => Qd (.d .none) S', rt := Qd } (dstart 3 ws) S := by
  rintro ws S Q ⟨b, rfl, G, q⟩
  unfold body_l_thing dFrz
  walk_at "g"
  refine bag_take G (by decide) (by decide) fun n o n0 n1 of G => ?_
  have n1 : n < 1000000 := n1
  walk_at "g"
  refine ⟨get_new, _, rfl, by show (1 : Nat) ≤ 15; decide, _, [(.inl n, .int 1)], rfl, by rw [get_set get_new]; rfl, by intro p hp; rw [List.mem_singleton.mp hp]; rfl, ?_⟩
  walk_at "g"
  refine ⟨_, [], rfl, by first | exact get_new | rfl, by simp, ?_⟩
  walk_at "g"
  refine st_addL (a := thA n) (b := thB n) (by show (16 : Nat) ≤ 100000; decide) ?_
  walk_at "g"
  refine bag_take ?_ (by show (0 : Int) < 16; decide) (by show (16 : Int) < 1073741824; decide) fun u o u0 u1 of G => ?_
  · exact G.off ((((Off.refl.app.setN (by simp)).setN (by simp)).app).setN (by simp))
  obtain ⟨d, hat, hd⟩ := Dm.atI_in (l := thA n ++ thB n) u0 (by exact u1)
  refine st_ixL hat ?_
  exact q _ _ (th_sw n0 n1 d hd) G
def envL (ns : List Int) (x2 x3 x4 x5 x6 : Option Wv) : Rho := [some (.c (.list (ns.map .int))), some (.o 0), x2, x3, x4, x5, x6, none]
def wordsW : List PyData := [.str "", .str "a", .str "no", .str "word word"]
theorem words_in : ∀ d ∈ wordsW, ∃ w : Str, d = .str w ∧ Sw 0 1000 (.str w) := by
  intro d hd
  simp only [wordsW, List.mem_cons, List.mem_nil_iff, or_false] at hd
  rcases hd with rfl | rfl | rfl | rfl
  · exact ⟨_, rfl, (sw_str (by decide +kernel)).le (Nat.le_refl _) (by decide +kernel)⟩
  · exact ⟨_, rfl, (sw_str (by decide +kernel)).le (Nat.le_refl _) (by decide +kernel)⟩
  · exact ⟨_, rfl, (sw_str (by decide +kernel)).le (Nat.le_refl _) (by decide +kernel)⟩
  · exact ⟨_, rfl, (sw_str (by decide +kernel)).le (Nat.le_refl _) (by decide +kernel)⟩
def isK (k : Nat) : Wv → Option PyData
  | .d (.int i) => some (.bool (decide ((k : Int) = i)))
  | _ => none
theorem isK_all (k : Nat) : (rangeW 0 16).filterMap (isK k) = (List.range 16).map fun j => .bool (decide (k = j)) := by
  have e : (isK k) ∘ (fun i : Nat => Wv.d (.int (0 + (i : Nat)))) = some ∘ fun j => PyData.bool (decide (k = j)) := by
    funext j
    show some (PyData.bool (decide ((k : Int) = 0 + (j : Int)))) = some _
    congr 2
    exact decide_eq_decide.mpr (by omega)
  unfold rangeW
  rw [List.filterMap_map, e, List.filterMap_eq_map]
theorem dueL_ok (k : Nat) : okD 60 (.list (dueL k)) = true := by rfl
theorem sw3 {t : PyData} {w : Str} (ht : Sw 3 20000 t) (hw : Sw 0 1000 (.str w)) {k : Nat} : Sw 5 200000 (.list ((if k < 6 then [t] else []) ++ if k < 6 then [] else if k < 11 then [t] else if k = 15 then [t, .list [t], .str w] else [])) := by
  have h1 : ∀ d ∈ [t], Sw 3 20000 d := by
    intro d hd
    rw [List.mem_singleton.mp hd]; exact ht
  have h3 : ∀ d ∈ [t, .list [t], .str w], Sw 4 30000 d := by
    intro d hd
    simp only [List.mem_cons, List.mem_nil_iff, or_false] at hd
    rcases hd with rfl | rfl | rfl
    · exact ht.le (by decide) (by decide)
    · exact (sw_list h1).le (by decide) (by simp)
    · exact hw.le (by decide) (by decide)
  have h0 : ∀ d ∈ ([] : List PyData), Sw 4 30000 d := fun d hd => absurd hd List.not_mem_nil
  split
  · exact (sw_list h1).le (by decide) (by simp)
  · split
    · exact (sw_list h1).le (by decide) (by simp)
    · split
      · exact (sw_list h3).le (by decide) (by simp)
      · exact (sw_list h0).le (by decide) (by simp)
def dueF (k : Nat) (t : PyData) (w : Str) : List PyData := (if k < 6 then [t] else []) ++ if k < 6 then [] else if k < 11 then [t] else if k = 15 then [t, .list [t], .str w] else []
theorem dueF_15 {t : PyData} {w : Str} : dueF 15 t w = [t, .list [t], .str w] := rfl
theorem dueF_lt {k : Nat} {t : PyData} {w : Str} (h : k < 11) : dueF k t w = [t] := by
  unfold dueF
  by_cases h6 : k < 6
  · rw [if_pos h6, if_pos h6]; rfl
  · rw [if_neg h6, if_neg h6, if_pos h]; rfl
theorem dueF_ge {k : Nat} {t : PyData} {w : Str} (h : ¬ k < 11) (h' : k ≠ 15) : dueF k t w = [] := by
  unfold dueF
  rw [if_neg (by omega), if_neg (by omega), if_neg h, if_neg h']; rfl
theorem spec_law (c : XC) : ∀ ws S Qd, gLaw ws S Qd → body_law gBag gThing gTake (gCaught c) (g_at c) (g_else c) (gAny c) { nx := fun _ S' => Qd (.d .none) S', rt := Qd } (dstart 8 ws) S := by
  rintro ws S Q ⟨ns, hl, rfl, rfl, q⟩
  unfold body_law
  walk_at "g"
  refine st_bag hl fun o ho => ?_
  simp only [List.nil_append, List.length_nil]
  walk_at "g"
  refine for_list (fun i ρ S' => (∃ x2 x3 x4 x5 x6, ρ = envL ns x2 x3 x4 x5 x6) ∧ BagAt 0 S') ⟨⟨none, none, none, none, none, rfl⟩, ⟨o, rfl, ho⟩⟩ (fun _ _ _ _ => any_true) ?_ ?_
  · rintro i x ρ S' K hx ⟨⟨x2, x3, x4, x5, x6, rfl⟩, G⟩ hK
    unfold envL
    walk_at "g"
    refine for_list (fun i ρ S' => (∃ x2 x3 x4 x5 x6, ρ = envL ns x2 x3 x4 x5 x6) ∧ BagAt 0 S') ⟨⟨some x, x3, x4, x5, x6, rfl⟩, G⟩ (fun _ _ _ _ => any_true) ?_ ?_
    · rintro k y ρ S2 K2 hy ⟨⟨x2, x3, x4, x5, x6, rfl⟩, G⟩ hK2
      obtain ⟨rfl, hk⟩ := range_get hy
      have hk : k < 16 := hk
      have e0 : (0 : Int) + (k : Nat) = (k : Nat) := by omega
      rw [e0]
      unfold envL
      walk_at "g"
      refine ⟨0, rfl, G, fun t S3 ht G => ?_⟩
      walk_at "g"
      refine bag_take G (by decide) (by decide) fun v o2 v0 v1 of G => ?_
      obtain ⟨d, hat, hd⟩ := Dm.atI_in (l := wordsW) v0 (by exact v1)
      obtain ⟨w, rfl, hw⟩ := words_in d hd
      refine st_ixL hat ?_
      walk_at "g"
      refine ⟨k, t, w, rfl, hk, ?_⟩
      walk_at "g"
      refine lc_pure (isK k) any_true (by rw [range_len]; decide) ?_ ?_
      · intro x hx acc K3 hl3 hK3
        obtain ⟨j, hj⟩ := List.mem_iff_getElem?.mp hx
        obtain ⟨rfl, hj2⟩ := range_get hj
        walk_at "g"
        exact hK3
      have e16 : (rangeW 0 (16 : Int).toNat).filterMap (isK k) = (List.range 16).map fun j => .bool (decide (k = j)) := isK_all k
      rw [e16]
      walk_at "g"
      refine st_addL (by simp) ?_
      refine st_ne (st_neSame (.d _) (.d _) (dueL_ok k) ?_)
      walk_at "g"
      rename_i cc c0 c1 hc
      have fin : ∀ {S5 : Sto} {x : PyData} {Q5 : Wv → Sto → Prop}, x = .list (dueF k t w) → (∀ z : Str, Q5 (.d (.str z)) S5 → Q5 (.d (.str z)) S5) → Q5 (.d (.str (PyData.list (dueF k t w)).shown)) S5 → cReprF [.d x] S5 Q5 := by
        intro S5 x Q5 e _ h
        subst e
        obtain ⟨a1, a2, a3⟩ := sw_line (sw3 ht hw (k := k)) (by decide) (by decide)
        exact st_reprF a1 a2 a3 h
      have hadd : ∀ (A B : List PyData), A.length ≤ 10 → B.length ≤ 10 → A.length + B.length ≤ 100000 := fun A B h1 h2 => by omega
      have hA : (if k < 6 then [t] else []).length ≤ 10 := by split <;> simp
      have hB : (if k < 6 then [] else if k < 11 then [t] else if k = 15 then [t, .list [t], .str w] else []).length ≤ 10 := by
        split
        · simp
        · split
          · simp
          · split <;> simp
      by_cases h11 : k < 11
      · obtain rfl : cc = 1 := by rw [hc]; exact if_pos (decide_eq_true (by omega))
        refine st_mulL (by decide) (by decide) (by simp) ?_
        rw [show (List.replicate (Int.toNat 1) [t]).flatten = dueF k t w from by rw [dueF_lt h11]; rfl]
        walk_at "g"
        refine ⟨k, t, w, rfl, hk, ?_⟩
        walk_at "g"
        refine ⟨k, t, w, rfl, hk, ?_⟩
        refine st_addL (hadd _ _ hA hB) ?_
        walk_at "g"
        refine fin rfl (fun _ h => h) ?_
        walk_at "g"
        refine fin rfl (fun _ h => h) ?_
        walk_at "g"
        exact hK2 _ _ ⟨⟨_, _, _, _, _, rfl⟩, G⟩
      · obtain rfl : cc = 0 := by rw [hc]; exact if_neg (by simp; omega)
        refine st_mulL (by decide) (by decide) (by simp) ?_
        by_cases h15 : k = 15
        · subst h15
          walk_at "g"
          rw [show [t, .list [t], .str w] = dueF 15 t w from rfl]
          walk_at "g"
          refine ⟨15, t, w, rfl, hk, ?_⟩
          walk_at "g"
          refine ⟨15, t, w, rfl, hk, ?_⟩
          refine st_addL (hadd _ _ hA hB) ?_
          walk_at "g"
          refine fin rfl (fun _ h => h) ?_
          walk_at "g"
          refine fin rfl (fun _ h => h) ?_
          walk_at "g"
          exact hK2 _ _ ⟨⟨_, _, _, _, _, rfl⟩, G⟩
        · rw [show (List.replicate (Int.toNat 0) [t]).flatten = dueF k t w from by rw [dueF_ge h11 h15]; rfl]
          walk_at "g"
          refine ⟨k, t, w, rfl, hk, ?_⟩
          walk_at "g"
          refine ⟨k, t, w, rfl, hk, ?_⟩
          refine st_addL (hadd _ _ hA hB) ?_
          walk_at "g"
          refine fin rfl (fun _ h => h) ?_
          walk_at "g"
          refine fin rfl (fun _ h => h) ?_
          walk_at "g"
          exact hK2 _ _ ⟨⟨_, _, _, _, _, rfl⟩, G⟩
    · rintro ρ S3 ⟨⟨x2, x3, x4, x5, x6, rfl⟩, G⟩
      exact hK _ _ ⟨⟨x2, x3, x4, x5, x6, rfl⟩, G⟩
  · rintro ρ S3 ⟨⟨x2, x3, x4, x5, x6, rfl⟩, G⟩
    unfold envL
    walk_at "g"
    exact ⟨rfl, q _⟩

end K17
namespace K17
open Smp
theorem final {P : Program} {w : World} {K : PySem.W.Frag} {mg : Str → Option Value} {base : Heap} {a : Ad} (T : Txt K mg a) : FnD P w K mg base 5 a.f_law a.fd_law ["_law_script"] gLaw :=
  let c : XC := ⟨a.C_NoRow, a.C_BadName, a.C_BadBerths, a.C_BadAsked, a.C_BadShare, a.C_BadRow, a.C_Unknown, a.C_Known, a.C_Used, a.C_TooMany, a.C_Early, a.C_NoText, a.C_NoDeed, a.C_NoBack, a.C_NoLine, a.C_NoRoom, a.C_PlaceError⟩
  have n : c.Ok := T.fam.nd
  have ht := ok_l_take T len_take spec_take
  have hr := ok_l_raised_x T (len_raised c) (spec_raised c)
  have hk := ok_l_kinds T (len_kinds c) (spec_kinds c)
  ok_law T (ok_l_bag T len_bag spec_bag) (ok_l_thing T ht len_thing spec_thing) ht (ok_l_caught T hr hk (len_caught c) (spec_caught c n)) (ok_l_at T hr (len_at c) (spec_at c n)) (ok_l_else T hr (len_else c) (spec_else c n)) (ok_l_any T hk (len_any c) (spec_any c n)) len_law (spec_law c)

end K17
end
namespace K17
open PySem L2 Dm
theorem walk {l : PySem.W.OpenLaw} {q : Program} {loose : List Str} {XP : (Str → Option Value) → Heap → Prop} {YP : World → Heap → Prop} {d : DefRec} {K : Params → PySem.W.Frag} (hn : l.most = some 63) (hdf : d.params.defaults = []) (hY : ∀ (w : World) (h : Heap), YP w h → (K w.params).In h)
    (F : ∀ (w : World) (mg : Str → Option Value) (fa : Addr) (h : Heap), (K w.params).In h → h.Ns mainGlobals mg → mg d.name = some (.ref fa) → ∃ a : Ad, a.f_law = fa ∧ (∃ kV dc pm an cd ct, a.fd_law = PySem.W.fnOf "law" "law" (defArgs st_law) (defBody st_law) (defScope st_law) .none kV dc pm an cd ct) ∧ Txt (K w.params) mg a) :
    PySem.W.WalkO q loose XP YP l.row.toRowW d [] (fun f vs => PySem.call f vs) := by
  refine walkD (k := 5) (g := gLaw) (x := "_law_script") hn hdf ⟨⟨rfl, by decide, by decide⟩, rfl⟩ hY (fun w mg fa h KX G hmg => ?_) fun ns hl => ⟨ns, hl, rfl, rfl, fun _ => rfl⟩
  obtain ⟨a, rfl, ⟨kV, dc, pm, an, cd, ct, e⟩, T⟩ := F w mg fa h KX G hmg
  exact ⟨a.fd_law, fun s v => by rw [e]; exact .of_eq rfl, fun base _ _ => final T⟩
end K17
open PySem PySem.W PyProof.Rows in
set_option maxRecDepth 100000 in
set_option maxHeartbeats 0 in
theorem PySem.Challenge.cw_placedworks_k17_refusals_apart_holds : PySem.Challenge.rw_placedworks_k17_refusals_apart.Holds := by
  w_on; o_law; k_head; (case hw => w_witness2)
  k_fill
  refine K17.walk (l := PySem.Challenge.rw_placedworks_k17_refusals_apart) rfl rfl (fun w h Y => PySem.W.kIn_of Y) ?F
  case F =>
    intro w mg fa h KX G hmg
    refine' (fun z => ?zz) (K17.mk_txt KX G ?aC_Used ?aC_Unknown ?aC_TooMany ?aC_PlaceError ?aC_NoText ?aC_NoRow ?aC_NoRoom ?aC_NoLine ?aC_NoDeed ?aC_NoBack ?aC_Known ?aC_Early ?aC_BadShare ?aC_BadRow ?aC_BadName ?aC_BadBerths ?aC_BadAsked ?a_l_bag ?l_l_bag ?c_l_bag ?k_l_bag ?a_l_take ?l_l_take ?c_l_take ?k_l_take ?a_l_thing ?l_l_thing ?c_l_thing ?k_l_thing ?a_l_raised ?l_l_raised ?c_l_raised ?k_l_raised ?a_l_kinds ?l_l_kinds ?c_l_kinds ?k_l_kinds ?a_l_caught ?l_l_caught ?c_l_caught ?k_l_caught ?a_l_at ?l_l_at ?c_l_at ?k_l_at ?a_l_else ?l_l_else ?c_l_else ?k_l_else ?a_l_any ?l_l_any ?c_l_any ?k_l_any ?a_law ?l_law ?c_law ?k_law ?a_BadAsked_init ?i_BadAsked_init ?l_BadAsked_init ?c_BadAsked_init ?k_BadAsked_init ?a_BadBerths_init ?i_BadBerths_init ?l_BadBerths_init ?c_BadBerths_init ?k_BadBerths_init ?a_BadName_init ?i_BadName_init ?l_BadName_init ?c_BadName_init ?k_BadName_init ?a_BadRow_init ?i_BadRow_init ?l_BadRow_init ?c_BadRow_init ?k_BadRow_init ?a_BadShare_init ?i_BadShare_init ?l_BadShare_init ?c_BadShare_init ?k_BadShare_init ?a_Early_init ?i_Early_init ?l_Early_init ?c_Early_init ?k_Early_init ?a_Known_init ?i_Known_init ?l_Known_init ?c_Known_init ?k_Known_init ?a_NoRoom_init ?i_NoRoom_init ?l_NoRoom_init ?c_NoRoom_init ?k_NoRoom_init ?a_NoRow_init ?i_NoRow_init ?l_NoRow_init ?c_NoRow_init ?k_NoRow_init ?a_TooMany_init ?i_TooMany_init ?l_TooMany_init ?c_TooMany_init ?k_TooMany_init ?a_Unknown_init ?i_Unknown_init ?l_Unknown_init ?c_Unknown_init ?k_Unknown_init ?a_Used_init ?i_Used_init ?l_Used_init ?c_Used_init ?k_Used_init ?xb_BadAsked ?xd_BadAsked ?xt_BadAsked ?xl_BadAsked ?xr_BadAsked ?xs_BadAsked ?xk_BadAsked ?xi_BadAsked ?xz_BadAsked ?xo_BadAsked ?xg_BadAsked ?xh_BadAsked ?xb_BadBerths ?xd_BadBerths ?xt_BadBerths ?xl_BadBerths ?xr_BadBerths ?xs_BadBerths ?xk_BadBerths ?xi_BadBerths ?xz_BadBerths ?xo_BadBerths ?xg_BadBerths ?xh_BadBerths ?xb_BadName ?xd_BadName ?xt_BadName ?xl_BadName ?xr_BadName ?xs_BadName ?xk_BadName ?xi_BadName ?xz_BadName ?xo_BadName ?xg_BadName ?xh_BadName ?xb_BadRow ?xd_BadRow ?xt_BadRow ?xl_BadRow ?xr_BadRow ?xs_BadRow ?xk_BadRow ?xi_BadRow ?xz_BadRow ?xo_BadRow ?xg_BadRow ?xh_BadRow ?xb_BadShare ?xd_BadShare ?xt_BadShare ?xl_BadShare ?xr_BadShare ?xs_BadShare ?xk_BadShare ?xi_BadShare ?xz_BadShare ?xo_BadShare ?xg_BadShare ?xh_BadShare ?xb_Early ?xd_Early ?xt_Early ?xl_Early ?xr_Early ?xs_Early ?xk_Early ?xi_Early ?xz_Early ?xo_Early ?xg_Early ?xh_Early ?xb_Known ?xd_Known ?xt_Known ?xl_Known ?xr_Known ?xs_Known ?xk_Known ?xi_Known ?xz_Known ?xo_Known ?xg_Known ?xh_Known ?xb_NoBack ?xd_NoBack ?xt_NoBack ?xw_NoBack ?xkn_NoBack ?xz_NoBack ?xo_NoBack ?xg_NoBack ?xh_NoBack ?xb_NoDeed ?xd_NoDeed ?xt_NoDeed ?xw_NoDeed ?xkn_NoDeed ?xz_NoDeed ?xo_NoDeed ?xg_NoDeed ?xh_NoDeed ?xb_NoLine ?xd_NoLine ?xt_NoLine ?xw_NoLine ?xkn_NoLine ?xz_NoLine ?xo_NoLine ?xg_NoLine ?xh_NoLine ?xb_NoRoom ?xd_NoRoom ?xt_NoRoom ?xl_NoRoom ?xr_NoRoom ?xs_NoRoom ?xk_NoRoom ?xi_NoRoom ?xz_NoRoom ?xo_NoRoom ?xg_NoRoom ?xh_NoRoom ?xb_NoRow ?xd_NoRow ?xt_NoRow ?xl_NoRow ?xr_NoRow ?xs_NoRow ?xk_NoRow ?xi_NoRow ?xz_NoRow ?xo_NoRow ?xg_NoRow ?xh_NoRow ?xb_NoText ?xd_NoText ?xt_NoText ?xw_NoText ?xkn_NoText ?xz_NoText ?xo_NoText ?xg_NoText ?xh_NoText ?xb_PlaceError ?xd_PlaceError ?xt_PlaceError ?xw_PlaceError ?xkn_PlaceError ?xz_PlaceError ?xo_PlaceError ?xg_PlaceError ?xh_PlaceError ?xb_TooMany ?xd_TooMany ?xt_TooMany ?xl_TooMany ?xr_TooMany ?xs_TooMany ?xk_TooMany ?xi_TooMany ?xz_TooMany ?xo_TooMany ?xg_TooMany ?xh_TooMany ?xb_Unknown ?xd_Unknown ?xt_Unknown ?xl_Unknown ?xr_Unknown ?xs_Unknown ?xk_Unknown ?xi_Unknown ?xz_Unknown ?xo_Unknown ?xg_Unknown ?xh_Unknown ?xb_Used ?xd_Used ?xt_Used ?xl_Used ?xr_Used ?xs_Used ?xk_Used ?xi_Used ?xz_Used ?xo_Used ?xg_Used ?xh_Used ?xn_BadAsked_at ?xn_BadBerths_at ?xn_BadName_at ?xn_BadRow_at ?xn_BadShare_at ?xn_Early_until ?xn_Known_name ?xn_NoRoom_demanded ?xn_NoRoom_first ?xn_NoRoom_room ?xn_NoRow_at ?xn_TooMany_most ?xn_Unknown_name ?xn_Used_name ?xsp ?xtk ?xm_PlaceError ?xm_NoRow ?xm_BadName ?xm_BadBerths ?xm_BadAsked ?xm_BadShare ?xm_BadRow ?xm_Unknown ?xm_Known ?xm_Used ?xm_TooMany ?xm_Early ?xm_NoText ?xm_NoDeed ?xm_NoBack ?xm_NoLine ?xm_NoRoom ?xnd ?z_ValueError ?z_abs ?z_int ?z_isinstance ?z_len ?z_range ?z_repr)
    (case zz =>
      obtain ⟨a, e1, e2, T⟩ := z
      exact ⟨a, Option.some.inj (T.m_law.symm.trans hmg) |> Value.ref.inj, ⟨_, _, _, _, _, _, e2⟩, T⟩)
    (case aC_Used => k_is)
    (case aC_Unknown => k_is)
    (case aC_TooMany => k_is)
    (case aC_PlaceError => k_is)
    (case aC_NoText => k_is)
    (case aC_NoRow => k_is)
    (case aC_NoRoom => k_is)
    (case aC_NoLine => k_is)
    (case aC_NoDeed => k_is)
    (case aC_NoBack => k_is)
    (case aC_Known => k_is)
    (case aC_Early => k_is)
    (case aC_BadShare => k_is)
    (case aC_BadRow => k_is)
    (case aC_BadName => k_is)
    (case aC_BadBerths => k_is)
    (case aC_BadAsked => k_is)
    (case a_l_bag => k_is)
    (case l_l_bag => k_is)
    (case c_l_bag => k_is)
    (case k_l_bag => k_is)
    (case a_l_take => k_is)
    (case l_l_take => k_is)
    (case c_l_take => k_is)
    (case k_l_take => k_is)
    (case a_l_thing => k_is)
    (case l_l_thing => k_is)
    (case c_l_thing => k_is)
    (case k_l_thing => k_is)
    (case a_l_raised => k_is)
    (case l_l_raised => k_is)
    (case c_l_raised => k_is)
    (case k_l_raised => k_is)
    (case a_l_kinds => k_is)
    (case l_l_kinds => k_is)
    (case c_l_kinds => k_is)
    (case k_l_kinds => k_is)
    (case a_l_caught => k_is)
    (case l_l_caught => k_is)
    (case c_l_caught => k_is)
    (case k_l_caught => k_is)
    (case a_l_at => k_is)
    (case l_l_at => k_is)
    (case c_l_at => k_is)
    (case k_l_at => k_is)
    (case a_l_else => k_is)
    (case l_l_else => k_is)
    (case c_l_else => k_is)
    (case k_l_else => k_is)
    (case a_l_any => k_is)
    (case l_l_any => k_is)
    (case c_l_any => k_is)
    (case k_l_any => k_is)
    (case a_law => k_is)
    (case l_law => k_is)
    (case c_law => k_is)
    (case k_law => k_is)
    (case a_BadAsked_init => k_is)
    (case i_BadAsked_init => k_is)
    (case l_BadAsked_init => k_is)
    (case c_BadAsked_init => k_is)
    (case k_BadAsked_init => k_is)
    (case a_BadBerths_init => k_is)
    (case i_BadBerths_init => k_is)
    (case l_BadBerths_init => k_is)
    (case c_BadBerths_init => k_is)
    (case k_BadBerths_init => k_is)
    (case a_BadName_init => k_is)
    (case i_BadName_init => k_is)
    (case l_BadName_init => k_is)
    (case c_BadName_init => k_is)
    (case k_BadName_init => k_is)
    (case a_BadRow_init => k_is)
    (case i_BadRow_init => k_is)
    (case l_BadRow_init => k_is)
    (case c_BadRow_init => k_is)
    (case k_BadRow_init => k_is)
    (case a_BadShare_init => k_is)
    (case i_BadShare_init => k_is)
    (case l_BadShare_init => k_is)
    (case c_BadShare_init => k_is)
    (case k_BadShare_init => k_is)
    (case a_Early_init => k_is)
    (case i_Early_init => k_is)
    (case l_Early_init => k_is)
    (case c_Early_init => k_is)
    (case k_Early_init => k_is)
    (case a_Known_init => k_is)
    (case i_Known_init => k_is)
    (case l_Known_init => k_is)
    (case c_Known_init => k_is)
    (case k_Known_init => k_is)
    (case a_NoRoom_init => k_is)
    (case i_NoRoom_init => k_is)
    (case l_NoRoom_init => k_is)
    (case c_NoRoom_init => k_is)
    (case k_NoRoom_init => k_is)
    (case a_NoRow_init => k_is)
    (case i_NoRow_init => k_is)
    (case l_NoRow_init => k_is)
    (case c_NoRow_init => k_is)
    (case k_NoRow_init => k_is)
    (case a_TooMany_init => k_is)
    (case i_TooMany_init => k_is)
    (case l_TooMany_init => k_is)
    (case c_TooMany_init => k_is)
    (case k_TooMany_init => k_is)
    (case a_Unknown_init => k_is)
    (case i_Unknown_init => k_is)
    (case l_Unknown_init => k_is)
    (case c_Unknown_init => k_is)
    (case k_Unknown_init => k_is)
    (case a_Used_init => k_is)
    (case i_Used_init => k_is)
    (case l_Used_init => k_is)
    (case c_Used_init => k_is)
    (case k_Used_init => k_is)
    (case xb_BadAsked => k_is)
    (case xd_BadAsked => k_is)
    (case xt_BadAsked => k_is)
    (case xl_BadAsked => k_is)
    (case xr_BadAsked => decide)
    (case xs_BadAsked => k_is)
    (case xk_BadAsked => k_is)
    (case xi_BadAsked => k_is)
    (case xz_BadAsked => k_is)
    (case xo_BadAsked => k_is)
    (case xg_BadAsked => k_is)
    (case xh_BadAsked => k_is)
    (case xb_BadBerths => k_is)
    (case xd_BadBerths => k_is)
    (case xt_BadBerths => k_is)
    (case xl_BadBerths => k_is)
    (case xr_BadBerths => decide)
    (case xs_BadBerths => k_is)
    (case xk_BadBerths => k_is)
    (case xi_BadBerths => k_is)
    (case xz_BadBerths => k_is)
    (case xo_BadBerths => k_is)
    (case xg_BadBerths => k_is)
    (case xh_BadBerths => k_is)
    (case xb_BadName => k_is)
    (case xd_BadName => k_is)
    (case xt_BadName => k_is)
    (case xl_BadName => k_is)
    (case xr_BadName => decide)
    (case xs_BadName => k_is)
    (case xk_BadName => k_is)
    (case xi_BadName => k_is)
    (case xz_BadName => k_is)
    (case xo_BadName => k_is)
    (case xg_BadName => k_is)
    (case xh_BadName => k_is)
    (case xb_BadRow => k_is)
    (case xd_BadRow => k_is)
    (case xt_BadRow => k_is)
    (case xl_BadRow => k_is)
    (case xr_BadRow => decide)
    (case xs_BadRow => k_is)
    (case xk_BadRow => k_is)
    (case xi_BadRow => k_is)
    (case xz_BadRow => k_is)
    (case xo_BadRow => k_is)
    (case xg_BadRow => k_is)
    (case xh_BadRow => k_is)
    (case xb_BadShare => k_is)
    (case xd_BadShare => k_is)
    (case xt_BadShare => k_is)
    (case xl_BadShare => k_is)
    (case xr_BadShare => decide)
    (case xs_BadShare => k_is)
    (case xk_BadShare => k_is)
    (case xi_BadShare => k_is)
    (case xz_BadShare => k_is)
    (case xo_BadShare => k_is)
    (case xg_BadShare => k_is)
    (case xh_BadShare => k_is)
    (case xb_Early => k_is)
    (case xd_Early => k_is)
    (case xt_Early => k_is)
    (case xl_Early => k_is)
    (case xr_Early => decide)
    (case xs_Early => k_is)
    (case xk_Early => k_is)
    (case xi_Early => k_is)
    (case xz_Early => k_is)
    (case xo_Early => k_is)
    (case xg_Early => k_is)
    (case xh_Early => k_is)
    (case xb_Known => k_is)
    (case xd_Known => k_is)
    (case xt_Known => k_is)
    (case xl_Known => k_is)
    (case xr_Known => decide)
    (case xs_Known => k_is)
    (case xk_Known => k_is)
    (case xi_Known => k_is)
    (case xz_Known => k_is)
    (case xo_Known => k_is)
    (case xg_Known => k_is)
    (case xh_Known => k_is)
    (case xb_NoBack => k_is)
    (case xd_NoBack => k_is)
    (case xt_NoBack => k_is)
    (case xw_NoBack => k_exc)
    (case xkn_NoBack => k_is)
    (case xz_NoBack => k_is)
    (case xo_NoBack => k_is)
    (case xg_NoBack => k_is)
    (case xh_NoBack => k_is)
    (case xb_NoDeed => k_is)
    (case xd_NoDeed => k_is)
    (case xt_NoDeed => k_is)
    (case xw_NoDeed => k_exc)
    (case xkn_NoDeed => k_is)
    (case xz_NoDeed => k_is)
    (case xo_NoDeed => k_is)
    (case xg_NoDeed => k_is)
    (case xh_NoDeed => k_is)
    (case xb_NoLine => k_is)
    (case xd_NoLine => k_is)
    (case xt_NoLine => k_is)
    (case xw_NoLine => k_exc)
    (case xkn_NoLine => k_is)
    (case xz_NoLine => k_is)
    (case xo_NoLine => k_is)
    (case xg_NoLine => k_is)
    (case xh_NoLine => k_is)
    (case xb_NoRoom => k_is)
    (case xd_NoRoom => k_is)
    (case xt_NoRoom => k_is)
    (case xl_NoRoom => k_is)
    (case xr_NoRoom => decide)
    (case xs_NoRoom => k_is)
    (case xk_NoRoom => k_is)
    (case xi_NoRoom => k_is)
    (case xz_NoRoom => k_is)
    (case xo_NoRoom => k_is)
    (case xg_NoRoom => k_is)
    (case xh_NoRoom => k_is)
    (case xb_NoRow => k_is)
    (case xd_NoRow => k_is)
    (case xt_NoRow => k_is)
    (case xl_NoRow => k_is)
    (case xr_NoRow => decide)
    (case xs_NoRow => k_is)
    (case xk_NoRow => k_is)
    (case xi_NoRow => k_is)
    (case xz_NoRow => k_is)
    (case xo_NoRow => k_is)
    (case xg_NoRow => k_is)
    (case xh_NoRow => k_is)
    (case xb_NoText => k_is)
    (case xd_NoText => k_is)
    (case xt_NoText => k_is)
    (case xw_NoText => k_exc)
    (case xkn_NoText => k_is)
    (case xz_NoText => k_is)
    (case xo_NoText => k_is)
    (case xg_NoText => k_is)
    (case xh_NoText => k_is)
    (case xb_PlaceError => k_is)
    (case xd_PlaceError => k_is)
    (case xt_PlaceError => k_is)
    (case xw_PlaceError => k_exc)
    (case xkn_PlaceError => k_is)
    (case xz_PlaceError => k_is)
    (case xo_PlaceError => k_is)
    (case xg_PlaceError => k_is)
    (case xh_PlaceError => k_is)
    (case xb_TooMany => k_is)
    (case xd_TooMany => k_is)
    (case xt_TooMany => k_is)
    (case xl_TooMany => k_is)
    (case xr_TooMany => decide)
    (case xs_TooMany => k_is)
    (case xk_TooMany => k_is)
    (case xi_TooMany => k_is)
    (case xz_TooMany => k_is)
    (case xo_TooMany => k_is)
    (case xg_TooMany => k_is)
    (case xh_TooMany => k_is)
    (case xb_Unknown => k_is)
    (case xd_Unknown => k_is)
    (case xt_Unknown => k_is)
    (case xl_Unknown => k_is)
    (case xr_Unknown => decide)
    (case xs_Unknown => k_is)
    (case xk_Unknown => k_is)
    (case xi_Unknown => k_is)
    (case xz_Unknown => k_is)
    (case xo_Unknown => k_is)
    (case xg_Unknown => k_is)
    (case xh_Unknown => k_is)
    (case xb_Used => k_is)
    (case xd_Used => k_is)
    (case xt_Used => k_is)
    (case xl_Used => k_is)
    (case xr_Used => decide)
    (case xs_Used => k_is)
    (case xk_Used => k_is)
    (case xi_Used => k_is)
    (case xz_Used => k_is)
    (case xo_Used => k_is)
    (case xg_Used => k_is)
    (case xh_Used => k_is)
    (case xn_BadAsked_at => k_is)
    (case xn_BadBerths_at => k_is)
    (case xn_BadName_at => k_is)
    (case xn_BadRow_at => k_is)
    (case xn_BadShare_at => k_is)
    (case xn_Early_until => k_is)
    (case xn_Known_name => k_is)
    (case xn_NoRoom_demanded => k_is)
    (case xn_NoRoom_first => k_is)
    (case xn_NoRoom_room => k_is)
    (case xn_NoRow_at => k_is)
    (case xn_TooMany_most => k_is)
    (case xn_Unknown_name => k_is)
    (case xn_Used_name => k_is)
    (case xsp => k_is)
    (case xtk => k_is)
    (case xm_PlaceError => unfold Dm.MroIs; first | rfl | kernel_rfl)
    (case xm_NoRow => unfold Dm.MroIs; first | rfl | kernel_rfl)
    (case xm_BadName => unfold Dm.MroIs; first | rfl | kernel_rfl)
    (case xm_BadBerths => unfold Dm.MroIs; first | rfl | kernel_rfl)
    (case xm_BadAsked => unfold Dm.MroIs; first | rfl | kernel_rfl)
    (case xm_BadShare => unfold Dm.MroIs; first | rfl | kernel_rfl)
    (case xm_BadRow => unfold Dm.MroIs; first | rfl | kernel_rfl)
    (case xm_Unknown => unfold Dm.MroIs; first | rfl | kernel_rfl)
    (case xm_Known => unfold Dm.MroIs; first | rfl | kernel_rfl)
    (case xm_Used => unfold Dm.MroIs; first | rfl | kernel_rfl)
    (case xm_TooMany => unfold Dm.MroIs; first | rfl | kernel_rfl)
    (case xm_Early => unfold Dm.MroIs; first | rfl | kernel_rfl)
    (case xm_NoText => unfold Dm.MroIs; first | rfl | kernel_rfl)
    (case xm_NoDeed => unfold Dm.MroIs; first | rfl | kernel_rfl)
    (case xm_NoBack => unfold Dm.MroIs; first | rfl | kernel_rfl)
    (case xm_NoLine => unfold Dm.MroIs; first | rfl | kernel_rfl)
    (case xm_NoRoom => unfold Dm.MroIs; first | rfl | kernel_rfl)
    (case xnd => first | decide | simp)
    (case z_ValueError => k_is)
    (case z_abs => k_is)
    (case z_int => k_is)
    (case z_isinstance => k_is)
    (case z_len => k_is)
    (case z_range => k_is)
    (case z_repr => k_is)
