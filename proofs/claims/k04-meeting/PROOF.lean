import PyProof.Rows.All
import Wide.All
import OpenK.AllK
import Wide.FinOn
import HandS.ForMost
import HandS.TupAny
import HandS.Strs
import HandS.Flow
import HandS.Deep
import HandS.Wide
import HandS.TupLe
import HandS.IsInst
import HandS.SortInts
import KE.SortData
import HandS.RaiseMore
import PyProof.ReprRoads
import HandS.More
import KE.DataMinMax
import PyProof.P3Eq
import HandS.Flt
import HandS.Zip
import HandS.Style
import HandS.Conv
import HandS.Words
import KE.GoesMore
import PyProof.EnumMake
import HandS.DictComp
import HandS.TupSets
import HandS.SetBool
import HandS.SetFor
import HandS.SetTxt0
import PyProof.ReprLen
import PySem.Challenge.RW_hourstold_k04_meeting_places_and_shut_wa
set_option Elab.async false
set_option linter.all false
set_option maxRecDepth 100000
set_option maxHeartbeats 15999000
/-! Dl: plain data and a few mutable cells over the abstract heap of the hand layer. -/
namespace Dl
open L2 PySem PyProof.Rows PySem.Spec

def Ext (H H' : Hp) : Prop := ∀ a o, H a = some o → H' a = some o
theorem Ext.refl (H : Hp) : Ext H H := fun _ _ h => h
theorem Ext.trans {H H1 H2 : Hp} (a : Ext H H1) (b : Ext H1 H2) : Ext H H2 := fun x o h => b x o (a x o h)
theorem Ext.new {H : Hp} {p : Addr} {o : HO} (h : H p = none) : Ext H (upd H p o) := fun a u e => by
  rw [upd_ne (ne_of_none e h)]
  exact e
theorem Ext.fresh {H H' : Hp} (e : Ext H H') {p : Addr} (h : H' p = none) : H p = none := by
  cases q : H p with
  | none => rfl
  | some o =>
    rw [e p o q] at h
    cases h
theorem Ext.updBoth {G H : Hp} {p : Addr} {o : HO} (e : Ext G H) : Ext (upd G p o) (upd H p o) := fun a u h => by
  by_cases q : a = p
  · subst q
    rw [upd_same] at h ⊢
    exact h
  · rw [upd_ne q] at h ⊢
    exact e a u h
theorem Ext.side {G H : Hp} {p : Addr} {o : HO} (e : Ext G H) (hp : G p = none) : Ext G (upd H p o) := fun a u h => by
  rw [upd_ne (ne_of_none h hp)]
  exact e a u h
theorem ext_rd {H H' : Hp} {a : Addr} {u : HO} (e : Ext H H') (h : Rd H a u) : Rd H' a u := by
  rcases h with h | ⟨o, h⟩
  · exact Or.inl (e a _ h)
  · exact Or.inr ⟨o, e a _ h⟩
theorem ext_l {K : PySem.W.Frag} {H H' : Hp} {a : Addr} {xs : List V} (e : Ext H H') (h : SqL K H a xs) : SqL K H' a xs := by
  rcases h with h | h
  · exact Or.inl (ext_rd e h)
  · exact Or.inr h
theorem ext_t {K : PySem.W.Frag} {H H' : Hp} {a : Addr} {xs : List V} (e : Ext H H') (h : SqT K H a xs) : SqT K H' a xs := by
  rcases h with h | h
  · exact Or.inl (ext_rd e h)
  · exact Or.inr h
theorem sqT_any {K : PySem.W.Frag} {H : Hp} {a : Addr} {xs : List V} (h : SqT K (fun _ => none) a xs) : SqT K H a xs := by
  rcases h with (h | ⟨o, h⟩) | h
  · cases h
  · cases h
  · exact .inr h
def TupF (H : Hp) (a : Addr) (xs : List V) : Prop := ∃ o : Obj, o.dict = none ∧ H a = some (.frz o (.tup xs))
theorem TupF.sq {K : PySem.W.Frag} {H : Hp} {a : Addr} {xs : List V} (h : TupF H a xs) : SqT K H a xs := let ⟨o, _, e⟩ := h; .inl (.inr ⟨o, e⟩)
theorem TupF.ex {H H' : Hp} {a : Addr} {xs : List V} (e : Ext H H') (h : TupF H a xs) : TupF H' a xs := let ⟨o, d, q⟩ := h; ⟨o, d, e _ _ q⟩
theorem TupF.new {H : Hp} {p : Addr} {o : Obj} {xs : List V} (d : o.dict = none) : TupF (upd H p (.frz o (.tup xs))) p xs := ⟨o, d, upd_same⟩
mutual
inductive Dq (K : PySem.W.Frag) (H : Hp) : V → PyData → Prop
  | non : Dq K H .non .none
  | bl (b : Bool) : Dq K H (.bl b) (.bool b)
  | int (i : Int) : Dq K H (.int i) (.int i)
  | str (x : Str) : Dq K H (.str x) (.str x)
  | lst {a : Addr} {xs : List V} {ds : List PyData} : H a = some (.lst xs) → DqAll K H xs ds → Dq K H (.ref a) (.list ds)
  | tup {a : Addr} {xs : List V} {ds : List PyData} : TupF H a xs → DqAll K H xs ds → Dq K H (.ref a) (.tuple ds)
inductive DqAll (K : PySem.W.Frag) (H : Hp) : List V → List PyData → Prop
  | nil : DqAll K H [] []
  | cons {v : V} {vs : List V} {d : PyData} {ds : List PyData} : Dq K H v d → DqAll K H vs ds → DqAll K H (v :: vs) (d :: ds)
end
mutual
theorem dq_mono {K : PySem.W.Frag} {H H' : Hp} (e : Ext H H') : ∀ {d : PyData} {v : V}, Dq K H v d → Dq K H' v d
  | .none, _, h => by cases h; exact .non
  | .bool b, _, h => by cases h; exact .bl b
  | .int i, _, h => by cases h; exact .int i
  | .str x, _, h => by cases h; exact .str x
  | .list ds, _, h => by cases h with | lst hs ha => exact .lst (e _ _ hs) (dqAll_mono e ha)
  | .tuple ds, _, h => by
    cases h with
    | tup hs ha => exact .tup (hs.ex e) (dqAll_mono e ha)
  | .dict _, _, h => by cases h
theorem dqAll_mono {K : PySem.W.Frag} {H H' : Hp} (e : Ext H H') : ∀ {ds : List PyData} {vs : List V}, DqAll K H vs ds → DqAll K H' vs ds
  | [], _, h => by cases h; exact .nil
  | d :: ds, _, h => by cases h with | cons h1 h2 => exact .cons (dq_mono e h1) (dqAll_mono e h2)
end
mutual
theorem dq_dp {K : PySem.W.Frag} {H : Hp} : ∀ {d : PyData} {v : V}, Dq K H v d → Dp K H v d
  | .none, _, h => by cases h; exact .non
  | .bool b, _, h => by cases h; exact .bl b
  | .int i, _, h => by cases h; exact .int i
  | .str x, _, h => by cases h; exact .str x
  | .list ds, _, h => by cases h with | lst hs ha => exact .lst (SqL.of hs) (dqAll_dp ha)
  | .tuple ds, _, h => by
    cases h with
    | tup hs ha => exact .tup hs.sq (dqAll_dp ha)
  | .dict _, _, h => by cases h
theorem dqAll_dp {K : PySem.W.Frag} {H : Hp} : ∀ {ds : List PyData} {vs : List V}, DqAll K H vs ds → DpAll K H vs ds
  | [], _, h => by cases h; exact .nil
  | d :: ds, _, h => by cases h with | cons h1 h2 => exact .cons (dq_dp h1) (dqAll_dp h2)
end
section
variable {K : PySem.W.Frag} {H : Hp}
theorem dqAll_len : ∀ {vs : List V} {ds : List PyData}, DqAll K H vs ds → vs.length = ds.length
  | _, _, .nil => rfl
  | _, _, .cons _ t => by rw [List.length_cons, List.length_cons, dqAll_len t]
theorem dqAll_get : ∀ {vs : List V} {ds : List PyData} {i : Nat} {d : PyData}, DqAll K H vs ds → ds[i]? = some d → ∃ v, vs[i]? = some v ∧ Dq K H v d
  | _, _, _, _, .nil, e => by simp at e
  | _, _, 0, _, .cons h _, e => by
    simp at e
    subst e
    exact ⟨_, rfl, h⟩
  | _, _, i + 1, _, .cons _ t, e => by
    simp at e
    obtain ⟨v, h1, h2⟩ := dqAll_get t e
    exact ⟨v, by simpa using h1, h2⟩
theorem dqAll_getV : ∀ {vs : List V} {ds : List PyData} {i : Nat} {v : V}, DqAll K H vs ds → vs[i]? = some v → ∃ d, ds[i]? = some d ∧ Dq K H v d
  | _, _, _, _, .nil, e => by simp at e
  | _, _, 0, _, .cons h _, e => by
    simp at e
    subst e
    exact ⟨_, rfl, h⟩
  | _, _, i + 1, _, .cons _ t, e => by
    simp at e
    obtain ⟨d, h1, h2⟩ := dqAll_getV t e
    exact ⟨d, by simpa using h1, h2⟩
theorem dqAll_append : ∀ {vs ws : List V} {ds es : List PyData}, DqAll K H vs ds → DqAll K H ws es → DqAll K H (vs ++ ws) (ds ++ es)
  | _, _, _, _, .nil, s => s
  | _, _, _, _, .cons h t, s => .cons h (dqAll_append t s)
theorem dqAll_one {v : V} {d : PyData} (h : Dq K H v d) : DqAll K H [v] [d] := .cons h .nil
theorem dqAll_set {v : V} {d : PyData} (h : Dq K H v d) : ∀ {vs : List V} {ds : List PyData} (i : Nat), DqAll K H vs ds → DqAll K H (vs.set i v) (ds.set i d)
  | _, _, _, .nil => .nil
  | _, _, 0, .cons _ t => .cons h t
  | _, _, i + 1, .cons q t => .cons q (dqAll_set h i t)
theorem dqAll_take : ∀ {vs : List V} {ds : List PyData} (n : Nat), DqAll K H vs ds → DqAll K H (vs.take n) (ds.take n)
  | _, _, 0, _ => .nil
  | _, _, _ + 1, .nil => .nil
  | _, _, n + 1, .cons q t => .cons q (dqAll_take n t)
theorem dqAll_drop : ∀ {vs : List V} {ds : List PyData} (n : Nat), DqAll K H vs ds → DqAll K H (vs.drop n) (ds.drop n)
  | _, _, 0, r => r
  | _, _, _ + 1, .nil => .nil
  | _, _, n + 1, .cons _ t => dqAll_drop n t
theorem dqAll_reverse : ∀ {vs : List V} {ds : List PyData}, DqAll K H vs ds → DqAll K H vs.reverse ds.reverse
  | _, _, .nil => .nil
  | _, _, .cons h t => by
    rw [List.reverse_cons, List.reverse_cons]
    exact dqAll_append (dqAll_reverse t) (dqAll_one h)
theorem dqAll_erase : ∀ {vs : List V} {ds : List PyData} (i : Nat), DqAll K H vs ds → DqAll K H (vs.eraseIdx i) (ds.eraseIdx i)
  | _, _, _, .nil => .nil
  | _, _, 0, .cons _ t => t
  | _, _, i + 1, .cons q t => .cons q (dqAll_erase i t)
theorem dqAll_ints : ∀ {ns : List Int} {vs : List V}, DqAll K H vs (ns.map .int) → vs = ns.map V.int
  | [], _, h => by cases h; rfl
  | n :: ns, _, h => by
    cases h with
    | cons h1 h2 =>
      cases h1
      rw [dqAll_ints h2]
      rfl
theorem dqAll_bools : ∀ {ns : List Bool} {vs : List V}, DqAll K H vs (ns.map .bool) → vs = ns.map V.bl
  | [], _, h => by cases h; rfl
  | n :: ns, _, h => by
    cases h with
    | cons h1 h2 =>
      cases h1
      rw [dqAll_bools h2]
      rfl
theorem dqAll_strs : ∀ {ns : List Str} {vs : List V}, DqAll K H vs (ns.map .str) → vs = ns.map V.str
  | [], _, h => by cases h; rfl
  | n :: ns, _, h => by
    cases h with
    | cons h1 h2 =>
      cases h1
      rw [dqAll_strs h2]
      rfl
end

inductive AV where
  | d (x : PyData) | kt (ds : List PyData) | sc (ns : List Int) | m (k : Nat) | r (k i : Nat)
inductive MC where
  | lst (ds : List PyData)
  | mat (rows : List (List PyData))
  | dK (kvs : List (Key × PyData))
  | dT (kvs : List (List Key × PyData))
  | lk (kvs : List (Key × PyData))
  | gone
abbrev Env := List (Option AV)
abbrev Mem := List MC
abbrev Kt := AV → Mem → Prop
abbrev Th := List (List Addr)

inductive RowsOk (K : PySem.W.Frag) (G H : Hp) : List Addr → List (List PyData) → Prop
  | nil : RowsOk K G H [] []
  | cons {a : Addr} {as : List Addr} {vs : List V} {row : List PyData} {rows : List (List PyData)} : H a = some (.lst vs) → DqAll K G vs row → RowsOk K G H as rows → RowsOk K G H (a :: as) (row :: rows)
inductive KvOk {κ : Type} (K : PySem.W.Frag) (G : Hp) : List (κ × V) → List (κ × PyData) → Prop
  | nil : KvOk K G [] []
  | cons {k : κ} {v : V} {d : PyData} {vs : List (κ × V)} {ds : List (κ × PyData)} : Dq K G v d → KvOk K G vs ds → KvOk K G ((k, v) :: vs) ((k, d) :: ds)
inductive CellOk (K : PySem.W.Frag) (G H : Hp) : List Addr → MC → Prop
  | lst {a : Addr} {vs : List V} {ds : List PyData} : H a = some (.lst vs) → DqAll K G vs ds → CellOk K G H [a] (.lst ds)
  | mat {a : Addr} {rs : List Addr} {rows : List (List PyData)} : H a = some (.lst (rs.map V.ref)) → RowsOk K G H rs rows → CellOk K G H (a :: rs) (.mat rows)
  | dK {a : Addr} {vs : List (Key × V)} {ds : List (Key × PyData)} : H a = some (.dK vs) → KvOk K G vs ds → CellOk K G H [a] (.dK ds)
  | dT {a : Addr} {vs : List (List Key × V)} {ds : List (List Key × PyData)} : H a = some (.dT vs) → KvOk K G vs ds → CellOk K G H [a] (.dT ds)
  | lk {a : Addr} {o : Obj} {vs : List (Key × V)} {ds : List (Key × PyData)} : H a = some (.frz o (.dK vs)) → KvOk K G vs ds → CellOk K G H [a] (.lk ds)
  | gone : CellOk K G H [] .gone
inductive CellsOk (K : PySem.W.Frag) (G H : Hp) : Th → Mem → Prop
  | nil : CellsOk K G H [] []
  | cons {as : List Addr} {c : MC} {θ : Th} {B : Mem} : CellOk K G H as c → CellsOk K G H θ B → CellsOk K G H (as :: θ) (c :: B)
inductive AVok (K : PySem.W.Frag) (G : Hp) (θ : Th) : V → AV → Prop
  | d {v : V} {x : PyData} : Dq K G v x → AVok K G θ v (.d x)
  | kt {a : Addr} {xs : List V} {ds : List PyData} : SqT K (fun _ => none) a xs → DqAll K (fun _ => none) xs ds → AVok K G θ (.ref a) (.kt ds)
  | sc {a : Addr} {ns : List Int} : SqL K G a (ns.map V.int) → AVok K G θ (.ref a) (.sc ns)
  | m {k : Nat} {a : Addr} {as : List Addr} : θ[k]? = some (a :: as) → AVok K G θ (.ref a) (.m k)
  | r {k i : Nat} {a b : Addr} {as : List Addr} : θ[k]? = some (b :: as) → as[i]? = some a → AVok K G θ (.ref a) (.r k i)
abbrev AVs (K : PySem.W.Frag) (G : Hp) (θ : Th) : List V → List AV → Prop := Paired (AVok K G θ)

structure MemOk (K : PySem.W.Frag) (θ : Th) (B : Mem) (G H : Hp) : Prop where
  ex : Ext G H
  cells : CellsOk K G H θ B
  nd : θ.flatten.Nodup
  free : ∀ a ∈ θ.flatten, G a = none
def SlotsOk (K : PySem.W.Frag) (G : Hp) (θ : Th) (σ : L2.St) (A : Env) : Prop := σ.length = A.length ∧ ∀ (i : Nat) (w : AV), A[i]? = some (some w) → ∃ v, σ[i]? = some (some v) ∧ AVok K G θ v w
structure StOk (K : PySem.W.Frag) (θ : Th) (A : Env) (B : Mem) (σ : L2.St) (G H : Hp) : Prop where
  mem : MemOk K θ B G H
  slots : SlotsOk K G θ σ A

structure Gr (θ θ' : Th) (G H G' H' : Hp) : Prop where
  gx : Ext G G'
  th : θ <+: θ'
  keep : ∀ a o, H a = some o → a ∉ θ.flatten → H' a = some o
  new : ∀ a, a ∈ θ'.flatten → a ∈ θ.flatten ∨ H a = none
  gnew : ∀ a, G' a ≠ none → G a ≠ none ∨ a ∈ θ.flatten ∨ H a = none

section
variable {K : PySem.W.Frag} {θ θ' θ1 θ2 : Th} {A : Env} {B B' : Mem} {σ : L2.St} {G H G' H' G1 H1 G2 H2 : Hp}
theorem Gr.refl : Gr θ θ G H G H := ⟨Ext.refl _, List.prefix_refl _, fun _ _ h _ => h, fun _ h => .inl h, fun _ h => .inl h⟩
theorem Gr.trans (x : Gr θ θ1 G H G1 H1) (y : Gr θ1 θ2 G1 H1 G2 H2) : Gr θ θ2 G H G2 H2 := by
  have ka : ∀ a, H1 a = none → a ∈ θ.flatten ∨ H a = none := fun a h => by
    cases q : H a with
    | none => exact .inr rfl
    | some o =>
      by_cases hm : a ∈ θ.flatten
      · exact .inl hm
      · rw [x.keep a o q hm] at h
        cases h
  refine ⟨x.gx.trans y.gx, x.th.trans y.th, fun a o h hm => ?_, fun a h => ?_, fun a h => ?_⟩
  · refine y.keep a o (x.keep a o h hm) fun hm1 => ?_
    rcases x.new a hm1 with q | q
    · exact hm q
    · rw [h] at q
      cases q
  · rcases y.new a h with q | q
    · exact x.new a q
    · exact ka a q
  · rcases y.gnew a h with q | q | q
    · exact x.gnew a q
    · rcases x.new a q with q | q
      · exact .inr (.inl q)
      · exact .inr (.inr q)
    · rcases ka a q with q | q
      · exact .inr (.inl q)
      · exact .inr (.inr q)
theorem prefix_get {α : Type} {xs ys : List α} {i : Nat} {x : α} (h : xs <+: ys) (e : xs[i]? = some x) : ys[i]? = some x := by
  obtain ⟨t, rfl⟩ := h
  rw [List.getElem?_append_left (List.getElem?_eq_some_iff.mp e).1]
  exact e
theorem AVok.mono {v : V} {w : AV} (h : AVok K G θ v w) (gx : Ext G G') (th : θ <+: θ') : AVok K G' θ' v w := by
  cases h with
  | d h => exact .d (dq_mono gx h)
  | kt h e => exact .kt h e
  | sc h => exact .sc (ext_l gx h)
  | m h => exact .m (prefix_get th h)
  | r h e => exact .r (prefix_get th h) e
theorem AVok.gr {v : V} {w : AV} (h : AVok K G θ v w) (g : Gr θ θ' G H G' H') : AVok K G' θ' v w := h.mono g.gx g.th
theorem AVs.gr {vs : List V} {ws : List AV} (h : AVs K G θ vs ws) (g : Gr θ θ' G H G' H') : AVs K G' θ' vs ws := Paired.mapP h fun _ _ q => q.gr g
theorem SlotsOk.mono (h : SlotsOk K G θ σ A) (gx : Ext G G') (th : θ <+: θ') : SlotsOk K G' θ' σ A := ⟨h.1, fun i w e => by
  obtain ⟨v, h1, h2⟩ := h.2 i w e
  exact ⟨v, h1, h2.mono gx th⟩⟩
theorem SlotsOk.set {v : V} {w : AV} (h : SlotsOk K G θ σ A) (i : Nat) (hv : AVok K G θ v w) : SlotsOk K G θ (σ.set i (some v)) (A.set i (some w)) := by
  refine ⟨by rw [List.length_set, List.length_set]; exact h.1, fun j u e => ?_⟩
  by_cases q : i = j
  · subst q
    by_cases hi : i < A.length
    · rw [List.getElem?_set_self hi] at e
      cases e
      exact ⟨v, List.getElem?_set_self (by rw [h.1]; exact hi), hv⟩
    · rw [List.getElem?_eq_none (by simpa using hi)] at e
      cases e
  · rw [List.getElem?_set_ne q] at e ⊢
    exact h.2 j u e
theorem SlotsOk.hide (h : SlotsOk K G θ σ A) (i : Nat) (x : Option V) : SlotsOk K G θ (σ.set i x) (A.set i none) := by
  refine ⟨by rw [List.length_set, List.length_set]; exact h.1, fun j u e => ?_⟩
  by_cases q : i = j
  · subst q
    by_cases hi : i < A.length
    · rw [List.getElem?_set_self hi] at e
      cases e
    · rw [List.getElem?_eq_none (by simpa using hi)] at e
      cases e
  · rw [List.getElem?_set_ne q] at e ⊢
    exact h.2 j u e
theorem StOk.set {v : V} {w : AV} (h : StOk K θ A B σ G H) (i : Nat) (hv : AVok K G θ v w) : StOk K θ (A.set i (some w)) B (σ.set i (some v)) G H := ⟨h.mem, h.slots.set i hv⟩
theorem RowsOk.mono {as : List Addr} {rows : List (List PyData)} (gx : Ext G G') : RowsOk K G H as rows → (∀ a ∈ as, ∀ o, H a = some o → H' a = some o) → RowsOk K G' H' as rows := fun h => by
  induction h with
  | nil => exact fun _ => .nil
  | cons e d _ ih => exact fun k => .cons (k _ List.mem_cons_self _ e) (dqAll_mono gx d) (ih fun a ha => k a (List.mem_cons_of_mem _ ha))
theorem KvOk.mono {κ : Type} {vs : List (κ × V)} {ds : List (κ × PyData)} (gx : Ext G G') : KvOk K G vs ds → KvOk K G' vs ds := fun h => by
  induction h with
  | nil => exact .nil
  | cons d _ ih => exact .cons (dq_mono gx d) ih
theorem CellOk.mono {as : List Addr} {c : MC} (h : CellOk K G H as c) (gx : Ext G G') (k : ∀ a ∈ as, ∀ o, H a = some o → H' a = some o) : CellOk K G' H' as c := by
  cases h with
  | lst e d => exact .lst (k _ List.mem_cons_self _ e) (dqAll_mono gx d)
  | mat e r => exact .mat (k _ List.mem_cons_self _ e) (r.mono gx fun a ha => k a (List.mem_cons_of_mem _ ha))
  | dK e d => exact .dK (k _ List.mem_cons_self _ e) (d.mono gx)
  | dT e d => exact .dT (k _ List.mem_cons_self _ e) (d.mono gx)
  | lk e d => exact .lk (k _ List.mem_cons_self _ e) (d.mono gx)
  | gone => exact .gone
theorem CellsOk.mono (gx : Ext G G') : ∀ {θ : Th} {B : Mem}, CellsOk K G H θ B → (∀ a ∈ θ.flatten, ∀ o, H a = some o → H' a = some o) → CellsOk K G' H' θ B
  | _, _, .nil, _ => .nil
  | _, _, .cons h t, k => .cons (h.mono gx fun a ha => k a (by simp [ha])) (CellsOk.mono gx t fun a ha => k a (by simp at ha ⊢; exact .inr ha))
theorem CellsOk.len : ∀ {θ : Th} {B : Mem}, CellsOk K G H θ B → θ.length = B.length
  | _, _, .nil => rfl
  | _, _, .cons _ t => by rw [List.length_cons, List.length_cons, CellsOk.len t]
theorem CellsOk.get : ∀ {θ : Th} {B : Mem} {k : Nat} {as : List Addr}, CellsOk K G H θ B → θ[k]? = some as → ∃ c, B[k]? = some c ∧ CellOk K G H as c
  | _, _, _, _, .nil, e => by simp at e
  | _, _, 0, _, .cons h _, e => by
    simp at e
    subst e
    exact ⟨_, rfl, h⟩
  | _, _, k + 1, _, .cons _ t, e => by
    simp at e
    obtain ⟨c, h1, h2⟩ := CellsOk.get t e
    exact ⟨c, by simpa using h1, h2⟩
theorem CellsOk.getB : ∀ {θ : Th} {B : Mem} {k : Nat} {c : MC}, CellsOk K G H θ B → B[k]? = some c → ∃ as, θ[k]? = some as ∧ CellOk K G H as c
  | _, _, _, _, .nil, e => by simp at e
  | _, _, 0, _, .cons h _, e => by
    simp at e
    subst e
    exact ⟨_, rfl, h⟩
  | _, _, k + 1, _, .cons _ t, e => by
    simp at e
    obtain ⟨c, h1, h2⟩ := CellsOk.getB t e
    exact ⟨c, by simpa using h1, h2⟩
theorem CellsOk.append : ∀ {θ ψ : Th} {B C : Mem}, CellsOk K G H θ B → CellsOk K G H ψ C → CellsOk K G H (θ ++ ψ) (B ++ C)
  | _, _, _, _, .nil, s => s
  | _, _, _, _, .cons h t, s => .cons h (CellsOk.append t s)
theorem CellsOk.take : ∀ {θ : Th} {B : Mem} (n : Nat), CellsOk K G H θ B → CellsOk K G H (θ.take n) (B.take n)
  | _, _, 0, _ => .nil
  | _, _, _ + 1, .nil => .nil
  | _, _, n + 1, .cons h t => .cons h (CellsOk.take n t)
theorem CellsOk.upd : ∀ {θ : Th} {B : Mem} {k : Nat} {as : List Addr} {c : MC}, CellsOk K G H θ B → θ.flatten.Nodup → θ[k]? = some as → Ext G G' → (∀ a o, H a = some o → a ∈ θ.flatten → a ∉ as → H' a = some o) → CellOk K G' H' as c → CellsOk K G' H' θ (B.set k c)
  | _, _, _, _, _, .nil, _, e, _, _, _ => by simp at e
  | _, _, 0, as, c, .cons (as := bs) (θ := ψ) h t, nd, e, gx, k, hc => by
    simp at e
    subst e
    refine .cons hc (t.mono gx fun a ha o ho => k a o ho (by simp at ha ⊢; exact .inr ha) fun hb => ?_)
    rw [List.flatten_cons, List.nodup_append] at nd
    exact nd.2.2 a hb a ha rfl
  | _, _, j + 1, as, c, .cons (as := bs) (θ := ψ) h t, nd, e, gx, k, hc => by
    simp at e
    rw [List.flatten_cons, List.nodup_append] at nd
    refine .cons (h.mono gx fun a ha o ho => k a o ho (by simp [ha]) fun hb => ?_) (CellsOk.upd t nd.2.1 e gx (fun a o ho ha hb => k a o ho (by simp at ha ⊢; exact .inr ha) hb) hc)
    exact nd.2.2 a ha a (List.mem_flatten.mpr ⟨as, List.mem_of_getElem? e, hb⟩) rfl
theorem CellOk.live {as : List Addr} {c : MC} (h : CellOk K G H as c) : ∀ a ∈ as, ∃ o, H a = some o := by
  have rows : ∀ {rs : List Addr} {rows : List (List PyData)}, RowsOk K G H rs rows → ∀ a ∈ rs, ∃ o, H a = some o := fun r => by
    induction r with
    | nil => exact fun a ha => absurd ha (by simp)
    | cons e _ _ ih =>
      intro a ha
      rcases List.mem_cons.mp ha with q | q
      · subst q; exact ⟨_, e⟩
      · exact ih a q
  cases h with
  | lst e _ => intro a ha; simp at ha; subst ha; exact ⟨_, e⟩
  | mat e r =>
    intro a ha
    rcases List.mem_cons.mp ha with q | q
    · subst q; exact ⟨_, e⟩
    · exact rows r a q
  | dK e _ => intro a ha; simp at ha; subst ha; exact ⟨_, e⟩
  | dT e _ => intro a ha; simp at ha; subst ha; exact ⟨_, e⟩
  | lk e _ => intro a ha; simp at ha; subst ha; exact ⟨_, e⟩
  | gone => intro a ha; simp at ha
theorem CellsOk.live : ∀ {θ : Th} {B : Mem}, CellsOk K G H θ B → ∀ a ∈ θ.flatten, ∃ o, H a = some o
  | _, _, .nil, a, ha => by simp at ha
  | _, _, .cons h t, a, ha => by
    rw [List.flatten_cons, List.mem_append] at ha
    rcases ha with q | q
    · exact h.live a q
    · exact CellsOk.live t a q
theorem MemOk.live (m : MemOk K θ B G H) {a : Addr} (h : a ∈ θ.flatten) : H a ≠ none := fun z => by
  obtain ⟨o, e⟩ := m.cells.live a h
  rw [e] at z
  cases z
theorem MemOk.fresh (m : MemOk K θ B G H) {p : Addr} (h : H p = none) : p ∉ θ.flatten := fun z => m.live z h
end
end Dl

namespace Dl
open L2 PySem PyProof.Rows PySem.Spec

theorem ex_nil {H : Hp} : Ext (fun _ => none) H := fun _ _ h => by cases h
structure Stp (G H G' H' : Hp) : Prop where
  gx : Ext G G'
  hx : Ext H H'
  ex : Ext G' H'
  gn : ∀ a, G' a ≠ none → G a ≠ none ∨ H a = none
section
variable {K : PySem.W.Frag} {θ : Th} {A : Env} {B : Mem} {σ : L2.St} {G H G' H' G1 H1 : Hp}
theorem Stp.refl (e : Ext G H) : Stp G H G H := ⟨Ext.refl _, Ext.refl _, e, fun _ h => .inl h⟩
theorem Stp.trans (x : Stp G H G1 H1) (y : Stp G1 H1 G' H') : Stp G H G' H' := ⟨x.gx.trans y.gx, x.hx.trans y.hx, y.ex, fun a h => by
  rcases y.gn a h with q | q
  · exact x.gn a q
  · exact .inr (x.hx.fresh q)⟩
theorem Stp.new {p : Addr} {o : HO} (e : Ext G H) (hp : H p = none) : Stp G H (upd G p o) (upd H p o) :=
  ⟨Ext.new (e.fresh hp), Ext.new hp, e.updBoth, fun a h => by
    by_cases q : a = p
    · subst q; exact .inr hp
    · rw [upd_ne q] at h; exact .inl h⟩
theorem Stp.mem (s : Stp G H G' H') (m : MemOk K θ B G H) : MemOk K θ B G' H' := by
  refine ⟨s.ex, m.cells.mono s.gx fun a _ o h => s.hx a o h, m.nd, fun a ha => ?_⟩
  cases q : G' a with
  | none => rfl
  | some o =>
    rcases s.gn a (by rw [q]; exact fun z => nomatch z) with z | z
    · exact absurd (m.free a ha) z
    · exact absurd z (m.live ha)
theorem Stp.gr (s : Stp G H G' H') : Gr θ θ G H G' H' := ⟨s.gx, List.prefix_refl _, fun a o h _ => s.hx a o h, fun a h => .inl h, fun a h => by
  rcases s.gn a h with q | q
  · exact .inl q
  · exact .inr (.inr q)⟩

inductive Res where
  | v (x : PyData) | l (xs : List PyData)
inductive ResOk (K : PySem.W.Frag) (G H G' H' : Hp) : V → Res → Prop
  | v {z : V} {x : PyData} : Stp G H G' H' → Dq K G' z x → ResOk K G H G' H' z (.v x)
  | l {H1 : Hp} {p : Addr} {vs : List V} {xs : List PyData} : Stp G H G' H1 → H1 p = none → H' = upd H1 p (.lst vs) → DqAll K G' vs xs → ResOk K G H G' H' (.ref p) (.l xs)
def newL (xs : List PyData) (B : Mem) (k : Kt) : Prop := k (.d (.list xs)) B ∨ k (.m B.length) (B ++ [.lst xs])
def wpR (B : Mem) (k : Kt) : Res → Prop
  | .v x => k (.d x) B
  | .l xs => newL xs B k
theorem mem_cell {p : Addr} {o : HO} {c : MC} (m : MemOk K θ B G H) (hp : H p = none) (hc : CellOk K G (upd H p o) [p] c) : MemOk K (θ ++ [[p]]) (B ++ [c]) G (upd H p o) ∧ Gr θ (θ ++ [[p]]) G H G (upd H p o) := by
  have hf := m.fresh hp
  refine ⟨⟨m.ex.side (m.ex.fresh hp), ?_, ?_, fun a ha => ?_⟩, ⟨Ext.refl _, List.prefix_append _ _, fun a u h _ => Ext.new hp a u h, fun a ha => ?_, fun a h => .inl h⟩⟩
  · exact (m.cells.mono (Ext.refl _) fun a _ u h => Ext.new hp a u h).append (.cons hc .nil)
  · rw [List.flatten_append, List.nodup_append]
    refine ⟨m.nd, by simp, fun a ha b hb e => ?_⟩
    simp at hb
    subst hb
    subst e
    exact hf ha
  · rw [List.flatten_append, List.mem_append] at ha
    rcases ha with q | q
    · exact m.free a q
    · simp at q
      subst q
      exact m.ex.fresh hp
  · rw [List.flatten_append, List.mem_append] at ha
    rcases ha with q | q
    · exact .inl q
    · simp at q
      subst q
      exact .inr hp
theorem res_fin {z : V} {res : Res} {k : Kt} (m : MemOk K θ B G H) (r : ResOk K G H G' H' z res) (h : wpR B k res) :
    ∃ θ' B' G2 w, Gr θ θ' G H G2 H' ∧ MemOk K θ' B' G2 H' ∧ AVok K G2 θ' z w ∧ k w B' := by
  cases r with
  | v s d => exact ⟨θ, B, G', _, s.gr, s.mem m, .d d, h⟩
  | @l H1 p vs xs s hp e d =>
    subst e
    rcases h with h | h
    · have s2 : Stp G H (upd G' p (.lst vs)) (upd H1 p (.lst vs)) := s.trans (Stp.new s.ex hp)
      exact ⟨θ, B, _, _, s2.gr, s2.mem m, .d (.lst upd_same (dqAll_mono (Ext.new (s.ex.fresh hp)) d)), h⟩
    · obtain ⟨m2, g2⟩ := mem_cell (o := .lst vs) (c := .lst xs) (s.mem m) hp (.lst upd_same d)
      refine ⟨_, _, G', .m B.length, (s.gr).trans g2, m2, .m (as := []) ?_, h⟩
      have hl := m.cells.len
      rw [← hl, List.getElem?_append_right (Nat.le_refl _), Nat.sub_self]
      rfl

inductive Top (K : PySem.W.Frag) (G H : Hp) : V → PyData → Prop
  | sc {v : V} {d : PyData} : Dq K G v d → Top K G H v d
  | ls {a : Addr} {vs : List V} {ds : List PyData} : H a = some (.lst vs) → DqAll K G vs ds → Top K G H (.ref a) (.list ds)
  | kt {a : Addr} {xs : List V} {ds : List PyData} : SqT K (fun _ => none) a xs → DqAll K (fun _ => none) xs ds → Top K G H (.ref a) (.tuple ds)
theorem Top.mono {v : V} {d : PyData} (t : Top K G H v d) (s : Stp G H G' H') : Top K G' H' v d := by
  cases t with
  | sc h => exact .sc (dq_mono s.gx h)
  | ls e h => exact .ls (s.hx _ _ e) (dqAll_mono s.gx h)
  | kt h e => exact .kt h e
theorem Top.dp {v : V} {d : PyData} (e : Ext G H) (t : Top K G H v d) : Dp K H v d := by
  cases t with
  | sc h => exact dq_dp (dq_mono e h)
  | ls q h => exact .lst (SqL.of q) (dqAll_dp (dqAll_mono e h))
  | kt q h => exact .tup (sqT_any q) (dqAll_dp (dqAll_mono ex_nil h))
theorem Top.list {v : V} {ds : List PyData} (e : Ext G H) (t : Top K G H v (.list ds)) : ∃ a vs, v = .ref a ∧ H a = some (.lst vs) ∧ DqAll K G vs ds := by
  cases t with
  | sc h => cases h with | lst q d => exact ⟨_, _, rfl, e _ _ q, d⟩
  | ls q d => exact ⟨_, _, rfl, q, d⟩
theorem Top.tuple {v : V} {ds : List PyData} (e : Ext G H) (t : Top K G H v (.tuple ds)) : ∃ a vs, v = .ref a ∧ SqT K H a vs ∧ DqAll K G vs ds := by
  cases t with
  | sc h =>
    cases h with
    | tup q d => exact ⟨_, _, rfl, (q.ex e).sq, d⟩
  | kt q d => exact ⟨_, _, rfl, sqT_any q, dqAll_mono ex_nil d⟩
theorem Top.int {v : V} {i : Int} (t : Top K G H v (.int i)) : v = .int i := by
  cases t with
  | sc h => cases h; rfl
theorem Top.str {v : V} {i : Str} (t : Top K G H v (.str i)) : v = .str i := by
  cases t with
  | sc h => cases h; rfl
theorem Top.bool {v : V} {i : Bool} (t : Top K G H v (.bool i)) : v = .bl i := by
  cases t with
  | sc h => cases h; rfl
theorem Top.none {v : V} (t : Top K G H v .none) : v = .non := by
  cases t with
  | sc h => cases h; rfl
def rd (B : Mem) : AV → Option PyData
  | .d x => some x
  | .kt ds => some (.tuple ds)
  | .sc _ => none
  | .m k => match B[k]? with
    | some (.lst ds) => some (.list ds)
    | _ => none
  | .r k i => match B[k]? with
    | some (.mat rows) => rows[i]?.map .list
    | _ => none
theorem rows_get : ∀ {rs : List Addr} {rows : List (List PyData)} {i : Nat} {a : Addr}, RowsOk K G H rs rows → rs[i]? = some a → ∃ row vs, rows[i]? = some row ∧ H a = some (.lst vs) ∧ DqAll K G vs row
  | _, _, _, _, .nil, e => by simp at e
  | _, _, 0, _, .cons h d _, e => by
    simp at e
    subst e
    exact ⟨_, _, rfl, h, d⟩
  | _, _, i + 1, _, .cons _ _ t, e => by
    simp at e
    obtain ⟨row, vs, h1, h2⟩ := rows_get t e
    exact ⟨row, vs, by simpa using h1, h2⟩
theorem rd_top {v : V} {w : AV} {d : PyData} (m : MemOk K θ B G H) (h : AVok K G θ v w) (e : rd B w = some d) : Top K G H v d := by
  cases h with
  | d h => cases e; exact .sc h
  | kt h d => cases e; exact .kt h d
  | sc _ => cases e
  | @m k a as hk =>
    obtain ⟨c, hb, hc⟩ := m.cells.get hk
    simp only [rd, hb] at e
    cases hc with
    | lst q dd => cases e; exact .ls q dd
    | mat _ _ => cases e
    | dK _ _ => cases e
    | dT _ _ => cases e
    | lk _ _ => cases e
  | @r k i a b as hk hi =>
    obtain ⟨c, hb, hc⟩ := m.cells.get hk
    simp only [rd, hb] at e
    cases hc with
    | mat q rr =>
      obtain ⟨row, vs, h1, h2, h3⟩ := rows_get rr hi
      simp only [h1, Option.map_some, Option.some.injEq] at e
      subst e
      exact .ls h2 h3
    | lst _ _ => cases e
    | dK _ _ => cases e
    | dT _ _ => cases e
    | lk _ _ => cases e
def wD (B : Mem) (w : AV) (k : PyData → Prop) : Prop := match rd B w with
  | some d => k d
  | none => False
theorem wD_of {v : V} {w : AV} {k : PyData → Prop} (m : MemOk K θ B G H) (h : AVok K G θ v w) (e : wD B w k) : ∃ d, Top K G H v d ∧ k d := by
  unfold wD at e
  split at e
  · rename_i d hd
    exact ⟨d, rd_top m h hd, e⟩
  · exact e.elim
end
end Dl

namespace Dl
open L2 PySem PyProof.Rows PySem.Spec
def FreshT (Q : VK) (H : Hp) (xs : List V) : Prop := ∀ (p : Addr) (o : Obj), H p = none → o.dict = none → Q (.ref p) (upd H p (.frz o (.tup xs)))
section
variable {X : Cx}
theorem lay_tup {pins : List (Addr × Obj)} {σ : L2.St} {H : Hp} {s : Shared} {xs : List V} {us : List Value} {Q : VK} {tk : Nat} (I : Inv X pins σ H s) (r : Vals xs us) (z : xs.length ≤ sizeLine) (q : FreshT Q H xs) :
    EP X pins σ Q (.ref s.heap.objs.size) { s with heap := s.heap.push { cls := .type "tuple", data := .seq us.toArray }, toks := tk } :=
  ⟨.ref s.heap.objs.size, _, I.laid (t' := tk) (o := .frz { cls := .type "tuple", data := .seq us.toArray } (.tup xs)) (fun b u e => Heap.get?_push_of_some _ e) (Nat.le_refl _) ⟨Heap.get?_push_size _ rfl, z, us, r, ⟨_, Heap.get?_push_size _ rfl, rfl, _, rfl⟩⟩, rfl, q _ _ (I.hok.fresh (Nat.le_refl _)) rfl⟩
def tTupF (t : TA) : TE := fun σ H Q => t σ H fun xs H1 => xs.length ≤ sizeLine ∧ FreshT Q H1 xs
theorem pe_tupF {es : List Expr} {t : TA} {pos : Pos} {x1} (h : PA X es t) : PE X (.Tuple es x1 pos) (tTupF t) := by
  refine ⟨fun pins s σ H Q I hq => ?_⟩
  exact wpAny_Tuple_spliced (thn (h.run pos pins s σ H _ I hq) fun us s1 ⟨xs, H1, I1, r, z, q⟩ => ⟨by rw [← r.length]; exact z, lay_tup (tk := s1.toks) I1 r z q⟩)
theorem call_tuple_ofF : CallR X (.type "tuple") (fun xs H Q => ∃ p ys, xs = [.ref p] ∧ ((SqL X.K H p ys ∧ FreshT Q H ys) ∨ (SqT X.K H p ys ∧ Q (.ref p) H))) := by
  intro pins s σ H xs us Q I r h
  obtain ⟨p, ys, rfl, h⟩ := h
  obtain ⟨u, rfl, rx⟩ := vals1 r
  cases rx
  rcases h with ⟨hq, q⟩ | ⟨hq, q⟩
  · obtain ⟨its, r2, pl, hz⟩ := I.list hq
    have hlen := r2.length
    refine call_tuple_list pl.isList (fun h' kp => ?_) (by simp only [List.size_toArray] <;> omega)
    have I1 : Inv X pins σ H { s with heap := h' } := I.kept (t' := s.toks) kp
    exact lay_tup (tk := s.toks) I1 r2 hz q
  · obtain ⟨its, _, pl, _⟩ := I.tuple hq
    exact call_tuple_same pl ⟨.ref p, H, I, rfl, q⟩
def rCatF (K : PySem.W.Frag) : R2 := fun x y H Q => ∃ a b xs ys, x = .ref a ∧ y = .ref b ∧ SqT K H a xs ∧ SqT K H b ys ∧ xs.length + ys.length ≤ sizeLine ∧ (xs = [] → Q (.ref b) H) ∧ (xs ≠ [] → ys = [] → Q (.ref a) H) ∧ (xs ≠ [] → ys ≠ [] → FreshT Q H (xs ++ ys))
theorem op_catF : OpR X (binaryOp .Add) (rCatF X.K) := by
  intro pins s σ H x y v u Q I rx ry h
  obtain ⟨a, b, xs, ys, rfl, rfl, ha, hb, hz, q0, q1, q2⟩ := h
  by_cases hx : xs = []
  · exact op_catA pins s σ H _ _ v u Q I rx ry ⟨a, b, xs, ys, rfl, rfl, ha, hb, hz, q0, q1, fun w => absurd hx w⟩
  · cases rx
    cases ry
    obtain ⟨its, r1, p1, _⟩ := I.tuple ha
    obtain ⟨its2, r2, p2, _⟩ := I.tuple hb
    refine HT.cat_tup p1 p2 (fun z => hx (r1.nil_iff.mp z)) (fun z => ⟨.ref a, H, I, rfl, q1 hx (r2.nil_iff.mp z)⟩) (fun z => ?_) (by rw [← r1.length, ← r2.length]; exact hz)
    exact lay_tup (tk := s.toks) I (r1.append r2) (by rw [List.length_append]; exact hz) (q2 hx fun w => z (r2.nil_iff.mpr w))
def rSlF (K : PySem.W.Frag) : V → Option Int → Option Int → Hp → VK → Prop := fun x lo hi H Q => ∃ a xs, x = .ref a ∧ SqT K H a xs ∧ (HT.sIx xs.length 0 lo = 0 ∧ HT.sIx xs.length xs.length hi = xs.length → Q (.ref a) H) ∧
  (¬ (HT.sIx xs.length 0 lo = 0 ∧ HT.sIx xs.length xs.length hi = xs.length) → FreshT Q H (cutV xs lo hi))
theorem sl_tupF : SlR X (rSlF X.K) := by
  intro pins s σ H x v vl vu lo hi sl Q I rx hs pl pu h
  obtain ⟨a, xs, rfl, hx, q1, q2⟩ := h
  by_cases hw : HT.sIx xs.length 0 lo = 0 ∧ HT.sIx xs.length xs.length hi = xs.length
  · exact sl_tupA pins s σ H _ v vl vu lo hi sl Q I rx hs pl pu ⟨a, xs, rfl, hx, q1, fun w => absurd hw w⟩
  · cases rx
    obtain ⟨its, r, ht, hz⟩ := I.tuple hx
    have hlen : its.toArray.size = xs.length := by rw [List.size_toArray]; exact r.length.symm
    refine ⟨"tuple", _, PyProof.Rows.slot_tuple_getitem.lookup, ht.typeIs, HT.getItem_tuple_cut ht hs pl pu (by rw [hlen]; exact hw) ?_ (by rw [hlen]; exact hz)⟩
    rw [hlen]
    exact lay_tup (tk := s.toks) I ((r.drop (HT.sIx xs.length 0 lo)).take (HT.sIx xs.length xs.length hi - HT.sIx xs.length 0 lo)) (Nat.le_trans (cutV_length xs lo hi) hz) (q2 hw)
def tTM (r : V → List V → Hp → VK → Prop) (to : TE) (t : TA) : TE := fun σ H Q => to σ H fun x H1 => (∃ p xs, x = .ref p ∧ TupF H1 p xs) ∧ t σ H1 fun ys H2 => r x ys H2 Q
theorem pe_tm {o e : Expr} {es : List Expr} {to : TE} {t : TA} {name : Str} {apos cpos : Pos} {id : String} {r : V → List V → Hp → VK → Prop} (slot : Slot "tuple" name id) (hty : typeOf (.builtin id) = pure (.type "method_descriptor")) (hm : MtR X id r) (ho : PE X o to) (ha : PA X (e :: es) t)
    (hbase : attributeBase o name X.env (eval o X.env) = eval o X.env)
    (hfew : ((backTo cpos (starEach (e :: es) X.env)).all (fun x => !x.1) && (backToKw cpos (keywordEach [] X.env)).all (fun x => x.1.isSome) && decide ((e :: es).length + ([] : List Keyword).length + (if ([] : List Keyword).isEmpty then 0 else 1) < 30)) = true)
    (hline : (apos.endLine == cpos.line) = true) (hs : starEach (e :: es) X.env = (false, eval e X.env) :: starEach es X.env) (hplain : (backTo cpos (starEach es X.env)).any (·.1) = false) : PE X (.Call (.Attribute o name apos) (e :: es) [] cpos) (tTM r to t) := by
  refine ⟨fun pins s σ H Q I h => ?_⟩
  refine wpAny_Call_method_late hbase hfew hline rfl (thn (ho.run pins s σ H _ I h) fun v s1 ⟨x, H1, I1, r1, ⟨p, xs, ex, ob, dn, hp⟩, q1⟩ => ?_)
  subst ex
  cases r1
  have own := I1.hok p _ hp
  obtain ⟨get, _, its, _, ob2, get2, cls, _⟩ := own
  have ty : s1.TypeIs (.ref p) "tuple" := ⟨ob2, get2, cls⟩
  refine ⟨"tuple", id, PySem.F.plainAttrs_tuple, slot, hty, ty, fun a e => by cases e; exact ⟨ob, get, dn⟩, ?_⟩
  have args := ha.run cpos pins s1 σ H1 _ I1 q1
  rw [hs] at args ⊢
  refine Calls.callWith_builtin (by show (false || (backTo cpos (starEach es X.env)).any (·.1)) = false; rw [hplain]; rfl) (Calls.evalArgs_plain ?_)
  exact thn args fun us s2 ⟨vs, H2, I2, r2, q2⟩ => hm pins s2 σ H2 (.ref p) vs (.ref p) us Q I2 rfl r2 q2
end
end Dl

namespace Dl
open L2 PySem PyProof.Rows PySem.Spec

abbrev FE := Env → Mem → Kt → Prop
abbrev FA := Env → Mem → (List AV → Mem → Prop) → Prop
abbrev FTt := Env → Mem → (Bool → Mem → Prop) → Prop

def tf (K : PySem.W.Frag) (f : FE) : TE := fun σ H Q => ∃ θ A B G k, StOk K θ A B σ G H ∧ f A B k ∧ ∀ θ' B' G' H' v w, Gr θ θ' G H G' H' → StOk K θ' A B' σ G' H' → AVok K G' θ' v w → k w B' → Q v H'
def tfA (K : PySem.W.Frag) (f : FA) : TA := fun σ H Q => ∃ θ A B G k, StOk K θ A B σ G H ∧ f A B k ∧ ∀ θ' B' G' H' vs ws, Gr θ θ' G H G' H' → StOk K θ' A B' σ G' H' → AVs K G' θ' vs ws → k ws B' → Q vs H'
def tfT (K : PySem.W.Frag) (f : FTt) : TT := fun σ H Q => ∃ θ A B G k, StOk K θ A B σ G H ∧ f A B k ∧ ∀ θ' B' G' H' b, Gr θ θ' G H G' H' → StOk K θ' A B' σ G' H' → k b B' → Q b H'
structure PD (X : Cx) (e : Expr) (f : FE) : Prop where
  pe : PE X e (tf X.K f)
structure PDA (X : Cx) (es : List Expr) (f : FA) : Prop where
  pa : PA X es (tfA X.K f)
structure PDT (X : Cx) (e : Expr) (f : FTt) : Prop where
  pt : PT X e (tfT X.K f)
theorem PE.imp {X : Cx} {e : Expr} {t t' : TE} (h : PE X e t) (i : ∀ σ H Q, t' σ H Q → t σ H Q) : PE X e t' := ⟨fun pins s σ H Q I w => h.run pins s σ H Q I (i σ H Q w)⟩
theorem PA.imp {X : Cx} {es : List Expr} {t t' : TA} (h : PA X es t) (i : ∀ σ H Q, t' σ H Q → t σ H Q) : PA X es t' := ⟨fun pos pins s σ H Q I w => h.run pos pins s σ H Q I (i σ H Q w)⟩
theorem PT.imp {X : Cx} {e : Expr} {t t' : TT} (h : PT X e t) (i : ∀ σ H Q, t' σ H Q → t σ H Q) : PT X e t' := ⟨fun pins s σ H Q I w => h.run pins s σ H Q I (i σ H Q w)⟩
theorem PW.imp {X : Cx} {e : Expr} {t t' : TT} (h : PW X e t) (i : ∀ σ H Q, t' σ H Q → t σ H Q) : PW X e t' := ⟨fun wh pins s σ H Q I w => h.run wh pins s σ H Q I (i σ H Q w)⟩

def fVar (i : Nat) : FE := fun A B k => match A[i]? with
  | some (some w) => k w B
  | _ => False
def fC (x : PyData) : FE := fun _ B k => k (.d x) B
def fOp (r : AV → AV → Mem → Kt → Prop) (fa fb : FE) : FE := fun A B k => fa A B fun x B1 => fb A B1 fun y B2 => r x y B2 k
def fUn (r : AV → Mem → Kt → Prop) (fa : FE) : FE := fun A B k => fa A B fun x B1 => r x B1 k

section
variable {X : Cx} {K : PySem.W.Frag} {θ : Th} {A : Env} {B : Mem} {σ : L2.St} {G H : Hp} {e a b c : Expr} {es : List Expr} {pos : Pos} {f fa fb fc : FE} {fs : FA} {t u : FTt}

theorem pd_var {i : Nat} (h : PE X e (tVar i)) : PD X e (fVar i) := ⟨PE.imp h fun σ H Q w => by
  obtain ⟨θ, A, B, G, k, S, hf, q⟩ := w
  unfold fVar at hf
  split at hf
  · rename_i w e
    obtain ⟨v, h1, h2⟩ := S.slots.2 i w e
    exact ⟨v, h1, q θ B G H v w Gr.refl S h2 hf⟩
  · exact hf.elim⟩
theorem pd_c {v : V} {x : PyData} (h : PE X e (tC v)) (hd : Dq X.K (fun _ => none) v x) : PD X e (fC x) := ⟨PE.imp h fun σ H Q w => by
  obtain ⟨θ, A, B, G, k, S, hf, q⟩ := w
  exact q θ B G H v _ Gr.refl S (.d (dq_mono (fun _ _ z => by cases z) hd)) hf⟩

def RD2 (K : PySem.W.Frag) (r : R2) (a : AV → AV → Mem → Kt → Prop) : Prop := ∀ (θ : Th) (A : Env) (B : Mem) (σ : L2.St) (G H : Hp) (v u : V) (x y : AV) (k : Kt) (Q : VK), StOk K θ A B σ G H → AVok K G θ v x → AVok K G θ u y → a x y B k →
  (∀ θ' B' G' H' z w, Gr θ θ' G H G' H' → StOk K θ' A B' σ G' H' → AVok K G' θ' z w → k w B' → Q z H') → r v u H Q
def RD1 (K : PySem.W.Frag) (r : V → Hp → VK → Prop) (a : AV → Mem → Kt → Prop) : Prop := ∀ (θ : Th) (A : Env) (B : Mem) (σ : L2.St) (G H : Hp) (v : V) (x : AV) (k : Kt) (Q : VK), StOk K θ A B σ G H → AVok K G θ v x → a x B k →
  (∀ θ' B' G' H' z w, Gr θ θ' G H G' H' → StOk K θ' A B' σ G' H' → AVok K G' θ' z w → k w B' → Q z H') → r v H Q
def RDL (K : PySem.W.Frag) (r : List V → Hp → VK → Prop) (a : List AV → Mem → Kt → Prop) : Prop := ∀ (θ : Th) (A : Env) (B : Mem) (σ : L2.St) (G H : Hp) (vs : List V) (xs : List AV) (k : Kt) (Q : VK), StOk K θ A B σ G H → AVs K G θ vs xs → a xs B k →
  (∀ θ' B' G' H' z w, Gr θ θ' G H G' H' → StOk K θ' A B' σ G' H' → AVok K G' θ' z w → k w B' → Q z H') → r vs H Q
theorem pd_op {r : R2} {a2 : AV → AV → Mem → Kt → Prop} (ha : PD X a fa) (hb : PD X b fb) (hr : RD2 X.K r a2) (h : ∀ ta tb, PE X a ta → PE X b tb → PE X e (tOp r ta tb)) : PD X e (fOp a2 fa fb) := ⟨PE.imp (h _ _ ha.pe hb.pe) fun σ H Q w => by
  obtain ⟨θ, A, B, G, k, S, hf, q⟩ := w
  refine ⟨θ, A, B, G, _, S, hf, fun θ1 B1 G1 H1 v x g1 S1 hv k1 => ?_⟩
  refine ⟨θ1, A, B1, G1, _, S1, k1, fun θ2 B2 G2 H2 u y g2 S2 hu k2 => ?_⟩
  refine hr θ2 A B2 σ G2 H2 v u x y k Q S2 (hv.gr g2) hu k2 fun θ3 B3 G3 H3 z w g3 S3 hz k3 => ?_
  exact q θ3 B3 G3 H3 z w ((g1.trans g2).trans g3) S3 hz k3⟩
theorem pd_un {r : V → Hp → VK → Prop} {a1 : AV → Mem → Kt → Prop} (ha : PD X a fa) (hr : RD1 X.K r a1) (h : ∀ ta, PE X a ta → PE X e (tUn r ta)) : PD X e (fUn a1 fa) := ⟨PE.imp (h _ ha.pe) fun σ H Q w => by
  obtain ⟨θ, A, B, G, k, S, hf, q⟩ := w
  refine ⟨θ, A, B, G, _, S, hf, fun θ1 B1 G1 H1 v x g1 S1 hv k1 => ?_⟩
  exact hr θ1 A B1 σ G1 H1 v x k Q S1 hv k1 fun θ3 B3 G3 H3 z w g3 S3 hz k3 => q θ3 B3 G3 H3 z w (g1.trans g3) S3 hz k3⟩
def fL (r : List AV → Mem → Kt → Prop) (fs : FA) : FE := fun A B k => fs A B fun xs B1 => r xs B1 k
theorem pd_call {r : List V → Hp → VK → Prop} {al : List AV → Mem → Kt → Prop} (ha : PDA X es fs) (hr : RDL X.K r al) (h : ∀ ta, PA X es ta → PE X e (tCB r ta)) : PD X e (fL al fs) := ⟨PE.imp (h _ ha.pa) fun σ H Q w => by
  obtain ⟨θ, A, B, G, k, S, hf, q⟩ := w
  refine ⟨θ, A, B, G, _, S, hf, fun θ1 B1 G1 H1 vs xs g1 S1 hv k1 => ?_⟩
  exact hr θ1 A B1 σ G1 H1 vs xs k Q S1 hv k1 fun θ3 B3 G3 H3 z w g3 S3 hz k3 => q θ3 B3 G3 H3 z w (g1.trans g3) S3 hz k3⟩
def fNil : FA := fun _ B k => k [] B
def fCons (fa : FE) (fs : FA) : FA := fun A B k => fa A B fun x B1 => fs A B1 fun xs B2 => k (x :: xs) B2
theorem pda_nil : PDA X [] fNil := ⟨PA.imp pa_nil fun σ H Q w => by
  obtain ⟨θ, A, B, G, k, S, hf, q⟩ := w
  exact q θ B G H [] [] Gr.refl S .nil hf⟩
theorem pda_cons (ha : PD X a fa) (hs : PDA X es fs) (h : starEach (a :: es) X.env = (false, eval a X.env) :: starEach es X.env) : PDA X (a :: es) (fCons fa fs) := ⟨PA.imp (pa_cons ha.pe hs.pa h) fun σ H Q w => by
  obtain ⟨θ, A, B, G, k, S, hf, q⟩ := w
  refine ⟨θ, A, B, G, _, S, hf, fun θ1 B1 G1 H1 v x g1 S1 hv k1 => ?_⟩
  refine ⟨θ1, A, B1, G1, _, S1, k1, fun θ2 B2 G2 H2 us ys g2 S2 hu k2 => ?_⟩
  exact q θ2 B2 G2 H2 _ _ (g1.trans g2) S2 (.cons (hv.gr g2) hu) k2⟩

def aTru (x : AV) (B : Mem) (k : Bool → Prop) : Prop := match x with
  | .d .none => k false
  | .d (.bool b) => k b
  | .d (.int i) => k (i != 0)
  | .d (.str y) => y.length ≤ sizeLine ∧ k ((y.length : Int) != 0)
  | .d (.list xs) => k (!xs.isEmpty)
  | .d (.tuple xs) => k (!xs.isEmpty)
  | .kt xs => k (!xs.isEmpty)
  | .m j => match B[j]? with
    | some (.lst xs) => k (!xs.isEmpty)
    | some (.dK kvs) => k (!kvs.isEmpty)
    | _ => False
  | _ => False
theorem kv_empty {κ : Type} {vs : List (κ × V)} {ds : List (κ × PyData)} (h : KvOk K G vs ds) : vs.isEmpty = ds.isEmpty := by
  cases h <;> rfl
theorem dq_empty {vs : List V} {ds : List PyData} (h : DqAll K G vs ds) : vs.isEmpty = ds.isEmpty := by
  cases h <;> rfl
theorem tru_of {v : V} {x : AV} {k : Bool → Prop} (S : StOk K θ A B σ G H) (hv : AVok K G θ v x) (h : aTru x B k) : ∃ b, TruV K v H b ∧ k b := by
  cases hv with
  | @d v x hd =>
    cases hd with
    | non => exact ⟨false, rfl, h⟩
    | bl b => exact ⟨b, rfl, h⟩
    | int i => exact ⟨_, rfl, h⟩
    | str y => exact ⟨_, ⟨h.1, rfl⟩, h.2⟩
    | lst e d => exact ⟨_, .inl ⟨_, SqL.of (S.mem.ex _ _ e), rfl⟩, by rw [dq_empty d]; exact h⟩
    | tup e d => exact ⟨_, .inr (.inl ⟨_, (e.ex S.mem.ex).sq, rfl⟩), by rw [dq_empty d]; exact h⟩
  | @m j a as hk =>
    obtain ⟨c, hb, hc⟩ := S.mem.cells.get hk
    simp only [aTru, hb] at h
    cases hc with
    | lst e d => exact ⟨_, .inl ⟨_, SqL.of e, rfl⟩, by rw [dq_empty d]; exact h⟩
    | dK e d => exact ⟨_, .inr (.inr ⟨_, e, rfl⟩), by rw [kv_empty d]; exact h⟩
    | mat _ _ => exact h.elim
    | dT _ _ => exact h.elim
    | lk _ _ => exact h.elim
  | kt e d => exact ⟨_, .inr (.inl ⟨_, sqT_any e, rfl⟩), by rw [dq_empty d]; exact h⟩
  | sc _ => exact h.elim
  | r _ _ => exact h.elim
def fTru (fa : FE) : FTt := fun A B k => fa A B fun x B1 => aTru x B1 fun b => k b B1
def plainTest (X : Cx) (e : Expr) : Prop := ∀ whole, isTrue e X.env whole = (do let v ← whole; standAt e.pos; holding [v] (truthy v))
theorem pdt_tru (ha : PD X a fa) (he : plainTest X a) : PDT X a (fTru fa) := ⟨PT.imp (pt_truth ha.pe he) fun σ H Q w => by
  obtain ⟨θ, A, B, G, k, S, hf, q⟩ := w
  refine ⟨θ, A, B, G, _, S, hf, fun θ1 B1 G1 H1 v x g1 S1 hv k1 => ?_⟩
  obtain ⟨b, h1, h2⟩ := tru_of S1 hv k1
  exact ⟨b, h1, q θ1 B1 G1 H1 b g1 S1 h2⟩⟩
def boolK (x : AV) (P : Bool → Prop) : Prop := match x with
  | .d (.bool b) => P b
  | _ => False
theorem boolK_of {v : V} {x : AV} {P : Bool → Prop} (hv : AVok K G θ v x) (h : boolK x P) : ∃ b, x = .d (.bool b) ∧ v = .bl b ∧ P b := by
  unfold boolK at h
  split at h
  · rename_i b
    cases hv with
    | d q => cases q; exact ⟨b, rfl, rfl, h⟩
  · exact h.elim
def fBool (fa : FE) : FTt := fun A B k => fa A B fun x B1 => boolK x fun b => k b B1
theorem tf_bool {K : PySem.W.Frag} {σ : L2.St} {H : Hp} {Q : Bool → Hp → Prop} (w : tfT K (fBool fa) σ H Q) : tTest (tf K fa) σ H Q := by
  obtain ⟨θ, A, B, G, k, S, hf, q⟩ := w
  refine ⟨θ, A, B, G, _, S, hf, fun θ1 B1 G1 H1 v x g1 S1 hv k1 => ?_⟩
  obtain ⟨b, rfl, rfl, k1⟩ := boolK_of hv k1
  exact ⟨b, rfl, q θ1 B1 G1 H1 b g1 S1 k1⟩
theorem pdt_op {r : R2} {a2 : AV → AV → Mem → Kt → Prop} (ha : PD X a fa) (hb : PD X b fb) (hr : RD2 X.K r a2) (h : ∀ ta tb, PE X a ta → PE X b tb → PT X e (tTest (tOp r ta tb))) : PDT X e (fBool (fOp a2 fa fb)) := ⟨PT.imp (h _ _ ha.pe hb.pe) fun σ H Q w => by
  obtain ⟨θ, A, B, G, k, S, hf, q⟩ := w
  refine ⟨θ, A, B, G, _, S, hf, fun θ1 B1 G1 H1 v x g1 S1 hv k1 => ?_⟩
  refine ⟨θ1, A, B1, G1, _, S1, k1, fun θ2 B2 G2 H2 u y g2 S2 hu k2 => ?_⟩
  refine hr θ2 A B2 σ G2 H2 v u x y _ _ S2 (hv.gr g2) hu k2 fun θ3 B3 G3 H3 z w g3 S3 hz k3 => ?_
  obtain ⟨b, rfl, rfl, k3⟩ := boolK_of hz k3
  exact ⟨b, rfl, q θ3 B3 G3 H3 b ((g1.trans g2).trans g3) S3 k3⟩⟩
def fNot (t : FTt) : FTt := fun A B k => t A B fun b B1 => k (!b) B1
def fAnd (t u : FTt) : FTt := fun A B k => t A B fun b B1 => (b = true → u A B1 k) ∧ (b = false → k false B1)
def fOr (t u : FTt) : FTt := fun A B k => t A B fun b B1 => (b = true → k true B1) ∧ (b = false → u A B1 k)
theorem pdt_not (h : PDT X a t) : PDT X (.UnaryOp .Not a pos) (fNot t) := ⟨PT.imp (pt_not h.pt) fun σ H Q w => by
  obtain ⟨θ, A, B, G, k, S, hf, q⟩ := w
  exact ⟨θ, A, B, G, _, S, hf, fun θ1 B1 G1 H1 b g1 S1 k1 => q θ1 B1 G1 H1 _ g1 S1 k1⟩⟩
theorem tfT_and {σ : L2.St} {H : Hp} {Q : Bool → Hp → Prop} (w : tfT K (fAnd t u) σ H Q) : tAnd (tfT K t) (tfT K u) σ H Q := by
  obtain ⟨θ, A, B, G, k, S, hf, q⟩ := w
  refine ⟨θ, A, B, G, _, S, hf, fun θ1 B1 G1 H1 b g1 S1 k1 => ?_⟩
  cases b with
  | true => exact ⟨θ1, A, B1, G1, k, S1, k1.1 rfl, fun θ2 B2 G2 H2 b g2 S2 k2 => q θ2 B2 G2 H2 b (g1.trans g2) S2 k2⟩
  | false => exact q θ1 B1 G1 H1 false g1 S1 (k1.2 rfl)
theorem tfT_or {σ : L2.St} {H : Hp} {Q : Bool → Hp → Prop} (w : tfT K (fOr t u) σ H Q) : tOr (tfT K t) (tfT K u) σ H Q := by
  obtain ⟨θ, A, B, G, k, S, hf, q⟩ := w
  refine ⟨θ, A, B, G, _, S, hf, fun θ1 B1 G1 H1 b g1 S1 k1 => ?_⟩
  cases b with
  | false => exact ⟨θ1, A, B1, G1, k, S1, k1.2 rfl, fun θ2 B2 G2 H2 b g2 S2 k2 => q θ2 B2 G2 H2 b (g1.trans g2) S2 k2⟩
  | true => exact q θ1 B1 G1 H1 true g1 S1 (k1.1 rfl)
structure PDW (X : Cx) (e : Expr) (f : FTt) : Prop where
  pw : PW X e (tfT X.K f)
theorem PDW.pt (h : PDW X e t) : PDT X e t := ⟨h.pw.pt⟩
theorem pdw_and1 (h : PDT X a t) : PDW X (.BoolOp .And [a] pos) t := ⟨pw_and1 h.pt⟩
theorem pdw_or1 (h : PDT X a t) : PDW X (.BoolOp .Or [a] pos) t := ⟨pw_or1 h.pt⟩
theorem pdw_and (ha : PDT X a t) (hb : PDW X (.BoolOp .And (b :: es) pos) u) : PDW X (.BoolOp .And (a :: b :: es) pos) (fAnd t u) := ⟨PW.imp (pw_and ha.pt hb.pw) fun σ H Q w => tfT_and w⟩
theorem pdw_or (ha : PDT X a t) (hb : PDW X (.BoolOp .Or (b :: es) pos) u) : PDW X (.BoolOp .Or (a :: b :: es) pos) (fOr t u) := ⟨PW.imp (pw_or ha.pt hb.pw) fun σ H Q w => tfT_or w⟩
def fAndV (fa fb : FE) : FE := fun A B k => fa A B fun x B1 => aTru x B1 fun b => (b = true → fb A B1 k) ∧ (b = false → k x B1)
def fOrV (fa fb : FE) : FE := fun A B k => fa A B fun x B1 => aTru x B1 fun b => (b = true → k x B1) ∧ (b = false → fb A B1 k)
def fNotV (fa : FE) : FE := fun A B k => fa A B fun x B1 => aTru x B1 fun b => k (.d (.bool (!b))) B1
theorem pd_one {op} (h : PD X a fa) : PD X (.BoolOp op [a] pos) fa := ⟨pe_one h.pe⟩
theorem pd_and (ha : PD X a fa) (hb : PD X (.BoolOp .And (b :: es) pos) fb) : PD X (.BoolOp .And (a :: b :: es) pos) (fAndV fa fb) := ⟨PE.imp (pe_andT ha.pe hb.pe) fun σ H Q w => by
  obtain ⟨θ, A, B, G, k, S, hf, q⟩ := w
  refine ⟨θ, A, B, G, _, S, hf, fun θ1 B1 G1 H1 v x g1 S1 hv k1 => ?_⟩
  obtain ⟨b, h1, h2⟩ := tru_of S1 hv k1
  refine ⟨b, h1, ?_⟩
  cases b with
  | true => exact ⟨θ1, A, B1, G1, k, S1, h2.1 rfl, fun θ2 B2 G2 H2 v w g2 S2 hv k2 => q θ2 B2 G2 H2 v w (g1.trans g2) S2 hv k2⟩
  | false => exact q θ1 B1 G1 H1 v x g1 S1 hv (h2.2 rfl)⟩
theorem pd_or (ha : PD X a fa) (hb : PD X (.BoolOp .Or (b :: es) pos) fb) : PD X (.BoolOp .Or (a :: b :: es) pos) (fOrV fa fb) := ⟨PE.imp (pe_orT ha.pe hb.pe) fun σ H Q w => by
  obtain ⟨θ, A, B, G, k, S, hf, q⟩ := w
  refine ⟨θ, A, B, G, _, S, hf, fun θ1 B1 G1 H1 v x g1 S1 hv k1 => ?_⟩
  obtain ⟨b, h1, h2⟩ := tru_of S1 hv k1
  refine ⟨b, h1, ?_⟩
  cases b with
  | false => exact ⟨θ1, A, B1, G1, k, S1, h2.2 rfl, fun θ2 B2 G2 H2 v w g2 S2 hv k2 => q θ2 B2 G2 H2 v w (g1.trans g2) S2 hv k2⟩
  | true => exact q θ1 B1 G1 H1 v x g1 S1 hv (h2.1 rfl)⟩
theorem pd_not (ha : PD X a fa) : PD X (.UnaryOp .Not a pos) (fNotV fa) := ⟨PE.imp (pe_notT ha.pe) fun σ H Q w => by
  obtain ⟨θ, A, B, G, k, S, hf, q⟩ := w
  refine ⟨θ, A, B, G, _, S, hf, fun θ1 B1 G1 H1 v x g1 S1 hv k1 => ?_⟩
  obtain ⟨b, h1, h2⟩ := tru_of S1 hv k1
  exact ⟨b, h1, q θ1 B1 G1 H1 _ _ g1 S1 (.d (.bl _)) h2⟩⟩
def fIf (t : FTt) (fa fb : FE) : FE := fun A B k => t A B fun b B1 => (b = true → fa A B1 k) ∧ (b = false → fb A B1 k)
theorem pd_ifExp (ht : PDT X c t) (ha : PD X a fa) (hb : PD X b fb) : PD X (.IfExp c a b pos) (fIf t fa fb) := ⟨PE.imp (pe_ifExp ht.pt ha.pe hb.pe) fun σ H Q w => by
  obtain ⟨θ, A, B, G, k, S, hf, q⟩ := w
  refine ⟨θ, A, B, G, _, S, hf, fun θ1 B1 G1 H1 b g1 S1 k1 => ?_⟩
  cases b with
  | true => exact ⟨θ1, A, B1, G1, k, S1, k1.1 rfl, fun θ2 B2 G2 H2 v w g2 S2 hv k2 => q θ2 B2 G2 H2 v w (g1.trans g2) S2 hv k2⟩
  | false => exact ⟨θ1, A, B1, G1, k, S1, k1.2 rfl, fun θ2 B2 G2 H2 v w g2 S2 hv k2 => q θ2 B2 G2 H2 v w (g1.trans g2) S2 hv k2⟩⟩
def fChain (r r' : AV → AV → Mem → Kt → Prop) (fa fb fc : FE) : FE := fun A B k => fa A B fun x B1 => fb A B1 fun y B2 => r x y B2 fun z B3 => boolK z fun b => (b = true → fc A B3 fun w B4 => r' y w B4 k) ∧ (b = false → k (.d (.bool false)) B3)
theorem tf_chain {r r' : R2} {a2 a2' : AV → AV → Mem → Kt → Prop} (hr : RD2 K r a2) (hr' : RD2 K r' a2') {σ : L2.St} {H : Hp} {Q : VK} (w : tf K (fChain a2 a2' fa fb fc) σ H Q) : tChain r r' (tf K fa) (tf K fb) (tf K fc) σ H Q := by
  obtain ⟨θ, A, B, G, k, S, hf, q⟩ := w
  refine ⟨θ, A, B, G, _, S, hf, fun θ1 B1 G1 H1 v x g1 S1 hv k1 => ?_⟩
  refine ⟨θ1, A, B1, G1, _, S1, k1, fun θ2 B2 G2 H2 u y g2 S2 hu k2 => ?_⟩
  refine hr θ2 A B2 σ G2 H2 v u x y _ _ S2 (hv.gr g2) hu k2 fun θ3 B3 G3 H3 z w g3 S3 hz k3 => ?_
  obtain ⟨b, rfl, rfl, k3⟩ := boolK_of hz k3
  cases b with
  | true =>
    refine ⟨true, rfl, ?_⟩
    refine ⟨θ3, A, B3, G3, _, S3, k3.1 rfl, fun θ4 B4 G4 H4 z w g4 S4 hz k4 => ?_⟩
    exact hr' θ4 A B4 σ G4 H4 u z y w k Q S4 ((hu.gr g3).gr g4) hz k4 fun θ5 B5 G5 H5 z w g5 S5 hz k5 => q θ5 B5 G5 H5 z w ((((g1.trans g2).trans g3).trans g4).trans g5) S5 hz k5
  | false => exact ⟨false, rfl, q θ3 B3 G3 H3 _ _ ((g1.trans g2).trans g3) S3 (.d (.bl _)) (k3.2 rfl)⟩
theorem pd_chain {r r' : R2} {a2 a2' : AV → AV → Mem → Kt → Prop} (ha : PD X a fa) (hb : PD X b fb) (hc : PD X c fc) (hr : RD2 X.K r a2) (hr' : RD2 X.K r' a2') (h : ∀ ta tb tc, PE X a ta → PE X b tb → PE X c tc → PE X e (tChain r r' ta tb tc)) : PD X e (fChain a2 a2' fa fb fc) :=
  ⟨PE.imp (h _ _ _ ha.pe hb.pe hc.pe) fun σ H Q w => tf_chain hr hr' w⟩
theorem pdt_chain {r r' : R2} {a2 a2' : AV → AV → Mem → Kt → Prop} (ha : PD X a fa) (hb : PD X b fb) (hc : PD X c fc) (hr : RD2 X.K r a2) (hr' : RD2 X.K r' a2') (h : ∀ ta tb tc, PE X a ta → PE X b tb → PE X c tc → PT X e (tTest (tChain r r' ta tb tc))) : PDT X e (fBool (fChain a2 a2' fa fb fc)) :=
  ⟨PT.imp (h _ _ _ ha.pe hb.pe hc.pe) fun σ H Q w => by
    obtain ⟨θ, A, B, G, k, S, hf, q⟩ := w
    refine tf_chain (Q := fun x H' => ∃ k, x = .bl k ∧ Q k H') hr hr' ⟨θ, A, B, G, _, S, hf, fun θ1 B1 G1 H1 v x g1 S1 hv k1 => ?_⟩
    obtain ⟨b, rfl, rfl, k1⟩ := boolK_of hv k1
    exact ⟨b, rfl, q θ1 B1 G1 H1 b g1 S1 k1⟩⟩

def wDs (B : Mem) : List AV → (List PyData → Prop) → Prop
  | [], k => k []
  | .d x :: ws, k => wDs B ws fun xs => k (x :: xs)
  | _ :: _, _ => False
theorem wDs_of : ∀ {vs : List V} {ws : List AV} {k : List PyData → Prop}, AVs K G θ vs ws → wDs B ws k → ∃ xs, DqAll K G vs xs ∧ k xs
  | _, _, _, .nil, h => ⟨[], .nil, h⟩
  | _, _, k, .cons hv t, h => by
    cases hv with
    | d hd =>
      obtain ⟨xs, h1, h2⟩ := wDs_of t h
      exact ⟨_ :: xs, .cons hd h1, h2⟩
    | kt _ _ => exact h.elim
    | sc _ => exact h.elim
    | m _ => exact h.elim
    | r _ _ => exact h.elim
def fTup (fs : FA) : FE := fun A B k => fs A B fun ws B1 => wDs B1 ws fun xs => xs.length ≤ sizeLine ∧ k (.d (.tuple xs)) B1
def fLst (fs : FA) : FE := fun A B k => fs A B fun ws B1 => wDs B1 ws fun xs => xs.length ≤ sizeLine ∧ newL xs B1 k
theorem pd_tup {x1} (h : PDA X es fs) : PD X (.Tuple es x1 pos) (fTup fs) := ⟨PE.imp (pe_tupF h.pa) fun σ H Q w => by
  obtain ⟨θ, A, B, G, k, S, hf, q⟩ := w
  refine ⟨θ, A, B, G, _, S, hf, fun θ1 B1 G1 H1 vs ws g1 S1 hv k1 => ?_⟩
  obtain ⟨xs, h1, h2, h3⟩ := wDs_of hv k1
  refine ⟨by rw [dqAll_len h1]; exact h2, fun p ob hp dn => ?_⟩
  have s := Stp.new (o := .frz ob (.tup vs)) S1.mem.ex hp
  exact q θ1 B1 _ _ _ _ (g1.trans s.gr) ⟨s.mem S1.mem, S1.slots.mono s.gx (List.prefix_refl _)⟩ (.d (.tup (.new dn) (dqAll_mono s.gx h1))) h3⟩
theorem st_fin {z : V} {G' H' : Hp} {res : Res} {k : Kt} {Q : VK} (S : StOk K θ A B σ G H) (r : ResOk K G H G' H' z res) (h : wpR B k res) (q : ∀ θ' B' G' H' z w, Gr θ θ' G H G' H' → StOk K θ' A B' σ G' H' → AVok K G' θ' z w → k w B' → Q z H') : Q z H' := by
  obtain ⟨θ', B', G2, w, g, m, hv, hk⟩ := res_fin S.mem r h
  exact q θ' B' G2 H' z w g ⟨m, S.slots.mono g.gx g.th⟩ hv hk
theorem pd_lst (h : PDA X es fs) : PD X (.List es pos) (fLst fs) := ⟨PE.imp (pe_lst h.pa) fun σ H Q w => by
  obtain ⟨θ, A, B, G, k, S, hf, q⟩ := w
  refine ⟨θ, A, B, G, _, S, hf, fun θ1 B1 G1 H1 vs ws g1 S1 hv k1 => ?_⟩
  obtain ⟨xs, h1, h2, h3⟩ := wDs_of hv k1
  refine ⟨by rw [dqAll_len h1]; exact h2, fun p hp => ?_⟩
  exact st_fin S1 (.l (Stp.refl S1.mem.ex) hp rfl h1) (show wpR B1 k (.l xs) from h3) fun θ2 B2 G2 H2 z w g2 S2 hz k2 => q θ2 B2 G2 H2 z w (g1.trans g2) S2 hz k2⟩
end
end Dl

namespace Dl
open L2 PySem PyProof.Rows PySem.Spec

abbrev Kr := Res → Prop
def aD2 (a : PyData → PyData → Kr → Prop) : AV → AV → Mem → Kt → Prop := fun x y B k => wD B x fun d => wD B y fun e => a d e (wpR B k)
def aD1 (a : PyData → Kr → Prop) : AV → Mem → Kt → Prop := fun x B k => wD B x fun d => a d (wpR B k)
def wDL (B : Mem) : List AV → (List PyData → Prop) → Prop
  | [], k => k []
  | w :: ws, k => wD B w fun x => wDL B ws fun xs => k (x :: xs)
def aDL (a : List PyData → Kr → Prop) : List AV → Mem → Kt → Prop := fun xs B k => wDL B xs fun ds => a ds (wpR B k)
section
variable {K : PySem.W.Frag} {θ : Th} {A : Env} {B : Mem} {σ : L2.St} {G H : Hp}
abbrev Tops (K : PySem.W.Frag) (G H : Hp) : List V → List PyData → Prop := Paired (Top K G H)
theorem wDL_of : ∀ {vs : List V} {ws : List AV} {k : List PyData → Prop}, MemOk K θ B G H → AVs K G θ vs ws → wDL B ws k → ∃ ds, Tops K G H vs ds ∧ k ds
  | _, _, _, m, .nil, h => ⟨[], .nil, h⟩
  | _, _, k, m, .cons hv t, h => by
    obtain ⟨d, h1, h2⟩ := wD_of m hv h
    obtain ⟨ds, h3, h4⟩ := wDL_of m t h2
    exact ⟨d :: ds, .cons h1 h3, h4⟩
theorem rd2_data {r : R2} {a : PyData → PyData → Kr → Prop} (h : ∀ (G H : Hp) (v u : V) (d e : PyData) (P : Kr) (Q : VK), Ext G H → Top K G H v d → Top K G H u e → a d e P → (∀ G' H' z res, ResOk K G H G' H' z res → P res → Q z H') → r v u H Q) : RD2 K r (aD2 a) := by
  intro θ A B σ G H v u x y k Q S hv hu ha q
  obtain ⟨d, t1, h1⟩ := wD_of S.mem hv ha
  obtain ⟨e, t2, h2⟩ := wD_of S.mem hu h1
  exact h G H v u d e _ Q S.mem.ex t1 t2 h2 fun G' H' z res ro hp => st_fin S ro hp q
theorem rd1_data {r : V → Hp → VK → Prop} {a : PyData → Kr → Prop} (h : ∀ (G H : Hp) (v : V) (d : PyData) (P : Kr) (Q : VK), Ext G H → Top K G H v d → a d P → (∀ G' H' z res, ResOk K G H G' H' z res → P res → Q z H') → r v H Q) : RD1 K r (aD1 a) := by
  intro θ A B σ G H v x k Q S hv ha q
  obtain ⟨d, t1, h1⟩ := wD_of S.mem hv ha
  exact h G H v d _ Q S.mem.ex t1 h1 fun G' H' z res ro hp => st_fin S ro hp q
theorem rdl_data {r : List V → Hp → VK → Prop} {a : List PyData → Kr → Prop} (h : ∀ (G H : Hp) (vs : List V) (ds : List PyData) (P : Kr) (Q : VK), Ext G H → Tops K G H vs ds → a ds P → (∀ G' H' z res, ResOk K G H G' H' z res → P res → Q z H') → r vs H Q) : RDL K r (aDL a) := by
  intro θ A B σ G H vs xs k Q S hv ha q
  obtain ⟨ds, t1, h1⟩ := wDL_of S.mem hv ha
  exact h G H vs ds _ Q S.mem.ex t1 h1 fun G' H' z res ro hp => st_fin S ro hp q
theorem res_int {i : Int} (e : Ext G H) : ResOk K G H G H (.int i) (.v (.int i)) := .v (Stp.refl e) (.int i)
theorem res_bool {i : Bool} (e : Ext G H) : ResOk K G H G H (.bl i) (.v (.bool i)) := .v (Stp.refl e) (.bl i)
theorem res_str {i : Str} (e : Ext G H) : ResOk K G H G H (.str i) (.v (.str i)) := .v (Stp.refl e) (.str i)
theorem res_lst {p : Addr} {vs : List V} {ds : List PyData} (e : Ext G H) (hp : H p = none) (d : DqAll K G vs ds) : ResOk K G H G (upd H p (.lst vs)) (.ref p) (.l ds) := .l (Stp.refl e) hp rfl d
theorem res_tup {p : Addr} {ob : Obj} {vs : List V} {ds : List PyData} (e : Ext G H) (hp : H p = none) (dn : ob.dict = none) (d : DqAll K G vs ds) : ResOk K G H (upd G p (.frz ob (.tup vs))) (upd H p (.frz ob (.tup vs))) (.ref p) (.v (.tuple ds)) :=
  .v (Stp.new e hp) (.tup (.new dn) (dqAll_mono (Stp.new (o := .frz ob (.tup vs)) e hp).gx d))
theorem res_el {v : V} {d : PyData} (e : Ext G H) (h : Dq K G v d) : ResOk K G H G H v (.v d) := .v (Stp.refl e) h

def dAdd : PyData → PyData → Kr → Prop
  | .int i, .int j, k => k (.v (.int (i + j)))
  | .str s, .str t, k => s.length + t.length ≤ sizeLine ∧ k (.v (.str (s ++ t)))
  | .list xs, .list ys, k => xs.length + ys.length ≤ sizeLine ∧ k (.l (xs ++ ys))
  | .tuple xs, .tuple ys, k => xs.length + ys.length ≤ sizeLine ∧ k (.v (.tuple (xs ++ ys)))
  | _, _, _ => False
def isKt : AV → Bool
  | .kt _ => true
  | _ => false
def aAddO : AV → AV → Mem → Kt → Prop := fun x y B k => (isKt x = true → rd B y ≠ some (.tuple [])) ∧ (isKt y = true → rd B x ≠ some (.tuple [])) ∧ aD2 dAdd x y B k
def aAdd : AV → AV → Mem → Kt → Prop := fun x y B k => match isKt x || isKt y with
  | true => aAddO x y B k
  | false => aD2 dAdd x y B k
theorem aAdd_o {x y : AV} {B : Mem} {k : Kt} (h : aAdd x y B k) : aAddO x y B k := by
  unfold aAdd at h
  split at h
  · exact h
  · rename_i e
    rw [Bool.or_eq_false_iff] at e
    exact ⟨fun z => absurd (e.1.symm.trans z) (by decide), fun z => absurd (e.2.symm.trans z) (by decide), h⟩
def rAddA (K : PySem.W.Frag) : R2 := fun x y H Q => rI0 (fun i j => .int (i + j)) x y H Q ∨ (∃ i j, x = .str i ∧ y = .str j ∧ i.length + j.length ≤ sizeLine ∧ Q (.str (i ++ j)) H) ∨ rCat x y H Q ∨ rCatF K x y H Q
theorem opR_or {X : Cx} {f : Value → Value → Sem Value} {r r' : R2} (h : OpR X f r) (h' : OpR X f r') : OpR X f (fun x y H Q => r x y H Q ∨ r' x y H Q) := by
  intro pins s σ H x y v u Q I rx ry q
  rcases q with q | q
  · exact h pins s σ H x y v u Q I rx ry q
  · exact h' pins s σ H x y v u Q I rx ry q
theorem op_addA {X : Cx} : OpR X (binaryOp .Add) (rAddA X.K) := opR_or op_add (opR_or op_add_str (opR_or op_cat op_catF))
theorem wD_rd {v : V} {w : AV} {k : PyData → Prop} (m : MemOk K θ B G H) (h : AVok K G θ v w) (e : wD B w k) : ∃ d, rd B w = some d ∧ Top K G H v d ∧ k d := by
  unfold wD at e
  split at e
  · rename_i d hd
    exact ⟨d, hd, rd_top m h hd, e⟩
  · exact e.elim
theorem tup_sc {v : V} {w : AV} {ds : List PyData} (m : MemOk K θ B G H) (h : AVok K G θ v w) (e : rd B w = some (.tuple ds)) (n : isKt w = false) : Dq K G v (.tuple ds) := by
  cases h with
  | d q => cases e; exact q
  | kt _ _ => cases n
  | sc _ => cases e
  | m hk =>
    unfold rd at e
    simp only at e
    split at e <;> cases e
  | @r k i a b as hk hi =>
    unfold rd at e
    simp only at e
    split at e
    · rename_i rows hb
      cases hr : rows[i]? with
      | none => rw [hr] at e; cases e
      | some _ => rw [hr] at e; cases e
    · cases e
theorem rd_add : RD2 K (rAddA K) aAdd := by
  intro θ A B σ G H v u x y k Q S hv hu ha q
  obtain ⟨n1, n2, ha⟩ := aAdd_o ha
  obtain ⟨d, r1, t1, ha⟩ := wD_rd S.mem hv ha
  obtain ⟨e, r2, t2, h⟩ := wD_rd S.mem hu ha
  have ex := S.mem.ex
  have fin : ∀ G' H' z res, ResOk K G H G' H' z res → wpR B k res → Q z H' := fun G' H' z res ro hp => st_fin S ro hp q
  unfold dAdd at h
  split at h
  · rename_i i j
    exact .inl ⟨i, j, t1.int, t2.int, fin G H _ _ (res_int ex) h⟩
  · rename_i i j
    exact .inr (.inl ⟨i, j, t1.str, t2.str, h.1, fin G H _ _ (res_str ex) h.2⟩)
  · rename_i xs ys
    obtain ⟨a, vs, rfl, e1, d1⟩ := t1.list ex
    obtain ⟨b, us, rfl, e2, d2⟩ := t2.list ex
    refine .inr (.inr (.inl ⟨a, b, vs, us, rfl, rfl, e1, e2, by rw [dqAll_len d1, dqAll_len d2]; exact h.1, fun p hp => fin _ _ _ _ (res_lst ex hp (dqAll_append d1 d2)) h.2⟩))
  · rename_i xs ys
    obtain ⟨a, vs, rfl, e1, d1⟩ := t1.tuple ex
    obtain ⟨b, us, rfl, e2, d2⟩ := t2.tuple ex
    refine .inr (.inr (.inr ⟨a, b, vs, us, rfl, rfl, e1, e2, by rw [dqAll_len d1, dqAll_len d2]; exact h.1, fun z => ?_, fun _ z => ?_, fun _ _ p ob hp dn => fin _ _ _ _ (res_tup ex hp dn (dqAll_append d1 d2)) h.2⟩))
    · have z2 : xs = [] := by
        have := dqAll_len d1
        rw [z] at this
        exact List.eq_nil_of_length_eq_zero this.symm
      subst z2
      have ny : isKt y = false := by
        cases hy : isKt y with
        | false => rfl
        | true => exact absurd r1 (n2 hy)
      exact fin G H _ _ (res_el ex (tup_sc S.mem hu r2 ny)) h.2
    · have z2 : ys = [] := by
        have := dqAll_len d2
        rw [z] at this
        exact List.eq_nil_of_length_eq_zero this.symm
      subst z2
      have nx : isKt x = false := by
        cases hx : isKt x with
        | false => rfl
        | true => exact absurd r2 (n1 hx)
      have h2 := h.2
      rw [List.append_nil] at h2
      exact fin G H _ _ (res_el ex (tup_sc S.mem hv r1 nx)) h2
  · exact h.elim
def dSub : PyData → PyData → Kr → Prop
  | .int i, .int j, k => k (.v (.int (i - j)))
  | _, _, _ => False
theorem rd_sub : RD2 K (rI0 fun i j => .int (i - j)) (aD2 dSub) := rd2_data fun G H v u d e P Q ex t1 t2 h q => by
  unfold dSub at h
  split at h
  · rename_i i j
    exact ⟨i, j, t1.int, t2.int, q G H _ _ (res_int ex) h⟩
  · exact h.elim
def MulOk (i j : Int) : Prop := CMul i j ∨ CMulW i j
def dMul : PyData → PyData → Kr → Prop
  | .int i, .int j, k => MulOk i j ∧ k (.v (.int (i * j)))
  | .list xs, .int n, k => -(2 ^ 63) ≤ n ∧ n < 2 ^ 63 ∧ xs.length * n.toNat ≤ sizeLine ∧ k (.l (List.replicate n.toNat xs).flatten)
  | _, _, _ => False
def rMulA : R2 := fun x y H Q => rI CMul (fun i j => .int (i * j)) x y H Q ∨ rI CMulW (fun i j => .int (i * j)) x y H Q ∨ rRep x y H Q
theorem op_mulA {X : Cx} : OpR X (binaryOp .Mult) rMulA := opR_or op_mul (opR_or op_mulW op_rep)
theorem dqAll_rep {vs : List V} {ds : List PyData} (h : DqAll K G vs ds) : ∀ n : Nat, DqAll K G (List.replicate n vs).flatten (List.replicate n ds).flatten
  | 0 => .nil
  | n + 1 => by
    rw [List.replicate_succ, List.replicate_succ, List.flatten_cons, List.flatten_cons]
    exact dqAll_append h (dqAll_rep h n)
theorem rd_mul : RD2 K rMulA (aD2 dMul) := rd2_data fun G H v u d e P Q ex t1 t2 h q => by
  unfold dMul at h
  split at h
  · rename_i i j
    rcases h.1 with c | c
    · exact .inl ⟨i, j, t1.int, t2.int, c, q G H _ _ (res_int ex) h.2⟩
    · exact .inr (.inl ⟨i, j, t1.int, t2.int, c, q G H _ _ (res_int ex) h.2⟩)
  · rename_i xs n
    obtain ⟨a, vs, rfl, e1, d1⟩ := t1.list ex
    refine .inr (.inr ⟨a, n, vs, rfl, t2.int, e1, h.1, h.2.1, by rw [dqAll_len d1]; exact h.2.2.1, fun p hp => q _ _ _ _ (res_lst ex hp (dqAll_rep d1 _)) h.2.2.2⟩)
  · exact h.elim
def dDiv : PyData → PyData → Kr → Prop
  | .int i, .int j, k => CDivW i j ∧ k (.v (.int (i / j)))
  | _, _, _ => False
theorem rd_div : RD2 K (rI CDivW fun i j => .int (i / j)) (aD2 dDiv) := rd2_data fun G H v u d e P Q ex t1 t2 h q => by
  unfold dDiv at h
  split at h
  · rename_i i j
    exact ⟨i, j, t1.int, t2.int, h.1, q G H _ _ (res_int ex) h.2⟩
  · exact h.elim
def dMod : PyData → PyData → Kr → Prop
  | .int i, .int j, k => 0 < j ∧ k (.v (.int (i % j)))
  | _, _, _ => False
theorem rd_mod : RD2 K (rI (fun _ j => 0 < j) fun i j => .int (i % j)) (aD2 dMod) := rd2_data fun G H v u d e P Q ex t1 t2 h q => by
  unfold dMod at h
  split at h
  · rename_i i j
    exact ⟨i, j, t1.int, t2.int, h.1, q G H _ _ (res_int ex) h.2⟩
  · exact h.elim
def dPow : PyData → PyData → Kr → Prop
  | .int i, .int j, k => CPow i j ∧ k (.v (.int (i ^ j.toNat)))
  | _, _, _ => False
theorem rd_pow : RD2 K (rI CPow fun i j => .int (i ^ j.toNat)) (aD2 dPow) := rd2_data fun G H v u d e P Q ex t1 t2 h q => by
  unfold dPow at h
  split at h
  · rename_i i j
    exact ⟨i, j, t1.int, t2.int, h.1, q G H _ _ (res_int ex) h.2⟩
  · exact h.elim
def dNeg : PyData → Kr → Prop
  | .int i, k => k (.v (.int (-i)))
  | _, _ => False
theorem rd_neg : RD1 K (rU fun i => .int (-i)) (aD1 dNeg) := rd1_data fun G H v d P Q ex t1 h q => by
  unfold dNeg at h
  split at h
  · rename_i i
    exact ⟨i, t1.int, q G H _ _ (res_int ex) h⟩
  · exact h.elim

def dEqK (d e : PyData) (k : Bool → Prop) : Prop := match d, e with
  | .int i, .int j => k (decide (i = j))
  | .str i, .str j => k (decide (i = j))
  | .bool i, .bool j => k (decide (i = j))
  | d, e => SeqAt.shaped d = true ∧ SeqAt.shaped e = true ∧ k (PyData.eqv d e)
def rEqA (K : PySem.W.Frag) : R2 := fun x y H Q => rEq x y H Q ∨ rEqD K x y H Q
def rNeA (K : PySem.W.Frag) : R2 := fun x y H Q => rNe x y H Q ∨ rNeD K x y H Q
theorem op_eqA {X : Cx} (hu : X.A.units + 64 < cLine) : OpR X (compareOp .Eq) (rEqA X.K) := opR_or op_eq (op_eqD hu)
theorem op_neA {X : Cx} (hu : X.A.units + 64 < cLine) : OpR X (compareOp .NotEq) (rNeA X.K) := opR_or op_ne (op_neD hu)
theorem eqK_of {v u : V} {d e : PyData} {k : Bool → Prop} (ex : Ext G H) (t1 : Top K G H v d) (t2 : Top K G H u e) (h : dEqK d e k) :
    (scal v u = true ∧ k (decide (v = u))) ∨ (Dp K H v d ∧ Dp K H u e ∧ SeqAt.shaped d = true ∧ SeqAt.shaped e = true ∧ k (PyData.eqv d e)) := by
  unfold dEqK at h
  split at h
  · rw [t1.int, t2.int]
    exact .inl ⟨rfl, by simpa using h⟩
  · rw [t1.str, t2.str]
    exact .inl ⟨rfl, by simpa using h⟩
  · rw [t1.bool, t2.bool]
    exact .inl ⟨rfl, by simpa using h⟩
  · exact .inr ⟨t1.dp ex, t2.dp ex, h⟩
def dEq (d e : PyData) (k : Kr) : Prop := dEqK d e fun b => k (.v (.bool b))
def dNe (d e : PyData) (k : Kr) : Prop := dEqK d e fun b => k (.v (.bool (!b)))
theorem rd_eq : RD2 K (rEqA K) (aD2 dEq) := rd2_data fun G H v u d e P Q ex t1 t2 h q => by
  rcases eqK_of ex t1 t2 h with ⟨h1, h2⟩ | ⟨h1, h2, h3, h4, h5⟩
  · exact .inl ⟨h1, q G H _ _ (res_bool ex) h2⟩
  · exact .inr ⟨d, e, h1, h2, h3, h4, q G H _ _ (res_bool ex) h5⟩
theorem rd_ne : RD2 K (rNeA K) (aD2 dNe) := rd2_data fun G H v u d e P Q ex t1 t2 h q => by
  rcases eqK_of ex t1 t2 h with ⟨h1, h2⟩ | ⟨h1, h2, h3, h4, h5⟩
  · exact .inl ⟨h1, q G H _ _ (res_bool ex) h2⟩
  · exact .inr ⟨d, e, h1, h2, h3, h4, q G H _ _ (res_bool ex) h5⟩
def dLt : PyData → PyData → Kr → Prop
  | .int i, .int j, k => k (.v (.bool (decide (i < j))))
  | .str i, .str j, k => k (.v (.bool (decide (i.cps.toList < j.cps.toList))))
  | _, _, _ => False
def rLtA : R2 := fun x y H Q => rI0 (fun i j => .bl (decide (i < j))) x y H Q ∨ ∃ i j, x = .str i ∧ y = .str j ∧ Q (.bl (decide (i.cps.toList < j.cps.toList))) H
theorem op_ltA {X : Cx} : OpR X (compareOp .Lt) rLtA := opR_or op_lt op_lt_str
theorem rd_lt : RD2 K rLtA (aD2 dLt) := rd2_data fun G H v u d e P Q ex t1 t2 h q => by
  unfold dLt at h
  split at h
  · rename_i i j
    exact .inl ⟨i, j, t1.int, t2.int, q G H _ _ (res_bool ex) h⟩
  · rename_i i j
    exact .inr ⟨i, j, t1.str, t2.str, q G H _ _ (res_bool ex) h⟩
  · exact h.elim
def dLe : PyData → PyData → Kr → Prop
  | .int i, .int j, k => k (.v (.bool (decide (i ≤ j))))
  | _, _, _ => False
theorem rd_le : RD2 K (rI0 fun i j => .bl (decide (i ≤ j))) (aD2 dLe) := rd2_data fun G H v u d e P Q ex t1 t2 h q => by
  unfold dLe at h
  split at h
  · rename_i i j
    exact ⟨i, j, t1.int, t2.int, q G H _ _ (res_bool ex) h⟩
  · exact h.elim
def dGt : PyData → PyData → Kr → Prop
  | .int i, .int j, k => k (.v (.bool (decide (j < i))))
  | _, _, _ => False
theorem rd_gt : RD2 K (rI0 fun i j => .bl (decide (j < i))) (aD2 dGt) := rd2_data fun G H v u d e P Q ex t1 t2 h q => by
  unfold dGt at h
  split at h
  · rename_i i j
    exact ⟨i, j, t1.int, t2.int, q G H _ _ (res_bool ex) h⟩
  · exact h.elim
def dGe : PyData → PyData → Kr → Prop
  | .int i, .int j, k => k (.v (.bool (decide (j ≤ i))))
  | _, _, _ => False
theorem rd_ge : RD2 K (rI0 fun i j => .bl (decide (j ≤ i))) (aD2 dGe) := rd2_data fun G H v u d e P Q ex t1 t2 h q => by
  unfold dGe at h
  split at h
  · rename_i i j
    exact ⟨i, j, t1.int, t2.int, q G H _ _ (res_bool ex) h⟩
  · exact h.elim
def isN : AV → Bool
  | .d .none => true
  | _ => false
def aIs (neg : Bool) : AV → AV → Mem → Kt → Prop := fun x y B k => match y with
  | .d .none => k (.d (.bool (if neg then !isN x else isN x))) B
  | _ => False
theorem isN_of {v : V} {x : AV} (h : AVok K G θ v x) : decide (v = V.non) = isN x := by
  cases h with
  | d h => cases h <;> rfl
  | kt _ _ => rfl
  | sc _ => rfl
  | m _ => rfl
  | r _ _ => rfl
theorem rd_is : RD2 K (fun x y H Q => y = .non ∧ Q (.bl (decide (x = .non))) H) (aIs false) := by
  intro θ A B σ G H v u x y k Q S hv hu ha q
  unfold aIs at ha
  split at ha
  · cases hu with
    | d hn =>
      cases hn
      exact ⟨rfl, q θ B G H _ _ Gr.refl S (by rw [isN_of hv]; exact .d (.bl _)) ha⟩
  · exact ha.elim
theorem rd_isnot : RD2 K (fun x y H Q => y = .non ∧ Q (.bl (!decide (x = .non))) H) (aIs true) := by
  intro θ A B σ G H v u x y k Q S hv hu ha q
  unfold aIs at ha
  split at ha
  · cases hu with
    | d hn =>
      cases hn
      exact ⟨rfl, q θ B G H _ _ Gr.refl S (by rw [isN_of hv]; exact .d (.bl _)) ha⟩
  · exact ha.elim
end
end Dl

namespace Dl
open L2 PySem PyProof.Rows PySem.Spec

section
variable {K : PySem.W.Frag} {θ : Th} {A : Env} {B : Mem} {σ : L2.St} {G H : Hp}
theorem Stp.junk {p : Addr} {o : HO} (e : Ext G H) (hp : H p = none) : Stp G H G (upd H p o) :=
  ⟨Ext.refl _, Ext.new hp, e.side (e.fresh hp), fun _ h => .inl h⟩
theorem Stp.st {G' H' : Hp} (s : Stp G H G' H') (S : StOk K θ A B σ G H) : StOk K θ A B σ G' H' := ⟨s.mem S.mem, S.slots.mono s.gx (List.prefix_refl _)⟩

def keyD : PyData → Option Key
  | .int i => some (.inl i)
  | .str s => some (.inr s)
  | _ => none
def keysL : List PyData → Option (List Key)
  | [] => some []
  | d :: ds => match keyD d, keysL ds with
    | some k, some ks => some (k :: ks)
    | _, _ => none
def keyT : PyData → Option (List Key)
  | .tuple _ => none
  | _ => none
theorem keyD_of {v : V} {d : PyData} {k : Key} (h : Dq K G v d) (e : keyD d = some k) : v = kV k := by
  cases h <;> first | (cases e; rfl) | cases e
theorem keysL_of : ∀ {vs : List V} {ds : List PyData} {ks : List Key}, DqAll K G vs ds → keysL ds = some ks → vs = ks.map kV
  | _, _, _, .nil, e => by cases e; rfl
  | _, _, ks, .cons h t, e => by
    unfold keysL at e
    split at e
    · rename_i k ks' h1 h2
      cases e
      rw [keyD_of h h1, keysL_of t h2]
      rfl
    · cases e
section
variable {κ : Type} [DecidableEq κ]
def lookK (kvs : List (κ × PyData)) (k : κ) : Option PyData := (kvs.find? fun kv => decide (kv.1 = k)).map (·.2)
def putD (kvs : List (κ × PyData)) (k : κ) (v : PyData) : List (κ × PyData) :=
  if (kvs.any fun z => decide (z.1 = k)) = true then kvs.map (fun z => if z.1 = k then (z.1, v) else z) else kvs ++ [(k, v)]
theorem kv_look {vs : List (κ × V)} {ds : List (κ × PyData)} (h : KvOk K G vs ds) (k : κ) : (∃ v d, valV vs k = some v ∧ lookK ds k = some d ∧ Dq K G v d) ∨ (valV vs k = none ∧ lookK ds k = none) := by
  induction h with
  | nil => exact .inr ⟨rfl, rfl⟩
  | @cons k' v d vs ds hd t ih =>
    by_cases e : k' = k
    · exact .inl ⟨v, d, by simp [valV, e], by simp [lookK, e], hd⟩
    · simp only [valV, lookK, List.find?_cons, e, decide_false] at ih ⊢
      exact ih
theorem kv_any {vs : List (κ × V)} {ds : List (κ × PyData)} (h : KvOk K G vs ds) (k : κ) : (vs.any fun kv => decide (kv.1 = k)) = ds.any fun kv => decide (kv.1 = k) := by
  induction h with
  | nil => rfl
  | cons _ _ ih => rw [List.any_cons, List.any_cons, ih]
theorem kv_put {vs : List (κ × V)} {ds : List (κ × PyData)} (h : KvOk K G vs ds) (k : κ) {v : V} {d : PyData} (hd : Dq K G v d) : KvOk K G (putK vs k v) (putD ds k d) := by
  have m : ∀ {vs : List (κ × V)} {ds : List (κ × PyData)}, KvOk K G vs ds → KvOk K G (vs.map fun kv => if kv.1 = k then (kv.1, v) else kv) (ds.map fun kv => if kv.1 = k then (kv.1, d) else kv) := fun h => by
    induction h with
    | nil => exact .nil
    | @cons k' v' d' vs ds h1 _ ih =>
      rw [List.map_cons, List.map_cons]
      by_cases e : k' = k
      · simp only [e, if_true]
        exact .cons hd ih
      · simp only [e, if_false]
        exact .cons h1 ih
  have a : ∀ {vs : List (κ × V)} {ds : List (κ × PyData)}, KvOk K G vs ds → KvOk K G (vs ++ [(k, v)]) (ds ++ [(k, d)]) := fun h => by
    induction h with
    | nil => exact .cons hd .nil
    | cons h1 _ ih => exact .cons h1 ih
  unfold putK putD
  rw [kv_any h k]
  split
  · exact m h
  · exact a h
theorem kv_len {vs : List (κ × V)} {ds : List (κ × PyData)} (h : KvOk K G vs ds) : vs.length = ds.length := by
  induction h with
  | nil => rfl
  | cons _ _ ih => rw [List.length_cons, List.length_cons, ih]
end
inductive DictC where
  | k (kvs : List (Key × PyData)) | t (kvs : List (List Key × PyData))
def dictOf (B : Mem) : AV → Option DictC
  | .m j => match B[j]? with
    | some (.dK kvs) => some (.k kvs)
    | some (.lk kvs) => some (.k kvs)
    | some (.dT kvs) => some (.t kvs)
    | _ => none
  | _ => none
def wK (y : AV) (k : PyData → Prop) : Prop := match y with
  | .d d => k d
  | _ => False
theorem wK_of {v : V} {y : AV} {k : PyData → Prop} (hv : AVok K G θ v y) (h : wK y k) : ∃ d, Dq K G v d ∧ k d := by
  unfold wK at h
  split at h
  · cases hv with
    | d q => exact ⟨_, q, h⟩
  · exact h.elim
def dlook (c : DictC) (d : PyData) (k : Option PyData → Prop) : Prop := match c with
  | .k kvs => ∃ key, keyD d = some key ∧ k (lookK kvs key)
  | .t kvs => ∃ key, keyT d = some key ∧ k (lookK kvs key)
theorem dict_at {v : V} {x : AV} {c : DictC} (m : MemOk K θ B G H) (hv : AVok K G θ v x) (e : dictOf B x = some c) :
    ∃ a, v = .ref a ∧ ((∃ kvs vs, c = .k kvs ∧ Rd H a (.dK vs) ∧ KvOk K G vs kvs) ∨ ∃ kvs vs, c = .t kvs ∧ H a = some (.dT vs) ∧ KvOk K G vs kvs) := by
  cases hv with
  | d _ => cases e
  | kt _ _ => cases e
  | sc _ => cases e
  | r _ _ => cases e
  | @m j a as hk =>
    obtain ⟨cc, hb, hc⟩ := m.cells.get hk
    simp only [dictOf, hb] at e
    cases hc with
    | dK q r => cases e; exact ⟨a, rfl, .inl ⟨_, _, rfl, .inl q, r⟩⟩
    | lk q r => cases e; exact ⟨a, rfl, .inl ⟨_, _, rfl, .inr ⟨_, q⟩, r⟩⟩
    | dT q r => cases e; exact ⟨a, rfl, .inr ⟨_, _, rfl, q, r⟩⟩
    | lst _ _ => cases e
    | mat _ _ => cases e
theorem dget_of {v u : V} {x : AV} {d : PyData} {c : DictC} {k : Option PyData → Prop} (m : MemOk K θ B G H) (hv : AVok K G θ v x) (e : dictOf B x = some c) (hu : Dq K G u d) (h : dlook c d k) :
    ∃ a o o', v = .ref a ∧ DGet H a u o ∧ k o' ∧ ((∃ z d, o = some z ∧ o' = some d ∧ Dq K G z d) ∨ (o = none ∧ o' = none)) := by
  obtain ⟨a, rfl, ⟨kvs, vs, rfl, q, r⟩ | ⟨kvs, vs, rfl, q, r⟩⟩ := dict_at m hv e
  · obtain ⟨key, ek, h⟩ := h
    rw [keyD_of hu ek]
    rcases kv_look r key with ⟨z, d', h1, h2, h3⟩ | ⟨h1, h2⟩
    · exact ⟨a, _, _, rfl, .inl ⟨vs, key, q, rfl, rfl⟩, h, .inl ⟨z, d', h1, h2, h3⟩⟩
    · exact ⟨a, _, _, rfl, .inl ⟨vs, key, q, rfl, rfl⟩, h, .inr ⟨h1, h2⟩⟩
  · obtain ⟨key, ek, h⟩ := h
    have tk : ∃ b, u = .ref b ∧ H b = some (.tup (key.map kV)) := by
      unfold keyT at ek
      split at ek <;> cases ek
    obtain ⟨b, rfl, hb2⟩ := tk
    rcases kv_look r key with ⟨z, d', h1, h2, h3⟩ | ⟨h1, h2⟩
    · exact ⟨a, _, _, rfl, DGet.t q hb2, h, .inl ⟨z, d', h1, h2, h3⟩⟩
    · exact ⟨a, _, _, rfl, DGet.t q hb2, h, .inr ⟨h1, h2⟩⟩

def flatD : PyData → Bool
  | .list _ => false
  | .tuple _ => false
  | .dict _ => false
  | _ => true
theorem flat_of {v : V} {d : PyData} (h : Dq K G v d) (f : flatD d = true) : flatV v = true := by
  cases h <;> first | rfl | cases f
theorem flat_all : ∀ {vs : List V} {ds : List PyData}, DqAll K G vs ds → ds.all flatD = true → vs.all flatV = true
  | _, _, .nil, _ => rfl
  | _, _, .cons h t, f => by
    rw [List.all_cons, Bool.and_eq_true] at f ⊢
    exact ⟨flat_of h f.1, flat_all t f.2⟩
theorem eqV_eqv {v u : V} {d e : PyData} (h : Dq K G v d) (h2 : Dq K G u e) (f : flatD d = true) (f2 : flatD e = true) : eqV v u = PyData.eqv d e := by
  cases h <;> cases h2 <;> first | exact absurd f Bool.false_ne_true | exact absurd f2 Bool.false_ne_true | simp [eqV, PyData.eqv]
theorem inV_any {v : V} {d : PyData} (h : Dq K G v d) (f : flatD d = true) : ∀ {vs : List V} {ds : List PyData}, DqAll K G vs ds → ds.all flatD = true → inV v vs = ds.any fun z => PyData.eqv z d
  | _, _, .nil, _ => rfl
  | _, _, .cons q t, g => by
    rw [List.all_cons, Bool.and_eq_true] at g
    have ih := inV_any h f t g.2
    unfold inV at ih ⊢
    rw [List.any_cons, List.any_cons, ih, eqV_eqv q h g.1 f]
def dIn (d e : PyData) (k : Bool → Prop) : Prop := match e with
  | .list ys => ((flatD d = true ∧ ys.all flatD = true) ∨ (SeqAt.shaped d = true ∧ SeqAt.shaped (.list ys) = true)) ∧ k (ys.any fun z => PyData.eqv z d)
  | .tuple ys => (flatD d = true ∧ ys.all flatD = true) ∧ k (ys.any fun z => PyData.eqv z d)
  | .str z => ∃ c, d = .str ⟨#[c]⟩ ∧ k (decide (c ∈ z.cps.toList))
  | _ => False
def aIn (neg : Bool) (x y : AV) (B : Mem) (k : Kt) : Prop := match dictOf B y with
  | some c => wK x fun d => dlook c d fun o => k (.d (.bool (if neg then !o.isSome else o.isSome))) B
  | none => wD B x fun d => wD B y fun e => dIn d e fun b => k (.d (.bool (if neg then !b else b))) B
def rInDict (neg : Bool) : R2 := fun y x H Q => ∃ a o, x = .ref a ∧ DGet H a y o ∧ Q (.bl (if neg then !o.isSome else o.isSome)) H
theorem op_inDict {X : Cx} (hu : X.A.units + 1 < cLine) : OpR X (compareOp .In) (rInDict false) := by
  intro pins s σ H y x iv u Q I ry rx h
  obtain ⟨a, o, rfl, g, q⟩ := h
  cases rx
  exact d_in hu I g ry fun s3 I3 => ⟨.bl o.isSome, H, I3, rfl, q⟩
theorem op_notInDict {X : Cx} (hu : X.A.units + 1 < cLine) : OpR X (compareOp .NotIn) (rInDict true) := by
  intro pins s σ H y x iv u Q I ry rx h
  obtain ⟨a, o, rfl, g, q⟩ := h
  cases rx
  exact d_notIn hu I g ry fun s3 I3 => ⟨.bl (!o.isSome), H, I3, rfl, q⟩
def rInSign (neg : Bool) : R2 := fun x y H Q => ∃ (c : Nat) (z : Str), x = .str ⟨#[c]⟩ ∧ y = .str z ∧ Q (.bl (if neg then !(decide (c ∈ z.cps.toList)) else decide (c ∈ z.cps.toList))) H
def rInDeep (K : PySem.W.Frag) (neg : Bool) : R2 := fun x y H Q => ∃ d ds, Dp K H x d ∧ Dp K H y (.list ds) ∧ SeqAt.shaped d = true ∧ SeqAt.shaped (.list ds) = true ∧ Q (.bl (if neg then !(ds.any fun z => PyData.eqv z d) else (ds.any fun z => PyData.eqv z d))) H
def rInA (K : PySem.W.Frag) (neg : Bool) : R2 := fun x y H Q => rInDict neg x y H Q ∨ rIn K neg x y H Q ∨ rInDeep K neg x y H Q ∨ rInSign neg x y H Q
theorem op_inA {X : Cx} (hu : X.A.units + 65 < cLine) : OpR X (compareOp .In) (rInA X.K false) :=
  opR_or (op_inDict (by omega)) (opR_or op_in_seq (opR_or (op_inD hu) op_in_sign))
theorem op_notInA {X : Cx} (hu : X.A.units + 65 < cLine) : OpR X (compareOp .NotIn) (rInA X.K true) :=
  opR_or (op_notInDict (by omega)) (opR_or op_notIn_seq (opR_or (op_notInD hu) op_notIn_sign))
theorem top_flat {v : V} {d : PyData} (t : Top K G H v d) (f : flatD d = true) : Dq K G v d := by
  cases t with
  | sc h => exact h
  | ls _ _ => cases f
  | kt _ _ => cases f
theorem rd_in {neg : Bool} : RD2 K (rInA K neg) (aIn neg) := by
  intro θ A B σ G H v u x y k Q S hv hu ha q
  unfold aIn at ha
  split at ha
  · rename_i c hc
    obtain ⟨d, hd, h⟩ := wK_of hv ha
    obtain ⟨a, o, o', rfl, g, hk, hr⟩ := dget_of S.mem hu hc hd h
    have e : o.isSome = o'.isSome := by
      rcases hr with ⟨z, d', rfl, rfl, _⟩ | ⟨rfl, rfl⟩ <;> rfl
    refine .inl ⟨a, o, rfl, g, ?_⟩
    rw [e]
    exact q θ B G H _ _ Gr.refl S (.d (.bl _)) hk
  · obtain ⟨d, t1, h1⟩ := wD_of S.mem hv ha
    obtain ⟨e, t2, h⟩ := wD_of S.mem hu h1
    have ex := S.mem.ex
    unfold dIn at h
    split at h
    · rename_i ys
      obtain ⟨b, us, rfl, e2, d2⟩ := t2.list ex
      rcases h.1 with ⟨f1, f2⟩ | ⟨f1, f2⟩
      · refine .inr (.inl ⟨b, us, rfl, .inl (SqL.of e2), flat_of (top_flat t1 f1) f1, flat_all d2 f2, ?_⟩)
        rw [inV_any (top_flat t1 f1) f1 d2 f2]
        exact q θ B G H _ _ Gr.refl S (.d (.bl _)) h.2
      · exact .inr (.inr (.inl ⟨d, ys, t1.dp ex, t2.dp ex, f1, f2, q θ B G H _ _ Gr.refl S (.d (.bl _)) h.2⟩))
    · rename_i ys
      obtain ⟨b, us, rfl, e2, d2⟩ := t2.tuple ex
      obtain ⟨⟨f1, f2⟩, h⟩ := h
      refine .inr (.inl ⟨b, us, rfl, .inr e2, flat_of (top_flat t1 f1) f1, flat_all d2 f2, ?_⟩)
      rw [inV_any (top_flat t1 f1) f1 d2 f2]
      exact q θ B G H _ _ Gr.refl S (.d (.bl _)) h
    · obtain ⟨c, rfl, h⟩ := h
      exact .inr (.inr (.inr ⟨c, _, t1.str, t2.str, q θ B G H _ _ Gr.refl S (.d (.bl _)) h⟩))
    · exact h.elim

def rIxDict : R2 := fun x y H Q => ∃ a v, x = .ref a ∧ DGet H a y (some v) ∧ Q v H
theorem ix_dict {X : Cx} (hu : X.A.units + 1 < cLine) : IxR X rIxDict := by
  intro value slice pins s σ H x y v u Q I rx ry h hs
  obtain ⟨a, z, rfl, g, q⟩ := h
  cases rx
  exact tail_any (dict_typeIs I g) PySem.F.slot_dict_getitem.lookup (d_getItem hu I g ry fun w' s3 I3 rw' => ⟨z, H, I3, rw', q⟩) hs
def rIxA (K : PySem.W.Frag) : R2 := fun x y H Q => rIx K x y H Q ∨ rIxDict x y H Q
theorem ix_any {X : Cx} (hu : X.A.units + 1 < cLine) : IxR X (rIxA X.K) := IxR.or ix_seq (ix_dict hu)
def dIx (d e : PyData) (k : Kr) : Prop := match d, e with
  | .list xs, .int i => ∃ x, atI xs i = some x ∧ k (.v x)
  | .tuple xs, .int i => ∃ x, atI xs i = some x ∧ k (.v x)
  | .str z, .int i => z.length ≤ sizeLine ∧ ∃ c, atI z.cps.toList i = some c ∧ k (.v (.str ⟨#[c]⟩))
  | _, _ => False
inductive Kd where
  | dict (c : DictC) | mat (j : Nat) (rows : List (List PyData)) | scr (ns : List Int) | data
def kdOf (B : Mem) : AV → Kd
  | .m j => match B[j]? with
    | some (.dK kvs) => .dict (.k kvs)
    | some (.lk kvs) => .dict (.k kvs)
    | some (.dT kvs) => .dict (.t kvs)
    | some (.mat rows) => .mat j rows
    | _ => .data
  | .sc ns => .scr ns
  | _ => .data
theorem kd_dict {x : AV} {c : DictC} (h : kdOf B x = .dict c) : dictOf B x = some c := by
  unfold kdOf at h
  split at h
  · split at h
    · rename_i hb; cases h; simp only [dictOf, hb]
    · rename_i hb; cases h; simp only [dictOf, hb]
    · rename_i hb; cases h; simp only [dictOf, hb]
    · cases h
    · cases h
  · cases h
  · cases h
theorem kd_mat {x : AV} {j : Nat} {rows : List (List PyData)} (h : kdOf B x = .mat j rows) : x = .m j ∧ B[j]? = some (.mat rows) := by
  unfold kdOf at h
  split at h
  · split at h
    · cases h
    · cases h
    · cases h
    · rename_i hb; cases h; exact ⟨rfl, hb⟩
    · cases h
  · cases h
  · cases h
theorem kd_scr {x : AV} {ns : List Int} (h : kdOf B x = .scr ns) : x = .sc ns := by
  unfold kdOf at h
  split at h
  · split at h <;> cases h
  · cases h; rfl
  · cases h
theorem cell_mat {j : Nat} {v : V} {rows : List (List PyData)} (m : MemOk K θ B G H) (hv : AVok K G θ v (.m j)) (hb : B[j]? = some (.mat rows)) : ∃ a rs, v = .ref a ∧ θ[j]? = some (a :: rs) ∧ H a = some (.lst (rs.map V.ref)) ∧ RowsOk K G H rs rows := by
  cases hv with
  | @m _ a as hk =>
    obtain ⟨c, hc1, hc⟩ := m.cells.get hk
    rw [hb] at hc1
    cases hc1
    cases hc with
    | mat e r => exact ⟨a, as, rfl, hk, e, r⟩
theorem cell_scr {v : V} {ns : List Int} (m : MemOk K θ B G H) (hv : AVok K G θ v (.sc ns)) : ∃ a, v = .ref a ∧ SqL K H a (ns.map V.int) := by
  cases hv with
  | sc h => exact ⟨_, rfl, ext_l m.ex h⟩
theorem cell_lst {j : Nat} {v : V} {ds : List PyData} (m : MemOk K θ B G H) (hv : AVok K G θ v (.m j)) (hb : B[j]? = some (.lst ds)) : ∃ a vs, v = .ref a ∧ θ[j]? = some [a] ∧ H a = some (.lst vs) ∧ DqAll K G vs ds := by
  cases hv with
  | @m _ a as hk =>
    obtain ⟨c, hc1, hc⟩ := m.cells.get hk
    rw [hb] at hc1
    cases hc1
    cases hc with
    | lst e r => exact ⟨a, _, rfl, hk, e, r⟩
def aIx (x y : AV) (B : Mem) (k : Kt) : Prop := match kdOf B x with
  | .dict c => wK y fun d => dlook c d fun o => ∃ z, o = some z ∧ k (.d z) B
  | .mat j rows => wK y fun d => ∃ i n, d = .int i ∧ ixN rows.length i = some n ∧ k (.r j n) B
  | .scr ns => wK y fun d => ∃ i n, d = .int i ∧ atI ns i = some n ∧ k (.d (.int n)) B
  | .data => aD2 dIx x y B k
theorem atI_of {vs : List V} {ds : List PyData} {i : Int} {x : PyData} (h : DqAll K G vs ds) (e : atI ds i = some x) : ∃ v, atI vs i = some v ∧ Dq K G v x := by
  unfold atI at e ⊢
  rw [dqAll_len h]
  cases q : ixN ds.length i with
  | none => rw [q] at e; cases e
  | some j =>
    rw [q] at e
    exact dqAll_get h e
theorem rows_len {as : List Addr} {rows : List (List PyData)} (h : RowsOk K G H as rows) : as.length = rows.length := by
  induction h with
  | nil => rfl
  | cons _ _ _ ih => rw [List.length_cons, List.length_cons, ih]
theorem ixN_lt {n : Nat} {i : Int} {j : Nat} (h : ixN n i = some j) : j < n := (ixN_seq h).2.1
theorem rd_ix : RD2 K (rIxA K) aIx := by
  intro θ A B σ G H v u x y k Q S hv hu ha q
  unfold aIx at ha
  split at ha
  · rename_i c hc
    obtain ⟨d, hd, h⟩ := wK_of hu ha
    obtain ⟨a, o, o', rfl, g, ⟨z, rfl, hk⟩, hr⟩ := dget_of S.mem hv (kd_dict hc) hd h
    rcases hr with ⟨z', d', rfl, e2, dq⟩ | ⟨_, e2⟩
    · cases e2
      exact .inr ⟨a, z', rfl, g, q θ B G H _ _ Gr.refl S (.d dq) hk⟩
    · cases e2
  · rename_i j rows hc
    obtain ⟨d, hd, i, n, rfl, hn, hk⟩ := wK_of hu ha
    cases hd
    obtain ⟨rfl, hb⟩ := kd_mat hc
    obtain ⟨a, as, rfl, hk', e, r⟩ := cell_mat S.mem hv hb
    have hl := rows_len r
    have hlt := ixN_lt hn
    obtain ⟨b, hb2⟩ : ∃ b, as[n]? = some b := ⟨as[n]'(by omega), by simp⟩
    refine .inl (.inl ⟨a, _, i, .ref b, rfl, rfl, SqL.of e, ?_, q θ B G H _ _ Gr.refl S (.r hk' hb2) hk⟩)
    unfold atI
    rw [List.length_map, hl, hn]
    show (as.map V.ref)[n]? = _
    rw [List.getElem?_map, hb2]
    rfl
  · rename_i ns hc
    obtain ⟨d, hd, i, n, rfl, hn, hk⟩ := wK_of hu ha
    cases hd
    have hx := kd_scr hc
    subst hx
    obtain ⟨a, rfl, e⟩ := cell_scr S.mem hv
    refine .inl (.inl ⟨a, _, i, .int n, rfl, rfl, e, ?_, q θ B G H _ _ Gr.refl S (.d (.int n)) hk⟩)
    unfold atI at hn ⊢
    rw [List.length_map]
    cases w : ixN ns.length i with
    | none => rw [w] at hn; cases hn
    | some j =>
      rw [w] at hn
      show (ns.map V.int)[j]? = _
      have hn : ns[j]? = some n := hn
      rw [List.getElem?_map, hn]
      rfl
  · obtain ⟨d, t1, h1⟩ := wD_of S.mem hv ha
    obtain ⟨e, t2, h⟩ := wD_of S.mem hu h1
    have ex := S.mem.ex
    have fin : ∀ G' H' z res, ResOk K G H G' H' z res → wpR B k res → Q z H' := fun G' H' z res ro hp => st_fin S ro hp q
    unfold dIx at h
    split at h
    · obtain ⟨z, hz, h⟩ := h
      obtain ⟨a, vs, rfl, e1, d1⟩ := t1.list ex
      obtain ⟨w, hw, dw⟩ := atI_of d1 hz
      exact .inl (.inl ⟨a, vs, _, w, rfl, t2.int, SqL.of e1, hw, fin G H _ _ (res_el ex dw) h⟩)
    · obtain ⟨z, hz, h⟩ := h
      obtain ⟨a, vs, rfl, e1, d1⟩ := t1.tuple ex
      obtain ⟨w, hw, dw⟩ := atI_of d1 hz
      exact .inl (.inr (.inl ⟨a, vs, _, w, rfl, t2.int, e1, hw, fin G H _ _ (res_el ex dw) h⟩))
    · obtain ⟨hz, c, hc, h⟩ := h
      exact .inl (.inr (.inr ⟨_, _, c, t1.str, t2.int, hz, hc, fin G H _ _ (res_str ex) h⟩))
    · exact h.elim
end
end Dl

namespace Dl
open L2 PySem PyProof.Rows PySem.Spec
def Calm (A : Around) : Prop := A.guards = some []
structure Shown (d : PyData) : Prop where
  sh : d.showable = true
  nd : d.hasDict = false
  dp : d.depth ≤ 60
  sz : d.shown.length ≤ sizeLine
instance (d : PyData) : Decidable (Shown d) := if h : d.showable = true ∧ d.hasDict = false ∧ d.depth ≤ 60 ∧ d.shown.length ≤ sizeLine then .isTrue ⟨h.1, h.2.1, h.2.2.1, h.2.2.2⟩ else .isFalse fun s => h ⟨s.sh, s.nd, s.dp, s.sz⟩
def isSeqD : PyData → Bool
  | .list _ => true
  | .tuple _ => true
  | _ => false
def rRepr (K : PySem.W.Frag) : List V → Hp → VK → Prop := fun vs H Q => ∃ v d, vs = [v] ∧ Dp K H v d ∧ isSeqD d = true ∧ Shown d ∧ Q (.str d.shown) H
theorem cr_repr {X : Cx} (hc : Calm X.A) (hu : X.A.units + 65 < cLine) : CallR X (.builtin "repr") (rRepr X.K) := by
  intro pins s σ H xs us Q I r q
  obtain ⟨v, d, rfl, hd, hdisp, sh, q⟩ := q
  cases r with
  | cons r1 rr =>
    cases rr
    obtain ⟨as, rd⟩ := Dp.reads I d v _ hd r1
    obtain ⟨a, rfl⟩ : ∃ a, v = .ref a := by
      cases d <;> first | (cases hdisp; done) | (cases hd <;> exact ⟨_, rfl⟩)
    cases r1
    refine repr_of_reads' rd sh.sh (fun z => by rw [sh.nd] at z; cases z) hc (by have := sh.dp; omega) (fun b o e => e) (fun h' u tk hk => ?_) sh.sz
    exact ⟨.str d.shown, H, I.kept (t' := tk) fun b o e => hk b o e, ⟨u, rfl⟩, q⟩
end Dl

namespace Dl
open L2 PySem PyProof.Rows PySem.Spec

section
variable {K : PySem.W.Frag} {θ : Th} {A : Env} {B : Mem} {σ : L2.St} {G H : Hp} {X : Cx} {e a b c : Expr} {es : List Expr} {pos : Pos} {fa fb fc : FE} {fs : FA}

def cutD (xs : List PyData) (lo hi : Option Int) : List PyData := (xs.drop (HT.sIx xs.length 0 lo)).take (HT.sIx xs.length xs.length hi - HT.sIx xs.length 0 lo)
theorem dqAll_cut {vs : List V} {ds : List PyData} (h : DqAll K G vs ds) (lo hi : Option Int) : DqAll K G (cutV vs lo hi) (cutD ds lo hi) := by
  unfold cutV cutD
  rw [dqAll_len h]
  exact dqAll_take _ (dqAll_drop _ h)
theorem cutD_whole {xs : List PyData} {lo hi : Option Int} (h : HT.sIx xs.length 0 lo = 0 ∧ HT.sIx xs.length xs.length hi = xs.length) : cutD xs lo hi = xs := by
  unfold cutD
  rw [h.1, h.2]
  simp
def dSl (d : PyData) (lo hi : Option Int) (k : Kr) : Prop := match d with
  | .list xs => k (.l (cutD xs lo hi))
  | .tuple xs => k (.v (.tuple (cutD xs lo hi)))
  | .str z => z.length ≤ sizeLine ∧ k (.v (.str (cutS z lo hi)))
  | _ => False
def aSl (x : AV) (lo hi : Option Int) (B : Mem) (k : Kt) : Prop := match kdOf B x with
  | .scr ns => dSl (.list (ns.map .int)) lo hi (wpR B k)
  | _ => isKt x = false ∧ wD B x fun d => dSl d lo hi (wpR B k)
def rSlX (K : PySem.W.Frag) : V → Option Int → Option Int → Hp → VK → Prop := fun x lo hi H Q => rSlL K x lo hi H Q ∨ rSlF K x lo hi H Q ∨ rSlS x lo hi H Q
theorem sl_any {X : Cx} : SlR X (rSlX X.K) := SlR.or sl_list (SlR.or sl_tupF sl_str)
theorem dqAll_of_ints : ∀ ns : List Int, DqAll K G (ns.map V.int) (ns.map .int)
  | [] => .nil
  | n :: ns => .cons (.int n) (dqAll_of_ints ns)
theorem sl_of {v : V} {x : AV} {lo hi : Option Int} {k : Kt} {Q : VK} (S : StOk K θ A B σ G H) (hv : AVok K G θ v x) (h : aSl x lo hi B k)
    (q : ∀ θ' B' G' H' z w, Gr θ θ' G H G' H' → StOk K θ' A B' σ G' H' → AVok K G' θ' z w → k w B' → Q z H') : rSlX K v lo hi H Q := by
  have ex := S.mem.ex
  have fin : ∀ G' H' z res, ResOk K G H G' H' z res → wpR B k res → Q z H' := fun G' H' z res ro hp => st_fin S ro hp q
  unfold aSl at h
  split at h
  · rename_i ns hc
    have hx := kd_scr hc
    subst hx
    obtain ⟨a, rfl, e⟩ := cell_scr S.mem hv
    exact .inl ⟨a, _, rfl, e, fun p hp => fin _ _ _ _ (res_lst ex hp (dqAll_cut (dqAll_of_ints ns) lo hi)) h⟩
  · obtain ⟨nk, h⟩ := h
    obtain ⟨d, r1, t1, h⟩ := wD_rd S.mem hv h
    unfold dSl at h
    split at h
    · obtain ⟨a, vs, rfl, e1, d1⟩ := t1.list ex
      exact .inl ⟨a, vs, rfl, SqL.of e1, fun p hp => fin _ _ _ _ (res_lst ex hp (dqAll_cut d1 lo hi)) h⟩
    · rename_i xs
      have hq := tup_sc S.mem hv r1 nk
      obtain ⟨a, vs, rfl, e1, d1⟩ := t1.tuple ex
      refine .inr (.inl ⟨a, vs, rfl, e1, fun w => ?_, fun w p ob hp dn => ?_⟩)
      · rw [dqAll_len d1] at w
        rw [cutD_whole w] at h
        exact fin G H _ _ (res_el ex hq) h
      · exact fin _ _ _ _ (res_tup ex hp dn (dqAll_cut d1 lo hi)) h
    · exact .inr (.inr ⟨_, t1.str, h.1, fin G H _ _ (res_str ex) h.2⟩)
    · exact h.elim
abbrev FO := Env → Mem → (Option Int → Mem → Prop) → Prop
def tfO (K : PySem.W.Frag) (f : FO) : TO := fun σ H Q => ∃ θ A B G k, StOk K θ A B σ G H ∧ f A B k ∧ ∀ θ' B' G' H' o, Gr θ θ' G H G' H' → StOk K θ' A B' σ G' H' → k o B' → Q o H'
structure PDO (X : Cx) (e : Option Expr) (f : FO) : Prop where
  po : PO X e (tfO X.K f)
theorem PO.imp {X : Cx} {e : Option Expr} {t t' : TO} (h : PO X e t) (i : ∀ σ H Q, t' σ H Q → t σ H Q) : PO X e t' := ⟨fun pins s σ H Q I w => h.run pins s σ H Q I (i σ H Q w)⟩
def fNoPart : FO := fun _ B k => k none B
def fPart (f : FE) : FO := fun A B k => f A B fun x B1 => wK x fun d => ∃ i, d = .int i ∧ k (some i) B1
theorem pdo_none : PDO X none fNoPart := ⟨PO.imp po_none fun σ H Q w => by
  obtain ⟨θ, A, B, G, k, S, hf, q⟩ := w
  exact q θ B G H _ Gr.refl S hf⟩
theorem pdo_some (h : PD X e fa) : PDO X (some e) (fPart fa) := ⟨PO.imp (po_some h.pe) fun σ H Q w => by
  obtain ⟨θ, A, B, G, k, S, hf, q⟩ := w
  refine ⟨θ, A, B, G, _, S, hf, fun θ1 B1 G1 H1 v x g1 S1 hv k1 => ?_⟩
  obtain ⟨d, hd, i, rfl, h⟩ := wK_of hv k1
  cases hd
  exact ⟨i, rfl, q θ1 B1 G1 H1 _ g1 S1 h⟩⟩
def fSl (fa : FE) (fl fh : FO) : FE := fun A B k => fa A B fun x B1 => fl A B1 fun lo B2 => fh A B2 fun hi B3 => aSl x lo hi B3 k
theorem pd_slice {lo hi : Option Expr} {fl fh : FO} {p2 : Pos} (ha : PD X a fa) (hl : PDO X lo fl) (hh : PDO X hi fh) : PD X (.Subscript a (.Slice lo hi none p2) pos) (fSl fa fl fh) := ⟨PE.imp (pe_slice sl_any ha.pe hl.po hh.po) fun σ H Q w => by
  obtain ⟨θ, A, B, G, k, S, hf, q⟩ := w
  refine ⟨θ, A, B, G, _, S, hf, fun θ1 B1 G1 H1 v x g1 S1 hv k1 => ?_⟩
  refine ⟨θ1, A, B1, G1, _, S1, k1, fun θ2 B2 G2 H2 lo g2 S2 k2 => ?_⟩
  refine ⟨θ2, A, B2, G2, _, S2, k2, fun θ3 B3 G3 H3 hi g3 S3 k3 => ?_⟩
  exact sl_of S3 ((hv.gr g2).gr g3) k3 fun θ4 B4 G4 H4 z w g4 S4 hz k4 => q θ4 B4 G4 H4 z w (((g1.trans g2).trans g3).trans g4) S4 hz k4⟩

theorem tops1 {vs : List V} {x : PyData} (t : Tops K G H vs [x]) : ∃ v, vs = [v] ∧ Top K G H v x := by
  cases t with
  | cons h t => cases t; exact ⟨_, rfl, h⟩
theorem tops2 {vs : List V} {x y : PyData} (t : Tops K G H vs [x, y]) : ∃ v u, vs = [v, u] ∧ Top K G H v x ∧ Top K G H u y := by
  cases t with
  | cons h t =>
    cases t with
    | cons h2 t => cases t; exact ⟨_, _, rfl, h, h2⟩
inductive BI where
  | len | abs | int | bool | str | max | min | sum | sorted | all | any | list | tuple | repr
  deriving DecidableEq
def dLen : PyData → Kr → Prop
  | .list xs, k => k (.v (.int (xs.length : Int)))
  | .tuple xs, k => k (.v (.int (xs.length : Int)))
  | .str z, k => z.length ≤ sizeLine ∧ k (.v (.int (z.length : Int)))
  | _, _ => False
def intsD : PyData → (List Int → Prop) → Prop
  | .list xs, k => ∃ ns : List Int, xs = ns.map .int ∧ k ns
  | _, _ => False
def boolsD : PyData → (List Bool → Prop) → Prop
  | .list xs, k => ∃ ns : List Bool, xs = ns.map .bool ∧ k ns
  | _, _ => False
def AllAl (xs : List PyData) : Prop := (∀ x ∈ xs, ∀ y ∈ xs, PySem.W.alike x y = true) ∧ ∀ x ∈ xs, x ≠ .none
def leastD (x : PyData) (xs : List PyData) : PyData := xs.foldl (fun a y => if PySem.W.dataLt y a = true then y else a) x
def mostD (x : PyData) (xs : List PyData) : PyData := xs.foldl (fun a y => if PySem.W.dataLt a y = true then y else a) x
def bestD (mn : Bool) (x : PyData) (xs : List PyData) : PyData := if mn = true then leastD x xs else mostD x xs
def dBest (mn : Bool) (x : PyData) (k : Kr) : Prop := ∃ d ds, x = .list (d :: ds) ∧ AllAl (d :: ds) ∧ (∀ e ∈ d :: ds, e.depth ≤ 60 ∧ e.canLay0 = true) ∧ k (.v (bestD mn d ds))
def dSorted : PyData → Kr → Prop
  | .list xs, k => PySem.W.AllAlike xs ∧ PySem.W.Sortable xs ∧ xs.length ≤ sizeLine ∧ (∀ d ∈ xs, d.depth ≤ 60) ∧ k (.l (xs.mergeSort (PySem.W.dataLe false id)))
  | _, _ => False
def dBi : BI → List PyData → Kr → Prop
  | .len, [x], k => dLen x k
  | .abs, [.int i], k => k (.v (.int (if i < 0 then -i else i)))
  | .int, [.int i], k => k (.v (.int i))
  | .int, [.bool b], k => k (.v (.int (if b then 1 else 0)))
  | .bool, [.int i], k => k (.v (.bool (i != 0)))
  | .bool, [.bool b], k => k (.v (.bool b))
  | .str, [.int i], k => i.natAbs.log2 < 1920 ∧ k (.v (.str (toString i)))
  | .max, [.int i, .int j], k => k (.v (.int (if j > i then j else i)))
  | .min, [.int i, .int j], k => k (.v (.int (if j < i then j else i)))
  | .max, [.int i, .int j, .int l], k => k (.v (.int (if (if i < j then j else i) < l then l else (if i < j then j else i))))
  | .max, [x], k => (intsD x fun ns => 0 < ns.length ∧ ∀ m, m ∈ ns → (∀ y, y ∈ ns → y ≤ m) → k (.v (.int m))) ∨ dBest false x k
  | .min, [x], k => (intsD x fun ns => 0 < ns.length ∧ ∀ m, m ∈ ns → (∀ y, y ∈ ns → m ≤ y) → k (.v (.int m))) ∨ dBest true x k
  | .sum, [x], k => intsD x fun ns => k (.v (.int ns.sum))
  | .sorted, [x], k => dSorted x k
  | .all, [x], k => boolsD x fun bs => k (.v (.bool (bs.all id)))
  | .any, [x], k => boolsD x fun bs => k (.v (.bool (bs.any id)))
  | .list, [.list xs], k => k (.l xs)
  | .list, [.tuple xs], k => k (.l xs)
  | .repr, [x], k => isSeqD x = true ∧ Shown x ∧ k (.v (.str x.shown))
  | _, _, _ => False
def nameBI : BI → String
  | .len => "len" | .abs => "abs" | .int => "int" | .bool => "bool" | .str => "str" | .max => "max" | .min => "min" | .sum => "sum" | .sorted => "sorted" | .all => "all" | .any => "any" | .list => "list" | .tuple => "tuple" | .repr => "repr"
def valBI : BI → Value
  | .int => .type "int" | .bool => .type "bool" | .str => .type "str" | .list => .type "list" | .tuple => .type "tuple"
  | b => .builtin (nameBI b)
abbrev RL := List V → Hp → VK → Prop
theorem paired_len {α β : Type} {F : α → β → Prop} : ∀ {as : List α} {bs : List β}, Paired F as bs → as.length = bs.length
  | _, _, .nil => rfl
  | _, _, .cons _ t => by rw [List.length_cons, List.length_cons, paired_len t]
def rSortedX (K : PySem.W.Frag) : RL := fun vs H Q => ∃ (a : Addr) (xs : List V) (ds : List PyData) (P : V → PyData → Prop), vs = [.ref a] ∧ H a = some (.lst xs) ∧ Paired P xs ds ∧ (∀ v d, P v d → Dp K H v d) ∧ PySem.W.AllAlike ds ∧ PySem.W.Sortable ds ∧ ds.length ≤ sizeLine ∧ (∀ d ∈ ds, d.depth ≤ 60) ∧
  ∀ ys p, H p = none → Paired P ys (ds.mergeSort (PySem.W.dataLe false id)) → Q (.ref p) (upd H p (.lst ys))
theorem each_of {P : V → PyData → Prop} : ∀ {xs : List V} {ds : List PyData} {us : List Value}, Paired P xs ds → Vals xs us → PySem.W.EachIs (fun (u : Value) (d : PyData) => ∃ v, RelV v u ∧ P v d) us ds
  | _, _, _, .nil, .nil => .nil
  | _, _, _, .cons h t, .cons r rs => .cons ⟨_, r, h⟩ (each_of t rs)
theorem of_each {P : V → PyData → Prop} : ∀ {us : List Value} {ds : List PyData}, PySem.W.EachIs (fun (u : Value) (d : PyData) => ∃ v, RelV v u ∧ P v d) us ds → ∃ ys, Vals ys us ∧ Paired P ys ds
  | _, _, .nil => ⟨[], .nil, .nil⟩
  | _, _, .cons ⟨v, r, h⟩ t => by
    obtain ⟨ys, h1, h2⟩ := of_each t
    exact ⟨v :: ys, .cons r h1, .cons h h2⟩
theorem map_id_ds (ds : List PyData) : ds.map id = ds := List.map_id ds
theorem cr_sortedX (hu : X.A.units + 64 < cLine) : CallR X (.builtin "sorted") (rSortedX X.K) := by
  intro pins s σ H vs us Q I r h
  obtain ⟨a, xs, ds, P, rfl, hs, hp, hd, hal, hk, hz, hdep, q⟩ := h
  obtain ⟨z0, its, n, rv, hl, e⟩ := I.lstM hs
  rw [Vals.ref1 r]
  have hIs : s.heap.IsList a its.toArray := ⟨_, e, rfl, n, rfl⟩
  refine PySem.W.sorted_data (enc := id) (bs := ds) (R := fun (u : Value) (d : PyData) => ∃ v, RelV v u ∧ P v d) hIs (each_of hp rv) ((each_of hp rv).mono fun u d ⟨v, h1, h2⟩ => Dp.reads I d v u (hd v d h2) h1) (by rw [map_id_ds]; exact hal) (by rw [map_id_ds]; exact hk) hz (fun d hm => by have := hdep d hm; show X.A.units + 2 + d.depth < cLine; omega) fun out ho eo => ?_
  obtain ⟨ys, h1, h2⟩ := of_each eo
  obtain ⟨ep, he'⟩ := PyProof.Rows.sortedAll_at s.heap its out.toArray
  have hlen : ys.length ≤ sizeLine := by
    rw [paired_len h2, List.length_mergeSort]
    exact hz
  exact ⟨.ref _, upd H (s.heap.objs.size + 1) (.lst ys), I.laid (t' := s.toks) (fun _ _ => PyProof.Rows.sortedAll_old) (Nat.le_succ _) ⟨hlen, out, ep, h1, he'⟩, rfl, q ys _ (I.hok.fresh (Nat.le_succ _)) h2⟩
def rSortedDX : RL := fun xs H Q => ∃ (a : Addr) (kvs : List (Key × V)) (ks : List Int), xs = [.ref a] ∧ Rd H a (.dK kvs) ∧ kvs.map (·.1) = ks.map Sum.inl ∧ ks.length ≤ sizeLine ∧
    ∀ (p : Addr), H p = none → Q (.ref p) (upd H p (.lst ((ks.mergeSort fun a b => decide (a ≤ b)).map V.int)))
theorem each_ints : ∀ {us : List Value} {ks : List Int}, IntsAre us ks → PySem.W.EachIs (fun (u : Value) (n : Int) => ∃ t, u = .int n t) us ks
  | _, _, .nil => .nil
  | _, _, .cons n t h => .cons ⟨t, rfl⟩ (each_ints h)
theorem ints_each' : ∀ {us : List Value} {ks : List Int}, PySem.W.EachIs (fun (u : Value) (n : Int) => ∃ t, u = .int n t) us ks → Vals (ks.map V.int) us
  | _, _, .nil => .nil
  | _, _, .cons ⟨t, h⟩ r => .cons ⟨t, h⟩ (ints_each' r)
theorem cr_sortedDX (hcalm : X.calm = true) (hu : X.A.units + 64 < cLine) : CallR X (.builtin "sorted") rSortedDX := by
  intro pins s σ H xs us Q I r q
  obtain ⟨a, kvs, ks, ex, hd, hks, hz, q⟩ := q
  subst ex
  obtain ⟨u, eu, rx⟩ := vals1 r
  subst eu
  cases rx
  obtain ⟨z, live, kv, pairs, dty⟩ := dk_rd I.hok hd
  obtain ⟨epp, hat⟩ := dty.dictAt
  have keyEq : kv.map (·.1) = ks.map Sum.inl := pairs.keys.symm.trans hks
  have lenEq : kv.length = ks.length := by
    have e := congrArg List.length keyEq
    rw [List.length_map, List.length_map] at e
    exact e
  have h16 : kv.length ≤ sizeLine := by rw [lenEq]; exact hz
  refine Calls.call_function_entry PyProof.Rows.kind_sorted PyProof.Rows.plain_sorted PyProof.Rows.entry_sorted (PyProof.Rows.args_sorted1 _) ?_
  unfold Builtin.«sorted»
  refine wpAny_bind (m := checkCount "sorted" 1 1 _) (wpAny_pure ?_)
  refine wpAny_bind (PySem.W.kdu_collect (A := X.A.in1) (PySem.W.kdl_dict (knd := mixKind X.prog X.w) (kvs := kv) (ep := epp) live) (I.ok.hd hcalm) hat h16 fun h' ts got kept gotOk => ?_)
  have gotLen : got.toList.length = ks.length := by rw [Array.length_toList, gotOk.1, lenEq]
  have gotInts : IntsAre got.toList ks := ints_each gotLen fun j v e => by
    obtain ⟨k, x, q1, q2⟩ := gotOk.2 j v (by rw [← Array.getElem?_toList]; exact e)
    have q3 : (kv.map (·.1))[j]? = some k := by rw [List.getElem?_map, q1]; rfl
    rw [keyEq, List.getElem?_map] at q3
    cases q4 : ks[j]? with
    | none => rw [q4] at q3; cases q3
    | some y =>
      rw [q4] at q3
      have q5 : Sum.inl y = k := Option.some.inj q3
      subst q5
      rcases keyIs_shape (show keyIs (Sum.inl y) v = true from q2) with ⟨i, t, ek, ev⟩ | ⟨z, t, ek, ev⟩
      · cases ek
        exact ⟨y, t, rfl, ev⟩
      · cases ek
  have J1 : Inv X pins σ H { s with heap := h', toks := ts } := I.kept kept
  refine wpAny_bind (wpAny_newList ?_ (by rw [gotLen]; exact hz))
  have newAt : (h'.push (seqObj "list" got.toList.toArray 0)).get? h'.objs.size = some (seqObj "list" got.toList.toArray 0) := Heap.get?_push_size _ rfl
  show wpAny _ _ _ _ _ { s with heap := h'.push (seqObj "list" got.toList.toArray 0), toks := ts }
  have hE := each_ints gotInts
  refine wpAny_bind (wpAny_holding (PySem.W.list_sort_data (s := { s with heap := h'.push (seqObj "list" got.toList.toArray 0), toks := ts }) (enc := fun n : Int => PyData.int n) (bs := ks) (R := fun (u : Value) (n : Int) => ∃ t, u = .int n t) newAt hE
    (hE.mono fun u n ⟨t, e⟩ => ⟨[], by rw [e]; exact Reads.int n t, by simp⟩) (PySem.W.AllAlike.of fun _ _ => rfl) (PySem.W.Sortable.others fun b => ⟨(fun z => nomatch z), fun _ z => nomatch z⟩) hz
    (fun b _ => by show X.A.in1.units + 1 + 0 < cLine; have : X.A.in1.units = X.A.units + 1 := rfl; omega) fun out ho eo => ?_))
  obtain ⟨e', he'⟩ := PyProof.Rows.sortedHeap_at (vs := got.toList) (out := out.toArray) newAt
  have hle : PySem.W.dataLe false (fun n : Int => PyData.int n) = fun a b => decide (a ≤ b) := PySem.W.dataLe_int fun n => n
  rw [hle] at eo
  have hlen : ((ks.mergeSort fun a b => decide (a ≤ b)).map V.int).length ≤ sizeLine := by
    rw [List.length_map, List.length_mergeSort]
    exact hz
  refine wpAny_pure ⟨_, rfl, .ref h'.objs.size, upd H h'.objs.size (.lst _), J1.laid (t' := ts) (fun b u e => ?_) (Nat.le_refl _)
    (show ObjOk X.prog X.w _ _ _ (.lst ((ks.mergeSort fun a b => decide (a ≤ b)).map V.int)) from ⟨hlen, out, e', ints_each' eo, he'⟩), rfl, q _ (J1.hok.fresh (Nat.le_refl _))⟩
  have below : b < h'.objs.size := Heap.lt_size e
  rw [PyProof.Rows.sortedHeap_old (Nat.ne_of_lt below) (by rw [size_push']; exact Nat.lt_succ_of_lt below)]
  exact Heap.get?_push_of_some _ e
end
end Dl

namespace Dl
open L2 PySem PyProof.Rows PySem.Spec
def rBestX (K : PySem.W.Frag) (mn : Bool) : RL := fun vs H Q => ∃ (a : Addr) (xs : List V) (d : PyData) (ds : List PyData) (P : V → PyData → Prop), vs = [.ref a] ∧ H a = some (.lst xs) ∧ Paired P xs (d :: ds) ∧ (∀ v d, P v d → Dp K H v d) ∧ AllAl (d :: ds) ∧ (∀ e ∈ d :: ds, e.depth ≤ 60 ∧ e.canLay0 = true) ∧
  ∀ v, P v (bestD mn d ds) → Q v H
theorem bestD_mem {mn : Bool} : ∀ {xs : List PyData} {x : PyData}, bestD mn x xs ∈ x :: xs := by
  have h1 : ∀ (xs : List PyData) (x : PyData), leastD x xs ∈ x :: xs := fun xs => by
    induction xs with
    | nil => intro x; exact List.mem_cons_self
    | cons y xs ih =>
      intro x
      show leastD (if PySem.W.dataLt y x = true then y else x) xs ∈ _
      by_cases c : PySem.W.dataLt y x = true
      · rw [if_pos c]; exact List.mem_cons_of_mem _ (ih y)
      · rw [if_neg c]
        rcases List.mem_cons.mp (ih x) with z | z
        · rw [z]; exact List.mem_cons_self
        · exact List.mem_cons_of_mem _ (List.mem_cons_of_mem _ z)
  have h2 : ∀ (xs : List PyData) (x : PyData), mostD x xs ∈ x :: xs := fun xs => by
    induction xs with
    | nil => intro x; exact List.mem_cons_self
    | cons y xs ih =>
      intro x
      show mostD (if PySem.W.dataLt x y = true then y else x) xs ∈ _
      by_cases c : PySem.W.dataLt x y = true
      · rw [if_pos c]; exact List.mem_cons_of_mem _ (ih y)
      · rw [if_neg c]
        rcases List.mem_cons.mp (ih x) with z | z
        · rw [z]; exact List.mem_cons_self
        · exact List.mem_cons_of_mem _ (List.mem_cons_of_mem _ z)
  intro xs x
  cases mn
  · exact h2 xs x
  · exact h1 xs x
theorem depthAll_le : ∀ {xs : List PyData}, (∀ e ∈ xs, e.depth ≤ 60) → PyData.depthAll xs ≤ 60
  | [], _ => Nat.zero_le _
  | x :: xs, h => by
    rw [PyData.depthAll]
    have := h x List.mem_cons_self
    have := depthAll_le fun e he => h e (List.mem_cons_of_mem _ he)
    omega
theorem readsAll_ix {h : Heap} : ∀ {us : List Value} {ds : List PyData} {as : List Addr}, ReadsAll h us ds as → ∀ {i : Nat} {u : Value}, us[i]? = some u → ∃ d bs, ds[i]? = some d ∧ Reads h u d bs
  | _, _, _, .nil, i, u, e => by simp at e
  | _, _, _, .cons r t, 0, u, e => by simp at e; subst e; exact ⟨_, _, rfl, r⟩
  | _, _, _, .cons r t, i + 1, u, e => by
    obtain ⟨d, bs, e1, e2⟩ := readsAll_ix t (i := i) (u := u) (by simpa using e)
    exact ⟨d, bs, by simpa using e1, e2⟩
theorem vals_ix : ∀ {xs : List V} {us : List Value} {i : Nat} {u : Value}, Vals xs us → us[i]? = some u → ∃ v, xs[i]? = some v ∧ RelV v u
  | _, _, _, _, .nil, e => by simp at e
  | _, _, 0, _, .cons r t, e => by simp at e; subst e; exact ⟨_, rfl, r⟩
  | _, _, i + 1, _, .cons r t, e => by
    obtain ⟨v, e1, e2⟩ := vals_ix t (i := i) (by simpa using e)
    exact ⟨v, by simpa using e1, e2⟩
theorem paired_ix {α β : Type} {F : α → β → Prop} : ∀ {as : List α} {bs : List β} {i : Nat} {a : α} {b : β}, Paired F as bs → as[i]? = some a → bs[i]? = some b → F a b
  | _, _, _, _, _, .nil, e, _ => by simp at e
  | _, _, 0, _, _, .cons h t, e, e2 => by simp at e e2; subst e; subst e2; exact h
  | _, _, i + 1, _, _, .cons h t, e, e2 => paired_ix t (by simpa using e) (by simpa using e2)
theorem paired_dpAll {K : PySem.W.Frag} {H : Hp} {P : V → PyData → Prop} (h : ∀ v d, P v d → Dp K H v d) : ∀ {xs : List V} {ds : List PyData}, Paired P xs ds → DpAll K H xs ds
  | _, _, .nil => .nil
  | _, _, .cons p t => .cons (h _ _ p) (paired_dpAll h t)
theorem cr_best {X : Cx} {mn : Bool} (hc : X.calm = true) (hu : X.A.units + 62 < cLine) : CallR X (.builtin (if mn = true then "min" else "max")) (rBestX X.K mn) := by
  intro pins s σ H vs us Q I r h
  obtain ⟨a, xs, d, ds, P, rfl, hs, hp, hd, hal, hdep, q⟩ := h
  obtain ⟨z0, its, n, rv, hl, e⟩ := I.lstM hs
  rw [Vals.ref1 r]
  have hIs : s.heap.IsList a its.toArray := ⟨_, e, rfl, n, rfl⟩
  obtain ⟨as, hr⟩ := Dp.readsAll I (d :: ds) xs its (paired_dpAll hd hp) rv
  have dl := depthAll_le fun e he => (hdep e he).1
  have fin : ∀ (i : Nat) (v : Value) (h' : Heap) (tk : Nat) (bs : List Addr), its.toArray[i]? = some v → Reads h' v (bestD mn d ds) bs → (∀ b o, s.heap.get? b = some o → h'.get? b = some o) → EP X pins σ Q v { s with heap := h', toks := tk } := by
    intro i v h' tk bs hi hrd hk
    have hi' : its[i]? = some v := by simpa using hi
    obtain ⟨e1, cs, he1, he2⟩ := readsAll_ix hr hi'
    have hm : e1 ∈ d :: ds := List.mem_of_getElem? he1
    have e2 : e1 = bestD mn d ds := PySem.SeqAt.Reads.unique _ _ _ _ _ (hdep e1 hm).2 (PySem.W.reads_keeps hk he2) hrd
    obtain ⟨y, hy, ry⟩ := vals_ix rv hi'
    have := paired_ix hp hy he1
    rw [e2] at this
    exact ⟨y, H, I.kept (t' := tk) hk, ry, q y this⟩
  cases mn with
  | true => exact PySem.W.min_list_data (I.ok.hd hc) hIs hr hal (by omega) fin
  | false => exact PySem.W.max_list_data (I.ok.hd hc) hIs hr hal (by omega) fin
end Dl

namespace Dl
open L2 PySem PyProof.Rows PySem.Spec

theorem callR_or {X : Cx} {f : Value} {r r' : RL} (h : CallR X f r) (h' : CallR X f r') : CallR X f (fun xs H Q => r xs H Q ∨ r' xs H Q) := by
  intro pins s σ H xs us Q I rx q
  rcases q with q | q
  · exact h pins s σ H xs us Q I rx q
  · exact h' pins s σ H xs us Q I rx q
section
variable {K : PySem.W.Frag} {θ : Th} {A : Env} {B : Mem} {σ : L2.St} {G H : Hp} {X : Cx} {e a b c : Expr} {es : List Expr} {pos : Pos} {fa fb fc : FE} {fs : FA}
def rBI (K : PySem.W.Frag) : BI → RL
  | .len => fun xs H Q => (∃ x n, xs = [x] ∧ LenV K x H n ∧ Q (.int n) H) ∨ ∃ d kvs, xs = [.ref d] ∧ H d = some (.dK kvs) ∧ Q (.int (kvs.length : Int)) H
  | .abs => fun xs H Q => ∃ i, xs = [.int i] ∧ Q (.int (if i < 0 then -i else i)) H
  | .int => fun xs H Q => (∃ i, xs = [.int i] ∧ Q (.int i) H) ∨ ∃ k, xs = [.bl k] ∧ Q (.int (if k then 1 else 0)) H
  | .bool => fun xs H Q => (∃ i, xs = [.int i] ∧ Q (.bl (i != 0)) H) ∨ ∃ k, xs = [.bl k] ∧ Q (.bl k) H
  | .str => fun xs H Q => ∃ i, xs = [.int i] ∧ i.natAbs.log2 < 1920 ∧ Q (.str (toString i)) H
  | .max => fun xs H Q => (∃ i j, xs = [.int i, .int j] ∧ Q (.int (if j > i then j else i)) H) ∨ rMax K xs H Q ∨ rNuC3 nuMax3 xs H Q ∨ rBestX K false xs H Q
  | .min => fun xs H Q => (∃ i j, xs = [.int i, .int j] ∧ Q (.int (if j < i then j else i)) H) ∨ rMin K xs H Q ∨ rBestX K true xs H Q
  | .sum => rSum K
  | .sorted => fun xs H Q => rSortedX K xs H Q ∨ rSortedDX xs H Q
  | .all => rAll K
  | .any => rAny K
  | .list => fun xs H Q => ∃ p ys, xs = [.ref p] ∧ (SqL K H p ys ∨ SqT K H p ys) ∧ ∀ l, H l = none → Q (.ref l) (upd H l (.lst ys))
  | .tuple => fun xs H Q => ∃ p ys, xs = [.ref p] ∧ ((SqL K H p ys ∧ FreshT Q H ys) ∨ (SqT K H p ys ∧ Q (.ref p) H))
  | .repr => rRepr K
theorem cr_BI (hc : X.calm = true) (hq : Calm X.A) (hu : X.A.units + 64 < cLine) (hu2 : X.A.units + 65 < cLine) : ∀ b : BI, CallR X (valBI b) (rBI X.K b)
  | .len => callR_or call_len fun pins s σ H xs us Q I r h => call_lenD pins s σ H xs us Q I r h
  | .abs => call_abs
  | .int => call_int1
  | .bool => call_bool1
  | .str => call_str_int
  | .max => callR_or (call_max2 hc) (callR_or (cr_max hc) (callR_or (call_max3Nu hc) (cr_best (mn := false) hc (by omega))))
  | .min => callR_or (call_min2 hc) (callR_or (cr_min hc) (cr_best (mn := true) hc (by omega)))
  | .sum => cr_sum hc
  | .sorted => callR_or (cr_sortedX hu) (cr_sortedDX hc hu)
  | .all => cr_all hc
  | .any => cr_any hc
  | .list => call_list_of
  | .tuple => call_tuple_ofF
  | .repr => cr_repr hq hu2
def dTup : PyData → Kr → Prop
  | .list xs, k => k (.v (.tuple xs))
  | .tuple xs, k => k (.v (.tuple xs))
  | _, _ => False
def aBi (b : BI) (xs : List AV) (B : Mem) (k : Kt) : Prop := match b, xs with
  | .sorted, [x] => match dictOf B x with
    | some (.k kvs) => ∃ ks : List Int, kvs.map (·.1) = ks.map Sum.inl ∧ ks.length ≤ sizeLine ∧ wpR B k (.l ((ks.mergeSort fun a b => decide (a ≤ b)).map .int))
    | _ => aDL (dBi .sorted) [x] B k
  | .len, [x] => match kdOf B x with
    | .scr ns => k (.d (.int (ns.length : Int))) B
    | _ => aDL (dBi .len) [x] B k
  | .tuple, [x] => isKt x = false ∧ wD B x fun d => dTup d (wpR B k)
  | b, xs => aDL (dBi b) xs B k
theorem avs1 {vs : List V} {x : AV} (h : AVs K G θ vs [x]) : ∃ v, vs = [v] ∧ AVok K G θ v x := by
  cases h with
  | cons h t => cases t; exact ⟨_, rfl, h⟩
theorem intsK {v : V} {x : PyData} {P : List Int → Prop} (ex : Ext G H) (t : Top K G H v x) (h : intsD x P) : ∃ a ns, v = .ref a ∧ SqL K H a (ns.map V.int) ∧ P ns := by
  unfold intsD at h
  split at h
  · obtain ⟨ns, rfl, h⟩ := h
    obtain ⟨a, vs, rfl, e, d⟩ := t.list ex
    rw [dqAll_ints d] at e
    exact ⟨a, ns, rfl, SqL.of e, h⟩
  · exact h.elim
theorem boolsK {v : V} {x : PyData} {P : List Bool → Prop} (ex : Ext G H) (t : Top K G H v x) (h : boolsD x P) : ∃ a ns, v = .ref a ∧ SqL K H a (ns.map V.bl) ∧ P ns := by
  unfold boolsD at h
  split at h
  · obtain ⟨ns, rfl, h⟩ := h
    obtain ⟨a, vs, rfl, e, d⟩ := t.list ex
    rw [dqAll_bools d] at e
    exact ⟨a, ns, rfl, SqL.of e, h⟩
  · exact h.elim
theorem paired_of : ∀ {vs : List V} {ds : List PyData}, DqAll K G vs ds → Paired (Dq K G) vs ds
  | _, _, .nil => .nil
  | _, _, .cons h t => .cons h (paired_of t)
theorem of_paired : ∀ {vs : List V} {ds : List PyData}, Paired (Dq K G) vs ds → DqAll K G vs ds
  | _, _, .nil => .nil
  | _, _, .cons h t => .cons h (of_paired t)
theorem tops3 {vs : List V} {x y z : PyData} (t : Tops K G H vs [x, y, z]) : ∃ v u w, vs = [v, u, w] ∧ Top K G H v x ∧ Top K G H u y ∧ Top K G H w z := by
  cases t with
  | cons h1 t =>
    obtain ⟨v, u, rfl, h2, h3⟩ := tops2 t
    exact ⟨_, v, u, rfl, h1, h2, h3⟩
theorem nuMax3_int (i j l : Int) : nuMax3 (.int i) (.int j) (.int l) = some (.int (if (if i < j then j else i) < l then l else (if i < j then j else i))) := by
  have two : ∀ a b : Int, nuMax2 (.int a) (.int b) = some (.int (if a < b then b else a)) := fun a b => by
    show (some (decide (a < b))).map (fun c => if c = true then V.int b else V.int a) = _
    by_cases h : a < b <;> simp [h]
  unfold nuMax3
  rw [two]
  exact two _ _
theorem rdl_bi0 {b : BI} : RDL K (rBI K b) (aDL (dBi b)) := rdl_data fun G H vs ds P Q ex t h q => by
  unfold dBi at h
  split at h
  · obtain ⟨v, rfl, y⟩ := tops1 t
    unfold dLen at h
    split at h
    · obtain ⟨a, us, rfl, e, d⟩ := y.list ex
      exact .inl ⟨_, _, rfl, .inl ⟨us, SqL.of e, (dqAll_len d).symm⟩, q G H _ _ (res_int ex) h⟩
    · obtain ⟨a, us, rfl, e, d⟩ := y.tuple ex
      exact .inl ⟨_, _, rfl, .inr ⟨us, e, (dqAll_len d).symm⟩, q G H _ _ (res_int ex) h⟩
    · rw [y.str]
      exact .inl ⟨_, _, rfl, ⟨h.1, rfl⟩, q G H _ _ (res_int ex) h.2⟩
    · exact h.elim
  · obtain ⟨v, rfl, y⟩ := tops1 t
    exact ⟨_, by rw [y.int], q G H _ _ (res_int ex) h⟩
  · obtain ⟨v, rfl, y⟩ := tops1 t
    exact .inl ⟨_, by rw [y.int], q G H _ _ (res_int ex) h⟩
  · obtain ⟨v, rfl, y⟩ := tops1 t
    exact .inr ⟨_, by rw [y.bool], q G H _ _ (res_int ex) h⟩
  · obtain ⟨v, rfl, y⟩ := tops1 t
    exact .inl ⟨_, by rw [y.int], q G H _ _ (res_bool ex) h⟩
  · obtain ⟨v, rfl, y⟩ := tops1 t
    exact .inr ⟨_, by rw [y.bool], q G H _ _ (res_bool ex) h⟩
  · obtain ⟨v, rfl, y⟩ := tops1 t
    exact ⟨_, by rw [y.int], h.1, q G H _ _ (res_str ex) h.2⟩
  · obtain ⟨v, u, rfl, t1, t2⟩ := tops2 t
    exact .inl ⟨_, _, by rw [t1.int, t2.int], q G H _ _ (res_int ex) h⟩
  · obtain ⟨v, u, rfl, t1, t2⟩ := tops2 t
    exact .inl ⟨_, _, by rw [t1.int, t2.int], q G H _ _ (res_int ex) h⟩
  · obtain ⟨v1, v2, v3, rfl, z1, z2, z3⟩ := tops3 t
    exact .inr (.inr (.inl ⟨_, _, _, _, by rw [z1.int, z2.int, z3.int], nuMax3_int _ _ _, q G H _ _ (res_int ex) h⟩))
  · obtain ⟨v, rfl, y⟩ := tops1 t
    rcases h with h | h
    · obtain ⟨a, ns, rfl, hs, h1, h2⟩ := intsK ex y h
      exact .inr (.inl ⟨a, ns, rfl, hs, h1, fun m hm hy => q G H _ _ (res_int ex) (h2 m hm hy)⟩)
    · obtain ⟨d, ds, rfl, h1, h2, h3⟩ := h
      obtain ⟨a, us, rfl, e, dd⟩ := y.list ex
      exact .inr (.inr (.inr ⟨a, us, d, ds, Dq K G, rfl, e, paired_of dd, fun v d hd => dq_dp (dq_mono ex hd), h1, h2, fun v hv => q G H _ _ (res_el ex hv) h3⟩))
  · obtain ⟨v, rfl, y⟩ := tops1 t
    rcases h with h | h
    · obtain ⟨a, ns, rfl, hs, h1, h2⟩ := intsK ex y h
      exact .inr (.inl ⟨a, ns, rfl, hs, h1, fun m hm hy => q G H _ _ (res_int ex) (h2 m hm hy)⟩)
    · obtain ⟨d, ds, rfl, h1, h2, h3⟩ := h
      obtain ⟨a, us, rfl, e, dd⟩ := y.list ex
      exact .inr (.inr ⟨a, us, d, ds, Dq K G, rfl, e, paired_of dd, fun v d hd => dq_dp (dq_mono ex hd), h1, h2, fun v hv => q G H _ _ (res_el ex hv) h3⟩)
  · obtain ⟨v, rfl, y⟩ := tops1 t
    obtain ⟨a, ns, rfl, hs, h1⟩ := intsK ex y h
    exact ⟨a, ns, rfl, hs, q G H _ _ (res_int ex) h1⟩
  · obtain ⟨v, rfl, y⟩ := tops1 t
    unfold dSorted at h
    split at h
    · obtain ⟨a, us, rfl, e, d⟩ := y.list ex
      obtain ⟨h1, h2, h3, h4, h5⟩ := h
      exact .inl ⟨a, us, _, Dq K G, rfl, e, paired_of d, fun v d hd => dq_dp (dq_mono ex hd), h1, h2, h3, h4, fun ys p hp hy => q _ _ _ _ (res_lst ex hp (of_paired hy)) h5⟩
    · exact h.elim
  · obtain ⟨v, rfl, y⟩ := tops1 t
    obtain ⟨a, ns, rfl, hs, h1⟩ := boolsK ex y h
    exact ⟨a, ns, rfl, hs, q G H _ _ (res_bool ex) h1⟩
  · obtain ⟨v, rfl, y⟩ := tops1 t
    obtain ⟨a, ns, rfl, hs, h1⟩ := boolsK ex y h
    exact ⟨a, ns, rfl, hs, q G H _ _ (res_bool ex) h1⟩
  · obtain ⟨v, rfl, y⟩ := tops1 t
    obtain ⟨a, us, rfl, e, d⟩ := y.list ex
    exact ⟨a, us, rfl, .inl (SqL.of e), fun l hl => q _ _ _ _ (res_lst ex hl d) h⟩
  · obtain ⟨v, rfl, y⟩ := tops1 t
    obtain ⟨a, us, rfl, e, d⟩ := y.tuple ex
    exact ⟨a, us, rfl, .inr e, fun l hl => q _ _ _ _ (res_lst ex hl d) h⟩
  · obtain ⟨v, rfl, y⟩ := tops1 t
    exact ⟨v, _, rfl, y.dp ex, h.1, h.2.1, q G H _ _ (res_str ex) h.2.2⟩
  · exact h.elim
theorem rdl_bi {b : BI} : RDL K (rBI K b) (aBi b) := by
  intro θ A B σ G H vs xs k Q S hv h q
  have ex := S.mem.ex
  have fin : ∀ G' H' z res, ResOk K G H G' H' z res → wpR B k res → Q z H' := fun G' H' z res ro hp => st_fin S ro hp q
  unfold aBi at h
  split at h
  · rename_i x
    split at h
    · rename_i kvs hc
      obtain ⟨ks, h1, h2, h3⟩ := h
      obtain ⟨v, rfl, hw⟩ := avs1 hv
      obtain ⟨a, rfl, ⟨kvs', vs, e, hr, ho⟩ | ⟨kvs', vs, e, hr, ho⟩⟩ := dict_at S.mem hw hc
      · cases e
        have hk : vs.map (·.1) = ks.map Sum.inl := by
          rw [← h1]
          clear h1 hr hc
          induction ho with
          | nil => rfl
          | cons _ _ ih => rw [List.map_cons, List.map_cons, ih]
        exact .inr ⟨a, vs, ks, rfl, hr, hk, h2, fun p hp => fin _ _ _ _ (res_lst ex hp (dqAll_of_ints _)) h3⟩
      · cases e
    · exact rdl_bi0 θ A B σ G H vs _ k Q S hv h q
  · rename_i x
    split at h
    · rename_i ns hc
      obtain ⟨v, rfl, hw⟩ := avs1 hv
      have hx := kd_scr hc
      subst hx
      obtain ⟨a, rfl, e⟩ := cell_scr S.mem hw
      exact .inl ⟨_, _, rfl, .inl ⟨_, e, (List.length_map _).symm⟩, q θ B G H _ _ Gr.refl S (.d (.int _)) h⟩
    · exact rdl_bi0 θ A B σ G H vs _ k Q S hv h q
  · rename_i x
    obtain ⟨v, rfl, hw⟩ := avs1 hv
    obtain ⟨nk, h⟩ := h
    obtain ⟨d, r1, t, h⟩ := wD_rd S.mem hw h
    unfold dTup at h
    split at h
    · obtain ⟨a, us, rfl, e, dq⟩ := t.list ex
      exact ⟨a, us, rfl, .inl ⟨SqL.of e, fun l ob hl dn => fin _ _ _ _ (res_tup ex hl dn dq) h⟩⟩
    · have hq := tup_sc S.mem hw r1 nk
      obtain ⟨a, us, rfl, e, d⟩ := t.tuple ex
      exact ⟨a, us, rfl, .inr ⟨e, fin G H _ _ (res_el ex hq) h⟩⟩
    · exact h.elim
  · exact rdl_bi0 θ A B σ G H vs _ k Q S hv h q
end
end Dl

namespace Dl
open L2 PySem PyProof.Rows PySem.Spec

section
variable {K : PySem.W.Frag} {θ : Th} {A : Env} {B : Mem} {σ : L2.St} {G H : Hp} {X : Cx} {e a b c o i : Expr} {es : List Expr} {pos : Pos} {fa fb fc fo : FE} {fs : FA}
theorem mem_upd {j : Nat} {as : List Addr} {c : MC} {p : Addr} {ob : HO} (m : MemOk K θ B G H) (hk : θ[j]? = some as) (hp : p ∈ as) (hc : CellOk K G (upd H p ob) as c) : MemOk K θ (B.set j c) G (upd H p ob) ∧ Gr θ θ G H G (upd H p ob) := by
  have hm : p ∈ θ.flatten := List.mem_flatten.mpr ⟨as, List.mem_of_getElem? hk, hp⟩
  have hg := m.free p hm
  refine ⟨⟨m.ex.side hg, m.cells.upd m.nd hk (Ext.refl _) (fun a u ha hf hn => ?_) hc, m.nd, m.free⟩, ⟨Ext.refl _, List.prefix_refl _, fun a u h hn => ?_, fun a h => .inl h, fun a h => .inl h⟩⟩
  · rw [upd_ne fun e : a = p => hn (by rw [e]; exact hp)]
    exact ha
  · rw [upd_ne fun e : a = p => hn (by rw [e]; exact hm)]
    exact h
theorem st_upd {j : Nat} {as : List Addr} {c : MC} {p : Addr} {ob : HO} (S : StOk K θ A B σ G H) (hk : θ[j]? = some as) (hp : p ∈ as) (hc : CellOk K G (upd H p ob) as c) : StOk K θ A (B.set j c) σ G (upd H p ob) := ⟨(mem_upd S.mem hk hp hc).1, S.slots⟩

def isLst (B : Mem) (x : AV) : Prop := ∃ ds, rd B x = some (.list ds)
inductive MM where
  | append | extend | pop
  deriving DecidableEq
def aMM (m : MM) (x : AV) (ys : List AV) (B : Mem) (k : Kt) : Prop := match x with
  | .m j => match B[j]? with
    | some (.lst ds) => match m, ys with
      | .append, [y] => wK y fun d => ds.length < sizeLine ∧ k (.d .none) (B.set j (.lst (ds ++ [d])))
      | .extend, [y] => wD B y fun d => ∃ es, d = .list es ∧ ds.length + es.length ≤ sizeLine ∧ k (.d .none) (B.set j (.lst (ds ++ es)))
      | .pop, [y] => wK y fun d => ∃ (n : Int) (i : Nat) (z : PyData), d = .int n ∧ -(2 ^ 63) ≤ n ∧ n < 2 ^ 63 ∧ seqIndex? n ds.length = some i ∧ ds[i]? = some z ∧ k (.d z) (B.set j (.lst (ds.eraseIdx i)))
      | .pop, [] => ∃ z, ds[ds.length - 1]? = some z ∧ k (.d z) (B.set j (.lst ds.dropLast))
      | _, _ => False
    | _ => False
  | _ => False
def rMM : MM → V → List V → Hp → VK → Prop
  | .append => rAppend
  | .extend => rExtend
  | .pop => fun x vs H Q => rPopAt x vs H Q ∨ rPop x vs H Q
theorem dqAll_dropLast : ∀ {vs : List V} {ds : List PyData}, DqAll K G vs ds → DqAll K G vs.dropLast ds.dropLast
  | _, _, .nil => .nil
  | _, _, .cons h .nil => .nil
  | _, _, .cons h (.cons h2 t) => .cons h (dqAll_dropLast (.cons h2 t))
theorem mm_of {m : MM} {v : V} {x : AV} {us : List V} {ys : List AV} {k : Kt} {Q : VK} (S : StOk K θ A B σ G H) (hv : AVok K G θ v x) (hu : AVs K G θ us ys) (h : aMM m x ys B k)
    (q : ∀ θ' B' G' H' z w, Gr θ θ' G H G' H' → StOk K θ' A B' σ G' H' → AVok K G' θ' z w → k w B' → Q z H') : rMM m v us H Q := by
  unfold aMM at h
  split at h
  · rename_i j
    split at h
    · rename_i ds hb
      obtain ⟨a, vs, rfl, hk, e, d⟩ := cell_lst S.mem hv hb
      have gs : ∀ {vs' : List V} {ds' : List PyData}, DqAll K G vs' ds' → Gr θ θ G H G (upd H a (.lst vs')) ∧ StOk K θ A (B.set j (.lst ds')) σ G (upd H a (.lst vs')) := fun hd => by
        have hc : CellOk K G (upd H a (.lst _)) [a] (.lst _) := .lst upd_same hd
        exact ⟨(mem_upd S.mem hk (List.mem_singleton.mpr rfl) hc).2, st_upd S hk (List.mem_singleton.mpr rfl) hc⟩
      split at h
      · obtain ⟨u, rfl, hw⟩ := avs1 hu
        obtain ⟨y, hy, hz, h⟩ := wK_of hw h
        have g := gs (dqAll_append d (dqAll_one hy))
        exact ⟨a, vs, u, rfl, rfl, e, by rw [dqAll_len d]; exact hz, q _ _ _ _ _ _ g.1 g.2 (.d .non) h⟩
      · obtain ⟨u, rfl, hw⟩ := avs1 hu
        obtain ⟨y, hy, es, rfl, hz, h⟩ := wD_of S.mem hw h
        obtain ⟨b, ws, rfl, e2, d2⟩ := hy.list S.mem.ex
        have g := gs (dqAll_append d d2)
        exact ⟨a, b, vs, ws, rfl, rfl, e, e2, by rw [dqAll_len d, dqAll_len d2]; exact hz, q _ _ _ _ _ _ g.1 g.2 (.d .non) h⟩
      · obtain ⟨u, rfl, hw⟩ := avs1 hu
        obtain ⟨y, hy, n, i, z, rfl, h1, h2, h3, h4, h⟩ := wK_of hw h
        cases hy
        obtain ⟨w, hw2, dw⟩ := dqAll_get d h4
        have g := gs (dqAll_erase i d)
        exact .inl ⟨a, vs, n, i, w, rfl, rfl, e, h1, h2, by rw [dqAll_len d]; exact h3, hw2, q _ _ _ _ _ _ g.1 g.2 (.d dw) h⟩
      · cases hu
        obtain ⟨z, hz, h⟩ := h
        obtain ⟨w, hw, dw⟩ := dqAll_get d hz
        have g := gs (dqAll_dropLast d)
        exact .inr ⟨a, vs, w, rfl, rfl, e, by rw [dqAll_len d]; exact hw, q _ _ _ _ _ _ g.1 g.2 (.d dw) h⟩
      · exact h.elim
    · exact h.elim
  · exact h.elim
def fMM (m : MM) (fo : FE) (fs : FA) : FE := fun A B k => fo A B fun x B1 => isLst B1 x ∧ fs A B1 fun ys B2 => aMM m x ys B2 k
def nameMM : MM → String
  | .append => "append" | .extend => "extend" | .pop => "pop"
theorem ty_lst {v : V} {x : AV} (m : MemOk K θ B G H) (hv : AVok K G θ v x) (h : isLst B x) : tyV K "list" v H := by
  obtain ⟨ds, h⟩ := h
  obtain ⟨a, vs, rfl, e, d⟩ := (rd_top m hv h).list m.ex
  exact .inl ⟨rfl, vs, SqL.of e⟩
theorem pd_mm {m : MM} (ho : PD X o fo) (hs : PDA X es fs) (h : ∀ to ta, PE X o to → PA X es ta → PE X e (tBM X.K "list" (rMM m) to ta)) : PD X e (fMM m fo fs) := ⟨PE.imp (h _ _ ho.pe hs.pa) fun σ H Q w => by
  obtain ⟨θ, A, B, G, k, S, hf, q⟩ := w
  refine ⟨θ, A, B, G, _, S, hf, fun θ1 B1 G1 H1 v x g1 S1 hv k1 => ?_⟩
  refine ⟨ty_lst S1.mem hv k1.1, θ1, A, B1, G1, _, S1, k1.2, fun θ2 B2 G2 H2 us ys g2 S2 hu k2 => ?_⟩
  exact mm_of S2 (hv.gr g2) hu k2 fun θ3 B3 G3 H3 z w g3 S3 hz k3 => q θ3 B3 G3 H3 z w ((g1.trans g2).trans g3) S3 hz k3⟩
theorem pd_mm0 {m : MM} (ho : PD X o fo) (h : ∀ to, PE X o to → PE X e (tBM0 X.K "list" (rMM m) to)) : PD X e (fMM m fo fNil) := ⟨PE.imp (h _ ho.pe) fun σ H Q w => by
  obtain ⟨θ, A, B, G, k, S, hf, q⟩ := w
  refine ⟨θ, A, B, G, _, S, hf, fun θ1 B1 G1 H1 v x g1 S1 hv k1 => ?_⟩
  refine ⟨ty_lst S1.mem hv k1.1, ?_⟩
  exact mm_of S1 hv .nil k1.2 fun θ3 B3 G3 H3 z w g3 S3 hz k3 => q θ3 B3 G3 H3 z w (g1.trans g3) S3 hz k3⟩
theorem mt_popA : MtR X "list.pop" (rMM .pop) := MtR.or mt_popAt mt_pop

def selK (r : Option PyData) (z : AV) (k : Kt) (B : Mem) : Prop := match r with
  | some w => k (.d w) B
  | none => k z B
def fGet2 (fo fa fb : FE) : FE := fun A B k => fo A B fun x B1 => (∃ c, dictOf B1 x = some c) ∧ fa A B1 fun y B2 => fb A B2 fun z B3 => ∃ c, dictOf B3 x = some c ∧ wK y fun d => dlook c d fun r => selK r z k B3
theorem is_dict {v : V} {x : AV} (m : MemOk K θ B G H) (hv : AVok K G θ v x) (h : ∃ c, dictOf B x = some c) : ∃ a, v = .ref a ∧ IsD H a := by
  obtain ⟨c, h⟩ := h
  obtain ⟨a, rfl, ⟨_, vs, _, q, _⟩ | ⟨_, vs, _, q, _⟩⟩ := dict_at m hv h
  · exact ⟨a, rfl, .inl ⟨vs, q⟩⟩
  · exact ⟨a, rfl, .inr ⟨vs, .inl q⟩⟩
theorem pd_get2 (ho : PD X o fo) (ha : PD X a fa) (hb : PD X b fb) (h : ∀ to ta tb, PE X o to → PE X a ta → PE X b tb → PE X e (tDGet2 to ta tb)) : PD X e (fGet2 fo fa fb) := ⟨PE.imp (h _ _ _ ho.pe ha.pe hb.pe) fun σ H Q w => by
  obtain ⟨θ, A, B, G, k, S, hf, q⟩ := w
  refine ⟨θ, A, B, G, _, S, hf, fun θ1 B1 G1 H1 v x g1 S1 hv k1 => ?_⟩
  obtain ⟨p, rfl, hp⟩ := is_dict S1.mem hv k1.1
  refine ⟨p, rfl, hp, θ1, A, B1, G1, _, S1, k1.2, fun θ2 B2 G2 H2 u y g2 S2 hu k2 => ?_⟩
  refine ⟨θ2, A, B2, G2, _, S2, k2, fun θ3 B3 G3 H3 t z g3 S3 ht k3 => ?_⟩
  obtain ⟨c, hc, k3⟩ := k3
  obtain ⟨d, hd, hl⟩ := wK_of (hu.gr g3) k3
  obtain ⟨a', r, r', e1, g, hk, hr⟩ := dget_of S3.mem ((hv.gr g2).gr g3) hc hd hl
  cases e1
  refine ⟨r, g, ?_⟩
  rcases hr with ⟨z1, d1, rfl, rfl, dq⟩ | ⟨rfl, rfl⟩
  · exact q θ3 B3 G3 H3 _ _ ((g1.trans g2).trans g3) S3 (.d dq) hk
  · exact q θ3 B3 G3 H3 _ _ ((g1.trans g2).trans g3) S3 ht hk⟩

def fDNew : FE := fun _ B k => k (.m B.length) (B ++ [.dK []]) ∨ k (.m B.length) (B ++ [.dT []])
theorem pd_dnew (h1 : PE X e tDNewK) (h2 : PE X e tDNewT) : PD X e fDNew := by
  refine ⟨⟨fun pins s σ H Q I w => ?_⟩⟩
  obtain ⟨θ, A, B, G, k, S, hf, q⟩ := w
  have hl := S.mem.cells.len
  have hm : ∀ {p : Addr}, (θ ++ [[p]])[B.length]? = some [p] := fun {p} => by
    rw [← hl, List.getElem?_append_right (Nat.le_refl _), Nat.sub_self]
    rfl
  rcases hf with hf | hf
  · refine h1.run pins s σ H Q I fun p hp => ?_
    obtain ⟨m2, g2⟩ := mem_cell (o := .dK []) (c := .dK []) S.mem hp (.dK upd_same .nil)
    exact q _ _ _ _ _ _ g2 ⟨m2, S.slots.mono g2.gx g2.th⟩ (.m hm) hf
  · refine h2.run pins s σ H Q I fun p hp => ?_
    obtain ⟨m2, g2⟩ := mem_cell (o := .dT []) (c := .dT []) S.mem hp (.dT upd_same .nil)
    exact q _ _ _ _ _ _ g2 ⟨m2, S.slots.mono g2.gx g2.th⟩ (.m hm) hf

inductive TN where
  | int | bool | str | list | tuple
  deriving DecidableEq
def nameTN : TN → String
  | .int => "int" | .bool => "bool" | .str => "str" | .list => "list" | .tuple => "tuple"
def isSub (a b : String) : Bool := a == b || (a == "bool" && b == "int")
def tyD : PyData → String
  | .none => "NoneType"
  | .bool _ => "bool"
  | .int _ => "int"
  | .str _ => "str"
  | .list _ => "list"
  | .tuple _ => "tuple"
  | .dict _ => "dict"
def dIsi (ts : List TN) (d : PyData) : Bool := ts.any fun t => isSub (tyD d) (nameTN t)
theorem kit_sub : ∀ a ∈ ["NoneType", "bool", "int", "str", "list", "tuple"], ∀ b ∈ ["int", "bool", "str", "list", "tuple"], kitB a b = some (isSub a b) := by decide +kernel
theorem tyD_mem {v : V} {d : PyData} (h : Dp K H v d) : tyD d ∈ ["NoneType", "bool", "int", "str", "list", "tuple"] := by
  cases h <;> simp [tyD]
theorem nameTN_mem (t : TN) : nameTN t ∈ ["int", "bool", "str", "list", "tuple"] := by
  cases t <;> simp [nameTN]
theorem kit_any {v : V} {d : PyData} (h : Dp K H v d) : ∀ ts : List TN, PySem.W.kitAny K (.type (tyD d)) (ts.map fun t => .type (nameTN t)) = some (dIsi ts d)
  | [] => rfl
  | t :: ts => by
    have e : PySem.W.kitOne K (.type (tyD d)) (.type (nameTN t)) = some (isSub (tyD d) (nameTN t)) := kit_ty (kit_sub _ (tyD_mem h) _ (nameTN_mem t))
    have ih := kit_any h ts
    unfold PySem.W.kitAny
    rw [List.map_cons]
    simp only [e]
    unfold dIsi at ih ⊢
    rw [List.any_cons]
    cases isSub (tyD d) (nameTN t) with
    | true => rfl
    | false => simpa using ih
theorem top_ty {v : V} {d : PyData} (ex : Ext G H) (t : Top K G H v d) : TyX K H v (.type (tyD d)) := by
  cases t with
  | sc h =>
    cases h with
    | non => exact .base .non
    | bl b => exact .base (.bl b)
    | int i => exact .base (.int i)
    | str x => exact .base (.str x)
    | lst e _ => exact .base (.lst (ex _ _ e))
    | tup e _ => obtain ⟨o, _, e⟩ := e; exact .fTuple (ex _ _ e)
  | ls e _ => exact .base (.lst e)
  | kt h _ =>
    rcases h with (h | ⟨o, h⟩) | ⟨o, its, n, hk, hc, _⟩
    · cases h
    · cases h
    · exact .kTuple hk hc
def fIsi (ts : List TN) (fa : FE) : FE := fun A B k => fa A B fun x B1 => wD B1 x fun d => k (.d (.bool (dIsi ts d))) B1
def tTypes : List TN → TA
  | [] => tNil
  | t :: ts => tCons (tC (.ty (nameTN t))) (tTypes ts)
theorem types_run : ∀ (ts : List TN) {σ : L2.St} {H : Hp} {Q : List V → Hp → Prop}, Q (ts.map fun t => .ty (nameTN t)) H → tTypes ts σ H Q
  | [], _, _, _, h => h
  | t :: ts, σ, H, Q, h => types_run ts h
theorem cls_all : ∀ ts : List TN, Paired ClsV (ts.map fun t => .ty (nameTN t)) (ts.map fun t => .type (nameTN t))
  | [] => .nil
  | t :: ts => .cons (.ty _) (cls_all ts)
theorem pd_isi1 {t : TN} (ha : PD X a fa) (h : ∀ ta, PE X a ta → PE X e (tCB (rIsi X.K) (tCons ta (tCons (tC (.ty (nameTN t))) tNil)))) : PD X e (fIsi [t] fa) := ⟨PE.imp (h _ ha.pe) fun σ H Q w => by
  obtain ⟨θ, A, B, G, k, S, hf, q⟩ := w
  refine ⟨θ, A, B, G, _, S, hf, fun θ1 B1 G1 H1 v x g1 S1 hv k1 => ?_⟩
  obtain ⟨d, t1, h⟩ := wD_of S1.mem hv k1
  refine ⟨v, _, _, _, _, rfl, .ty _, top_ty S1.mem.ex t1, kit_ty (kit_sub _ (tyD_mem (t1.dp S1.mem.ex)) _ (nameTN_mem t)), ?_⟩
  refine q θ1 B1 G1 H1 _ _ g1 S1 ?_ h
  have e : dIsi [t] d = isSub (tyD d) (nameTN t) := by simp [dIsi]
  rw [e]
  exact .d (.bl _)⟩
theorem pd_isiT {ts : List TN} (hz : ts.length ≤ 10) (ha : PD X a fa) (h : ∀ ta, PE X a ta → PE X e (tCB (rIsiT X.K) (tCons ta (tCons (tTup (tTypes ts)) tNil)))) : PD X e (fIsi ts fa) := ⟨PE.imp (h _ ha.pe) fun σ H Q w => by
  obtain ⟨θ, A, B, G, k, S, hf, q⟩ := w
  refine ⟨θ, A, B, G, _, S, hf, fun θ1 B1 G1 H1 v x g1 S1 hv k1 => ?_⟩
  obtain ⟨d, t1, h⟩ := wD_of S1.mem hv k1
  refine types_run ts ⟨by rw [List.length_map]; exact Nat.le_trans hz (by decide), fun p hp => ?_⟩
  have s := Stp.junk (G := G1) (o := .tup (ts.map fun t => .ty (nameTN t))) S1.mem.ex hp
  have t2 := t1.mono s
  exact ⟨v, p, _, _, _, _, rfl, upd_same, cls_all ts, top_ty s.ex t2, kit_any (t2.dp s.ex) ts, q θ1 B1 G1 _ _ _ (g1.trans s.gr) (s.st S1) (.d (.bl _)) h⟩⟩
end
end Dl

namespace Dl
open L2 PySem PyProof.Rows PySem.Spec

inductive Itm (K : PySem.W.Frag) (pt : Bool) (G : Hp) : V → PyData → Prop
  | d {v : V} {x : PyData} : Dq K G v x → Itm K pt G v x
  | t {a : Addr} {vs : List V} {ds : List PyData} : pt = true → G a = some (.tup vs) → DqAll K G vs ds → Itm K pt G (.ref a) (.tuple ds)
inductive ItmV (K : PySem.W.Frag) (pt : Bool) (G : Hp) (θ : Th) : V → AV → Prop
  | a {v : V} {w : AV} : AVok K G θ v w → ItmV K pt G θ v w
  | t {a : Addr} {vs : List V} {ds : List PyData} : pt = true → G a = some (.tup vs) → DqAll K G vs ds → ItmV K pt G θ (.ref a) (.d (.tuple ds))
theorem Itm.v {K : PySem.W.Frag} {pt : Bool} {G : Hp} {θ : Th} {v : V} {x : PyData} (h : Itm K pt G v x) : ItmV K pt G θ v (.d x) := by
  cases h with
  | d h => exact .a (.d h)
  | t p e d => exact .t p e d
structure Walks (K : PySem.W.Frag) (pt : Bool) (G0 : Hp) (J : It) (xs : List PyData) : Prop where
  step : ∀ (i : Nat) (G H : Hp), Ext G0 G → Ext G H → i < xs.length → J.go i H ∧ ∀ (x : V) (H' : Hp), J.yld i H x H' → ∃ G', Stp G H G' H' ∧ ∀ d, xs[i]? = some d → Itm K pt G' x d
  stop : ∀ H, Ext G0 H → J.stop xs.length H
abbrev FI := Env → Mem → (List PyData → Mem → Prop) → Prop
def tfI (K : PySem.W.Frag) (pt : Bool) (f : FI) : TI := fun σ H R => ∃ θ A B G k, StOk K θ A B σ G H ∧ f A B k ∧ ∀ θ' B' G' H' xs J, Gr θ θ' G H G' H' → StOk K θ' A B' σ G' H' → Walks K pt G' J xs → k xs B' → R J H'
structure PDI (X : Cx) (pt : Bool) (tg iter : Expr) (f : FI) : Prop where
  pi : PI X tg iter (tfI X.K pt f)
theorem PI.imp {X : Cx} {tg iter : Expr} {t t' : TI} (h : PI X tg iter t) (i : ∀ σ H R, t' σ H R → t σ H R) : PI X tg iter t' := ⟨fun pins s σ H R I w => h.run pins s σ H R I (i σ H R w)⟩
theorem pi_or {X : Cx} {tg iter : Expr} {t t' : TI} (h : PI X tg iter t) (h' : PI X tg iter t') : PI X tg iter (fun σ H R => t σ H R ∨ t' σ H R) := ⟨fun pins s σ H R I w => by
  rcases w with w | w
  · exact h.run pins s σ H R I w
  · exact h'.run pins s σ H R I w⟩
section
variable {K : PySem.W.Frag} {θ : Th} {A : Env} {B : Mem} {σ : L2.St} {G H : Hp} {X : Cx} {e a b c o i tg : Expr} {es : List Expr} {pos : Pos} {fa fb fc fo : FE} {fs : FA} {pt : Bool}
theorem it_el {vs : List V} {ds : List PyData} (h : DqAll K G vs ds) {i : Nat} {x : V} (e : vs[i]? = some x) : ∀ d, ds[i]? = some d → Itm K pt G x d := fun d hd => by
  obtain ⟨v, h1, h2⟩ := dqAll_get h hd
  rw [e] at h1
  cases h1
  exact .d h2
theorem dq_el {vs : List V} {ds : List PyData} (h : DqAll K G vs ds) {i : Nat} {x : V} (e : vs[i]? = some x) : ∀ d, ds[i]? = some d → Dq K G x d := fun d hd => by
  obtain ⟨v, h1, h2⟩ := dqAll_get h hd
  rw [e] at h1
  cases h1
  exact h2
theorem walks_list {a : Addr} {vs : List V} {xs : List PyData} (e : G a = some (.lst vs)) (d : DqAll K G vs xs) : Walks K pt G (Itl K a) xs := by
  have hl := dqAll_len d
  refine ⟨fun i G1 H1 x1 x2 hi => ⟨⟨vs, vs[i]'(by omega), SqL.of (x2 _ _ (x1 _ _ e)), by simp⟩, fun x H' y => ?_⟩, fun H x1 => ⟨vs, SqL.of (x1 _ _ e), by omega⟩⟩
  obtain ⟨rfl, y⟩ := y
  exact ⟨G1, Stp.refl x2, it_el (dqAll_mono x1 d) (y vs (SqL.of (x2 _ _ (x1 _ _ e))))⟩
theorem walks_tup {a : Addr} {vs : List V} {xs : List PyData} (e : ∀ H, Ext G H → SqT K H a vs) (d : DqAll K G vs xs) : Walks K pt G (Itt K a) xs := by
  have hl := dqAll_len d
  refine ⟨fun i G1 H1 x1 x2 hi => ⟨⟨vs, vs[i]'(by omega), e _ (x1.trans x2), by simp⟩, fun x H' y => ?_⟩, fun H x1 => ⟨vs, e _ x1, by omega⟩⟩
  obtain ⟨rfl, y⟩ := y
  exact ⟨G1, Stp.refl x2, it_el (dqAll_mono x1 d) (y vs (e _ (x1.trans x2)))⟩
def rangeD (lo : Int) (n : Nat) : List PyData := (List.range n).map fun (i : Nat) => .int (lo + (i : Int))
theorem rangeD_len (lo : Int) (n : Nat) : (rangeD lo n).length = n := by simp [rangeD]
theorem rangeD_get {lo : Int} {n i : Nat} {d : PyData} (h : (rangeD lo n)[i]? = some d) : i < n ∧ d = .int (lo + (i : Int)) := by
  unfold rangeD at h
  rw [List.getElem?_map] at h
  by_cases q : i < n
  · rw [List.getElem?_range q] at h
    exact ⟨q, (Option.some.inj h).symm⟩
  · rw [List.getElem?_eq_none (by simpa using q)] at h
    cases h
theorem walks_range (lo : Int) (n : Nat) : Walks K pt G (Itr lo n) (rangeD lo n) := by
  refine ⟨fun i G1 H1 x1 x2 hi => ⟨by rw [rangeD_len] at hi; exact hi, fun x H' y => ?_⟩, fun H x1 => by show n ≤ _; rw [rangeD_len]; exact Nat.le_refl _⟩
  obtain ⟨rfl, rfl⟩ := y
  refine ⟨G1, Stp.refl x2, fun d hd => ?_⟩
  rw [(rangeD_get hd).2]
  exact .d (.int _)
def rangeC (lo c : Int) (n : Nat) : List PyData := (List.range n).map fun (i : Nat) => .int (lo + (i : Int) * c)
theorem rangeC_len (lo c : Int) (n : Nat) : (rangeC lo c n).length = n := by simp [rangeC]
theorem rangeC_get {lo c : Int} {n i : Nat} {d : PyData} (h : (rangeC lo c n)[i]? = some d) : i < n ∧ d = .int (lo + (i : Int) * c) := by
  unfold rangeC at h
  rw [List.getElem?_map] at h
  by_cases q : i < n
  · rw [List.getElem?_range q] at h
    exact ⟨q, (Option.some.inj h).symm⟩
  · rw [List.getElem?_eq_none (by simpa using q)] at h
    cases h
theorem walks_rangeC (lo c : Int) (n : Nat) : Walks K pt G (Itc lo c n) (rangeC lo c n) := by
  refine ⟨fun i G1 H1 x1 x2 hi => ⟨by rw [rangeC_len] at hi; exact hi, fun x H' y => ?_⟩, fun H x1 => by show n ≤ _; rw [rangeC_len]; exact Nat.le_refl _⟩
  obtain ⟨rfl, rfl⟩ := y
  refine ⟨G1, Stp.refl x2, fun d hd => ?_⟩
  rw [(rangeC_get hd).2]
  exact .d (.int _)
def signsD (z : Str) : List PyData := z.cps.toList.map fun c => .str ⟨#[c]⟩
theorem walks_str (z : Str) : Walks K pt G (Its z) (signsD z) := by
  have hl : (signsD z).length = z.cps.size := by simp [signsD]
  refine ⟨fun i G1 H1 x1 x2 hi => ⟨by rw [hl] at hi; exact hi, fun x H' y => ?_⟩, fun H x1 => by show _ ≤ _; rw [hl]; exact Nat.le_refl _⟩
  obtain ⟨rfl, c, hc, rfl⟩ := y
  refine ⟨G1, Stp.refl x2, fun d hd => ?_⟩
  unfold signsD at hd
  rw [List.getElem?_map, Array.getElem?_toList, hc] at hd
  cases hd
  exact .d (.str _)
def wL (x : AV) (k : List PyData → Prop) : Prop := match x with
  | .d (.list xs) => k xs
  | _ => False
def wT (x : AV) (k : List PyData → Prop) : Prop := match x with
  | .d (.tuple xs) => k xs
  | .kt xs => k xs
  | _ => False
def wS (x : AV) (k : List PyData → Prop) : Prop := match x with
  | .d (.str z) => k (signsD z)
  | _ => False
def fSeq (fa : FE) : FI := fun A B k => (fa A B fun x B1 => wL x fun xs => k xs B1) ∨ (fa A B fun x B1 => wT x fun xs => k xs B1) ∨ (fa A B fun x B1 => wS x fun xs => k xs B1)
theorem pdi_seq (ha : PD X a fa) : PDI X pt tg a (fSeq fa) := ⟨PI.imp (pi_or (pi_list ha.pe) (pi_or (pi_tup ha.pe) (pi_str ha.pe))) fun σ H R w => by
  obtain ⟨θ, A, B, G, k, S, hf, q⟩ := w
  rcases hf with hf | hf | hf
  · refine .inl ⟨θ, A, B, G, _, S, hf, fun θ1 B1 G1 H1 v x g1 S1 hv k1 => ?_⟩
    unfold wL at k1
    split at k1
    · cases hv with
      | d hd =>
        cases hd with
        | lst e d => exact ⟨_, rfl, ⟨_, SqL.of (S1.mem.ex _ _ e)⟩, q θ1 B1 G1 H1 _ _ g1 S1 (walks_list e d) k1⟩
    · exact k1.elim
  · refine .inr (.inl ⟨θ, A, B, G, _, S, hf, fun θ1 B1 G1 H1 v x g1 S1 hv k1 => ?_⟩)
    unfold wT at k1
    split at k1
    · cases hv with
      | d hd =>
        cases hd with
        | tup e d => exact ⟨_, rfl, ⟨_, (e.ex S1.mem.ex).sq⟩, q θ1 B1 G1 H1 _ _ g1 S1 (walks_tup (fun H x => (e.ex x).sq) d) k1⟩
    · cases hv with
      | kt e d => exact ⟨_, rfl, ⟨_, sqT_any e⟩, q θ1 B1 G1 H1 _ _ g1 S1 (walks_tup (fun H _ => sqT_any e) (dqAll_mono ex_nil d)) k1⟩
    · exact k1.elim
  · refine .inr (.inr ⟨θ, A, B, G, _, S, hf, fun θ1 B1 G1 H1 v x g1 S1 hv k1 => ?_⟩)
    unfold wS at k1
    split at k1
    · cases hv with
      | d hd =>
        cases hd with
        | str => exact ⟨_, rfl, q θ1 B1 G1 H1 _ _ g1 S1 (walks_str _) k1⟩
    · exact k1.elim⟩
theorem avs2 {vs : List V} {x y : AV} (h : AVs K G θ vs [x, y]) : ∃ v u, vs = [v, u] ∧ AVok K G θ v x ∧ AVok K G θ u y := by
  cases h with
  | cons h t =>
    cases t with
    | cons h2 t => cases t; exact ⟨_, _, rfl, h, h2⟩
theorem avs3 {vs : List V} {x y z : AV} (h : AVs K G θ vs [x, y, z]) : ∃ v u w, vs = [v, u, w] ∧ AVok K G θ v x ∧ AVok K G θ u y ∧ AVok K G θ w z := by
  cases h with
  | cons h t =>
    obtain ⟨u, w, rfl, h2, h3⟩ := avs2 t
    exact ⟨_, u, w, rfl, h, h2, h3⟩
def wInt (x : AV) (k : Int → Prop) : Prop := match x with
  | .d (.int i) => k i
  | _ => False
theorem wInt_of {v : V} {x : AV} {k : Int → Prop} (hv : AVok K G θ v x) (h : wInt x k) : ∃ i, v = .int i ∧ k i := by
  unfold wInt at h
  split at h
  · cases hv with
    | d hd => cases hd; exact ⟨_, rfl, h⟩
  · exact h.elim
def fR1 (fs : FA) : FI := fun A B k => fs A B fun ws B1 => ∃ j : Int, ws = [.d (.int j)] ∧ -(2 ^ 62) ≤ j ∧ j < 2 ^ 62 ∧ k (rangeD 0 j.toNat) B1
theorem avInt {v : V} {i : Int} (h : AVok K G θ v (.d (.int i))) : v = .int i := by
  cases h with
  | d h => cases h; rfl
theorem pdi_r1 (hs : PDA X es fs) (h : ∀ ta, PA X es ta → PI X tg e (iRng1 ta)) : PDI X pt tg e (fR1 fs) := ⟨PI.imp (h _ hs.pa) fun σ H R w => by
  obtain ⟨θ, A, B, G, k, S, hf, q⟩ := w
  refine ⟨θ, A, B, G, _, S, hf, fun θ1 B1 G1 H1 vs ws g1 S1 hv k1 => ?_⟩
  obtain ⟨j, rfl, h1, h2, h3⟩ := k1
  obtain ⟨v, rfl, hw⟩ := avs1 hv
  rw [avInt hw]
  exact ⟨j, rfl, h1, h2, q θ1 B1 G1 H1 _ _ g1 S1 (walks_range 0 j.toNat) h3⟩⟩
def fR2 (fs : FA) : FI := fun A B k => fs A B fun ws B1 => ∃ i j : Int, ws = [.d (.int i), .d (.int j)] ∧ (-(2 ^ 62) ≤ i ∧ i < 2 ^ 62 ∧ -(2 ^ 62) ≤ j ∧ j < 2 ^ 62) ∧ k (rangeD i (j - i).toNat) B1
theorem pdi_r2 (hs : PDA X es fs) (h : ∀ ta, PA X es ta → PI X tg e (iRng2 ta)) : PDI X pt tg e (fR2 fs) := ⟨PI.imp (h _ hs.pa) fun σ H R w => by
  obtain ⟨θ, A, B, G, k, S, hf, q⟩ := w
  refine ⟨θ, A, B, G, _, S, hf, fun θ1 B1 G1 H1 vs ws g1 S1 hv k1 => ?_⟩
  obtain ⟨i, j, rfl, h1, h3⟩ := k1
  obtain ⟨v, u, rfl, hw, hu⟩ := avs2 hv
  rw [avInt hw, avInt hu]
  exact ⟨i, j, rfl, h1, q θ1 B1 G1 H1 _ _ g1 S1 (walks_range i (j - i).toNat) h3⟩⟩
def fR3 (fs : FA) : FI := fun A B k => fs A B fun ws B1 => ∃ (i j c : Int) (n : Nat), ws = [.d (.int i), .d (.int j), .d (.int c)] ∧ RgC i j c n ∧ k (rangeC i c n) B1
theorem pdi_r3 (hs : PDA X es fs) (h : ∀ ta, PA X es ta → PI X tg e (iRng3 ta)) : PDI X pt tg e (fR3 fs) := ⟨PI.imp (h _ hs.pa) fun σ H R w => by
  obtain ⟨θ, A, B, G, k, S, hf, q⟩ := w
  refine ⟨θ, A, B, G, _, S, hf, fun θ1 B1 G1 H1 vs ws g1 S1 hv k1 => ?_⟩
  obtain ⟨i, j, c, n, rfl, h1, h3⟩ := k1
  obtain ⟨v, u, t, rfl, hw, hu, ht⟩ := avs3 hv
  rw [avInt hw, avInt hu, avInt ht]
  exact ⟨i, j, c, n, rfl, h1, q θ1 B1 G1 H1 _ _ g1 S1 (walks_rangeC i c n) h3⟩⟩
def zipD (xs ys : List PyData) : List PyData := List.zipWith (fun x y => .tuple [x, y]) xs ys
theorem zipD_get {xs ys : List PyData} {i : Nat} {d : PyData} (h : (zipD xs ys)[i]? = some d) : ∃ x y, xs[i]? = some x ∧ ys[i]? = some y ∧ d = .tuple [x, y] := by
  unfold zipD at h
  rw [List.getElem?_zipWith] at h
  split at h
  · rename_i x y h1 h2
    exact ⟨x, y, h1, h2, (Option.some.inj h).symm⟩
  · cases h
theorem walks_pair {J : It} {xs ys : List PyData} {vs us : List V} (d1 : DqAll K G vs xs) (d2 : DqAll K G us ys)
    (hg : ∀ (i : Nat) (H : Hp), Ext G H → i < vs.length → i < us.length → J.go i H) (hy : ∀ (i : Nat) (H : Hp) (x : V) (H' : Hp), Ext G H → J.yld i H x H' → ∃ T x1 x2, x = .ref T ∧ H T = none ∧ H' = upd H T (.tup [x1, x2]) ∧ vs[i]? = some x1 ∧ us[i]? = some x2)
    (hs : ∀ (i : Nat) (H : Hp), Ext G H → vs.length ≤ i ∨ us.length ≤ i → J.stop i H) : Walks K true G J (zipD xs ys) := by
  have l1 := dqAll_len d1
  have l2 := dqAll_len d2
  have lz : (zipD xs ys).length = min xs.length ys.length := by simp [zipD]
  refine ⟨fun i G1 H1 x1 x2 hi => ⟨hg i H1 (x1.trans x2) (by omega) (by omega), fun x H' y => ?_⟩, fun H x1 => hs _ H x1 (by omega)⟩
  obtain ⟨T, y1, y2, rfl, hT, rfl, e1, e2⟩ := hy i H1 x H' (x1.trans x2) y
  have s := Stp.new (o := .tup [y1, y2]) x2 hT
  refine ⟨_, s, fun d hd => ?_⟩
  obtain ⟨z1, z2, f1, f2, rfl⟩ := zipD_get hd
  exact .t rfl upd_same (.cons (dq_mono (x1.trans s.gx) (dq_el d1 e1 _ f1)) (.cons (dq_mono (x1.trans s.gx) (dq_el d2 e2 _ f2)) .nil))
def wZip (ws : List AV) (k : List PyData → Prop) : Prop := match ws with
  | [.d (.list xs), .d (.list ys)] => k (zipD xs ys)
  | [.d (.tuple xs), .d (.tuple ys)] => k (zipD xs ys)
  | _ => False
def fZip (fs : FA) : FI := fun A B k => fs A B fun ws B2 => wZip ws fun xs => k xs B2
theorem pdi_zip (hs : PDA X es fs) (h : ∀ ta, PA X es ta → PI X tg e (RZ.iZipA X.K ta)) : PDI X true tg e (fZip fs) := ⟨PI.imp (h _ hs.pa) fun σ H R w => by
  obtain ⟨θ, A, B, G, k, S, hf, q⟩ := w
  refine ⟨θ, A, B, G, _, S, hf, fun θ2 B2 G2 H2 vs ws g2 S2 hws k2 => ?_⟩
  have ex := S2.mem.ex
  unfold wZip at k2
  split at k2
  · obtain ⟨v, u, rfl, hv, hu⟩ := avs2 hws
    cases hv with
    | d hd =>
      cases hd with
      | @lst p1 vs _ e1 d1 =>
        cases hu with
        | d hd =>
          cases hd with
          | @lst p2 us _ e2 d2 =>
            refine ⟨_, _, _, _, rfl, .inl ⟨SqL.of (ex _ _ e1), SqL.of (ex _ _ e2), q θ2 B2 G2 H2 _ _ g2 S2 (walks_pair d1 d2 (fun i H x h1 h2 => ?_) (fun i H x H' xx y => ?_) fun i H x h => ⟨vs, us, SqL.of (x _ _ e1), SqL.of (x _ _ e2), h⟩) k2⟩⟩
            · exact ⟨vs, us, vs[i], us[i], SqL.of (x _ _ e1), SqL.of (x _ _ e2), by simp, by simp⟩
            · obtain ⟨T, y1, y2, h1, h2, h3, h4, h5⟩ := y
              exact ⟨T, y1, y2, h1, h2, h3, h4 _ (SqL.of (xx _ _ e1)), h5 _ (SqL.of (xx _ _ e2))⟩
  · obtain ⟨v, u, rfl, hv, hu⟩ := avs2 hws
    cases hv with
    | d hd =>
      cases hd with
      | @tup p1 vs _ e1 d1 =>
        cases hu with
        | d hd =>
          cases hd with
          | @tup p2 us _ e2 d2 =>
            refine ⟨_, _, _, _, rfl, .inr ⟨(e1.ex ex).sq, (e2.ex ex).sq, q θ2 B2 G2 H2 _ _ g2 S2 (walks_pair d1 d2 (fun i H x h1 h2 => ?_) (fun i H x H' xx y => ?_) fun i H x h => ⟨vs, us, (e1.ex x).sq, (e2.ex x).sq, h⟩) k2⟩⟩
            · exact ⟨vs, us, vs[i], us[i], (e1.ex x).sq, (e2.ex x).sq, by simp, by simp⟩
            · obtain ⟨T, y1, y2, h1, h2, h3, h4, h5⟩ := y
              exact ⟨T, y1, y2, h1, h2, h3, h4 _ (e1.ex xx).sq, h5 _ (e2.ex xx).sq⟩
  · exact k2.elim⟩
def enumD (xs : List PyData) : List PyData := xs.zipIdx.map fun (x : PyData × Nat) => .tuple [.int (x.2 : Int), x.1]
theorem enumD_get {xs : List PyData} {i : Nat} {d : PyData} (h : (enumD xs)[i]? = some d) : ∃ x, xs[i]? = some x ∧ d = .tuple [.int (i : Int), x] := by
  unfold enumD at h
  rw [List.getElem?_map, List.getElem?_zipIdx] at h
  cases e : xs[i]? with
  | none => rw [e] at h; cases h
  | some x =>
    rw [e] at h
    exact ⟨x, rfl, by simpa using (Option.some.inj h).symm⟩
def fEnum (fs : FA) : FI := fun A B k => fs A B fun ws B1 => ∃ xs, (ws = [.d (.list xs)] ∨ ws = [.d (.tuple xs)]) ∧ k (enumD xs) B1
abbrev FG := AV → Env → Mem → (Env → Mem → Prop) → Prop
def tfG (K : PySem.W.Frag) (pt : Bool) (f : FG) : TG := fun v σ H Q => ∃ θ A B G w k, StOk K θ A B σ G H ∧ ItmV K pt G θ v w ∧ f w A B k ∧ ∀ θ' A' B' σ' G' H', Gr θ θ' G H G' H' → StOk K θ' A' B' σ' G' H' → k A' B' → Q σ' H'
structure PDG (X : Cx) (pt : Bool) (tg : Expr) (f : FG) : Prop where
  pg : PG X tg (tfG X.K pt f)
theorem PG.imp {X : Cx} {tg : Expr} {t t' : TG} (h : PG X tg t) (i : ∀ v σ H Q, t' v σ H Q → t v σ H Q) : PG X tg t' := ⟨fun pins s σ H v u Q I r w => h.run pins s σ H v u Q I r (i v σ H Q w)⟩
def gN (i : Nat) : FG := fun w A B k => k (A.set i (some w)) B
theorem pdg_name {i : Nat} (h : PG X tg (gName i)) : PDG X false tg (gN i) := ⟨PG.imp h fun v σ H Q w => by
  obtain ⟨θ, A, B, G, w, k, S, hv, hf, q⟩ := w
  cases hv with
  | a hv => exact q θ _ B _ G H Gr.refl (S.set i hv) hf
  | t p _ _ => cases p⟩
abbrev FGs := List PyData → Env → Mem → (Env → Mem → Prop) → Prop
def tfGs (K : PySem.W.Frag) (f : FGs) : TGs := fun vs σ H Q => ∃ θ A B G ds k, StOk K θ A B σ G H ∧ DqAll K G vs ds ∧ f ds A B k ∧ ∀ θ' A' B' σ' G' H', Gr θ θ' G H G' H' → StOk K θ' A' B' σ' G' H' → k A' B' → Q σ' H'
structure PDGs (X : Cx) (ts : List Expr) (f : FGs) : Prop where
  pgs : PGs X ts (tfGs X.K f)
theorem PGs.imp {X : Cx} {ts : List Expr} {t t' : TGs} (h : PGs X ts t) (i : ∀ v σ H Q, t' v σ H Q → t v σ H Q) : PGs X ts t' := ⟨fun pins s σ H v u Q I r w => h.run pins s σ H v u Q I r (i v σ H Q w)⟩
def gsNil : FGs := fun ds A B k => ds = [] ∧ k A B
def gsCons (f : FG) (g : FGs) : FGs := fun ds A B k => ∃ d r, ds = d :: r ∧ f (.d d) A B fun A1 B1 => g r A1 B1 k
theorem pdgs_nil : PDGs X [] gsNil := ⟨PGs.imp pgs_nil fun v σ H Q w => by
  obtain ⟨θ, A, B, G, ds, k, S, hv, ⟨rfl, hf⟩, q⟩ := w
  cases hv
  exact ⟨rfl, q θ A B σ G H Gr.refl S hf⟩⟩
theorem pdgs_cons {f : FG} {g : FGs} (h1 : PDG X false e f) (h2 : PDGs X es g) (hs : (assignEach (e :: es) X.env).map (·.2) = assign e X.env :: (assignEach es X.env).map (·.2)) : PDGs X (e :: es) (gsCons f g) := ⟨PGs.imp (pgs_cons h1.pg h2.pgs hs) fun v σ H Q w => by
  obtain ⟨θ, A, B, G, ds, k, S, hv, ⟨d, r, rfl, hf⟩, q⟩ := w
  cases hv with
  | cons hd t =>
    refine ⟨_, _, rfl, θ, A, B, G, _, _, S, .a (.d hd), hf, fun θ1 A1 B1 σ1 G1 H1 g1 S1 k1 => ?_⟩
    exact ⟨θ1, A1, B1, G1, r, k, S1, dqAll_mono g1.gx t, k1, fun θ2 A2 B2 σ2 G2 H2 g2 S2 k2 => q θ2 A2 B2 σ2 G2 H2 (g1.trans g2) S2 k2⟩⟩
def gT (n : Nat) (g : FGs) : FG := fun w A B k => wT w fun ds => isKt w = false ∧ ds.length = n ∧ g ds A B k
theorem pdg_tup {k : Nat} {n : Nat} {g : FGs} (h : PDGs X es g) (hc : X.calm = true) (hn : (assignEach es X.env).length = n) (hst : (assignEach es X.env).findIdx? (·.1) = none) : PDG X pt (.Tuple es k pos) (gT n g) := ⟨PG.imp (pg_tup hc h.pgs hn hst) fun v σ H Q w => by
  obtain ⟨θ, A, B, G, w, k, S, hv, hf, q⟩ := w
  unfold gT wT at hf
  cases hv with
  | t p e d => exact ⟨_, _, rfl, SqT.of (S.mem.ex _ _ e), by rw [dqAll_len d]; exact hf.2.1, θ, A, B, G, _, k, S, d, hf.2.2, q⟩
  | a hv =>
  split at hf
  · cases hv with
    | d hd =>
      cases hd with
      | tup e d => exact ⟨_, _, rfl, (e.ex S.mem.ex).sq, by rw [dqAll_len d]; exact hf.2.1, θ, A, B, G, _, k, S, d, hf.2.2, q⟩
  · cases hf.1
  · exact hf.elim⟩
end
end Dl

namespace Dl
open L2 PySem PyProof.Rows PySem.Spec

structure Ent where
  θ : Th
  G : Hp
  H : Hp
structure Gw (np : Nat) (N M : Ent) : Prop where
  gx : Ext N.G M.G
  th : M.θ.take np = N.θ.take np
  ln : np ≤ M.θ.length
  keep : ∀ a o, N.H a = some o → a ∉ N.θ.flatten → M.H a = some o
  new : ∀ a, a ∈ M.θ.flatten → a ∈ N.θ.flatten ∨ N.H a = none
  gnew : ∀ a, M.G a ≠ none → N.G a ≠ none ∨ a ∈ N.θ.flatten ∨ N.H a = none
theorem Gw.refl {np : Nat} {N : Ent} (h : np ≤ N.θ.length) : Gw np N N := ⟨Ext.refl _, rfl, h, fun _ _ h _ => h, fun _ h => .inl h, fun _ h => .inl h⟩
theorem Gw.trans {np : Nat} {N M P : Ent} (x : Gw np N M) (y : Gw np M P) : Gw np N P := by
  have ka : ∀ a, M.H a = none → a ∈ N.θ.flatten ∨ N.H a = none := fun a h => by
    cases q : N.H a with
    | none => exact .inr rfl
    | some o =>
      by_cases hm : a ∈ N.θ.flatten
      · exact .inl hm
      · rw [x.keep a o q hm] at h
        cases h
  refine ⟨x.gx.trans y.gx, y.th.trans x.th, y.ln, fun a o h hm => ?_, fun a h => ?_, fun a h => ?_⟩
  · refine y.keep a o (x.keep a o h hm) fun hm1 => ?_
    rcases x.new a hm1 with q | q
    · exact hm q
    · rw [h] at q
      cases q
  · rcases y.new a h with q | q
    · exact x.new a q
    · exact ka a q
  · rcases y.gnew a h with q | q | q
    · exact x.gnew a q
    · rcases x.new a q with q | q
      · exact .inr (.inl q)
      · exact .inr (.inr q)
    · rcases ka a q with q | q
      · exact .inr (.inl q)
      · exact .inr (.inr q)
theorem take_prefix {α : Type} {xs ys : List α} {n : Nat} (h : xs <+: ys) (hn : n ≤ xs.length) : ys.take n = xs.take n := by
  obtain ⟨t, rfl⟩ := h
  rw [List.take_append_of_le_length hn]
theorem Gw.gr {np : Nat} {N : Ent} {θ θ' : Th} {G H G' H' : Hp} (x : Gw np N ⟨θ, G, H⟩) (g : Gr θ θ' G H G' H') : Gw np N ⟨θ', G', H'⟩ :=
  x.trans ⟨g.gx, take_prefix g.th x.ln, Nat.le_trans x.ln g.th.length_le, g.keep, g.new, g.gnew⟩

def frzC : MC → Option PyData
  | .lst ds => some (.list ds)
  | .mat rows => some (.list (rows.map .list))
  | _ => none
open Classical in
noncomputable def frzG (G H : Hp) (as : List Addr) : Hp := fun a => if a ∈ as then H a else G a
section
variable {K : PySem.W.Frag} {θ : Th} {A : Env} {B : Mem} {σ : L2.St} {G H : Hp} {np : Nat} {N : Ent}
theorem frzG_in {as : List Addr} {a : Addr} (h : a ∈ as) : frzG G H as a = H a := by unfold frzG; rw [if_pos h]
theorem frzG_out {as : List Addr} {a : Addr} (h : a ∉ as) : frzG G H as a = G a := by unfold frzG; rw [if_neg h]
theorem frz_ex {as : List Addr} (hf : ∀ a ∈ as, G a = none) : Ext G (frzG G H as) := fun a o h => by
  by_cases q : a ∈ as
  · rw [hf a q] at h
    cases h
  · rw [frzG_out q]
    exact h
theorem frz_exH {as : List Addr} (ex : Ext G H) : Ext (frzG G H as) H := fun a o h => by
  by_cases q : a ∈ as
  · rw [frzG_in q] at h
    exact h
  · rw [frzG_out q] at h
    exact ex a o h
theorem rows_dq {as : List Addr} {rows : List (List PyData)} {G' : Hp} (gx : Ext G G') (r : RowsOk K G H as rows) (h : ∀ a ∈ as, G' a = H a) : DqAll K G' (as.map V.ref) (rows.map .list) := by
  induction r with
  | nil => exact .nil
  | cons e d _ ih => exact .cons (.lst ((h _ List.mem_cons_self).trans e) (dqAll_mono gx d)) (ih fun a ha => h a (List.mem_cons_of_mem _ ha))
theorem frz_dq {as : List Addr} {c : MC} {x : PyData} (hf : ∀ a ∈ as, G a = none) (hc : CellOk K G H as c) (e : frzC c = some x) : ∃ a rs, as = a :: rs ∧ Dq K (frzG G H as) (.ref a) x := by
  cases hc with
  | lst q d =>
    cases e
    exact ⟨_, _, rfl, .lst ((frzG_in List.mem_cons_self).trans q) (dqAll_mono (frz_ex hf) d)⟩
  | mat q r =>
    cases e
    exact ⟨_, _, rfl, .lst ((frzG_in List.mem_cons_self).trans q) (rows_dq (frz_ex hf) r fun a ha => frzG_in (List.mem_cons_of_mem _ ha))⟩
  | dK _ _ => cases e
  | dT _ _ => cases e
  | lk _ _ => cases e
  | gone => cases e
theorem cells_gone {G' : Hp} (gx : Ext G G') : ∀ {θ : Th} {B : Mem} (k : Nat), CellsOk K G H θ B → CellsOk K G' H (θ.set k []) (B.set k .gone)
  | _, _, _, .nil => .nil
  | _, _, 0, .cons h t => .cons .gone (t.mono gx fun _ _ _ h => h)
  | _, _, k + 1, .cons h t => .cons (h.mono gx fun _ _ _ h => h) (cells_gone gx k t)
theorem flat_set : ∀ {θ : Th} (k : Nat), (θ.set k []).flatten.Sublist θ.flatten
  | [], _ => List.Sublist.refl _
  | as :: θ, 0 => by
    show ([] ++ θ.flatten).Sublist (as ++ θ.flatten)
    exact List.sublist_append_right _ _
  | as :: θ, k + 1 => by
    show (as ++ (θ.set k []).flatten).Sublist (as ++ θ.flatten)
    exact (List.append_sublist_append_left as).mpr (flat_set k)
theorem not_in_set : ∀ {θ : Th} {k : Nat} {as : List Addr}, θ.flatten.Nodup → θ[k]? = some as → ∀ a ∈ as, a ∉ (θ.set k []).flatten
  | [], _, _, _, e => by simp at e
  | bs :: θ, 0, as, nd, e => fun a ha hm => by
    simp at e
    subst e
    rw [List.flatten_cons, List.nodup_append] at nd
    exact nd.2.2 a ha a (by simpa using hm) rfl
  | bs :: θ, k + 1, as, nd, e => fun a ha hm => by
    simp at e
    rw [List.flatten_cons, List.nodup_append] at nd
    have hm : a ∈ bs ++ (θ.set k []).flatten := hm
    rcases List.mem_append.mp hm with q | q
    · exact nd.2.2 a q a (List.mem_flatten.mpr ⟨as, List.mem_of_getElem? e, ha⟩) rfl
    · exact not_in_set nd.2.1 e a ha q
theorem mem_frz {k : Nat} {as : List Addr} (m : MemOk K θ B G H) (hk : θ[k]? = some as) : MemOk K (θ.set k []) (B.set k .gone) (frzG G H as) H ∧ (np ≤ k → np ≤ θ.length → Gw np ⟨θ, G, H⟩ ⟨θ.set k [], frzG G H as, H⟩) := by
  have hm : ∀ a ∈ as, a ∈ θ.flatten := fun a ha => List.mem_flatten.mpr ⟨as, List.mem_of_getElem? hk, ha⟩
  have hf : ∀ a ∈ as, G a = none := fun a ha => m.free a (hm a ha)
  refine ⟨⟨frz_exH m.ex, cells_gone (frz_ex hf) k m.cells, m.nd.sublist (flat_set k), fun a ha => ?_⟩, fun h1 h2 => ⟨frz_ex hf, ?_, by rw [List.length_set]; exact h2, fun _ _ h _ => h, fun a h => .inl ((flat_set k).subset h), fun a h => ?_⟩⟩
  · by_cases q : a ∈ as
    · exact absurd ha (not_in_set m.nd hk a q)
    · rw [frzG_out q]
      exact m.free a ((flat_set k).subset ha)
  · show (θ.set k []).take np = θ.take np
    rw [List.take_set_of_le h1]
  · by_cases q : a ∈ as
    · exact .inr (.inl (hm a q))
    · have h : frzG G H as a ≠ none := h
      rw [frzG_out q] at h
      exact .inl h
theorem mem_cut {n : Nat} (m : MemOk K θ B G H) : MemOk K (θ.take n) (B.take n) G H ∧ (np ≤ n → np ≤ θ.length → Gw np ⟨θ, G, H⟩ ⟨θ.take n, G, H⟩) := by
  have hs : (θ.take n).flatten.Sublist θ.flatten := by
    have e : θ.flatten = (θ.take n).flatten ++ (θ.drop n).flatten := by rw [← List.flatten_append, List.take_append_drop]
    rw [e]
    exact List.sublist_append_left _ _
  refine ⟨⟨m.ex, m.cells.take n, m.nd.sublist hs, fun a ha => m.free a (hs.subset ha)⟩, fun h1 h2 => ⟨Ext.refl _, ?_, ?_, fun _ _ h _ => h, fun a h => .inl (hs.subset h), fun _ h => .inl h⟩⟩
  · show (θ.take n).take np = θ.take np
    rw [List.take_take, Nat.min_eq_left h1]
  · show np ≤ (θ.take n).length
    rw [List.length_take]
    omega
def subF (k : Nat) (x : PyData) : Option AV → Option AV
  | some (.m j) => if j = k then some (.d x) else some (.m j)
  | some (.r j i) => if j = k then none else some (.r j i)
  | o => o
def hideF (n : Nat) : Option AV → Option AV
  | some (.m j) => if j < n then some (.m j) else none
  | some (.r j i) => if j < n then some (.r j i) else none
  | o => o
inductive Shift (np : Nat) : Env → Mem → Env → Mem → Prop
  | refl {A : Env} {B : Mem} : Shift np A B A B
  | frz {A A' : Env} {B B' : Mem} (k : Nat) {c : MC} {x : PyData} : np ≤ k → B[k]? = some c → frzC c = some x → Shift np (A.map (subF k x)) (B.set k .gone) A' B' → Shift np A B A' B'
  | cut {A A' : Env} {B B' : Mem} (n : Nat) : np ≤ n → Shift np (A.map (hideF n)) (B.take n) A' B' → Shift np A B A' B'
  | hide {A A' : Env} {B B' : Mem} (i : Nat) : Shift np (A.set i none) B A' B' → Shift np A B A' B'
theorem slots_frz {k : Nat} {as : List Addr} {x : PyData} {G' : Hp} (h : SlotsOk K G θ σ A) (gx : Ext G G') (hk : θ[k]? = some as) (hx : ∃ a rs, as = a :: rs ∧ Dq K G' (.ref a) x) : SlotsOk K G' (θ.set k []) σ (A.map (subF k x)) := by
  refine ⟨by rw [List.length_map]; exact h.1, fun i w e => ?_⟩
  rw [List.getElem?_map] at e
  cases ea : A[i]? with
  | none => rw [ea] at e; cases e
  | some o =>
    rw [ea] at e
    have e : subF k x o = some w := Option.some.inj e
    cases o with
    | none => cases e
    | some u =>
      obtain ⟨v, h1, h2⟩ := h.2 i u ea
      refine ⟨v, h1, ?_⟩
      cases h2 with
      | d q => cases e; exact .d (dq_mono gx q)
      | kt q r => cases e; exact .kt q r
      | sc q => cases e; exact .sc (ext_l gx q)
      | @m j a bs hj =>
        unfold subF at e
        simp only at e
        split at e
        · rename_i hjk
          cases e
          obtain ⟨a', rs, rfl, hd⟩ := hx
          rw [hjk, hk] at hj
          cases hj
          exact .d hd
        · rename_i hjk
          cases e
          exact .m (by rw [List.getElem?_set_ne (Ne.symm hjk)]; exact hj)
      | @r j i' a b bs hj hi =>
        unfold subF at e
        simp only at e
        split at e
        · cases e
        · rename_i hjk
          cases e
          exact .r (by rw [List.getElem?_set_ne (Ne.symm hjk)]; exact hj) hi
theorem slots_cut {n : Nat} (h : SlotsOk K G θ σ A) : SlotsOk K G (θ.take n) σ (A.map (hideF n)) := by
  refine ⟨by rw [List.length_map]; exact h.1, fun i w e => ?_⟩
  rw [List.getElem?_map] at e
  cases ea : A[i]? with
  | none => rw [ea] at e; cases e
  | some o =>
    rw [ea] at e
    have e : hideF n o = some w := Option.some.inj e
    cases o with
    | none => cases e
    | some u =>
      obtain ⟨v, h1, h2⟩ := h.2 i u ea
      refine ⟨v, h1, ?_⟩
      cases h2 with
      | d q => cases e; exact .d q
      | kt q r => cases e; exact .kt q r
      | sc q => cases e; exact .sc (q)
      | @m j a bs hj =>
        unfold hideF at e
        simp only at e
        split at e
        · rename_i hjk
          cases e
          exact .m (by rw [List.getElem?_take_of_lt hjk]; exact hj)
        · cases e
      | @r j i' a b bs hj hi =>
        unfold hideF at e
        simp only at e
        split at e
        · rename_i hjk
          cases e
          exact .r (by rw [List.getElem?_take_of_lt hjk]; exact hj) hi
        · cases e
theorem slots_hide (h : SlotsOk K G θ σ A) (i : Nat) : SlotsOk K G θ σ (A.set i none) := by
  refine ⟨by rw [List.length_set]; exact h.1, fun j u e => ?_⟩
  by_cases q : i = j
  · subst q
    by_cases hi : i < A.length
    · rw [List.getElem?_set_self hi] at e
      cases e
    · rw [List.getElem?_eq_none (by simpa using hi)] at e
      cases e
  · rw [List.getElem?_set_ne q] at e
    exact h.2 j u e
theorem shift_ok {A A' : Env} {B B' : Mem} (s : Shift np A B A' B') : ∀ {θ : Th} {G : Hp}, StOk K θ A B σ G H → Gw np N ⟨θ, G, H⟩ → ∃ θ' G', StOk K θ' A' B' σ G' H ∧ Gw np N ⟨θ', G', H⟩ ∧ Ext G G' := by
  induction s with
  | refl => exact fun {θ G} S w => ⟨θ, G, S, w, Ext.refl _⟩
  | @frz A A' B B' k c x h1 h2 h3 _ ih =>
    intro θ G S w
    obtain ⟨as, hk, hc⟩ := S.mem.cells.getB h2
    have hf : ∀ a ∈ as, G a = none := fun a ha => S.mem.free a (List.mem_flatten.mpr ⟨as, List.mem_of_getElem? hk, ha⟩)
    obtain ⟨m2, g2⟩ := mem_frz (np := np) S.mem hk
    obtain ⟨θ', G', a1, a2, a3⟩ := ih ⟨m2, slots_frz S.slots (frz_ex hf) hk (frz_dq hf hc h3)⟩ (w.trans (g2 h1 w.ln))
    exact ⟨θ', G', a1, a2, (frz_ex hf).trans a3⟩
  | @cut A A' B B' n h1 _ ih =>
    intro θ G S w
    obtain ⟨m2, g2⟩ := mem_cut (np := np) (n := n) S.mem
    exact ih ⟨m2, slots_cut S.slots⟩ (w.trans (g2 h1 w.ln))
  | hide i _ ih => exact fun {θ G} S w => ih ⟨S.mem, slots_hide S.slots i⟩ w
end
end Dl

namespace Dl
open L2 PySem PyProof.Rows PySem.Spec

structure EndsA where
  nx : Env → Mem → Prop
  rt : AV → Mem → Prop
  bk : Env → Mem → Prop
  ct : Env → Mem → Prop
abbrev FS := EndsA → Env → Mem → Prop
structure EndsOk (K : PySem.W.Frag) (np : Nat) (N : Ent) (E : EndsA) (D : Ends) : Prop where
  nx : ∀ θ A B σ G H, StOk K θ A B σ G H → Gw np N ⟨θ, G, H⟩ → E.nx A B → D.nx σ H
  rt : ∀ θ B G H v w, MemOk K θ B G H → Gw np N ⟨θ, G, H⟩ → AVok K G θ v w → E.rt w B → D.rt v H
  bk : ∀ θ A B σ G H, StOk K θ A B σ G H → Gw np N ⟨θ, G, H⟩ → E.bk A B → D.bk σ H
  ct : ∀ θ A B σ G H, StOk K θ A B σ G H → Gw np N ⟨θ, G, H⟩ → E.ct A B → D.ct σ H
def tfS (K : PySem.W.Frag) (np : Nat) (N : Ent) (f : FS) : TS := fun D σ H => ∃ θ A B G E, StOk K θ A B σ G H ∧ Gw np N ⟨θ, G, H⟩ ∧ f E A B ∧ EndsOk K np N E D
structure PDS (X : Cx) (np : Nat) (st : Stmt) (f : FS) : Prop where
  ps : ∀ N, PS X st (tfS X.K np N f)
structure PDSs (X : Cx) (np : Nat) (st : List Stmt) (f : FS) : Prop where
  pss : ∀ N, PSs X st (tfS X.K np N f)
theorem PS.imp {X : Cx} {st : Stmt} {t t' : TS} (h : PS X st t) (i : ∀ D σ H, t' D σ H → t D σ H) : PS X st t' := ⟨fun pins s σ H D I w => h.run pins s σ H D I (i D σ H w)⟩
theorem PSs.imp {X : Cx} {st : List Stmt} {t t' : TS} (h : PSs X st t) (i : ∀ D σ H, t' D σ H → t D σ H) : PSs X st t' := ⟨fun pins s σ H D I w => h.run pins s σ H D I (i D σ H w)⟩
def sNext : FS := fun E A B => E.nx A B
def sSeq (f g : FS) : FS := fun E A B => f { E with nx := g E } A B
def sBreak : FS := fun E A B => E.bk A B
def sCont : FS := fun E A B => E.ct A B
def sNever : FS := fun _ _ _ => False
def sDrop (f : FE) : FS := fun E A B => f A B fun _ B1 => E.nx A B1
def sAsg (f : FE) (g : FG) : FS := fun E A B => f A B fun w B1 => g w A B1 E.nx
def sIf (t : FTt) (f g : FS) : FS := fun E A B => t A B fun b B1 => (b = true → f E A B1) ∧ (b = false → g E A B1)
def sPar (i j : Nat) (fs : FA) : FS := fun E A B => fs A B fun ws B1 => match ws with
  | [v, w] => E.nx ((A.set i (some v)).set j (some w)) B1
  | _ => False
def sShift (np : Nat) (f : FS) : FS := fun E A B => ∃ A' B', Shift np A B A' B' ∧ f E A' B'
def shiftTo (np : Nat) (P : Env → Mem → Prop) : Env → Mem → Prop := fun A B => ∃ A' B', Shift np A B A' B' ∧ P A' B'
def retK (np : Nat) (k : Kt) : Kt := fun w B => match w with
  | .d x => k (.d x) (B.take np)
  | .m j => np ≤ j ∧ ∃ c, B[j]? = some c ∧ c ≠ .gone ∧ ((∃ x, frzC c = some x ∧ k (.d x) (B.take np)) ∨ k (.m np) (B.take np ++ [c]))
  | _ => False
def sRet (f : FE) : FS := fun E A B => f A B fun w B1 => E.rt w B1
section
variable {X : Cx} {K : PySem.W.Frag} {np : Nat} {N : Ent} {θ : Th} {A : Env} {B : Mem} {σ : L2.St} {G H : Hp} {st : Stmt} {sts sts2 : List Stmt} {e a b c o i tg : Expr} {es : List Expr} {pos : Pos} {f g : FS} {fa fb fo fi : FE} {fs : FA} {t : FTt} {gt : FG}
theorem pds_shift (h : PDS X np st f) : PDS X np st (sShift np f) := ⟨fun N => PS.imp (h.ps N) fun D σ H w => by
  obtain ⟨θ, A, B, G, E, S, gw, ⟨A', B', sh, hf⟩, ok⟩ := w
  obtain ⟨θ', G', S', gw', _⟩ := shift_ok sh S gw
  exact ⟨θ', A', B', G', E, S', gw', hf, ok⟩⟩
theorem pdss_nil : PDSs X np [] sNext := ⟨fun N => PSs.imp pss_nil fun D σ H w => by
  obtain ⟨θ, A, B, G, E, S, gw, hf, ok⟩ := w
  exact ok.nx θ A B σ G H S gw hf⟩
theorem pdss_cons (h1 : PDS X np st f) (h2 : PDSs X np sts g) : PDSs X np (st :: sts) (sSeq f g) := ⟨fun N => PSs.imp (pss_cons (h1.ps N) (h2.pss N)) fun D σ H w => by
  obtain ⟨θ, A, B, G, E, S, gw, hf, ok⟩ := w
  exact ⟨θ, A, B, G, _, S, gw, hf, ⟨fun θ1 A1 B1 σ1 G1 H1 S1 g1 k1 => ⟨θ1, A1, B1, G1, E, S1, g1, k1, ok⟩, ok.rt, ok.bk, ok.ct⟩⟩⟩
theorem pdss_one (h1 : PDS X np st f) : PDSs X np [st] f := ⟨fun N => pss_one (h1.ps N)⟩
theorem pds_pass : PDS X np (.Pass pos) sNext := ⟨fun N => PS.imp ps_pass fun D σ H w => by
  obtain ⟨θ, A, B, G, E, S, gw, hf, ok⟩ := w
  exact ok.nx θ A B σ G H S gw hf⟩
theorem pds_doc (h : PS X st tNext) : PDS X np st sNext := ⟨fun N => PS.imp h fun D σ H w => by
  obtain ⟨θ, A, B, G, E, S, gw, hf, ok⟩ := w
  exact ok.nx θ A B σ G H S gw hf⟩
theorem pds_break : PDS X np (.Break pos) sBreak := ⟨fun N => PS.imp ps_break fun D σ H w => by
  obtain ⟨θ, A, B, G, E, S, gw, hf, ok⟩ := w
  exact ok.bk θ A B σ G H S gw hf⟩
theorem pds_cont : PDS X np (.Continue pos) sCont := ⟨fun N => PS.imp ps_continue fun D σ H w => by
  obtain ⟨θ, A, B, G, E, S, gw, hf, ok⟩ := w
  exact ok.ct θ A B σ G H S gw hf⟩
theorem pds_never : PDS X np st sNever := ⟨fun N => PS.imp ps_never fun D σ H w => by
  obtain ⟨θ, A, B, G, E, S, gw, hf, ok⟩ := w
  exact hf⟩
theorem pds_drop (ha : PD X a fa) (h : ∀ ta, PE X a ta → PS X st (tDrop ta)) : PDS X np st (sDrop fa) := ⟨fun N => PS.imp (h _ ha.pe) fun D σ H w => by
  obtain ⟨θ, A, B, G, E, S, gw, hf, ok⟩ := w
  exact ⟨θ, A, B, G, _, S, hf, fun θ1 B1 G1 H1 v x g1 S1 hv k1 => ok.nx θ1 A B1 σ G1 H1 S1 (gw.gr g1) k1⟩⟩
theorem pds_asg {pt : Bool} (ha : PD X a fa) (hg : PDG X pt tg gt) (h : ∀ ta g, PE X a ta → PG X tg g → PS X st (tAsg ta g)) : PDS X np st (sAsg fa gt) := ⟨fun N => PS.imp (h _ _ ha.pe hg.pg) fun D σ H w => by
  obtain ⟨θ, A, B, G, E, S, gw, hf, ok⟩ := w
  refine ⟨θ, A, B, G, _, S, hf, fun θ1 B1 G1 H1 v x g1 S1 hv k1 => ?_⟩
  exact ⟨θ1, A, B1, G1, x, _, S1, .a hv, k1, fun θ2 A2 B2 σ2 G2 H2 g2 S2 k2 => ok.nx θ2 A2 B2 σ2 G2 H2 S2 ((gw.gr g1).gr g2) k2⟩⟩
theorem pds_par {i j : Nat} (hs : PDA X es fs) (h : ∀ ta, PA X es ta → PS X st (tPar i j ta)) : PDS X np st (sPar i j fs) := ⟨fun N => PS.imp (h _ hs.pa) fun D σ H w => by
  obtain ⟨θ, A, B, G, E, S, gw, hf, ok⟩ := w
  refine ⟨θ, A, B, G, _, S, hf, fun θ1 B1 G1 H1 vs ws g1 S1 hv k1 => ?_⟩
  split at k1
  · obtain ⟨v, u, rfl, h1, h2⟩ := avs2 hv
    exact ⟨v, u, rfl, ok.nx θ1 _ B1 _ G1 H1 ((S1.set i h1).set j h2) (gw.gr g1) k1⟩
  · exact k1.elim⟩
theorem pds_if (ht : PDT X c t) (hf : PDSs X np sts f) (hg : PDSs X np sts2 g) : PDS X np (.If c sts sts2 pos) (sIf t f g) := ⟨fun N => PS.imp (ps_if ht.pt (hf.pss N) (hg.pss N)) fun D σ H w => by
  obtain ⟨θ, A, B, G, E, S, gw, hf, ok⟩ := w
  refine ⟨θ, A, B, G, _, S, hf, fun θ1 B1 G1 H1 b g1 S1 k1 => ?_⟩
  cases b with
  | true => exact ⟨θ1, A, B1, G1, E, S1, gw.gr g1, k1.1 rfl, ok⟩
  | false => exact ⟨θ1, A, B1, G1, E, S1, gw.gr g1, k1.2 rfl, ok⟩⟩
theorem pds_ret (ha : PD X a fa) : PDS X np (.Return (some a) pos) (sRet fa) := ⟨fun N => PS.imp (ps_ret ha.pe) fun D σ H w => by
  obtain ⟨θ, A, B, G, E, S, gw, hf, ok⟩ := w
  exact ⟨θ, A, B, G, _, S, hf, fun θ1 B1 G1 H1 v x g1 S1 hv k1 => ok.rt θ1 B1 G1 H1 v x S1.mem (gw.gr g1) hv k1⟩⟩
def sRetN : FS := fun E A B => E.rt (.d .none) B
theorem pds_retN : PDS X np (.Return none pos) sRetN := ⟨fun N => PS.imp ps_retN fun D σ H w => by
  obtain ⟨θ, A, B, G, E, S, gw, hf, ok⟩ := w
  exact ok.rt θ B G H _ _ S.mem gw (.d .non) hf⟩
def sAug (i : Nat) (op : Int → Int → Int) (f : FE) : FS := fun E A B => ∃ n, A[i]? = some (some (.d (.int n))) ∧ f A B fun w B1 => ∃ m, w = .d (.int m) ∧ E.nx (A.set i (some (.d (.int (op n m))))) B1
theorem pds_aug {i : Nat} {op : Int → Int → Int} (ha : PD X a fa) (h : ∀ ta, PE X a ta → PS X st (tAug i ta (ipI op))) : PDS X np st (sAug i op fa) := ⟨fun N => PS.imp (h _ ha.pe) fun D σ H w => by
  obtain ⟨θ, A, B, G, E, S, gw, ⟨n, h1, hf⟩, ok⟩ := w
  obtain ⟨v, e1, hv⟩ := S.slots.2 _ _ h1
  refine ⟨v, e1, θ, A, B, G, _, S, hf, fun θ1 B1 G1 H1 u x g1 S1 hu k1 => ?_⟩
  obtain ⟨m, rfl, k1⟩ := k1
  rw [avInt hv, avInt hu]
  exact ⟨n, m, rfl, rfl, ok.nx θ1 _ B1 _ G1 H1 (S1.set i (.d (.int _))) (gw.gr g1) k1⟩⟩

def aPut (o i v : AV) (B : Mem) (k : Mem → Prop) : Prop := wK v fun d => wK i fun ix => match o with
  | .m j => match B[j]? with
    | some (.lst ds) => ∃ n m, ix = .int n ∧ ixN ds.length n = some m ∧ k (B.set j (.lst (ds.set m d)))
    | some (.dK kvs) => ∃ key, keyD ix = some key ∧ kvs.length < sizeLine ∧ k (B.set j (.dK (putD kvs key d)))
    | some (.dT kvs) => ∃ key, keyT ix = some key ∧ kvs.length < sizeLine ∧ k (B.set j (.dT (putD kvs key d)))
    | _ => False
  | .r j r => match B[j]? with
    | some (.mat rows) => ∃ n m row, ix = .int n ∧ rows[r]? = some row ∧ ixN row.length n = some m ∧ k (B.set j (.mat (rows.set r (row.set m d))))
    | _ => False
  | _ => False
def rPutA : TSet := fun o i v H Q => rSetL o i v H Q ∨ ∃ a H', o = .ref a ∧ DPut H a i v H' ∧ Q H'
theorem set_any (hu : X.A.units + 1 < cLine) : PSet X rPutA := by
  intro pins s σ H o i v ov iv u Q I ro ri rv h
  rcases h with h | ⟨a, H', rfl, g, q⟩
  · exact set_list pins s σ H o i v ov iv u Q I ro ri rv h
  · cases ro
    exact d_setItem hu I g ri rv fun s' I' => ⟨H', I', q⟩
theorem rows_set {p : Addr} {vs : List V} {row : List PyData} : ∀ {as : List Addr} {rows : List (List PyData)} {r : Nat}, RowsOk K G H as rows → as.Nodup → as[r]? = some p → DqAll K G vs row → RowsOk K G (upd H p (.lst vs)) as (rows.set r row)
  | _, _, _, .nil, _, e, _ => by simp at e
  | _, _, 0, .cons (a := b) (as := as) h d t, nd, e, hd => by
    simp at e
    subst e
    refine .cons upd_same hd (t.mono (Ext.refl _) fun a ha o ho => ?_)
    rw [upd_ne fun z : a = b => (List.nodup_cons.mp nd).1 (by rw [← z]; exact ha)]
    exact ho
  | _, _, r + 1, .cons (a := b) (as := as) h d t, nd, e, hd => by
    simp at e
    refine .cons ?_ d (rows_set t (List.nodup_cons.mp nd).2 e hd)
    rw [upd_ne fun z : b = p => (List.nodup_cons.mp nd).1 (by rw [z]; exact List.mem_of_getElem? e)]
    exact h
theorem nodup_cell {as : List Addr} {j : Nat} {θ : Th} : θ.flatten.Nodup → θ[j]? = some as → as.Nodup := fun nd e => by
  induction θ generalizing j with
  | nil => simp at e
  | cons bs θ ih =>
    rw [List.flatten_cons, List.nodup_append] at nd
    cases j with
    | zero => simp at e; subst e; exact nd.1
    | succ j => exact ih nd.2.1 (by simpa using e)
theorem put_of {v u z : V} {o i w : AV} {k : Mem → Prop} {Q : Hp → Prop} (S : StOk K θ A B σ G H) (ho : AVok K G θ v o) (hi : AVok K G θ u i) (hw : AVok K G θ z w) (h : aPut o i w B k)
    (q : ∀ B' H', Gr θ θ G H G H' → StOk K θ A B' σ G H' → k B' → Q H') : rPutA v u z H Q := by
  obtain ⟨d, hd, h⟩ := wK_of hw h
  obtain ⟨ix, hix, h⟩ := wK_of hi h
  split at h
  · rename_i j
    split at h
    · rename_i ds hb
      obtain ⟨n, m, rfl, hn, h⟩ := h
      obtain ⟨a, vs, rfl, hk, e, dd⟩ := cell_lst S.mem ho hb
      cases hix
      have hc : CellOk K G (upd H a (.lst (vs.set m z))) [a] (.lst (ds.set m d)) := .lst upd_same (dqAll_set hd m dd)
      exact .inl ⟨a, vs, n, m, rfl, rfl, e, by rw [dqAll_len dd]; exact hn, q _ _ (mem_upd S.mem hk (List.mem_singleton.mpr rfl) hc).2 (st_upd S hk (List.mem_singleton.mpr rfl) hc) h⟩
    · rename_i kvs hb
      obtain ⟨key, hk2, hz, h⟩ := h
      cases ho with
      | @m _ a as hk =>
        obtain ⟨c, hc1, hc⟩ := S.mem.cells.get hk
        rw [hb] at hc1
        cases hc1
        cases hc with
        | @dK _ vs _ e r =>
          have hc : CellOk K G (upd H a (.dK (putK vs key z))) [a] (.dK (putD kvs key d)) := .dK upd_same (kv_put r key hd)
          rw [keyD_of hix hk2]
          exact .inr ⟨a, _, rfl, DPut.k e (by rw [kv_len r]; exact hz), q _ _ (mem_upd S.mem hk (List.mem_singleton.mpr rfl) hc).2 (st_upd S hk (List.mem_singleton.mpr rfl) hc) h⟩
    · rename_i kvs hb
      obtain ⟨key, hk2, hz, h⟩ := h
      cases ho with
      | @m _ a as hk =>
        obtain ⟨c, hc1, hc⟩ := S.mem.cells.get hk
        rw [hb] at hc1
        cases hc1
        cases hc with
        | @dT _ vs _ e r =>
          have hc : CellOk K G (upd H a (.dT (putK vs key z))) [a] (.dT (putD kvs key d)) := .dT upd_same (kv_put r key hd)
          have tk : ∃ b, u = .ref b ∧ H b = some (.tup (key.map kV)) := by
            unfold keyT at hk2
            split at hk2 <;> cases hk2
          obtain ⟨b, rfl, hb2⟩ := tk
          exact .inr ⟨a, _, rfl, DPut.t e hb2 (by rw [kv_len r]; exact hz), q _ _ (mem_upd S.mem hk (List.mem_singleton.mpr rfl) hc).2 (st_upd S hk (List.mem_singleton.mpr rfl) hc) h⟩
    · exact h.elim
  · rename_i j r _ _
    split at h
    · rename_i rows hb
      obtain ⟨n, m, row, rfl, hr, hn, h⟩ := h
      cases hix
      cases ho with
      | @r _ _ p b as hk hr2 =>
        obtain ⟨c, hc1, hc⟩ := S.mem.cells.get hk
        rw [hb] at hc1
        cases hc1
        cases hc with
        | mat e rr =>
          obtain ⟨row', vs, h1, h2, h3⟩ := rows_get rr hr2
          rw [hr] at h1
          cases h1
          have nd := nodup_cell S.mem.nd hk
          have hpb : b ≠ p := fun z => (List.nodup_cons.mp nd).1 (by rw [z]; exact List.mem_of_getElem? hr2)
          have hc : CellOk K G (upd H p (.lst (vs.set m z))) (b :: as) (.mat (rows.set r (row.set m d))) := .mat (by rw [upd_ne hpb]; exact e) (rows_set rr (List.nodup_cons.mp nd).2 hr2 (dqAll_set hd m h3))
          have hm : p ∈ b :: as := List.mem_cons_of_mem _ (List.mem_of_getElem? hr2)
          exact .inl ⟨p, vs, n, m, rfl, rfl, h2, by rw [dqAll_len h3]; exact hn, q _ _ (mem_upd S.mem hk hm hc).2 (st_upd S hk hm hc) h⟩
    · exact h.elim
  · exact h.elim
def sPut (fv fo fi : FE) : FS := fun E A B => fv A B fun v B1 => fo A B1 fun o B2 => fi A B2 fun i B3 => aPut o i v B3 fun B4 => E.nx A B4
theorem pds_put {fv : FE} (hv : PD X a fv) (ho : PD X o fo) (hi : PD X i fi) (hu : X.A.units + 1 < cLine) (h : ∀ ta to ti, PE X a ta → PE X o to → PE X i ti → PSet X rPutA → PS X st (tAsg ta (gSub to ti rPutA))) : PDS X np st (sPut fv fo fi) := ⟨fun N => PS.imp (h _ _ _ hv.pe ho.pe hi.pe (set_any hu)) fun D σ H w => by
  obtain ⟨θ, A, B, G, E, S, gw, hf, ok⟩ := w
  refine ⟨θ, A, B, G, _, S, hf, fun θ1 B1 G1 H1 v x g1 S1 hv k1 => ?_⟩
  refine ⟨θ1, A, B1, G1, _, S1, k1, fun θ2 B2 G2 H2 ov ow g2 S2 ho k2 => ?_⟩
  refine ⟨θ2, A, B2, G2, _, S2, k2, fun θ3 B3 G3 H3 iv iw g3 S3 hi k3 => ?_⟩
  exact put_of S3 (ho.gr g3) hi ((hv.gr g2).gr g3) k3 fun B4 H4 g4 S4 k4 => ok.nx θ3 A B4 σ G3 H4 S4 ((((gw.gr g1).gr g2).gr g3).gr g4) k4⟩

def sFor (np : Nat) (fi : FI) (gt : FG) (f : FS) : FS := fun E A B => fi A B fun xs B1 => ∃ Iv : Nat → Env → Mem → Prop, shiftTo np (Iv 0) A B1 ∧
  (∀ i x A' B', xs[i]? = some x → Iv i A' B' → gt (.d x) A' B' fun A2 B2 => f { nx := shiftTo np (Iv (i + 1)), ct := shiftTo np (Iv (i + 1)), bk := shiftTo np E.nx, rt := E.rt } A2 B2) ∧ ∀ A' B', Iv xs.length A' B' → shiftTo np E.nx A' B'
theorem nx_shift {E : Env → Mem → Prop} {D : L2.St → Hp → Prop} (h : ∀ θ A B σ G H, StOk K θ A B σ G H → Gw np N ⟨θ, G, H⟩ → E A B → D σ H) : ∀ θ A B σ G H, StOk K θ A B σ G H → Gw np N ⟨θ, G, H⟩ → shiftTo np E A B → D σ H := fun θ A B σ G H S gw ⟨A', B', sh, k⟩ => by
  obtain ⟨θ', G', S', gw', _⟩ := shift_ok sh S gw
  exact h θ' A' B' σ G' H S' gw' k
theorem pds_for {fi : FI} {pt : Bool} (hi : PDI X pt tg a fi) (hg : PDG X pt tg gt) (hf : PDSs X np sts f) (h : ∀ ti tg' tb, PI X tg a ti → PG X tg tg' → PSs X sts tb → PS X st (tFor ti tg' tb)) (hb : ∀ N, PSs X sts (tfS X.K np N f)) : PDS X np st (sFor np fi gt f) := by
  refine ⟨fun N => ?_⟩
  -- the body as one reading: from any place
  have hbody : PSs X sts (fun D σ H => ∃ N, tfS X.K np N f D σ H) := ⟨fun pins s σ H D I ⟨N, w⟩ => (hb N).run pins s σ H D I w⟩
  refine PS.imp (h _ _ _ hi.pi hg.pg hbody) fun D σ H w => ?_
  obtain ⟨θ, A, B, G, E, S, gw, hf, ok⟩ := w
  refine ⟨θ, A, B, G, _, S, hf, fun θ1 B1 G1 H1 xs J g1 S1 wk k1 => ?_⟩
  obtain ⟨Iv, ⟨A0, B0, sh, h0⟩, turn, done⟩ := k1
  have gw1 := gw.gr g1
  obtain ⟨θ0, G0, S0, gw0, x0⟩ := shift_ok sh S1 gw1
  refine ⟨fun i m σ' H' => m = xs.length - i ∧ i ≤ xs.length ∧ ∃ θ A B G, StOk X.K θ A B σ' G H' ∧ Gw np N ⟨θ, G, H'⟩ ∧ Ext G1 G ∧ Iv i A B, ⟨_, rfl, Nat.zero_le _, θ0, A0, B0, G0, S0, gw0, x0, h0⟩, ?_⟩
  rintro i m σ' H' ⟨rfl, hil, θ2, A2, B2, G2, S2, gw2, x2, iv⟩
  by_cases hlt : i < xs.length
  · obtain ⟨go, yl⟩ := wk.step i G2 H' x2 S2.mem.ex hlt
    refine .inr ⟨go, fun σ' H' => ∃ θ A B G, StOk X.K θ A B σ' G H' ∧ Gw np N ⟨θ, G, H'⟩ ∧ Ext G1 G ∧ Iv (i + 1) A B, fun σ3 H3 ⟨θ3, A3, B3, G3, a1, a2, a3, a4⟩ => ⟨_, by omega, rfl, hlt, θ3, A3, B3, G3, a1, a2, a3, a4⟩, fun v H3 y => ?_⟩
    obtain ⟨G3, s3, hd⟩ := yl v H3 y
    obtain ⟨d, hxd⟩ : ∃ d, xs[i]? = some d := ⟨xs[i], by simp [hlt]⟩
    have S3 := s3.st S2
    have gw3 := gw2.gr (s3.gr (θ := θ2))
    refine ⟨θ2, A2, B2, G3, _, _, S3, (hd d hxd).v, turn i d A2 B2 hxd iv, fun θ4 A4 B4 σ4 G4 H4 g4 S4 k4 => ?_⟩
    have gw4 := gw3.gr g4
    refine ⟨⟨θ4, G4, H4⟩, θ4, A4, B4, G4, _, S4, Gw.refl gw4.ln, k4, ?_⟩
    have lift : ∀ θ A B σ G H, StOk X.K θ A B σ G H → Gw np ⟨θ4, G4, H4⟩ ⟨θ, G, H⟩ → shiftTo np (Iv (i + 1)) A B → ∃ θ A B G, StOk X.K θ A B σ G H ∧ Gw np N ⟨θ, G, H⟩ ∧ Ext G1 G ∧ Iv (i + 1) A B := fun θ5 A5 B5 σ5 G5 H5 S5 gw5 ⟨A6, B6, sh6, k6⟩ => by
      obtain ⟨θ6, G6, S6, gw6, x6⟩ := shift_ok sh6 S5 gw5
      exact ⟨θ6, A6, B6, G6, S6, gw4.trans gw6, ((x2.trans s3.gx).trans g4.gx).trans gw6.gx, k6⟩
    exact ⟨lift, fun θ5 B5 G5 H5 v5 w5 m5 gw5 hv5 k5 => ok.rt θ5 B5 G5 H5 v5 w5 m5 (gw4.trans gw5) hv5 k5,
      fun θ5 A5 B5 σ5 G5 H5 S5 gw5 k5 => nx_shift ok.nx θ5 A5 B5 σ5 G5 H5 S5 (gw4.trans gw5) k5, lift⟩
  · have e : i = xs.length := by omega
    subst e
    refine .inl ⟨wk.stop H' (x2.trans S2.mem.ex), ?_⟩
    exact nx_shift ok.nx θ2 A2 B2 σ' G2 H' S2 gw2 (done A2 B2 iv)
def sWhile (np : Nat) (t : FTt) (f : FS) : FS := fun E A B => ∃ Iv : Nat → Env → Mem → Prop, (∃ m, shiftTo np (Iv m) A B) ∧
  ∀ m A' B', Iv m A' B' → t A' B' fun b B2 => (b = true → f { nx := shiftTo np fun A B => ∃ m', m' < m ∧ Iv m' A B, ct := shiftTo np fun A B => ∃ m', m' < m ∧ Iv m' A B, bk := shiftTo np E.nx, rt := E.rt } A' B2) ∧ (b = false → shiftTo np E.nx A' B2)
theorem pds_while (ht : PDT X c t) (hb : PDSs X np sts f) (h : ∀ tt tb, PT X c tt → PSs X sts tb → PS X st (tWhile tt tb)) : PDS X np st (sWhile np t f) := by
  refine ⟨fun N => ?_⟩
  have hbody : PSs X sts (fun D σ H => ∃ N, tfS X.K np N f D σ H) := ⟨fun pins s σ H D I ⟨N, w⟩ => (hb.pss N).run pins s σ H D I w⟩
  refine PS.imp (h _ _ ht.pt hbody) fun D σ H w => ?_
  obtain ⟨θ, A, B, G, E, S, gw, ⟨Iv, ⟨m0, A0, B0, sh, h0⟩, turn⟩, ok⟩ := w
  obtain ⟨θ0, G0, S0, gw0, _⟩ := shift_ok sh S gw
  refine ⟨fun m σ' H' => ∃ θ A B G, StOk X.K θ A B σ' G H' ∧ Gw np N ⟨θ, G, H'⟩ ∧ Iv m A B, ⟨m0, θ0, A0, B0, G0, S0, gw0, h0⟩, ?_⟩
  rintro m σ' H' ⟨θ2, A2, B2, G2, S2, gw2, iv⟩
  refine ⟨θ2, A2, B2, G2, _, S2, turn m A2 B2 iv, fun θ3 B3 G3 H3 b g3 S3 k3 => ?_⟩
  have gw3 := gw2.gr g3
  cases b with
  | true =>
    refine iteT ⟨fun σ' H' => ∃ m', m' < m ∧ ∃ θ A B G, StOk X.K θ A B σ' G H' ∧ Gw np N ⟨θ, G, H'⟩ ∧ Iv m' A B, fun σ4 H4 ⟨m', h1, h2⟩ => ⟨m', h1, h2⟩, ?_⟩
    refine ⟨N, θ3, A2, B3, G3, _, S3, gw3, k3.1 rfl, ?_⟩
    have lift : ∀ θ A B σ G H, StOk X.K θ A B σ G H → Gw np N ⟨θ, G, H⟩ → shiftTo np (fun A B => ∃ m', m' < m ∧ Iv m' A B) A B → ∃ m', m' < m ∧ ∃ θ A B G, StOk X.K θ A B σ G H ∧ Gw np N ⟨θ, G, H⟩ ∧ Iv m' A B := fun θ5 A5 B5 σ5 G5 H5 S5 gw5 ⟨A6, B6, sh6, m', hm, k6⟩ => by
      obtain ⟨θ6, G6, S6, gw6, _⟩ := shift_ok sh6 S5 gw5
      exact ⟨m', hm, θ6, A6, B6, G6, S6, gw6, k6⟩
    exact ⟨lift, ok.rt, nx_shift ok.nx, lift⟩
  | false =>
    exact iteF <| nx_shift ok.nx θ3 A2 B3 σ' G3 H3 S3 gw3 (k3.2 rfl)
end
end Dl

namespace Dl
open L2 PySem PyProof.Rows PySem.Spec

def wipeA (A : Env) : List Nat → Env
  | [] => A
  | v :: vs => (wipeA A vs).set v none
def fLc (fi : FI) (gt : FG) (t : FTt) (f : FE) (vs : List Nat) : FE := fun A B k => fi A B fun xs B1 => ∃ Iv : Nat → List PyData → Mem → Prop, Iv 0 [] B1 ∧
  (∀ i x acc B2, xs[i]? = some x → Iv i acc B2 → gt (.d x) (wipeA A vs) B2 fun A2 B3 => t A2 B3 fun b B4 => (b = true → f A2 B4 fun y B5 => wK y fun d => acc.length < sizeLine ∧ Iv (i + 1) (acc ++ [d]) B5) ∧ (b = false → Iv (i + 1) acc B4)) ∧
  ∀ acc B2, Iv xs.length acc B2 → wpR B2 k (.l acc)
section
variable {X : Cx} {K : PySem.W.Frag} {np : Nat} {N : Ent} {θ θ' : Th} {A : Env} {B : Mem} {σ : L2.St} {G H G' H' : Hp} {st : Stmt} {sts sts2 : List Stmt} {e a b c o i tg elt : Expr} {es ifs : List Expr} {pos : Pos} {f g : FE} {fa fb fo : FE} {fi : FI} {fs : FA} {t : FTt} {gt : FG}
theorem wipe_slots (h : SlotsOk K G θ σ A) : ∀ vs : List Nat, SlotsOk K G θ (wipe σ vs) (wipeA A vs)
  | [] => h
  | v :: vs => (wipe_slots h vs).hide v none
theorem wipe_st (S : StOk K θ A B σ G H) (vs : List Nat) : StOk K θ (wipeA A vs) B (wipe σ vs) G H := ⟨S.mem, wipe_slots S.slots vs⟩
theorem fin_list {D : Addr} {vs : List V} {acc : List PyData} {k : Kt} {H1 : Hp} (m : MemOk K θ' B G' H') (hD : H' D = some (.lst vs)) (dd : DqAll K G' vs acc) (nD : D ∉ θ'.flatten) (fD : G' D = none) (oD : H1 D = none) (g : Gr θ θ' G H1 G' H') (h : wpR B k (.l acc)) :
    ∃ θ2 B2 G2 w, Gr θ θ2 G H1 G2 H' ∧ MemOk K θ2 B2 G2 H' ∧ AVok K G2 θ2 (.ref D) w ∧ k w B2 := by
  rcases h with h | h
  · have ex : Ext G' (upd G' D (.lst vs)) := Ext.new fD
    refine ⟨θ', B, upd G' D (.lst vs), _, ⟨g.gx.trans ex, g.th, g.keep, g.new, fun a ha => ?_⟩, ⟨fun a o ha => ?_, m.cells.mono ex fun _ _ _ h => h, m.nd, fun a ha => ?_⟩, .d (.lst upd_same (dqAll_mono ex dd)), h⟩
    · by_cases q : a = D
      · subst q; exact .inr (.inr oD)
      · rw [upd_ne q] at ha; exact g.gnew a ha
    · by_cases q : a = D
      · subst q; rw [upd_same] at ha; rw [hD]; exact ha
      · rw [upd_ne q] at ha; exact m.ex a o ha
    · rw [upd_ne fun z : a = D => nD (by rw [← z]; exact ha)]
      exact m.free a ha
  · have hl := m.cells.len
    refine ⟨θ' ++ [[D]], B ++ [.lst acc], G', .m B.length, ⟨g.gx, g.th.trans (List.prefix_append _ _), g.keep, fun a ha => ?_, g.gnew⟩, ⟨m.ex, m.cells.append (.cons (.lst hD dd) .nil), ?_, fun a ha => ?_⟩, .m (as := []) ?_, h⟩
    · rw [List.flatten_append, List.mem_append] at ha
      rcases ha with q | q
      · exact g.new a q
      · simp at q; subst q; exact .inr oD
    · rw [List.flatten_append, List.nodup_append]
      refine ⟨m.nd, by simp, fun a ha b hb e => ?_⟩
      simp at hb
      subst hb
      subst e
      exact nD ha
    · rw [List.flatten_append, List.mem_append] at ha
      rcases ha with q | q
      · exact m.free a q
      · simp at q; subst q; exact fD
    · rw [← hl, List.getElem?_append_right (Nat.le_refl _), Nat.sub_self]
      rfl
def Quiet (g : TG) (vs : List Nat) : Prop := ∀ (v : V) (σ : L2.St) (H : Hp) (Q : L2.St → Hp → Prop), g v σ H Q → ∀ τ, wipe σ vs = τ → g v σ H fun σ2 H2 => wipe σ2 vs = τ ∧ Q σ2 H2
theorem wipe_set : ∀ {vs : List Nat} {σ : L2.St} {j : Nat} {x : Option V}, j ∈ vs → wipe (σ.set j x) vs = wipe σ vs
  | [], _, _, _, h => by cases h
  | v :: vs, σ, j, x, h => by
    unfold wipe
    by_cases e : j ∈ vs
    · rw [wipe_set e]
    · have ev : j = v := by
        rcases List.mem_cons.mp h with q | q
        · exact q
        · exact absurd q e
      subst ev
      have hw : ∀ {ws : List Nat} {τ : L2.St}, j ∉ ws → wipe (τ.set j x) ws = (wipe τ ws).set j x := fun {ws} {τ} hn => by
        induction ws with
        | nil => rfl
        | cons w ws ih =>
          rw [List.mem_cons, not_or] at hn
          show (wipe (τ.set j x) ws).set w none = ((wipe τ ws).set w none).set j x
          rw [ih hn.2, List.set_comm _ _ hn.1]
      rw [hw e, List.set_set]
theorem wipe_idem (σ : L2.St) : ∀ vs : List Nat, wipe (wipe σ vs) vs = wipe σ vs := fun vs => by
  have key : ∀ (ws : List Nat), (∀ w ∈ ws, w ∈ vs) → wipe (wipe σ ws) vs = wipe σ vs := fun ws => by
    induction ws with
    | nil => exact fun _ => rfl
    | cons w ws ih =>
      intro h
      show wipe ((wipe σ ws).set w none) vs = wipe σ vs
      rw [wipe_set (h w List.mem_cons_self), ih fun x hx => h x (List.mem_cons_of_mem _ hx)]
  exact key vs fun _ h => h
theorem beside {θa θb : Th} {Ga Ha Gb Hb : Hp} {D : Addr} {us : List V} (g : Gr θa θb Ga Ha Gb Hb) (n1 : D ∉ θa.flatten) (n2 : Ga D = none) (n3 : Ha D = some (.lst us)) : D ∉ θb.flatten ∧ Gb D = none ∧ Hb D = some (.lst us) := by
  refine ⟨fun z => ?_, ?_, g.keep D _ n3 n1⟩
  · rcases g.new D z with q | q
    · exact n1 q
    · rw [n3] at q; cases q
  · cases z : Gb D with
    | none => rfl
    | some o =>
      rcases g.gnew D (by rw [z]; exact fun w => nomatch w) with q | q | q
      · exact absurd n2 q
      · exact absurd q n1
      · rw [n3] at q; cases q
theorem tf_lc {wi : TI} {gT' : TG} {vs : List Nat} {σ : L2.St} {H : Hp} {Q : VK} {pt : Bool} (hi : ∀ σ H R, tfI K pt fi σ H R → wi σ H R) (hg : ∀ v σ H Q, tfG K pt gt v σ H Q → gT' v σ H Q) (hq : Quiet gT' vs)
    (w : tf K (fLc fi gt t f vs) σ H Q) : tLc wi gT' (tfT K t) (tf K f) vs σ H Q := by
  obtain ⟨θ, A, B, G, k, S, hf, q⟩ := w
  refine hi _ _ _ ⟨θ, A, B, G, _, S, hf, fun θ1 B1 G1 H1 xs J g1 S1 wk k1 => ?_⟩
  obtain ⟨Iv, h0, turn, done⟩ := k1
  intro D hD
  refine ⟨fun i m H' => m = xs.length - i ∧ i ≤ xs.length ∧ ∃ θ2 B2 G2 us acc, StOk K θ2 A B2 σ G2 H' ∧ Gr θ1 θ2 G1 H1 G2 H' ∧ D ∉ θ2.flatten ∧ G2 D = none ∧ H' D = some (.lst us) ∧ DqAll K G2 us acc ∧ Iv i acc B2, ⟨_, rfl, Nat.zero_le _, θ1, B1, G1, [], [], (Stp.junk S1.mem.ex hD).st S1, (Stp.junk S1.mem.ex hD).gr, S1.mem.fresh hD, S1.mem.ex.fresh hD, upd_same, .nil, h0⟩, ?_⟩
  rintro i m H' ⟨rfl, hil, θ2, B2, G2, us, acc, S2, g2, nD, fD, hD2, dd, iv⟩
  by_cases hlt : i < xs.length
  · obtain ⟨go, yl⟩ := wk.step i G2 H' g2.gx S2.mem.ex hlt
    refine .inr ⟨go, fun H' => ∃ θ2 B2 G2 us acc, StOk K θ2 A B2 σ G2 H' ∧ Gr θ1 θ2 G1 H1 G2 H' ∧ D ∉ θ2.flatten ∧ G2 D = none ∧ H' D = some (.lst us) ∧ DqAll K G2 us acc ∧ Iv (i + 1) acc B2, fun H3 z => ⟨_, by omega, rfl, hlt, z⟩, fun v H3 y => ?_⟩
    obtain ⟨G3, s3, hd⟩ := yl v H3 y
    obtain ⟨d, hxd⟩ : ∃ d, xs[i]? = some d := ⟨xs[i], by simp [hlt]⟩
    have S3 := s3.st S2
    obtain ⟨b1, b2, b3⟩ := beside (s3.gr (θ := θ2)) nD fD hD2
    have dd3 := dqAll_mono s3.gx dd
    refine hq _ _ _ _ (hg _ _ _ _ ⟨θ2, wipeA A vs, B2, G3, _, _, wipe_st S3 vs, (hd d hxd).v, turn i d acc B2 hxd iv, fun θ4 A4 B4 σ4 G4 H4 g4 S4 k4 => ?_⟩) _ (wipe_idem σ vs)
    obtain ⟨c1, c2, c3⟩ := beside g4 b1 b2 b3
    have back4 : StOk K θ4 A B4 σ G4 H4 := ⟨S4.mem, S3.slots.mono g4.gx g4.th⟩
    refine ⟨θ4, A4, B4, G4, _, S4, k4, fun θ5 B5 G5 H5 bb g5 S5 k5 => ?_⟩
    obtain ⟨d1, d2, d3⟩ := beside g5 c1 c2 c3
    have g35 := (((g2.trans s3.gr).trans g4).trans g5)
    cases bb with
    | true =>
      refine iteT ⟨θ5, A4, B5, G5, _, S5, k5.1 rfl, fun θ6 B6 G6 H6 z w g6 S6 hz k6 => ?_⟩
      obtain ⟨e1, e2, e3⟩ := beside g6 d1 d2 d3
      obtain ⟨dz, hdz, hz2, k7⟩ := wK_of hz k6
      have dd6 := dqAll_mono ((g4.gx.trans g5.gx).trans g6.gx) dd3
      refine ⟨us, e3, by rw [dqAll_len dd6]; exact hz2, θ6, B6, G6, us ++ [z], acc ++ [dz], ⟨⟨S6.mem.ex.side e2, S6.mem.cells.mono (Ext.refl _) fun a ha o ho => ?_, S6.mem.nd, S6.mem.free⟩, back4.slots.mono (g5.gx.trans g6.gx) (g5.th.trans g6.th)⟩, ?_, e1, e2, upd_same, dqAll_append dd6 (dqAll_one hdz), k7⟩
      · rw [upd_ne fun q : a = D => e1 (by rw [← q]; exact ha)]
        exact ho
      · have g36 := g35.trans g6
        exact ⟨g36.gx, g36.th, fun a o ha hn => by
          rw [upd_ne (ne_of_none ha hD)]
          exact g36.keep a o ha hn, g36.new, g36.gnew⟩
    | false =>
      refine iteF ⟨θ5, B5, G5, us, acc, ⟨S5.mem, back4.slots.mono g5.gx g5.th⟩, g35, d1, d2, d3, dqAll_mono (g4.gx.trans g5.gx) dd3, k5.2 rfl⟩
  · have e : i = xs.length := by omega
    subst e
    refine .inl ⟨wk.stop H' (g2.gx.trans S2.mem.ex), ?_⟩
    obtain ⟨θ3, B3, G3, w, g3, m3, hw, hk⟩ := fin_list S2.mem hD2 dd nD fD hD g2 (done acc B2 iv)
    exact q θ3 B3 G3 H' _ w (g1.trans g3) ⟨m3, (S1.slots.mono g3.gx g3.th)⟩ hw hk
end
end Dl

namespace Dl
open L2 PySem PyProof.Rows PySem.Spec

abbrev FT := List AV → Mem → Kt → Prop
def spOf (K : PySem.W.Frag) (f : FT) : Sp := fun vs H Q _ => ∃ θ G B ws k, MemOk K θ B G H ∧ AVs K G θ vs ws ∧ f ws B k ∧ ∀ θ' B' G' H' v w, Gr θ θ' G H G' H' → MemOk K θ' B' G' H' → AVok K G' θ' v w → k w B' → Q v H'
def refs : List AV → Option (Option Nat)
  | [] => some none
  | .d _ :: ws => refs ws
  | .sc _ :: ws => refs ws
  | .m j :: ws => match refs ws with
    | some none => some (some j)
    | some (some i) => if i = j then some (some j) else none
    | none => none
  | _ :: _ => none
def ren : AV → AV
  | .m _ => .m 0
  | w => w
def callF (f : FT) (ws : List AV) (B : Mem) (k : Kt) : Prop := match refs ws with
  | some none => f ws [] fun w C => match C, w with
    | [], .d d => k (.d d) B
    | [c], .m 0 => k (.m B.length) (B ++ [c])
    | _, _ => False
  | some (some j) => ∃ c, B[j]? = some c ∧ c ≠ .gone ∧ f (ws.map ren) [c] fun w C => match C, w with
    | [c'], .d d => k (.d d) (B.set j c')
    | [c', c2], .m 1 => k (.m B.length) (B.set j c' ++ [c2])
    | _, _ => False
  | none => False
section
variable {X : Cx} {K : PySem.W.Frag} {np : Nat} {N : Ent} {θ ψ θ' : Th} {A : Env} {B C : Mem} {σ : L2.St} {G H G' H' : Hp} {st : Stmt} {sts sts2 : List Stmt} {e a b c o i tg elt : Expr} {es ifs : List Expr} {pos : Pos} {f g : FE} {fa fb fo : FE} {fi : FI} {fs : FA} {t : FTt} {gt : FG}
theorem stay_free (m : MemOk K θ B G H) {θ0 : Th} (gn : ∀ a, G' a ≠ none → G a ≠ none ∨ a ∈ θ0.flatten ∨ H a = none) {a : Addr} (ha : a ∈ θ.flatten) (hn : a ∉ θ0.flatten) : G' a = none := by
  cases z : G' a with
  | none => rfl
  | some o =>
    rcases gn a (by rw [z]; exact fun w => nomatch w) with q | q | q
    · exact absurd (m.free a ha) q
    · exact absurd q hn
    · exact absurd q (m.live ha)
theorem frame0 (m : MemOk K θ B G H) (g : Gr [] ψ G H G' H') (m' : MemOk K ψ C G' H') : MemOk K (θ ++ ψ) (B ++ C) G' H' ∧ Gr θ (θ ++ ψ) G H G' H' := by
  have hn : ∀ a, a ∉ ([] : Th).flatten := fun a h => by simp at h
  refine ⟨⟨m'.ex, (m.cells.mono g.gx fun a _ o h => g.keep a o h (hn a)).append m'.cells, ?_, fun a ha => ?_⟩, ⟨g.gx, List.prefix_append _ _, fun a o h _ => g.keep a o h (hn a), fun a ha => ?_, fun a h => ?_⟩⟩
  · rw [List.flatten_append, List.nodup_append]
    refine ⟨m.nd, m'.nd, fun a ha b hb e => ?_⟩
    subst e
    rcases g.new a hb with q | q
    · exact hn a q
    · exact m.live ha q
  · rw [List.flatten_append, List.mem_append] at ha
    rcases ha with q | q
    · exact stay_free m g.gnew q (hn a)
    · exact m'.free a q
  · rw [List.flatten_append, List.mem_append] at ha
    rcases ha with q | q
    · exact .inl q
    · rcases g.new a q with z | z
      · exact absurd z (hn a)
      · exact .inr z
  · rcases g.gnew a h with q | q | q
    · exact .inl q
    · exact absurd q (hn a)
    · exact .inr (.inr q)
theorem frame1 {j : Nat} {as : List Addr} {c' : MC} (m : MemOk K θ B G H) (hk : θ[j]? = some as) (g : Gr [as] (as :: ψ) G H G' H') (m' : MemOk K (as :: ψ) (c' :: C) G' H') : MemOk K (θ ++ ψ) (B.set j c' ++ C) G' H' ∧ Gr θ (θ ++ ψ) G H G' H' := by
  have hin : ∀ a, a ∈ as → a ∈ θ.flatten := fun a h => List.mem_flatten.mpr ⟨as, List.mem_of_getElem? hk, h⟩
  have fl : ∀ a, a ∈ ([as] : Th).flatten ↔ a ∈ as := fun a => by simp
  have nd' := m'.nd
  rw [List.flatten_cons, List.nodup_append] at nd'
  have fresh : ∀ a, a ∈ ψ.flatten → H a = none := fun a ha => by
    rcases g.new a (by rw [List.flatten_cons, List.mem_append]; exact .inr ha) with q | q
    · exact absurd rfl (nd'.2.2 a ((fl a).mp q) a ha)
    · exact q
  cases m'.cells with
  | cons h1 h2 =>
    refine ⟨⟨m'.ex, (m.cells.upd m.nd hk g.gx (fun a o h _ hn => g.keep a o h fun z => hn ((fl a).mp z)) h1).append h2, ?_, fun a ha => ?_⟩, ⟨g.gx, List.prefix_append _ _, fun a o h hn => g.keep a o h fun z => hn (hin a ((fl a).mp z)), fun a ha => ?_, fun a h => ?_⟩⟩
    · rw [List.flatten_append, List.nodup_append]
      refine ⟨m.nd, nd'.2.1, fun a ha b hb e => ?_⟩
      subst e
      exact m.live ha (fresh a hb)
    · rw [List.flatten_append, List.mem_append] at ha
      rcases ha with q | q
      · by_cases z : a ∈ as
        · exact m'.free a (by rw [List.flatten_cons, List.mem_append]; exact .inl z)
        · exact stay_free m g.gnew q fun w => z ((fl a).mp w)
      · exact m'.free a (by rw [List.flatten_cons, List.mem_append]; exact .inr q)
    · rw [List.flatten_append, List.mem_append] at ha
      rcases ha with q | q
      · exact .inl q
      · exact .inr (fresh a q)
    · rcases g.gnew a h with q | q | q
      · exact .inl q
      · exact .inr (.inl (hin a ((fl a).mp q)))
      · exact .inr (.inr q)
theorem refs_none : ∀ {vs : List V} {ws : List AV}, AVs K G θ vs ws → refs ws = some none → AVs K G [] vs ws
  | _, _, .nil, _ => .nil
  | _, _, .cons h t, e => by
    cases h with
    | d q => exact .cons (.d q) (refs_none t e)
    | sc q => exact .cons (.sc q) (refs_none t e)
    | kt _ _ => cases e
    | r _ _ => cases e
    | m _ =>
      unfold refs at e
      try simp only at e
      split at e
      · cases e
      · split at e <;> cases e
      · cases e
theorem refs_one : ∀ {vs : List V} {ws : List AV} {j : Nat} {as : List Addr}, AVs K G θ vs ws → (refs ws = some (some j) ∨ refs ws = some none) → θ[j]? = some as → AVs K G [as] vs (ws.map ren)
  | _, _, _, _, .nil, _, _ => .nil
  | _, _ :: ws0, j, as, .cons h t, e, hk => by
    cases h with
    | d q => exact .cons (.d q) (refs_one t e hk)
    | sc q => exact .cons (.sc q) (refs_one t e hk)
    | kt _ _ => rcases e with e | e <;> cases e
    | r _ _ => rcases e with e | e <;> cases e
    | @m i a bs hi =>
      have key : i = j ∧ (refs ws0 = some (some j) ∨ refs ws0 = some none) := by
        rcases e with e | e
        · unfold refs at e
          try simp only at e
          split at e
          · rename_i hr; cases e; exact ⟨rfl, .inr hr⟩
          · rename_i i' hr
            split at e
            · rename_i hij; cases e; exact ⟨rfl, .inl (by rw [hr, hij])⟩
            · cases e
          · cases e
        · unfold refs at e
          try simp only at e
          split at e
          · cases e
          · split at e <;> cases e
          · cases e
      obtain ⟨rfl, e2⟩ := key
      rw [hk] at hi
      cases hi
      exact .cons (.m rfl) (refs_one t e2 hk)
theorem refs_at : ∀ {vs : List V} {ws : List AV} {j : Nat}, AVs K G θ vs ws → refs ws = some (some j) → ∃ as, θ[j]? = some as
  | _, _, _, .nil, e => by cases e
  | _, _, j, .cons h t, e => by
    cases h with
    | d q => exact refs_at t e
    | sc q => exact refs_at t e
    | kt _ _ => cases e
    | r _ _ => cases e
    | @m i a bs hi =>
      unfold refs at e
      try simp only at e
      split at e
      · cases e; exact ⟨_, hi⟩
      · rename_i i' hr
        split at e
        · cases e; exact ⟨_, hi⟩
        · cases e
      · cases e
theorem call_of {f : FT} {vs : List V} {ws : List AV} {k : Kt} {Q : VK} {E : XK} (S : StOk K θ A B σ G H) (hv : AVs K G θ vs ws) (h : callF f ws B k)
    (q : ∀ θ' B' G' H' z w, Gr θ θ' G H G' H' → StOk K θ' A B' σ G' H' → AVok K G' θ' z w → k w B' → Q z H') : spOf K f vs H Q E := by
  have m := S.mem
  unfold callF at h
  split at h
  · rename_i hr
    refine ⟨[], G, [], ws, _, ⟨m.ex, .nil, by simp, fun a ha => by simp at ha⟩, refs_none hv hr, h, fun θ' B' G' H' v w g m' hw hk => ?_⟩
    obtain ⟨m2, g2⟩ := frame0 m g m'
    have S2 : StOk K (θ ++ θ') A (B ++ B') σ G' H' := ⟨m2, S.slots.mono g2.gx g2.th⟩
    split at hk
    · rw [List.append_nil] at S2
      cases hw with
      | d hd => exact q _ _ G' H' v _ g2 S2 (.d hd) hk
    · refine q _ _ G' H' v _ g2 S2 ?_ hk
      cases hw with
      | @m _ p as h0 =>
        refine .m (as := as) ?_
        have hl := m.cells.len
        rw [← hl, List.getElem?_append_right (Nat.le_refl _), Nat.sub_self]
        exact h0
    · exact hk.elim
  · rename_i j hr
    obtain ⟨c, hb, hng, h⟩ := h
    obtain ⟨as, hk0⟩ := refs_at hv hr
    obtain ⟨c0, hb0, hc⟩ := m.cells.get hk0
    rw [hb] at hb0
    cases hb0
    have sub : MemOk K [as] [c] G H := by
      refine ⟨m.ex, .cons hc .nil, ?_, fun a ha => m.free a (List.mem_flatten.mpr ⟨as, List.mem_of_getElem? hk0, by simpa using ha⟩)⟩
      have := nodup_cell m.nd hk0
      simpa using this
    refine ⟨[as], G, [c], ws.map ren, _, sub, refs_one hv (.inl hr) hk0, h, fun θ' B' G' H' v w g m' hw hk => ?_⟩
    obtain ⟨ψ, rfl⟩ := g.th
    split at hk
    · rename_i c' d
      have hl := m'.cells.len
      have hψ : ψ = [] := by
        simp at hl
        exact hl
      subst hψ
      obtain ⟨m2, g2⟩ := frame1 (ψ := []) (C := []) m hk0 g m'
      have S2 : StOk K (θ ++ []) A (B.set j c' ++ []) σ G' H' := ⟨m2, S.slots.mono g2.gx g2.th⟩
      rw [List.append_nil (as := B.set j c')] at S2
      cases hw with
      | d hd => exact q _ _ G' H' v _ g2 S2 (.d hd) hk
    · rename_i c' c2
      obtain ⟨m2, g2⟩ := frame1 (ψ := ψ) (C := [c2]) m hk0 g m'
      have S2 : StOk K (θ ++ ψ) A (B.set j c' ++ [c2]) σ G' H' := ⟨m2, S.slots.mono g2.gx g2.th⟩
      refine q _ _ G' H' v _ g2 S2 ?_ hk
      cases hw with
      | @m _ p bs h0 =>
        refine .m (as := bs) ?_
        have hl := m.cells.len
        rw [← hl, List.getElem?_append_right (Nat.le_refl _), Nat.sub_self]
        simpa using h0
    · exact hk.elim
  · exact h.elim
def fCall (F : FT) (fs : FA) : FE := fun A B k => fs A B fun ws B1 => callF F ws B1 k
theorem pd_callF {F : FT} (hs : PDA X es fs) (h : ∀ ta, PA X es ta → PE X e (tCall (spOf X.K F) [] E0 ta)) : PD X e (fCall F fs) := ⟨PE.imp (h _ hs.pa) fun σ H Q w => by
  obtain ⟨θ, A, B, G, k, S, hf, q⟩ := w
  refine ⟨θ, A, B, G, _, S, hf, fun θ1 B1 G1 H1 vs ws g1 S1 hv k1 => ?_⟩
  show spOf X.K F (vs ++ []) H1 Q E0
  rw [List.append_nil]
  exact call_of S1 hv k1 fun θ2 B2 G2 H2 z w g2 S2 hz k2 => q θ2 B2 G2 H2 z w (g1.trans g2) S2 hz k2⟩
end
end Dl

namespace Dl
open L2 PySem PyProof.Rows PySem.Spec
mutual
def pdDec : (a b : PyData) → Decidable (a = b)
  | .none, .none => .isTrue rfl
  | .bool a, .bool b => if h : a = b then .isTrue (by rw [h]) else .isFalse (fun e => h (by cases e; rfl))
  | .int a, .int b => if h : a = b then .isTrue (by rw [h]) else .isFalse (fun e => h (by cases e; rfl))
  | .str a, .str b => if h : a = b then .isTrue (by rw [h]) else .isFalse (fun e => h (by cases e; rfl))
  | .list a, .list b => match pdDecs a b with
    | .isTrue h => .isTrue (by rw [h])
    | .isFalse h => .isFalse (fun e => h (by cases e; rfl))
  | .tuple a, .tuple b => match pdDecs a b with
    | .isTrue h => .isTrue (by rw [h])
    | .isFalse h => .isFalse (fun e => h (by cases e; rfl))
  | .dict a, .dict b => match pdDecK a b with
    | .isTrue h => .isTrue (by rw [h])
    | .isFalse h => .isFalse (fun e => h (by cases e; rfl))
  | .none, .bool _ => .isFalse (fun h => by cases h)
  | .none, .int _ => .isFalse (fun h => by cases h)
  | .none, .str _ => .isFalse (fun h => by cases h)
  | .none, .list _ => .isFalse (fun h => by cases h)
  | .none, .tuple _ => .isFalse (fun h => by cases h)
  | .none, .dict _ => .isFalse (fun h => by cases h)
  | .bool _, .none => .isFalse (fun h => by cases h)
  | .bool _, .int _ => .isFalse (fun h => by cases h)
  | .bool _, .str _ => .isFalse (fun h => by cases h)
  | .bool _, .list _ => .isFalse (fun h => by cases h)
  | .bool _, .tuple _ => .isFalse (fun h => by cases h)
  | .bool _, .dict _ => .isFalse (fun h => by cases h)
  | .int _, .none => .isFalse (fun h => by cases h)
  | .int _, .bool _ => .isFalse (fun h => by cases h)
  | .int _, .str _ => .isFalse (fun h => by cases h)
  | .int _, .list _ => .isFalse (fun h => by cases h)
  | .int _, .tuple _ => .isFalse (fun h => by cases h)
  | .int _, .dict _ => .isFalse (fun h => by cases h)
  | .str _, .none => .isFalse (fun h => by cases h)
  | .str _, .bool _ => .isFalse (fun h => by cases h)
  | .str _, .int _ => .isFalse (fun h => by cases h)
  | .str _, .list _ => .isFalse (fun h => by cases h)
  | .str _, .tuple _ => .isFalse (fun h => by cases h)
  | .str _, .dict _ => .isFalse (fun h => by cases h)
  | .list _, .none => .isFalse (fun h => by cases h)
  | .list _, .bool _ => .isFalse (fun h => by cases h)
  | .list _, .int _ => .isFalse (fun h => by cases h)
  | .list _, .str _ => .isFalse (fun h => by cases h)
  | .list _, .tuple _ => .isFalse (fun h => by cases h)
  | .list _, .dict _ => .isFalse (fun h => by cases h)
  | .tuple _, .none => .isFalse (fun h => by cases h)
  | .tuple _, .bool _ => .isFalse (fun h => by cases h)
  | .tuple _, .int _ => .isFalse (fun h => by cases h)
  | .tuple _, .str _ => .isFalse (fun h => by cases h)
  | .tuple _, .list _ => .isFalse (fun h => by cases h)
  | .tuple _, .dict _ => .isFalse (fun h => by cases h)
  | .dict _, .none => .isFalse (fun h => by cases h)
  | .dict _, .bool _ => .isFalse (fun h => by cases h)
  | .dict _, .int _ => .isFalse (fun h => by cases h)
  | .dict _, .str _ => .isFalse (fun h => by cases h)
  | .dict _, .list _ => .isFalse (fun h => by cases h)
  | .dict _, .tuple _ => .isFalse (fun h => by cases h)
def pdDecs : (a b : List PyData) → Decidable (a = b)
  | [], [] => .isTrue rfl
  | [], _ :: _ => .isFalse (fun h => by cases h)
  | _ :: _, [] => .isFalse (fun h => by cases h)
  | a :: as, b :: bs => match pdDec a b, pdDecs as bs with
    | .isTrue h, .isTrue g => .isTrue (by rw [h, g])
    | .isFalse h, _ => .isFalse (fun e => h (by cases e; rfl))
    | _, .isFalse h => .isFalse (fun e => h (by cases e; rfl))
def pdDecK : (a b : List (PyData × PyData)) → Decidable (a = b)
  | [], [] => .isTrue rfl
  | [], _ :: _ => .isFalse (fun h => by cases h)
  | _ :: _, [] => .isFalse (fun h => by cases h)
  | (a, a') :: as, (b, b') :: bs => match pdDec a b, pdDec a' b', pdDecK as bs with
    | .isTrue h, .isTrue k, .isTrue g => .isTrue (by rw [h, k, g])
    | .isFalse h, _, _ => .isFalse (fun e => h (by cases e; rfl))
    | _, .isFalse h, _ => .isFalse (fun e => h (by cases e; rfl))
    | _, _, .isFalse h => .isFalse (fun e => h (by cases e; rfl))
end
instance pdDecEq : DecidableEq PyData := pdDec
end Dl

namespace Dl
open L2 PySem PyProof.Rows PySem.Spec
section
variable {prog : Program} {w : World} {A : Around} {E : Value → Shared → Prop} {s : Shared}
theorem adjust_rev (n : Nat) : Builtin.Slice.sliceAdjust none none (-1) (n : Int) = ((n : Int) - 1, -1) := rfl
theorem places_rev (n : Nat) : Builtin.Slice.slicePlaces ((n : Int) - 1) (-1) (-1) = n := by
  unfold Builtin.Slice.slicePlaces
  rw [if_neg (by decide)]
  by_cases h : (n : Int) - 1 > -1
  · rw [if_pos h, show (-(-1) : Int) = 1 from rfl, Int.ediv_one]
    omega
  · rw [if_neg h]
    omega
theorem fm_map {α β : Type} {f : α → Option β} {g : α → β} : ∀ {l : List α}, (∀ k ∈ l, f k = some (g k)) → l.filterMap f = l.map g
  | [], _ => rfl
  | a :: l, h => by
    rw [List.filterMap_cons, h a List.mem_cons_self, List.map_cons, fm_map fun k hk => h k (List.mem_cons_of_mem _ hk)]
theorem pick_rev (xs : List Value) : (List.range xs.length).filterMap (fun (k : Nat) => xs[(((xs.length : Int) - 1) + (k : Int) * (-1)).toNat]?) = xs.reverse := by
  rw [fm_map (g := fun k => xs.reverse.getD k .none) fun k hk => ?_]
  · refine List.ext_getElem (by simp) fun i h1 h2 => ?_
    rw [List.length_reverse] at h2
    simp [List.getD_eq_getElem?_getD, h2]
  · have hk := List.mem_range.mp hk
    have e : (((xs.length : Int) - 1) + (k : Int) * (-1)).toNat = xs.length - 1 - k := by omega
    rw [e, List.getD_eq_getElem?_getD, List.getElem?_reverse hk]
    rw [List.getElem?_eq_getElem (by omega)]
    rfl
theorem rev_applied {sl : Addr} {vl vu vs : Value} {n : Nat} {Q : Int × Int × Nat → Shared → Prop} (hs : s.heap.IsSliceOf sl vl vu vs) (pl : IsPart vl none) (pu : IsPart vu none) (ps : IsPart vs (some (-1)))
    (h : Q ((n : Int) - 1, -1, n) s) : wpAny (model prog w) A (Builtin.Slice.sliceApplied (.ref sl) (pure (n : Int))) Q E s := by
  obtain ⟨os, h1, h2, h3⟩ := id hs
  unfold Builtin.Slice.sliceApplied Builtin.Slice.sliceFields
  refine wpAny_bind (wpAny_bind (wpAny_field h1 h3 (x := vl) rfl (wpAny_bind (wpAny_field h1 h3 (x := vu) rfl (wpAny_bind (wpAny_field h1 h3 (x := vs) rfl (wpAny_pure ?_)))))))
  refine wpAny_bind (HT.slicePart_ ps ?_)
  show wpAny _ _ (if ((-1 : Int) == 0) = true then _ else _) _ _ s
  rw [if_neg (by decide)]
  refine wpAny_bind (HT.slicePart_ pl (wpAny_bind (HT.slicePart_ pu (wpAny_bind (wpAny_pure ?_)))))
  show wpAny _ _ (match Builtin.Slice.sliceAdjust none none (-1) (n : Int) with | (lo, hi) => pure (lo, (-1 : Int), Builtin.Slice.slicePlaces lo hi (-1))) _ _ s
  rw [adjust_rev]
  show wpAny _ _ (pure ((n : Int) - 1, (-1 : Int), Builtin.Slice.slicePlaces ((n : Int) - 1) (-1) (-1))) _ _ s
  rw [places_rev]
  exact wpAny_pure h
theorem getItem_tuple_rev {t sl : Addr} {items : List Value} {vl vu vs : Value} {Q : Value → Shared → Prop} (ht : IsTup s.heap t items.toArray) (hs : s.heap.IsSliceOf sl vl vu vs) (pl : IsPart vl none) (pu : IsPart vu none) (ps : IsPart vs (some (-1)))
    (h : Q (.ref s.heap.objs.size) { s with heap := s.heap.push { cls := .type "tuple", data := .seq items.reverse.toArray } }) (hz : items.length ≤ sizeLine) : wpAny (model prog w) A (getItem (.ref t) (.ref sl)) Q E s := by
  have fits : sizeOk (.seq items.reverse.toArray) := by
    show items.reverse.toArray.size ≤ sizeLine
    rw [List.size_toArray, List.length_reverse]
    exact hz
  obtain ⟨os, h1, h2, h3⟩ := id hs
  have ty : s.TypeIs (.ref sl) "slice" := ⟨os, h1, h2⟩
  unfold getItem
  try with_reducible refine wpAny_holding ?_
  first | refine wpAny_bind (wpAny_pure ?_) | skip
  refine wpAny_bind (wpAny_sequenceKey ht.typeIs (by decide) ?_)
  refine wpAny_bind (wpAny_callSpecial?_slot (name := Str.ofString "__getitem__") ht.typeIs PyProof.Rows.slot_tuple_getitem (wpAny_call_entry PyProof.Rows.slot_tuple_getitem ht.typeIs entry_tuple_getitem ?_ (args_tuple_getitem _ _)))
  show wpAny _ _ (Builtin.Tuple.tupleItemsOf (.ref t) >>= _) _ _ s
  refine wpAny_bind (tupleItemsOf_ ht ?_)
  refine wpAny_bind (wpAny_typeOf ty ?_)
  rw [if_pos (by decide)]
  refine wpAny_bind (rev_applied hs pl pu ps ?_)
  have no : ¬ ((((items.toArray.size : Int) - 1) == 0 && (-1 : Int) == 1 && items.toArray.size == items.toArray.size) = true) := by
    intro q
    rw [Bool.and_eq_true, Bool.and_eq_true] at q
    exact absurd q.1.2 (by decide)
  show wpAny _ _ (if (((items.toArray.size : Int) - 1) == 0 && (-1 : Int) == 1 && items.toArray.size == items.toArray.size) = true then _ else _) _ _ s
  rw [if_neg no]
  have e : ((List.range items.toArray.size).filterMap fun (k : Nat) => items.toArray[(((items.toArray.size : Int) - 1) + (k : Int) * (-1)).toNat]?).toArray = items.reverse.toArray := by
    rw [← pick_rev items]
    simp only [List.size_toArray, List.getElem?_toArray]
  rw [e]
  first
    | exact wpAny_bind (m := Builtin.Tuple.tupleExact _) (wpAny_newObj_type (wpAny_pure ⟨_, rfl, wpAny_pure h⟩) fits)
    | exact wpAny_bind (m := Builtin.Tuple.tupleExact _) (wpAny_newObj_type (wpAny_bind (wpAny_pure (wpAny_pure ⟨_, rfl, wpAny_pure h⟩))) fits)
    | exact wpAny_bind (wpAny_bind (m := Builtin.Tuple.tupleExact _) (wpAny_newObj_type (wpAny_pure (wpAny_pure ⟨_, rfl, wpAny_pure h⟩)) fits))
    | exact wpAny_bind (wpAny_bind (m := Builtin.Tuple.tupleExact _) (wpAny_newObj_type (wpAny_pure ⟨_, rfl, wpAny_pure h⟩) fits))
end
def rRev (K : PySem.W.Frag) : V → Hp → VK → Prop := fun x H Q => (∃ a xs, x = .ref a ∧ SqL K H a xs ∧ ∀ p, H p = none → Q (.ref p) (upd H p (.lst xs.reverse))) ∨ ∃ a xs, x = .ref a ∧ SqT K H a xs ∧ FreshT Q H xs.reverse
theorem pe_rev {X : Cx} {e : Expr} {te : TE} {k : Nat} {p1 p2 p3 pos : Pos} (he : PE X e te) : PE X (.Subscript e (.Slice none none (some (.UnaryOp .USub (.Constant (.int 1) k p1) p2)) p3) pos) (tUn (rRev X.K) te) := by
  refine ⟨fun pins s σ H Q I h => ?_⟩
  refine Subscript_ (thn (he.run pins s σ H _ I h) fun v s1 ⟨x, H1, I1, r1, q1⟩ => ?_)
  have hst : PO X (some (.UnaryOp .USub (.Constant (.int 1) k p1) p2)) (tPart (tUn (rU fun i => .int (-i)) (tC (.int 1)))) := po_some (pe_un un_neg pe_int)
  refine wpAny_Slice (thn (po_none.run pins s1 σ H1 (fun o H2 => o = none ∧ H2 = H1) I1 ⟨rfl, rfl⟩) fun vl s2 ⟨l, H2, I2, pl, el, e2⟩ => ?_)
  cases el; cases e2
  refine thn (po_none.run pins s2 σ H1 (fun o H3 => o = none ∧ H3 = H1) I2 ⟨rfl, rfl⟩) fun vu s3 ⟨u, H3, I3, pu, eu, e3⟩ => ?_
  cases eu; cases e3
  refine thn (hst.run pins s3 σ H1 (fun o H4 => o = some (-1) ∧ H4 = H1) I3 ⟨1, rfl, -1, rfl, rfl, rfl⟩) fun vs s4 ⟨o, H4, I4, ps, eo, e4⟩ => ?_
  cases eo; cases e4
  have I5 : Inv X pins σ H1 { s4 with heap := s4.heap.push { cls := .type "slice", data := .fields #[vl, vu, vs] } } := I4.kept (t' := s4.toks) fun b ob q => Heap.get?_push_of_some _ q
  rcases q1 with ⟨a, xs, ex, hx, q⟩ | ⟨a, xs, ex, hx, q⟩
  · subst ex
    cases r1
    obtain ⟨its, r, ht, hz⟩ := I5.list hx
    have hlen := r.length
    show wpAny (model X.prog X.w) X.A (subscriptTail e (.Slice none none (some (.UnaryOp .USub (.Constant (.int 1) k p1) p2)) p3) (.ref a) (.ref s4.heap.objs.size)) (EP X pins σ Q) X.xe _
    refine tail_any (ops := [.ref a, .ref s4.heap.objs.size]) ht.isList.typeIs (PySem.slot_list_getitem.lookup) ?_ (by with_unfolding_all rfl)
    refine wpAny_getItem_list_slice ht.isList (Heap.IsSliceOf.new _ vl vu vs) pl pu ps (by decide) ?_ (by rw [List.size_toArray]; omega)
    rw [PySem.W.krv_pick]
    refine ⟨.ref _, _, I5.laid (t' := s4.toks) (o := .lst xs.reverse) (fun b ob q => Heap.get?_push_of_some _ q) (Nat.le_refl _) ?_, rfl, q _ (I5.hok.fresh (Nat.le_refl _))⟩
    exact ⟨by rw [List.length_reverse]; exact hz, _, 0, r.reverse, Heap.get?_push_size _ rfl⟩
  · subst ex
    cases r1
    obtain ⟨its, r, ht, hz⟩ := I5.tuple hx
    have hlen := r.length
    show wpAny (model X.prog X.w) X.A (subscriptTail e (.Slice none none (some (.UnaryOp .USub (.Constant (.int 1) k p1) p2)) p3) (.ref a) (.ref s4.heap.objs.size)) (EP X pins σ Q) X.xe _
    refine tail_any (ops := [.ref a, .ref s4.heap.objs.size]) ht.typeIs (PyProof.Rows.slot_tuple_getitem.lookup) ?_ (by with_unfolding_all rfl)
    refine getItem_tuple_rev ht (Heap.IsSliceOf.new _ vl vu vs) pl pu ps ?_ (by omega)
    exact lay_tup (tk := s4.toks) I5 r.reverse (by rw [List.length_reverse]; exact hz) q
def dRev : PyData → Kr → Prop
  | .list xs, k => k (.l xs.reverse)
  | .tuple xs, k => k (.v (.tuple xs.reverse))
  | _, _ => False
theorem rd_rev {K : PySem.W.Frag} : RD1 K (rRev K) (aD1 dRev) := rd1_data fun G H v d P Q ex t1 h q => by
  unfold dRev at h
  split at h
  · rename_i xs
    obtain ⟨a, vs, rfl, e1, d1⟩ := t1.list ex
    exact .inl ⟨a, vs, rfl, SqL.of e1, fun p hp => q _ _ _ _ (res_lst ex hp (dqAll_reverse d1)) h⟩
  · rename_i xs
    obtain ⟨a, vs, rfl, e1, d1⟩ := t1.tuple ex
    exact .inr ⟨a, vs, rfl, e1, fun p ob hp dn => q _ _ _ _ (res_tup ex hp dn (dqAll_reverse d1)) h⟩
  · exact h.elim
theorem pd_rev {X : Cx} {e : Expr} {fa : FE} {k : Nat} {p1 p2 p3 pos : Pos} (ha : PD X e fa) : PD X (.Subscript e (.Slice none none (some (.UnaryOp .USub (.Constant (.int 1) k p1) p2)) p3) pos) (fUn (aD1 dRev) fa) := pd_un ha rd_rev fun ta h => pe_rev h
end Dl

namespace Dl
open L2 PySem PyProof.Rows PySem.Spec
def insK {κ : Type} [DecidableEq κ] (acc : List κ) (k : κ) : List κ := if k ∈ acc then acc else k :: acc
theorem insK_len {κ : Type} [DecidableEq κ] (acc : List κ) (k : κ) : (insK acc k).length ≤ acc.length + 1 := by
  unfold insK
  split
  · omega
  · exact Nat.le_refl _
def fLsc (fi : FI) (gt : FG) (t : FTt) (f : FE) (vs : List Nat) : FE := fun A B k => fi A B fun xs B1 => xs.length < 63 ∧ ∃ Iv : Nat → List (List Str) → Mem → Prop, Iv 0 [] B1 ∧
  (∀ i x acc B2, xs[i]? = some x → Iv i acc B2 → gt (.d x) (wipeA A vs) B2 fun A2 B3 => t A2 B3 fun b B4 => (b = true → f A2 B4 fun y B5 => ∃ ks : List Str, y = .d (.tuple (ks.map .str)) ∧ Iv (i + 1) (insK acc ks) B5) ∧ (b = false → Iv (i + 1) acc B4)) ∧
  ∀ acc B2, Iv xs.length acc B2 → k (.d (.int acc.length)) B2
def dedK {κ : Type} [DecidableEq κ] (xs : List κ) : List κ := xs.foldl insK []
theorem dedK_snoc {κ : Type} [DecidableEq κ] (xs : List κ) (x : κ) : dedK (xs ++ [x]) = insK (dedK xs) x := by simp [dedK]
theorem dedK_mem {κ : Type} [DecidableEq κ] (xs : List κ) (k : κ) : k ∈ dedK xs ↔ k ∈ xs := by
  have go : ∀ (xs acc : List κ), k ∈ xs.foldl insK acc ↔ k ∈ acc ∨ k ∈ xs := fun xs => by
    induction xs with
    | nil => simp
    | cons x xs ih =>
      intro acc
      rw [List.foldl_cons, ih, List.mem_cons]
      unfold insK
      split
      · rename_i h
        exact ⟨fun z => z.elim .inl fun z => .inr (.inr z), fun z => z.elim .inl fun z => z.elim (fun e => .inl (e ▸ h)) .inr⟩
      · rw [List.mem_cons]
        exact ⟨fun z => z.elim (fun z => z.elim (fun e => .inr (.inl e)) .inl) fun z => .inr (.inr z), fun z => z.elim (fun z => .inl (.inr z)) fun z => z.elim (fun e => .inl (.inl e)) .inr⟩
  have := go xs []
  simpa [dedK] using this
theorem dedK_len {κ : Type} [DecidableEq κ] (xs : List κ) : (dedK xs).length ≤ xs.length := by
  have go : ∀ (xs acc : List κ), (xs.foldl insK acc).length ≤ acc.length + xs.length := fun xs => by
    induction xs with
    | nil => simp
    | cons x xs ih =>
      intro acc
      have := ih (insK acc x)
      have := insK_len acc x
      simp only [List.foldl_cons, List.length_cons]
      omega
  have := go xs []
  simpa [dedK] using this
def toStrs : List PyData → Option (List Str)
  | [] => some []
  | .str x :: xs => (toStrs xs).map (x :: ·)
  | _ :: _ => none
theorem toStrs_of : ∀ {xs : List PyData} {ss : List Str}, toStrs xs = some ss → xs = ss.map .str
  | [], _, h => by cases h; rfl
  | .str x :: xs, ss, h => by
    rw [toStrs] at h
    cases q : toStrs xs with
    | none => rw [q] at h; cases h
    | some ys => rw [q] at h; cases h; rw [toStrs_of q]; rfl
  | .none :: _, _, h => by cases h
  | .bool _ :: _, _, h => by cases h
  | .int _ :: _, _, h => by cases h
  | .list _ :: _, _, h => by cases h
  | .tuple _ :: _, _, h => by cases h
  | .dict _ :: _, _, h => by cases h
def dLenSet : PyData → Kr → Prop
  | .list xs, k => ∃ ss, toStrs xs = some ss ∧ ss.length ≤ 1000 ∧ k (.v (.int (dedK ss).length))
  | .tuple xs, k => ∃ ss, toStrs xs = some ss ∧ ss.length ≤ 1000 ∧ k (.v (.int (dedK ss).length))
  | _, _ => False
def tupA : AV → Option (List PyData)
  | .d (.tuple xs) => some xs
  | _ => none
def fIdx (fo fa : FE) : FE := fun A B k => fo A B fun x B1 => ∃ ss : List Str, tupA x = some (ss.map .str) ∧ fa A B1 fun y B2 => ∃ (z : Str) (j : Nat), y = .d (.str z) ∧ ss[j]? = some z ∧ (∀ m, m < j → ss[m]? ≠ some z) ∧ k (.d (.int (j : Int))) B2
def fLrg1 (fa : FE) : FE := fun A B k => fa A B fun x B1 => ∃ j : Int, x = .d (.int j) ∧ RgOk 0 j ∧ wpR B1 k (.l (rangeD 0 (j - 0).toNat))
def fTrg1 (fa : FE) : FE := fun A B k => fa A B fun x B1 => ∃ j : Int, x = .d (.int j) ∧ RgOk 0 j ∧ k (.d (.tuple (rangeD 0 (j - 0).toNat))) B1
def aReprL : List AV → Mem → Kt → Prop := fun ws B k => wDL B ws fun ds => ds.length ≤ sizeLine ∧ Shown (.list ds) ∧ k (.d (.str (PyData.shown (.list ds)))) B
def fLcM (fi : FI) (gt : FG) (t : FTt) (f : FE) (vs : List Nat) : FE := fun A B k => fi A B fun xs B1 => xs.length ≤ sizeLine ∧ ∃ Iv : Nat → List (List PyData) → Mem → Prop, Iv 0 [] B1 ∧
  (∀ i x rows Bb, xs[i]? = some x → Bb.length = B1.length → Iv i rows Bb → gt (.d x) (wipeA A vs) (Bb ++ rows.map .lst) fun A2 B3 => t A2 B3 fun b B4 => b = true ∧ f A2 B4 fun y B5 => ∃ Bb' ds, y = .m (B1.length + rows.length) ∧ B5 = Bb' ++ rows.map .lst ++ [.lst ds] ∧ Bb'.length = B1.length ∧ Iv (i + 1) (rows ++ [ds]) Bb') ∧
  ∀ rows Bb, Iv xs.length rows Bb → k (.m B1.length) (Bb ++ [.mat rows])
def mergeD (kvs more : List (Key × PyData)) : List (Key × PyData) := more.foldl (fun acc p => putD acc p.1 p.2) kvs
def fDcm (fi : FI) (gt : FG) (t : FTt) (fk fv : FE) (vs : List Nat) : FE := fun A B k => fi A B fun xs B1 => xs.length < sizeLine ∧ ∃ Iv : Nat → List (Key × PyData) → Mem → Prop, Iv 0 [] B1 ∧
  (∀ i x acc B2, xs[i]? = some x → Iv i acc B2 → gt (.d x) (wipeA A vs) B2 fun A2 B3 => t A2 B3 fun b B4 => (b = true → fk A2 B4 fun y B5 => ∃ kd key, y = .d kd ∧ keyD kd = some key ∧ fv A2 B5 fun z B6 => wK z fun d => Iv (i + 1) (putD acc key d) B6) ∧ (b = false → Iv (i + 1) acc B4)) ∧
  ∀ acc B2, Iv xs.length acc B2 → k (.m B2.length) (B2 ++ [.dK acc])
def fUpd (fo fa : FE) : FE := fun A B k => fo A B fun x B1 => ∃ j kv0, x = .m j ∧ B1[j]? = some (.dK kv0) ∧ fa A B1 fun y B2 => ∃ j2 kvs more, y = .m j2 ∧ j ≠ j2 ∧ B2[j]? = some (.dK kvs) ∧ B2[j2]? = some (.dK more) ∧ kvs.length + more.length ≤ sizeLine ∧ k (.d .none) (B2.set j (.dK (mergeD kvs more)))
end Dl

namespace Dl
open L2 PySem PyProof.Rows PySem.Spec

inductive O2 where
  | add | sub | mul | div | mod | pow | eq | ne | lt | le | gt | ge | inn | nin | is_ | isn | ix
  deriving DecidableEq
def isCmp : O2 → Bool
  | .eq => true | .ne => true | .lt => true | .le => true | .gt => true | .ge => true | .inn => true | .nin => true | .is_ => true | .isn => true
  | _ => false
def a2 : O2 → AV → AV → Mem → Kt → Prop
  | .add => aAdd | .sub => aD2 dSub | .mul => aD2 dMul | .div => aD2 dDiv | .mod => aD2 dMod | .pow => aD2 dPow
  | .eq => aD2 dEq | .ne => aD2 dNe | .lt => aD2 dLt | .le => aD2 dLe | .gt => aD2 dGt | .ge => aD2 dGe
  | .inn => aIn false | .nin => aIn true | .is_ => aIs false | .isn => aIs true | .ix => aIx
def r2 (K : PySem.W.Frag) : O2 → R2
  | .add => rAddA K | .sub => rI0 fun i j => .int (i - j) | .mul => rMulA | .div => rI CDivW fun i j => .int (i / j) | .mod => rI (fun _ j => 0 < j) fun i j => .int (i % j) | .pow => rI CPow fun i j => .int (i ^ j.toNat)
  | .eq => rEqA K | .ne => rNeA K | .lt => rLtA | .le => rI0 fun i j => .bl (decide (i ≤ j)) | .gt => rI0 fun i j => .bl (decide (j < i)) | .ge => rI0 fun i j => .bl (decide (j ≤ i))
  | .inn => rInA K false | .nin => rInA K true | .is_ => fun x y H Q => y = .non ∧ Q (.bl (decide (x = .non))) H | .isn => fun x y H Q => y = .non ∧ Q (.bl (!decide (x = .non))) H | .ix => rIxA K
theorem rd2_all {K : PySem.W.Frag} : ∀ o : O2, RD2 K (r2 K o) (a2 o)
  | .add => rd_add | .sub => rd_sub | .mul => rd_mul | .div => rd_div | .mod => rd_mod | .pow => rd_pow
  | .eq => rd_eq | .ne => rd_ne | .lt => rd_lt | .le => rd_le | .gt => rd_gt | .ge => rd_ge
  | .inn => rd_in | .nin => rd_in | .is_ => rd_is | .isn => rd_isnot | .ix => rd_ix
mutual
inductive AG where
  | nm (i : Nat) | tp (gs : AGs)
  deriving DecidableEq
inductive AGs where
  | nil | cons (g : AG) (gs : AGs)
  deriving DecidableEq
end
mutual
inductive AE where
  | var (i : Nat) | c (x : PyData) | kt (xs : List PyData)
  | op2 (o : O2) (a b : AE) | neg (a : AE) | chain (o o' : O2) (a b c : AE)
  | and (a b : AE) | or (a b : AE) | not (a : AE) | ife (t a b : AE)
  | sl (a lo hi : AE) | omit
  | call (f : Nat) (es : AEs) | callK (f : Nat) (ix : List Nat) (es : AEs)
  | bi (b : BI) (es : AEs) | isi (ts : List TN) (a : AE)
  | mm (m : MM) (o : AE) (es : AEs) | get2 (o a b : AE)
  | tup (es : AEs) | lst (es : AEs) | dnew
  | lc (it : AI) (g : AG) (t e : AE) (vs : List Nat)
  | lcD (i : Nat) (g : AG) (t e : AE) (vs : List Nat)
  | dne0 (i : Nat)
  | rev (a : AE)
  | lset (a : AE) | idx (o a : AE) | lrg (a : AE) | trg (a : AE) | reprL (es : AEs) | upd (o a : AE)
  | lsc (it : AI) (g : AG) (t e : AE) (vs : List Nat)
  | dcm (it : AI) (g : AG) (t e v : AE) (vs : List Nat)
  deriving DecidableEq
inductive AEs where
  | nil | cons (a : AE) (es : AEs)
  deriving DecidableEq
inductive AI where
  | seq (a : AE) | r1 (es : AEs) | r2 (es : AEs) | r3 (es : AEs) | zip (es : AEs) | enum (es : AEs)
  deriving DecidableEq
end
mutual
def wpG : AG → FG
  | .nm i => gN i
  | .tp gs => gT (lenG gs) (wpGs gs)
def wpGs : AGs → FGs
  | .nil => gsNil
  | .cons g gs => gsCons (wpG g) (wpGs gs)
def lenG : AGs → Nat
  | .nil => 0
  | .cons _ gs => lenG gs + 1
end
def pick (ix : List Nat) (ws : List AV) : List AV := ix.map fun i => ws.getD i (.d .none)
def fCallK (F : FT) (ix : List Nat) (fs : FA) : FE := fun A B k => fs A B fun ws B1 => ws.length = ix.length ∧ callF F (pick ix ws) B1 k
def keyPy : Key → PyData
  | .inl i => .int i
  | .inr s => .str s
def hideJ (j : Nat) : Option AV → Option AV
  | some (.m k) => if k = j then none else some (.m k)
  | some (.r k i) => if k = j then none else some (.r k i)
  | w => w
def fLcD2 (i : Nat) (gt : FG) (t : FTt) (f : FE) (vs : List Nat) : FE := fun A B k => ∃ j kvs, A[i]? = some (some (.m j)) ∧ B[j]? = some (.dK kvs) ∧
  fLc (fun _ B k => k (kvs.map fun p => keyPy p.1) B) gt t f vs (A.map (hideJ j)) (B.set j .gone) fun w B' => B'[j]? = some .gone ∧ k w (B'.set j (.dK kvs))
def fDne0 (i : Nat) : FE := fun A B k => ∃ j kvs, A[i]? = some (some (.m j)) ∧ B[j]? = some (.dK kvs) ∧ k (.d (.bool (!kvs.isEmpty))) B
mutual
def wpE (T : Nat → FT) : AE → FE
  | .var i => fVar i
  | .c x => fC x
  | .kt xs => fun _ B k => k (.kt xs) B
  | .op2 o a b => fOp (a2 o) (wpE T a) (wpE T b)
  | .neg a => fUn (aD1 dNeg) (wpE T a)
  | .chain o o' a b c => fChain (a2 o) (a2 o') (wpE T a) (wpE T b) (wpE T c)
  | .and a b => fAndV (wpE T a) (wpE T b)
  | .or a b => fOrV (wpE T a) (wpE T b)
  | .not a => fNotV (wpE T a)
  | .ife t a b => fIf (wpT T t) (wpE T a) (wpE T b)
  | .sl a lo hi => fSl (wpE T a) (wpO T lo) (wpO T hi)
  | .omit => fun _ _ _ => False
  | .call f es => fCall (T f) (wpEs T es)
  | .callK f ix es => fCallK (T f) ix (wpEs T es)
  | .bi b es => fL (aBi b) (wpEs T es)
  | .isi ts a => fIsi ts (wpE T a)
  | .mm m o es => fMM m (wpE T o) (wpEs T es)
  | .get2 o a b => fGet2 (wpE T o) (wpE T a) (wpE T b)
  | .tup es => fTup (wpEs T es)
  | .lst es => fLst (wpEs T es)
  | .dnew => fDNew
  | .lc it g t e vs => fun A B k => fLc (wpI T it) (wpG g) (wpT T t) (wpE T e) vs A B k ∨ fLcM (wpI T it) (wpG g) (wpT T t) (wpE T e) vs A B k
  | .lcD i g t e vs => fLcD2 i (wpG g) (wpT T t) (wpE T e) vs
  | .dne0 i => fDne0 i
  | .rev a => fUn (aD1 dRev) (wpE T a)
  | .lset a => fUn (aD1 dLenSet) (wpE T a)
  | .idx o a => fIdx (wpE T o) (wpE T a)
  | .lrg a => fLrg1 (wpE T a)
  | .trg a => fTrg1 (wpE T a)
  | .reprL es => fL aReprL (wpEs T es)
  | .upd o a => fUpd (wpE T o) (wpE T a)
  | .lsc it g t e vs => fLsc (wpI T it) (wpG g) (wpT T t) (wpE T e) vs
  | .dcm it g t e v vs => fDcm (wpI T it) (wpG g) (wpT T t) (wpE T e) (wpE T v) vs
def wpT (T : Nat → FT) : AE → FTt
  | .omit => fun _ B k => k true B
  | .and a b => fAnd (wpT T a) (wpT T b)
  | .or a b => fOr (wpT T a) (wpT T b)
  | .not a => fNot (wpT T a)
  | .op2 o a b => if isCmp o then fBool (fOp (a2 o) (wpE T a) (wpE T b)) else fTru (fOp (a2 o) (wpE T a) (wpE T b))
  | .chain o o' a b c => fBool (fChain (a2 o) (a2 o') (wpE T a) (wpE T b) (wpE T c))
  | .dne0 i => fBool (fDne0 i)
  | .var i => fTru (fVar i)
  | .c x => fTru (fC x)
  | .call f es => fTru (fCall (T f) (wpEs T es))
  | .bi b es => fTru (fL (aBi b) (wpEs T es))
  | .isi ts a => fTru (fIsi ts (wpE T a))
  | .lc it g t e vs => fTru (fun A B k => fLc (wpI T it) (wpG g) (wpT T t) (wpE T e) vs A B k ∨ fLcM (wpI T it) (wpG g) (wpT T t) (wpE T e) vs A B k)
  | _ => fun _ _ _ => False
def wpO (T : Nat → FT) : AE → FO
  | .omit => fNoPart
  | .var i => fPart (fVar i)
  | .c x => fPart (fC x)
  | .op2 o a b => fPart (fOp (a2 o) (wpE T a) (wpE T b))
  | .neg a => fPart (fUn (aD1 dNeg) (wpE T a))
  | .call f es => fPart (fCall (T f) (wpEs T es))
  | .bi b es => fPart (fL (aBi b) (wpEs T es))
  | _ => fun _ _ _ => False
def wpEs (T : Nat → FT) : AEs → FA
  | .nil => fNil
  | .cons a es => fCons (wpE T a) (wpEs T es)
def wpI (T : Nat → FT) : AI → FI
  | .seq a => fSeq (wpE T a)
  | .r1 es => fR1 (wpEs T es)
  | .r2 es => fR2 (wpEs T es)
  | .r3 es => fR3 (wpEs T es)
  | .zip es => fZip (wpEs T es)
  | .enum es => fEnum (wpEs T es)
end
mutual
inductive AS where
  | pass | brk | cont | never | retN
  | drop (e : AE) | asg (g : AG) (e : AE) | par (i j : Nat) (es : AEs) | par3 (i j l : Nat) (es : AEs) | parT (ix : List Nat) (es : AEs)
  | put (v o i : AE) | aug (i : Nat) (plus : Bool) (e : AE)
  | ife (t : AE) (a b : ASs) | for_ (it : AI) (g : AG) (b : ASs) | while_ (t : AE) (b : ASs) | ret (e : AE)
  | sh (s : AS)
  deriving DecidableEq
inductive ASs where
  | nil | cons (s : AS) (ss : ASs)
  deriving DecidableEq
end
def setAll : List Nat → List AV → Env → Option Env
  | [], [], A => some A
  | i :: is, w :: ws, A => setAll is ws (A.set i (some w))
  | _, _, _ => none
def sParT (ix : List Nat) (fs : FA) : FS := fun E A B => fs A B fun ws B1 => ∃ A', setAll ix ws A = some A' ∧ E.nx A' B1
def sPar3 (i j l : Nat) (fs : FA) : FS := fun E A B => fs A B fun ws B1 => match ws with
  | [u, v, w] => E.nx (((A.set i (some u)).set j (some v)).set l (some w)) B1
  | _ => False
mutual
def wpS (T : Nat → FT) (np : Nat) : AS → FS
  | .pass => sNext
  | .brk => sBreak
  | .cont => sCont
  | .never => sNever
  | .retN => sRetN
  | .drop e => sDrop (wpE T e)
  | .asg g e => sAsg (wpE T e) (wpG g)
  | .par i j es => sPar i j (wpEs T es)
  | .par3 i j l es => sPar3 i j l (wpEs T es)
  | .parT ix es => sParT ix (wpEs T es)
  | .put v o i => sPut (wpE T v) (wpE T o) (wpE T i)
  | .aug i plus e => sAug i (fun a b => if plus then a + b else a - b) (wpE T e)
  | .ife t a b => sIf (wpT T t) (wpSs T np a) (wpSs T np b)
  | .for_ it g b => sFor np (wpI T it) (wpG g) (wpSs T np b)
  | .while_ t b => sWhile np (wpT T t) (wpSs T np b)
  | .ret e => sRet (wpE T e)
  | .sh s => sShift np (wpS T np s)
def wpSs (T : Nat → FT) (np : Nat) : ASs → FS
  | .nil => sNext
  | .cons s .nil => wpS T np s
  | .cons s ss => sSeq (wpS T np s) (wpSs T np ss)
end
def vOf : AE → List Nat
  | .var i => [i]
  | _ => []
mutual
def dpE : AE → List Nat
  | .op2 _ a b => dpE a ++ dpE b
  | .neg a => dpE a
  | .chain _ _ a b c => dpE a ++ dpE b ++ dpE c
  | .and a b => dpE a ++ dpE b
  | .or a b => dpE a ++ dpE b
  | .not a => dpE a
  | .ife t a b => dpE t ++ dpE a ++ dpE b
  | .sl a _ _ => dpE a
  | .call _ es => dpA es ++ dpT es
  | .callK _ _ es => dpA es ++ dpT es
  | .bi _ es => dpA es
  | .mm m o es => dpE o ++ dpA es ++ (match m with | .append => dpV es | _ => [])
  | .tup es => dpA es ++ dpV es
  | .lst es => dpA es ++ dpV es
  | .lc it _ _ e _ => dpI it ++ dpE e
  | .rev a => dpE a
  | .lset a => dpE a
  | .idx o a => dpE o ++ dpE a
  | .lrg a => dpE a
  | .trg a => dpE a
  | .reprL es => dpA es
  | .upd o a => dpE o ++ dpE a
  | .lsc it _ _ e _ => dpI it ++ dpE e
  | .dcm it _ _ e v _ => dpI it ++ dpE e ++ dpE v
  | _ => []
def dpA : AEs → List Nat
  | .nil => []
  | .cons a es => dpE a ++ dpA es
def dpT : AEs → List Nat
  | .cons (.var _) es => dpV es
  | _ => []
def dpV : AEs → List Nat
  | .nil => []
  | .cons a es => (match a with | .var i => [i] | _ => []) ++ dpV es
def dpI : AI → List Nat
  | .seq a => dpE a ++ (match a with | .var i => [i] | _ => [])
  | .zip es => dpA es ++ dpV es
  | .enum es => dpA es ++ dpV es
  | .r1 es => dpA es
  | .r2 es => dpA es
  | .r3 es => dpA es
end
def kd (mu : List (Nat × Nat)) (i : Nat) : Nat := (mu.lookup i).getD 0
def kdG (mu : List (Nat × Nat)) : AG → Nat
  | .nm i => kd mu i
  | _ => 0
def dpS (mu : List (Nat × Nat)) : AS → List Nat
  | .drop e => dpE e
  | .asg g e => dpE e ++ (if kdG mu g = 0 then vOf e else [])
  | .par _ _ es => dpA es
  | .par3 _ _ _ es => dpA es
  | .parT _ es => dpA es
  | .put v o i => dpE v ++ vOf v ++ dpE i
  | .aug _ _ e => dpE e
  | .ife t _ _ => dpE t
  | .for_ it _ _ => dpI it
  | .ret e => dpE e
  | .sh s => dpS mu s
  | _ => []
end Dl

namespace Dl
open L2 PySem PyProof.Rows PySem.Spec
structure FnG (P : Program) (w : World) (K : PySem.W.Frag) (mg : Str → Option Value) (base : Heap) (k : Nat) (f : Addr) (fd : FuncData) (ps : List Str) (sp : Sp) : Prop where
  len : ∀ vs H Q E, sp vs H Q E → vs.length = ps.length
  run : ∀ (A : Around) (outer : List PySem.Env) (s : Shared) (H : Hp) (args : Args) (us : List Value) (vs : List V) (Q : VK), Room k A → Calm A → Env0 P w K mg base A outer s H → BindsTo s fd args (ps.zip us) → Vals vs us → sp vs H Q E0 →
    codeAny (model P w) A (.call (.ref f) args) (CR CX0 outer P w H s Q E0) s
section
variable {P : Program} {w : World} {K : PySem.W.Frag} {mg : Str → Option Value} {base : Heap} {k j : Nat} {f : Addr} {fd : FuncData} {ps : List Str} {sp sp' : Sp}
theorem FnG.mono (F : FnG P w K mg base j f fd ps sp) (h : j ≤ k) : FnG P w K mg base k f fd ps sp := ⟨F.len, fun A outer s H args us vs Q hr => F.run A outer s H args us vs Q (hr.mono h)⟩
theorem FnG.imp (F : FnG P w K mg base k f fd ps sp) (h : ∀ vs H Q E, sp' vs H Q E → sp vs H Q E) : FnG P w K mg base k f fd ps sp' :=
  ⟨fun vs H Q E z => F.len vs H Q E (h _ _ _ _ z), fun A outer s H args us vs Q hr hc e0 hb r z => F.run A outer s H args us vs Q hr hc e0 hb r (h _ _ _ _ z)⟩
theorem Fun.okG {x qual : Str} {st : Stmt} {N : List Str} (F : Fun K x qual st f fd) (S : FnScope N ps (defScope st)) (len : ∀ vs H Q E, sp vs H Q E → vs.length = ps.length)
    (hbody : ∀ (cdv : Value) (A : Around) (outer : List PySem.Env) (s : Shared) (H : Hp) (vs : List V) (Q : VK), Room k (A.deeper (envOfC qual (defScope st) s.heap.objs.size f cdv)) → Calm A → sp vs H Q E0 →
      ∃ t, PSs (cxOf CX0 P w K mg base N qual (defScope st) f cdv A outer s H E0).nox (defBody st) t ∧ t { nx := fun _ H' => Q .non H', rt := Q } (start N vs) H) : FnG P w K mg base (k + 1) f fd ps sp := by
  obtain ⟨oc, od, kV, doc, pm, an, cdv, ct, osl, rfl, lk, hcd⟩ := F.ex
  refine ⟨len, fun A outer s H args us vs Q hr hc e0 hb r hsp => ?_⟩
  have hlen := len _ _ _ _ hsp
  have kin : K.In s.heap := e0.mod.kin.keeps fun b o e => (e0.bs b o e).1
  have nolim : s.heap.NoLimit := e0.mod.nolimit.keeps fun b o e => (e0.bs b o e).1
  have kinds : ∀ y ∈ ps.zip us, (defScope st).names.lookup y.1 = some .local ∨ ((defScope st).names.lookup y.1 = some .cell ∧ ((cellsFrom (s.heap.objs.size + 1) (defScope st).names []).lookup y.1).isSome = true) := fun ⟨n, v⟩ hy => by
    rcases S.par n (List.of_mem_zip hy).1 with z | z
    · exact .inl z
    · exact .inr ⟨z, PySem.W.cellsFrom_some _ _ _ (.inl z)⟩
  refine codeAny_call_function hr.depth (kin _ _ lk) rfl S.co S.gen rfl (PySem.W.codeRec_of kin hcd) (hb _ _ _ _ ?_)
  refine wpAny_newFunctionEnv_cells S.kind kinds fun env he s1 x => ?_
  subst he
  refine ⟨nolim.keeps x.toInCall.keep, codeAny_func ?_⟩
  obtain ⟨t, ht, hq⟩ := hbody cdv A outer s H vs Q (hr.deeper _) hc hsp
  have entry : Inv (cxOf CX0 P w K mg base N qual (defScope st) f cdv A outer s H E0) [] (start N vs) H s1 := inv_start S hr.hd e0 hlen r x
  refine wpAny_mono (ht.nox.run [] s1 (start N vs) H _ entry hq) (fun fl s' hs => ?_) fun e s' hs => hs
  have back : ∀ {σ' : L2.St} {H' : Hp} {v : V} {u : Value}, Inv (cxOf CX0 P w K mg base N qual (defScope st) f cdv A outer s H E0) [] σ' H' s' → RelV v u → Q v H' → CE outer P w H s Q u s' :=
    fun {σ' H' v u} J rv q => ⟨v, H', J.os, J.bare, J.base, J.hok, rv, q⟩
  cases fl with
  | ret u =>
    obtain ⟨v, σ', H', J, rv, q⟩ := hs
    exact back J rv q
  | next =>
    obtain ⟨σ', H', J, q⟩ := hs
    exact back (v := V.non) (u := Value.none) J rfl q
  | brk =>
    obtain ⟨_, _, _, q⟩ := hs
    exact q.elim
  | cont =>
    obtain ⟨_, _, _, q⟩ := hs
    exact q.elim
end
section
variable {X : Cx} {k : Nat} {f : Addr} {fd : FuncData} {ps ks : List Str} {sp : Sp} {x : Str} {p pos : Pos} {e : Expr} {es : List Expr} {t : TA} {g : List Value → List Value → List Value} {gV : List V → List V → List V}
theorem run_g {pins : List (Addr × Obj)} {σ : L2.St} {H : Hp} {s : Shared} {Q : VK} {us : List Value} {vs : List V} (F : FnG X.prog X.w X.K X.mg X.base k f fd ps sp) (hr : Room k X.A) (hc : Calm X.A) (hb : Binds X.K fd ps [])
    (I : Inv X pins σ H s) (r : Vals vs us) (h : sp vs H Q E0) : wpAny (model X.prog X.w) X.A (call (.ref f) us) (EP X pins σ Q) X.xe s := by
  have hl : us.length = ps.length := by rw [← r.length]; exact F.len _ _ _ _ h
  have bt := hb s us I.kIn (by simpa using hl)
  rw [List.append_nil] at bt
  refine wpAny_call (codeAny_mono (F.run X.A X.stack s H ⟨us, []⟩ us vs Q hr hc I.env0 bt r h) fun res s' hq => ?_)
  cases res with
  | error e => exact (show False from hq).elim
  | ok fl =>
    cases fl with
    | ret u => exact I.after hq
    | next => exact (show False from hq).elim
    | brk => exact (show False from hq).elim
    | cont => exact (show False from hq).elim
theorem run_gk {pins : List (Addr × Obj)} {σ : L2.St} {H : Hp} {s : Shared} {Q : VK} {us ws : List Value} {vs zs : List V} (F : FnG X.prog X.w X.K X.mg X.base k f fd ps sp) (hr : Room k X.A) (hc : Calm X.A) (hb : KBinds X.K fd ps ks g gV)
    (I : Inv X pins σ H s) (r : Vals vs us) (rz : Vals zs ws) (h : sp (gV vs zs) H Q E0) : wpAny (model X.prog X.w) X.A (call (.ref f) us (ks.zip ws)) (EP X pins σ Q) X.xe s := by
  have rg := hb.rel r rz
  have hl : (g us ws).length = ps.length := by rw [← rg.length]; exact F.len _ _ _ _ h
  refine wpAny_call (codeAny_mono (F.run X.A X.stack s H ⟨us, ks.zip ws⟩ (g us ws) (gV vs zs) Q hr hc I.env0 (hb.to s us ws I.kIn hl) rg h) fun res s' hq => ?_)
  cases res with
  | error e => exact (show False from hq).elim
  | ok fl =>
    cases fl with
    | ret u => exact I.after hq
    | next => exact (show False from hq).elim
    | brk => exact (show False from hq).elim
    | cont => exact (show False from hq).elim
theorem pe_g (F : FnG X.prog X.w X.K X.mg X.base k f fd ps sp) (hr : Room k X.A) (hc : Calm X.A) (hg : Gl X x) (hm : X.mg x = some (.ref f)) (hk : PySem.W.keepIn X.K (.ref f) = true) (hb : Binds X.K fd ps [])
    (ha : PA X (e :: es) t) (hdb : (x == ("__debug__" : Str)) = false) (he : starEach (e :: es) X.env = (false, eval e X.env) :: starEach es X.env) (hpl : (backTo pos (starEach es X.env)).any (·.1) = false) :
    PE X (.Call (.Name x p) (e :: es) [] pos) (tCall sp [] E0 t) := by
  refine ⟨fun pins s σ H Q I h => wpAny_Call_Name_kw (ld_glob I hg hm ?_ hdb)⟩
  refine PySem.W.callWith_K (h₀ := X.base) I.ok.mod.kin hk (thn (ha.run pos pins s σ H _ I h) fun us s1 ⟨vs, H1, I1, r, q⟩ => ⟨I1.kIn, ?_⟩) he hpl
  exact run_g F hr hc hb I1 r (by simpa using q)
theorem pe_g0 (F : FnG X.prog X.w X.K X.mg X.base k f fd ps sp) (hr : Room k X.A) (hc : Calm X.A) (hg : Gl X x) (hm : X.mg x = some (.ref f)) (hk : PySem.W.keepIn X.K (.ref f) = true) (hb : Binds X.K fd ps [])
    (hdb : (x == ("__debug__" : Str)) = false) : PE X (.Call (.Name x p) [] [] pos) (tCall sp [] E0 tNil) := by
  refine ⟨fun pins s σ H Q I h => wpAny_Call_Name_kw (ld_glob I hg hm ?_ hdb)⟩
  exact PySem.W.callWith_K0 I.kIn hk (run_g (us := []) F hr hc hb I .nil h)
end
end Dl

namespace Dl
open L2 PySem PyProof.Rows PySem.Spec

inductive GK where
  | fn (i : Nat) (ps : List Str) (pats : List (List Str)) | cst (x : PyData) | kt (xs : List PyData) | blt
structure Ctx where
  N : List Str
  sc : Scope
  fn : Str → Bool
  gl : Str → Option GK
  ghost : List Nat
  dl : List Nat
def Ctx.blk (c : Ctx) (scope : Scope) : Ctx := { c with sc := relS scope c.sc, fn := fun x => scope.names.lookup x == some .cell }
def kidx (ps ks : List Str) : List Nat := ps.map fun p => ks.idxOf p
def kg (ps ks : List Str) (us ws : List Value) : List Value := if ws.length = ks.length then us ++ (kidx ps ks).map fun i => ws.getD i .none else []
def kgV (ps ks : List Str) (us ws : List V) : List V := if ws.length = ks.length then us ++ (kidx ps ks).map fun i => ws.getD i .non else []
theorem vals_get : ∀ {vs : List V} {us : List Value} (i : Nat), Vals vs us → RelV (vs.getD i .non) (us.getD i .none)
  | _, _, _, .nil => rfl
  | _, _, 0, .cons h _ => h
  | _, _, i + 1, .cons _ t => by simpa using vals_get i t
theorem vals_pick {vs : List V} {us : List Value} (h : Vals vs us) : ∀ ix : List Nat, Vals (ix.map fun i => vs.getD i .non) (ix.map fun i => us.getD i .none)
  | [] => .nil
  | i :: ix => .cons (vals_get i h) (vals_pick h ix)
theorem vals_app : ∀ {vs : List V} {us : List Value} {zs : List V} {ws : List Value}, Vals vs us → Vals zs ws → Vals (vs ++ zs) (us ++ ws)
  | _, _, _, _, .nil, s => s
  | _, _, _, _, .cons h t, s => .cons h (vals_app t s)
theorem kbinds_of {K : PySem.W.Frag} {fd : FuncData} {ps ks : List Str} (hp : ps ≠ []) (h : ∀ ws : List Value, ws.length = ks.length → bindArgs fd ⟨[], ks.zip ws⟩ = pure (ps.zip ((kidx ps ks).map fun i => ws.getD i .none))) : KBinds K fd ps ks (kg ps ks) (kgV ps ks) := by
  have hpl : ps.length ≠ 0 := fun z => hp (List.length_eq_zero_iff.mp z)
  refine ⟨fun s us ws _ hl => ?_, fun {vs us zs ws} hv hz => ?_⟩
  · unfold kg at hl ⊢
    by_cases e : ws.length = ks.length
    · rw [if_pos e] at hl ⊢
      have : us = [] := by
        rw [List.length_append, List.length_map] at hl
        have : (kidx ps ks).length = ps.length := by simp [kidx]
        exact List.length_eq_zero_iff.mp (by omega)
      subst this
      exact .of_eq (h ws e)
    · rw [if_neg e] at hl
      exact absurd hl.symm hpl
  · have e : zs.length = ws.length := hz.length
    unfold kg kgV
    by_cases q : ws.length = ks.length
    · rw [if_pos (e.trans q), if_pos q]
      exact vals_app hv (vals_pick hz _)
    · rw [if_neg (fun z => q (e.symm.trans z)), if_neg q]
      exact .nil
structure FnAt (X : Cx) (x : Str) (ps : List Str) (pats : List (List Str)) (F : FT) : Prop where
  ex : ∃ f fd k, FnG X.prog X.w X.K X.mg X.base k f fd ps (spOf X.K F) ∧ Room k X.A ∧ X.mg x = some (.ref f) ∧ PySem.W.keepIn X.K (.ref f) = true ∧ Binds X.K fd ps [] ∧ ∀ ks ∈ pats, KBinds X.K fd ps ks (kg ps ks) (kgV ps ks)
structure CtxOk (X : Cx) (c : Ctx) (T : Nat → FT) : Prop where
  hN : X.N = c.N
  nd : c.N.Nodup
  sc : X.env.scope = c.sc
  kind : c.sc.kind = .function
  fn : ∀ x, c.fn x = true → X.fn x = true
  calm : X.calm = true
  grd : Calm X.A
  un : X.A.units + 65 < cLine
  fns : ∀ x i ps pats, c.gl x = some (.fn i ps pats) → FnAt X x ps pats (T i)
  cst : ∀ x d, c.gl x = some (.cst d) → ∃ v u, X.mg x = some u ∧ RelV v u ∧ Dq X.K (fun _ => none) v d
  kts : ∀ x xs, c.gl x = some (.kt xs) → ∃ a vs, X.mg x = some (.ref a) ∧ SqT X.K (fun _ => none) a vs ∧ DqAll X.K (fun _ => none) vs xs
  blt : ∀ x, c.gl x = some .blt → X.mg x = none
theorem CtxOk.blk {X : Cx} {c : Ctx} {T : Nat → FT} (h : CtxOk X c T) (s : Shared) (H : Hp) (scope : Scope) (C : Addr) (cl : List (Str × Addr)) (fp : List Addr) (hk : scope.kind = .function) :
    CtxOk (X.blk s H scope (compEnvC scope cl C X.env) fp) (c.blk scope) T := by
  refine ⟨h.hN, h.nd, ?_, hk, fun x hx => hx, h.calm, h.grd, h.un, fun x i ps pats e => ?_, h.cst, h.kts, h.blt⟩
  · show relS scope X.env.scope = relS scope c.sc
    rw [h.sc]
  · obtain ⟨f, fd, k, a1, a2, a3, a4, a5, a6⟩ := (h.fns x i ps pats e).ex
    exact ⟨f, fd, k, a1, a2, a3, a4, a5, a6⟩

def isVis (o : Option NameKind) : Bool := match o with
  | some .local => true
  | some .cell => true
  | some .free => true
  | _ => false
def find? (N : List Str) (x : Str) : Option Nat := let i := N.idxOf x
  if N[i]? = some x then some i else none
def special (x : Str) : Bool := x == ("__debug__" : Str) || x == ("__classdict__" : Str) || decide (x = ("__name__" : Str))
def slotOf (c : Ctx) (x : Str) : Option Nat := if isVis (c.sc.names.lookup x) && !special x then find? c.N x else none
def stoOf (c : Ctx) (x : Str) : Option Nat := match c.sc.names.lookup x with
  | some .local => find? c.N x
  | some .cell => if c.fn x then find? c.N x else none
  | _ => none
theorem find_ok {N : List Str} {x : Str} {i : Nat} (h : find? N x = some i) : N[i]? = some x := by
  unfold find? at h
  simp only at h
  split at h
  · cases h; assumption
  · cases h
theorem vis_ok {sc : Scope} {x : Str} (h : isVis (sc.names.lookup x) = true) : Vis sc x := by
  unfold isVis at h
  split at h
  · rename_i e; exact .inl e
  · rename_i e; exact .inr (.inl e)
  · rename_i e; exact .inr (.inr e)
  · cases h
theorem spec_ok {x : Str} (h : special x = false) : (x == ("__debug__" : Str)) = false ∧ (x == ("__classdict__" : Str)) = false ∧ x ≠ ("__name__" : Str) := by
  unfold special at h
  simp only [Bool.or_eq_false_iff, decide_eq_false_iff_not] at h
  exact ⟨h.1.1, h.1.2, h.2⟩
def binO : Operator → Option O2
  | .Add => some .add | .Sub => some .sub | .Mult => some .mul | .FloorDiv => some .div | .Mod => some .mod | .Pow => some .pow
  | _ => none
def cmpO : CmpOp → Option O2
  | .Eq => some .eq | .NotEq => some .ne | .Lt => some .lt | .LtE => some .le | .Gt => some .gt | .GtE => some .ge | .In => some .inn | .NotIn => some .nin | .Is => some .is_ | .IsNot => some .isn
theorem binO_ok {X : Cx} {op : Operator} {o : O2} (h : binO op = some o) : OpR X (binaryOp op) (r2 X.K o) := by
  unfold binO at h
  split at h <;> cases h
  · exact op_addA
  · exact op_sub
  · exact op_mulA
  · exact op_fdivW
  · exact op_mod
  · exact op_pow
theorem cmpO_ok {X : Cx} (hu : X.A.units + 65 < cLine) {op : CmpOp} {o : O2} (h : cmpO op = some o) : OpR X (compareOp op) (r2 X.K o) := by
  unfold cmpO at h
  split at h <;> cases h
  · exact op_eqA (by omega)
  · exact op_neA (by omega)
  · exact op_ltA
  · exact op_le
  · exact op_gt
  · exact op_ge
  · exact op_inA hu
  · exact op_notInA hu
  · exact op_isN
  · exact op_notN
def notStar : Expr → Bool
  | .Starred _ _ => false
  | _ => true
theorem star_cons {e : Expr} (h : notStar e = true) (es : List Expr) (env : PySem.Env) : starEach (e :: es) env = (false, eval e env) :: starEach es env := by
  cases e <;> first | rfl | cases h
theorem star_plain : ∀ {es : List Expr} (env : PySem.Env) (pos : Pos), es.all notStar = true → (backTo pos (starEach es env)).any (·.1) = false
  | [], _, _, _ => rfl
  | e :: es, env, pos, h => by
    rw [List.all_cons, Bool.and_eq_true] at h
    rw [star_cons h.1]
    exact star_plain env pos h.2
def plainE : Expr → Bool
  | .UnaryOp .Not _ _ => false
  | .BoolOp _ _ _ => false
  | .IfExp _ _ _ _ => false
  | .Compare _ _ _ _ => false
  | _ => true
theorem plain_ok {X : Cx} {e : Expr} (h : plainE e = true) : plainTest X e := by
  intro whole
  cases e with
  | UnaryOp op _ _ => cases op <;> first | rfl | cases h
  | BoolOp _ _ _ => cases h
  | IfExp _ _ _ _ => cases h
  | Compare _ _ _ _ => cases h
  | _ => rfl
def noSet : Expr → Bool
  | .Set _ _ _ => false
  | _ => true
theorem noSet_ok {op : CmpOp} {e : Expr} (h : noSet e = true) : behindInMarks op e = false := by
  cases e <;> first | rfl | cases h
theorem noSet_hs {e : Expr} {X : Cx} (h : noSet e = true) : ∀ x, foldedSetIterable e X.env x = pure x := by
  intro x
  cases e <;> first | rfl | cases h
def plainIx : Expr → Bool
  | .Slice _ _ _ _ => false
  | _ => true
theorem plainIx_ok {e : Expr} (h : plainIx e = true) : PlainIx e := by
  intro o i
  cases e <;> first | rfl | cases h
def isComp : Expr → Bool
  | .ListComp _ _ _ _ => true
  | .SetComp _ _ _ _ => true
  | .DictComp _ _ _ _ _ => true
  | _ => false
theorem swaps_plain {e : Expr} {t : Option Expr} {l : Nat} {env : PySem.Env} (h : isComp e = false) : swapsWith e t l env = pure false := by
  cases e <;> first | rfl | cases h
def allBI : List BI := [.len, .abs, .int, .bool, .str, .max, .min, .sum, .sorted, .all, .any, .list, .tuple, .repr]
def biOf (x : Str) : Option BI := allBI.find? fun b => decide (x = Str.ofString (nameBI b))
def tnOf (x : Str) : Option TN := [TN.int, .bool, .str, .list, .tuple].find? fun b => decide (x = Str.ofString (nameTN b))
theorem bi_boot : ∀ b : BI, bootBuiltins (Str.ofString (nameBI b)) = some (valBI b) := by
  intro b
  cases b <;> decide +kernel
theorem bi_of {x : Str} {b : BI} (h : biOf x = some b) : x = Str.ofString (nameBI b) := by
  simpa using List.find?_some h
theorem tn_of {x : Str} {t : TN} (h : tnOf x = some t) : x = Str.ofString (nameTN t) := by
  simpa using List.find?_some h
theorem tn_boot : ∀ t : TN, bootBuiltins (Str.ofString (nameTN t)) = some (.type (nameTN t)) := by
  intro t
  cases t <;> decide +kernel
def mmOf (x : Str) : Option MM := [MM.append, .extend, .pop].find? fun b => decide (x = Str.ofString (nameMM b))
theorem mm_ofS {x : Str} {m : MM} (h : mmOf x = some m) : x = Str.ofString (nameMM m) := by
  simpa using List.find?_some h
theorem bi_ne {b : BI} : Str.ofString (nameBI b) ≠ ("__name__" : Str) ∧ (Str.ofString (nameBI b) == ("__debug__" : Str)) = false := by
  cases b <;> decide
theorem tn_ne {t : TN} : Str.ofString (nameTN t) ≠ ("__name__" : Str) ∧ (Str.ofString (nameTN t) == ("__debug__" : Str)) = false := by
  cases t <;> decide
end Dl

namespace Dl
open L2 PySem PyProof.Rows PySem.Spec

theorem bnd {α β : Type} {o : Option α} {f : α → Option β} {r : β} (h : o.bind f = some r) : ∃ a, o = some a ∧ f a = some r := Option.bind_eq_some_iff.mp h
theorem mpd {α β : Type} {o : Option α} {f : α → β} {r : β} (h : o.map f = some r) : ∃ a, o = some a ∧ f a = r := Option.map_eq_some_iff.mp h
def gd {α : Type} (b : Bool) (o : Option α) : Option α := if b = true then o else none
theorem gd_of {α : Type} {b : Bool} {o : Option α} {r : α} (h : gd b o = some r) : b = true ∧ o = some r := by
  unfold gd at h
  split at h
  · exact ⟨by assumption, h⟩
  · cases h
structure Cp where
  e : Ctx → Expr → Option AE
  t : Ctx → Expr → Option AE
structure CpOk (p : Cp) : Prop where
  e : ∀ {X : Cx} {c : Ctx} {T : Nat → FT} {x : Expr} {r : AE}, CtxOk X c T → p.e c x = some r → PD X x (wpE T r)
  t : ∀ {X : Cx} {c : Ctx} {T : Nat → FT} {x : Expr} {r : AE}, CtxOk X c T → p.t c x = some r → PDT X x (wpT T r)
def isGl (c : Ctx) (x : Str) : Bool := match c.sc.names.lookup x with
  | some .globalImplicit => true
  | _ => false
section
variable {X : Cx} {c : Ctx} {T : Nat → FT} {p : Cp} {x : Str} {e a b i : Expr} {es : List Expr} {pos : Pos} {r : AE} {scope : Scope}
theorem isGl_ok (h : CtxOk X c T) (e : isGl c x = true) : Gl X x := by
  show X.env.scope.names.lookup x = some .globalImplicit
  rw [h.sc]
  unfold isGl at e
  split at e
  · assumption
  · cases e
theorem dbg {x : Str} (h : (!(x == ("__debug__" : Str))) = true) : (x == ("__debug__" : Str)) = false := by
  simpa using h
def cName (c : Ctx) (x : Str) : Option AE := match slotOf c x with
  | some i => some (.var i)
  | none => gd (isGl c x && !(x == ("__debug__" : Str))) (match c.gl x with
    | some (.cst d) => some (.c d)
    | some (.kt xs) => some (.kt xs)
    | _ => none)
theorem pd_kt {a : Addr} {vs : List V} {xs : List PyData} (h : PE X e (tC (.ref a))) (h1 : SqT X.K (fun _ => none) a vs) (h2 : DqAll X.K (fun _ => none) vs xs) : PD X e (fun _ B k => k (.kt xs) B) := ⟨PE.imp h fun σ H Q w => by
  obtain ⟨θ, A, B, G, k, S, hf, q⟩ := w
  exact q θ B G H _ _ Gr.refl S (.kt h1 h2) hf⟩
theorem cName_ok (hc : CtxOk X c T) (h : cName c x = some r) : PD X (.Name x pos) (wpE T r) := by
  unfold cName at h
  split at h
  · rename_i i hs
    cases h
    unfold slotOf at hs
    split at hs
    · rename_i hv
      rw [Bool.and_eq_true, Bool.not_eq_true'] at hv
      obtain ⟨s1, s2, s3⟩ := spec_ok hv.2
      exact pd_var (pe_var (by rw [hc.hN]; exact find_ok hs) (by rw [hc.sc]; exact vis_ok hv.1) s1 s2)
    · cases hs
  · obtain ⟨g1, h⟩ := gd_of h
    rw [Bool.and_eq_true] at g1
    split at h
    · rename_i d hd
      cases h
      obtain ⟨v, u, h1, h2, h3⟩ := hc.cst x d hd
      exact pd_c (pe_glob (isGl_ok hc g1.1) h1 h2 (dbg g1.2)) h3
    · rename_i xs hd
      cases h
      obtain ⟨a, vs, h1, h2, h3⟩ := hc.kts x xs hd
      exact pd_kt (pe_glob (isGl_ok hc g1.1) h1 (show RelV (.ref a) (.ref a) from rfl) (dbg g1.2)) h2 h3
    · cases h
def cConst : Const → Option PyData
  | .none => some .none
  | .bool b => some (.bool b)
  | .int i => some (.int i)
  | .str s => some (.str s)
  | _ => none
theorem cConst_ok {k : Const} {j : Nat} {d : PyData} (h : cConst k = some d) : PD X (.Constant k j pos) (fC d) := by
  cases k <;> cases h
  · exact pd_c pe_non .non
  · exact pd_c pe_bl (.bl _)
  · exact pd_c pe_int (.int _)
  · exact pd_c pe_str (.str _)
def cBin (p : Cp) (c : Ctx) (a : Expr) (op : Operator) (b : Expr) : Option AE := (binO op).bind fun o => (p.e c a).bind fun x => (p.e c b).bind fun y => some (.op2 o x y)
theorem cBin_ok {op : Operator} (hp : CpOk p) (hc : CtxOk X c T) (h : cBin p c a op b = some r) : PD X (.BinOp a op b pos) (wpE T r) := by
  obtain ⟨o, ho, h⟩ := bnd h
  obtain ⟨x, hx, h⟩ := bnd h
  obtain ⟨y, hy, h⟩ := bnd h
  cases h
  exact pd_op (hp.e hc hx) (hp.e hc hy) (rd2_all o) fun ta tb ha hb => pe_op (binO_ok ho) ha hb
def cUn (p : Cp) (c : Ctx) (op : UnaryOp) (a : Expr) : Option AE := match op with
  | .Not => (p.e c a).map .not
  | .USub => (p.e c a).map .neg
  | _ => none
theorem cUn_ok {op : UnaryOp} (hp : CpOk p) (hc : CtxOk X c T) (h : cUn p c op a = some r) : PD X (.UnaryOp op a pos) (wpE T r) := by
  unfold cUn at h
  split at h
  · obtain ⟨x, hx, rfl⟩ := mpd h
    exact pd_not (hp.e hc hx)
  · obtain ⟨x, hx, rfl⟩ := mpd h
    exact pd_un (hp.e hc hx) rd_neg fun ta ha => pe_un un_neg ha
  · cases h
def cBoolV (p : Cp) (c : Ctx) (op : BoolOp) : List Expr → Option AE
  | [] => none
  | [a] => p.e c a
  | a :: b :: es => (p.e c a).bind fun x => (cBoolV p c op (b :: es)).bind fun y => some (match op with
    | .And => .and x y
    | .Or => .or x y)
theorem cBoolV_ok (hp : CpOk p) (hc : CtxOk X c T) {op : BoolOp} : ∀ {es : List Expr} {r : AE}, cBoolV p c op es = some r → PD X (.BoolOp op es pos) (wpE T r)
  | [], _, h => by cases h
  | [a], _, h => pd_one (hp.e hc h)
  | a :: b :: es, _, h => by
    obtain ⟨x, hx, h⟩ := bnd h
    obtain ⟨y, hy, h⟩ := bnd h
    cases h
    cases op with
    | And => exact pd_and (hp.e hc hx) (cBoolV_ok hp hc hy)
    | Or => exact pd_or (hp.e hc hx) (cBoolV_ok hp hc hy)
theorem cmpO_is {op : CmpOp} {o : O2} (h : cmpO op = some o) : isCmp o = true := by
  cases op <;> cases h <;> rfl
def emptyD : Expr → Bool
  | .Dict [] [] _ => true
  | _ => false
theorem emptyD_ok (h : emptyD b = true) : PE X b tDNewK := by
  unfold emptyD at h
  split at h
  · exact pe_dnewK
  · cases h
def isV : AE → Option Nat
  | .var i => some i
  | _ => none
theorem isV_ok {i : Nat} (h : isV r = some i) : r = .var i := by
  cases r <;> cases h
  rfl
def rNe0 : R2 := fun x y H Q => ∃ a b ks, x = .ref a ∧ y = .ref b ∧ H a = some (.dK ks) ∧ H b = some (.dK []) ∧ Q (.bl (!ks.isEmpty)) H
theorem op_ne0 (hu : X.A.units < cLine) : OpR X (compareOp .NotEq) rNe0 := by
  intro pins s σ H x y v u Q I rx ry h
  obtain ⟨a, b, ks, rfl, rfl, ea, eb, q⟩ := h
  obtain rfl : v = Value.ref a := rx
  obtain rfl : u = Value.ref b := ry
  obtain ⟨_, ya, va, ra, da⟩ := (show ObjOk X.prog X.w H s.heap a (.dK ks) from I.hok a _ ea)
  obtain ⟨_, yb, vb, rb, db⟩ := (show ObjOk X.prog X.w H s.heap b (.dK []) from I.hok b _ eb)
  have hl : ks.length = va.length := ra.length
  have hb : vb = [] := List.length_eq_zero_iff.mp rb.length.symm
  subst hb
  refine PySem.W.keq_ne (knd := mixKind X.prog X.w) (r := true) ya yb da db hu (fun z => ?_) (fin_bl I q ?_)
  · have : va = [] := List.length_eq_zero_iff.mp z
    subst this
    exact .nil
  · cases ks with
    | nil =>
      have : va = [] := List.length_eq_zero_iff.mp hl.symm
      subst this
      rfl
    | cons z zs =>
      cases va with
      | nil => simp at hl
      | cons _ _ => simp
theorem tf_dne0 {i : Nat} {σ : L2.St} {H : Hp} {Q : VK} (w : tf X.K (fDne0 i) σ H Q) : tOp rNe0 (tf X.K (fVar i)) tDNewK σ H Q := by
  obtain ⟨θ, A, B, G, k, S, ⟨j, kvs, h1, h2, h3⟩, q⟩ := w
  refine ⟨θ, A, B, G, fun w B' => w = .m j ∧ B' = B, S, ?_, fun θ1 B1 G1 H1 v x g1 S1 hv k1 => ?_⟩
  · unfold fVar
    rw [h1]
    exact ⟨rfl, rfl⟩
  · obtain ⟨rfl, rfl⟩ := k1
    cases hv with
    | @m _ a as hk =>
      obtain ⟨c, hb, hcell⟩ := S1.mem.cells.get hk
      rw [h2] at hb
      cases hb
      cases hcell with
      | @dK _ vs _ e kv =>
        intro p hp
        have s := Stp.junk (G := G1) (o := .dK []) S1.mem.ex hp
        have e2 : vs.isEmpty = kvs.isEmpty := kv_empty kv
        refine ⟨a, p, vs, rfl, rfl, s.hx _ _ e, upd_same, q θ1 _ G1 _ _ _ (g1.trans s.gr) (s.st S1) (.d ?_) h3⟩
        rw [e2]
        exact .bl _
theorem pd_dne0 {op : CmpOp} {i : Nat} (ho : cmpO op = some .ne) (hc : CtxOk X c T) (ha : PD X a (fVar i)) (hb : emptyD b = true) (hm : noSet b = true) : PD X (.Compare a [op] [b] pos) (fDne0 i) := by
  have : op = .NotEq := by cases op <;> cases ho; rfl
  subst this
  exact ⟨PE.imp (pe_cmpR (op_ne0 (by have := hc.un; omega)) ha.pe (emptyD_ok hb) (noSet_ok hm)) fun σ H Q w => tf_dne0 w⟩
theorem pdt_dne0 {op : CmpOp} {i : Nat} (ho : cmpO op = some .ne) (hc : CtxOk X c T) (ha : PD X a (fVar i)) (hb : emptyD b = true) (hm : noSet b = true) : PDT X (.Compare a [op] [b] pos) (fBool (fDne0 i)) := by
  have : op = .NotEq := by cases op <;> cases ho; rfl
  subst this
  refine ⟨PT.imp (pt_cmpR (op_ne0 (by have := hc.un; omega)) ha.pe (emptyD_ok hb) (noSet_ok hm)) fun σ H Q w => ?_⟩
  obtain ⟨θ, A, B, G, k, S, h, q⟩ := w
  refine tf_dne0 (Q := fun x H' => ∃ k, x = .bl k ∧ Q k H') ⟨θ, A, B, G, _, S, h, fun θ1 B1 G1 H1 v x g1 S1 hv k1 => ?_⟩
  obtain ⟨b, rfl, rfl, k1⟩ := boolK_of hv k1
  exact ⟨b, rfl, q θ1 B1 G1 H1 b g1 S1 k1⟩
def cCmp1 (p : Cp) (c : Ctx) (a : Expr) (op : CmpOp) (b : Expr) : Option AE := gd (noSet b) ((cmpO op).bind fun o => (p.e c a).bind fun x => match decide (o = .ne) && emptyD b, isV x with
  | true, some i => some (.dne0 i)
  | _, _ => (p.e c b).bind fun y => some (.op2 o x y))
def cCmp2 (p : Cp) (c : Ctx) (a : Expr) (op op' : CmpOp) (b d : Expr) : Option AE := gd (noSet d) ((cmpO op).bind fun o => (cmpO op').bind fun o' => (p.e c a).bind fun x => (p.e c b).bind fun y => (p.e c d).bind fun z => some (.chain o o' x y z))
def cCmp (p : Cp) (c : Ctx) (a : Expr) : List CmpOp → List Expr → Option AE
  | [op], [b] => cCmp1 p c a op b
  | [op, op'], [b, d] => cCmp2 p c a op op' b d
  | _, _ => none
theorem cCmp_ok {ops : List CmpOp} (hp : CpOk p) (hc : CtxOk X c T) (h : cCmp p c a ops es = some r) : PD X (.Compare a ops es pos) (wpE T r) ∧ PDT X (.Compare a ops es pos) (wpT T r) := by
  unfold cCmp at h
  split at h
  · rename_i op b
    obtain ⟨n1, h⟩ := gd_of h
    obtain ⟨o, ho, h⟩ := bnd h
    obtain ⟨x, hx, h⟩ := bnd h
    split at h
    · rename_i i e1 e2
      cases h
      rw [Bool.and_eq_true, decide_eq_true_eq] at e1
      obtain ⟨rfl, e1⟩ := e1
      have := isV_ok e2
      subst this
      exact ⟨pd_dne0 ho hc (hp.e hc hx) e1 n1, pdt_dne0 ho hc (hp.e hc hx) e1 n1⟩
    · obtain ⟨y, hy, h⟩ := bnd h
      cases h
      refine ⟨pd_op (hp.e hc hx) (hp.e hc hy) (rd2_all o) fun ta tb ha hb => pe_cmpR (cmpO_ok hc.un ho) ha hb (noSet_ok n1), ?_⟩
      show PDT X _ (if isCmp o then _ else _)
      rw [if_pos (cmpO_is ho)]
      exact pdt_op (hp.e hc hx) (hp.e hc hy) (rd2_all o) fun ta tb ha hb => pt_cmpR (cmpO_ok hc.un ho) ha hb (noSet_ok n1)
  · rename_i op op' b d
    obtain ⟨n1, h⟩ := gd_of h
    obtain ⟨o, ho, h⟩ := bnd h
    obtain ⟨o', ho', h⟩ := bnd h
    obtain ⟨x, hx, h⟩ := bnd h
    obtain ⟨y, hy, h⟩ := bnd h
    obtain ⟨z, hz, h⟩ := bnd h
    cases h
    have lm : lastMarks [op, op'] [b, d] = false := noSet_ok n1
    exact ⟨pd_chain (hp.e hc hx) (hp.e hc hy) (hp.e hc hz) (rd2_all o) (rd2_all o') fun ta tb tc ha hb hcc => pe_chain (cmpO_ok hc.un ho) (cmpO_ok hc.un ho') ha hb hcc lm,
      pdt_chain (hp.e hc hx) (hp.e hc hy) (hp.e hc hz) (rd2_all o) (rd2_all o') fun ta tb tc ha hb hcc => pt_chain (cmpO_ok hc.un ho) (cmpO_ok hc.un ho') ha hb hcc lm⟩
  · cases h
def cIf (p : Cp) (c : Ctx) (t a b : Expr) : Option AE := (p.t c t).bind fun x => (p.e c a).bind fun y => (p.e c b).bind fun z => some (.ife x y z)
theorem cIf_ok {t : Expr} (hp : CpOk p) (hc : CtxOk X c T) (h : cIf p c t a b = some r) : PD X (.IfExp t a b pos) (wpE T r) := by
  obtain ⟨x, hx, h⟩ := bnd h
  obtain ⟨y, hy, h⟩ := bnd h
  obtain ⟨z, hz, h⟩ := bnd h
  cases h
  exact pd_ifExp (hp.t hc hx) (hp.e hc hy) (hp.e hc hz)
def cEs (p : Cp) (c : Ctx) : List Expr → Option AEs
  | [] => some .nil
  | e :: es => gd (notStar e) ((p.e c e).bind fun a => (cEs p c es).bind fun as => some (.cons a as))
theorem cEs_ok (hp : CpOk p) (hc : CtxOk X c T) : ∀ {es : List Expr} {r : AEs}, cEs p c es = some r → PDA X es (wpEs T r) ∧ es.all notStar = true
  | [], _, h => by cases h; exact ⟨pda_nil, rfl⟩
  | e :: es, _, h => by
    obtain ⟨n1, h⟩ := gd_of h
    obtain ⟨x, hx, h⟩ := bnd h
    obtain ⟨y, hy, h⟩ := bnd h
    cases h
    obtain ⟨q1, q2⟩ := cEs_ok hp hc hy
    exact ⟨pda_cons (hp.e hc hx) q1 (star_cons n1 es X.env), by rw [List.all_cons, n1, q2]; rfl⟩
def poOk : AE → Bool
  | .var _ => true
  | .c _ => true
  | .op2 _ _ _ => true
  | .neg _ => true
  | .call _ _ => true
  | .bi _ _ => true
  | _ => false
theorem poOk_ok (h : poOk r = true) : wpO T r = fPart (wpE T r) := by
  cases r <;> first | rfl | cases h
def cO (p : Cp) (c : Ctx) : Option Expr → Option AE
  | none => some .omit
  | some e => (p.e c e).bind fun r => gd (poOk r) (some r)
theorem cO_ok (hp : CpOk p) (hc : CtxOk X c T) {o : Option Expr} (h : cO p c o = some r) : PDO X o (wpO T r) := by
  cases o with
  | none => cases h; exact pdo_none
  | some e =>
    obtain ⟨x, hx, h⟩ := bnd h
    obtain ⟨g1, h⟩ := gd_of h
    cases h
    rw [poOk_ok g1]
    exact pdo_some (hp.e hc hx)
def cSub (p : Cp) (c : Ctx) (a i : Expr) : Option AE := match i with
  | .Slice none none (some (.UnaryOp .USub (.Constant (.int 1) _ _) _)) _ => (p.e c a).map .rev
  | .Slice lo hi none _ => (p.e c a).bind fun x => (cO p c lo).bind fun y => (cO p c hi).bind fun z => some (.sl x y z)
  | i => gd (plainIx i) ((p.e c a).bind fun x => (p.e c i).bind fun y => some (.op2 .ix x y))
theorem cSub_ok (hp : CpOk p) (hc : CtxOk X c T) (h : cSub p c a i = some r) : PD X (.Subscript a i pos) (wpE T r) := by
  unfold cSub at h
  split at h
  · obtain ⟨x, hx, rfl⟩ := mpd h
    exact pd_rev (hp.e hc hx)
  · obtain ⟨x, hx, h⟩ := bnd h
    obtain ⟨y, hy, h⟩ := bnd h
    obtain ⟨z, hz, h⟩ := bnd h
    cases h
    exact pd_slice (hp.e hc hx) (cO_ok hp hc hy) (cO_ok hp hc hz)
  · obtain ⟨g1, h⟩ := gd_of h
    obtain ⟨x, hx, h⟩ := bnd h
    obtain ⟨y, hy, h⟩ := bnd h
    cases h
    exact pd_op (hp.e hc hx) (hp.e hc hy) rd_ix fun ta tb ha hb => pe_ix (ix_any (by have := hc.un; omega)) ha hb (plainIx_ok g1)
def cDict : List (Option Expr) → List Expr → Option AE
  | [], [] => some .dnew
  | _, _ => none
theorem cDict_ok {ks : List (Option Expr)} (h : cDict ks es = some r) : PD X (.Dict ks es pos) (wpE T r) := by
  unfold cDict at h
  split at h
  · cases h
    exact pd_dnew pe_dnewK pe_dnewT
  · cases h
end
end Dl

namespace Dl
open L2 PySem PyProof.Rows PySem.Spec

section
variable {X : Cx} {K : PySem.W.Frag} {θ : Th} {A : Env} {B : Mem} {σ : L2.St} {G H : Hp} {CX : CXT} {k : Nat} {f : Addr} {fd : FuncData} {ps ks : List Str} {sp : Sp} {x nm : Str} {p pos kpos : Pos} {e o : Expr} {es : List Expr} {kws : List Keyword} {te : TE} {t tk : TA} {g : List Value → List Value → List Value} {gV : List V → List V → List V}
def kwSome (k : Keyword) : Bool := k.arg.isSome
theorem kw_some : ∀ {kws : List Keyword} (pos : Pos) (env : PySem.Env), kws.all kwSome = true → (backToKw pos (keywordEach kws env)).all (·.1.isSome) = true ∧ (backToKw pos (keywordEach kws env)).any (·.1.isNone) = false
  | [], _, _, _ => ⟨rfl, rfl⟩
  | ⟨n, v, q⟩ :: kws, pos, env, h => by
    rw [List.all_cons, Bool.and_eq_true] at h
    obtain ⟨h1, h2⟩ := kw_some (kws := kws) pos env h.2
    have h3 : n.isSome = true := h.1
    have h4 : n.isNone = false := by cases n <;> first | rfl | cases h3
    refine ⟨?_, ?_⟩
    · show (n.isSome && (backToKw pos (keywordEach kws env)).all (·.1.isSome)) = true
      rw [h3, h1]; rfl
    · show (n.isNone || (backToKw pos (keywordEach kws env)).any (·.1.isNone)) = false
      rw [h4, h2]; rfl
theorem kw_names : ∀ (kws : List Keyword) (pos : Pos) (env : PySem.Env), (backToKw pos (keywordEach kws env)).filterMap (·.1) = kws.filterMap (·.arg)
  | [], _, _ => rfl
  | ⟨n, v, q⟩ :: kws, pos, env => by
    show List.filterMap _ ((n, _) :: backToKw pos (keywordEach kws env)) = _
    cases n with
    | none =>
      rw [List.filterMap_cons_none rfl, List.filterMap_cons_none rfl]
      exact kw_names kws pos env
    | some n =>
      exact congrArg (n :: ·) (kw_names kws pos env)
theorem pe_callKx (F : FnG X.prog X.w X.K X.mg X.base k f fd ps sp) (hr : Room k X.A) (hc : Calm X.A) (hg : Gl X x) (hm : X.mg x = some (.ref f)) (hk : PySem.W.keepIn X.K (.ref f) = true) (hb : KBinds X.K fd ps ks g gV)
    (hkw : PK X kws tk) (hall : kws.all kwSome = true) (hks : kws.filterMap (·.arg) = ks) (hdb : (x == ("__debug__" : Str)) = false) : PE X (.Call (.Name x p) [] kws pos) (tCallK sp gV E0 tNil tk) := by
  refine ⟨fun pins s σ H Q I h => ?_⟩
  obtain ⟨a1, a2⟩ := kw_some pos X.env hall
  refine wpAny_Call_Name_kw (ld_glob I hg hm ?_ hdb)
  refine PySem.W.callWith_KW0 (h₀ := X.base) I.ok.mod.kin hk a1 ?_ (by rw [a2]; rfl)
  have h' : tk σ H fun zs H2 => sp (gV [] zs) H2 Q E0 := h
  refine thn (hkw.run pos pins s σ H _ I h') fun ws s2 ⟨zs, H2, I2, rz, q2⟩ => ⟨I2.kIn, ?_⟩
  rw [kw_names kws pos X.env, hks]
  exact run_gk F hr hc hb I2 .nil rz q2
structure PDK (X : Cx) (kws : List Keyword) (f : FA) : Prop where
  pk : PK X kws (tfA X.K f)
theorem PK.imp {t t' : TA} (h : PK X kws t) (i : ∀ σ H Q, t' σ H Q → t σ H Q) : PK X kws t' := ⟨fun pos pins s σ H Q I w => h.run pos pins s σ H Q I (i σ H Q w)⟩
theorem pdk_nil : PDK X [] fNil := ⟨PK.imp pk_nil fun σ H Q w => by
  obtain ⟨θ, A, B, G, k, S, hf, q⟩ := w
  exact q θ B G H [] [] Gr.refl S .nil hf⟩
theorem pdk_cons {n : Option Str} {fa : FE} {fs : FA} (ha : PD X e fa) (hs : PDK X kws fs) : PDK X (⟨n, e, kpos⟩ :: kws) (fCons fa fs) := ⟨PK.imp (pk_cons ha.pe hs.pk) fun σ H Q w => by
  obtain ⟨θ, A, B, G, k, S, hf, q⟩ := w
  refine ⟨θ, A, B, G, _, S, hf, fun θ1 B1 G1 H1 v x g1 S1 hv k1 => ?_⟩
  refine ⟨θ1, A, B1, G1, _, S1, k1, fun θ2 B2 G2 H2 us ys g2 S2 hu k2 => ?_⟩
  exact q θ2 B2 G2 H2 _ _ (g1.trans g2) S2 (.cons (hv.gr g2) hu) k2⟩
theorem pd_callF0 {F : FT} (h : PE X e (tCall (spOf X.K F) [] E0 tNil)) : PD X e (fCall F fNil) := ⟨PE.imp h fun σ H Q w => by
  obtain ⟨θ, A, B, G, k, S, hf, q⟩ := w
  show spOf X.K F ([] ++ []) H Q E0
  exact call_of (ws := []) S .nil hf fun θ2 B2 G2 H2 z w g2 S2 hz k2 => q θ2 B2 G2 H2 z w g2 S2 hz k2⟩
theorem avs_get : ∀ {vs : List V} {ws : List AV} (i : Nat), AVs K G θ vs ws → AVok K G θ (vs.getD i .non) (ws.getD i (.d .none))
  | _, _, _, .nil => .d .non
  | _, _, 0, .cons h _ => h
  | _, _, i + 1, .cons _ t => by simpa using avs_get i t
theorem avs_pick {vs : List V} {ws : List AV} (h : AVs K G θ vs ws) : ∀ ix : List Nat, AVs K G θ (ix.map fun i => vs.getD i .non) (pick ix ws)
  | [] => .nil
  | i :: ix => .cons (avs_get i h) (avs_pick h ix)
theorem pd_callK {F : FT} {fs : FA} (hl : ks.length = ps.length) (hs : PDK X kws fs) (h : ∀ tk, PK X kws tk → PE X e (tCallK (spOf X.K F) (kgV ps ks) E0 tNil tk)) : PD X e (fCallK F (kidx ps ks) fs) := ⟨PE.imp (h _ hs.pk) fun σ H Q w => by
  obtain ⟨θ, A, B, G, k, S, hf, q⟩ := w
  show tfA X.K fs σ H fun zs H2 => spOf X.K F (kgV ps ks [] zs) H2 Q E0
  refine ⟨θ, A, B, G, _, S, hf, fun θ1 B1 G1 H1 vs ws g1 S1 hv k1 => ?_⟩
  have e : vs.length = ks.length := by
    rw [paired_len hv, k1.1, hl]
    simp [kidx]
  show spOf X.K F (kgV ps ks [] vs) H1 Q E0
  unfold kgV
  rw [if_pos e]
  exact call_of S1 (avs_pick hv (kidx ps ks)) k1.2 fun θ2 B2 G2 H2 z w g2 S2 hz k2 => q θ2 B2 G2 H2 z w (g1.trans g2) S2 hz k2⟩
end
section
variable {X : Cx} {c : Ctx} {T : Nat → FT} {p : Cp} {x : Str} {e a b i : Expr} {es : List Expr} {kws : List Keyword} {q pos : Pos} {r : AE} {scope : Scope}
def cKs (p : Cp) (c : Ctx) : List Keyword → Option AEs
  | [] => some .nil
  | k :: kws => (p.e c k.value).bind fun a => (cKs p c kws).bind fun as => some (.cons a as)
theorem cKs_ok (hp : CpOk p) (hc : CtxOk X c T) : ∀ {kws : List Keyword} {r : AEs}, cKs p c kws = some r → PDK X kws (wpEs T r)
  | [], _, h => by cases h; exact pdk_nil
  | ⟨n, e, kp⟩ :: kws, _, h => by
    obtain ⟨x, hx, h⟩ := bnd h
    obtain ⟨y, hy, h⟩ := bnd h
    cases h
    exact pdk_cons (hp.e hc hx) (cKs_ok hp hc hy)
def cFn (p : Cp) (c : Ctx) (j : Nat) (ps : List Str) (pats : List (List Str)) (es : List Expr) (kws : List Keyword) : Option AE := match kws with
  | [] => (cEs p c es).map (.call j)
  | kws => gd (es.isEmpty && kws.all kwSome && decide (kws.filterMap (·.arg) ∈ pats) && decide ((kws.filterMap (·.arg)).length = ps.length)) ((cKs p c kws).map (.callK j (kidx ps (kws.filterMap (·.arg)))))
theorem cFn_ok {j : Nat} {ps : List Str} {pats : List (List Str)} (hp : CpOk p) (hc : CtxOk X c T) (hg : Gl X x) (hd : (x == ("__debug__" : Str)) = false) (hf : c.gl x = some (.fn j ps pats)) (h : cFn p c j ps pats es kws = some r) : PD X (.Call (.Name x q) es kws pos) (wpE T r) := by
  obtain ⟨f, fd, k, a1, a2, a3, a4, a5, a6⟩ := (hc.fns x j ps pats hf).ex
  unfold cFn at h
  split at h
  · obtain ⟨as, h1, rfl⟩ := mpd h
    obtain ⟨q1, q2⟩ := cEs_ok hp hc h1
    cases es with
    | nil =>
      cases h1
      exact pd_callF0 (pe_g0 a1 a2 hc.grd hg a3 a4 a5 hd)
    | cons e es =>
      rw [List.all_cons, Bool.and_eq_true] at q2
      exact pd_callF q1 fun ta ht => pe_g a1 a2 hc.grd hg a3 a4 a5 ht hd (star_cons q2.1 es X.env) (star_plain X.env pos q2.2)
  · obtain ⟨g1, h⟩ := gd_of h
    obtain ⟨as, h1, rfl⟩ := mpd h
    simp only [Bool.and_eq_true, decide_eq_true_eq, List.isEmpty_iff] at g1
    obtain ⟨⟨⟨rfl, g2⟩, g3⟩, g4⟩ := g1
    exact pd_callK g4 (cKs_ok hp hc h1) fun tk ht => pe_callKx a1 a2 hc.grd hg a3 a4 (a6 _ g3) ht g2 rfl hd
end
end Dl

namespace Dl
open L2 PySem PyProof.Rows PySem.Spec
section
variable {X : Cx} {c : Ctx} {T : Nat → FT} {p : Cp} {x : Str} {e a b i o : Expr} {es : List Expr} {kws : List Keyword} {q pos apos : Pos} {r : AE} {scope : Scope}
def cBi (p : Cp) (c : Ctx) (b : BI) (es : List Expr) : Option AE := gd (!es.isEmpty) ((cEs p c es).map (.bi b))
def isTy : BI → Option String
  | .int => some "int" | .bool => some "bool" | .str => some "str" | .list => some "list" | .tuple => some "tuple"
  | _ => none
theorem cBi_ok {b : BI} (hp : CpOk p) (hc : CtxOk X c T) (hg : Gl X x) (hf : c.gl x = some .blt) (hb : biOf x = some b) (h : cBi p c b es = some r) : PD X (.Call (.Name x q) es [] pos) (wpE T r) := by
  obtain ⟨g1, h⟩ := gd_of h
  obtain ⟨as, h1, rfl⟩ := mpd h
  obtain ⟨q1, q2⟩ := cEs_ok hp hc h1
  have hx := bi_of hb
  have hm := hc.blt x hf
  subst hx
  cases es with
  | nil => cases g1
  | cons e es =>
    rw [List.all_cons, Bool.and_eq_true] at q2
    have cr := cr_BI (X := X) hc.calm hc.grd (by have := hc.un; omega) (by have := hc.un; omega) b
    refine pd_call q1 rdl_bi fun ta ht => ?_
    have s1 := star_cons q2.1 es X.env
    have s2 := star_plain X.env pos q2.2
    have bb := bi_boot b
    obtain ⟨n1, n2⟩ := bi_ne (b := b)
    cases b <;> first | exact pe_callB cr hg hm bb ht n1 n2 s1 s2 | exact pe_callTy cr hg hm bb ht n1 n2 s1 s2
def cTn (c : Ctx) : Expr → Option TN
  | .Name x _ => gd (isGl c x && (match c.gl x with | some .blt => true | _ => false)) (tnOf x)
  | _ => none
theorem cTn_ok {t : TN} (hc : CtxOk X c T) (h : cTn c e = some t) : PE X e (tC (.ty (nameTN t))) ∧ notStar e = true := by
  unfold cTn at h
  split at h
  · rename_i x pos
    obtain ⟨g1, h⟩ := gd_of h
    rw [Bool.and_eq_true] at g1
    have hm : X.mg x = none := by
      have g2 := g1.2
      split at g2
      · rename_i hb; exact hc.blt x hb
      · cases g2
    have hg := isGl_ok hc g1.1
    have hx := tn_of h
    subst hx
    obtain ⟨n1, n2⟩ := tn_ne (t := t)
    refine ⟨pe_bltn hg hm (tn_boot t) (show RelV (.ty (nameTN t)) (.type (nameTN t)) from rfl) n1 n2, rfl⟩
  · cases h
def cTns (c : Ctx) : List Expr → Option (List TN)
  | [] => some []
  | e :: es => (cTn c e).bind fun t => (cTns c es).bind fun ts => some (t :: ts)
theorem cTns_ok (hc : CtxOk X c T) : ∀ {es : List Expr} {ts : List TN}, cTns c es = some ts → PA X es (tTypes ts)
  | [], _, h => by cases h; exact pa_nil
  | e :: es, _, h => by
    obtain ⟨t, h1, h⟩ := bnd h
    obtain ⟨ts, h2, h⟩ := bnd h
    cases h
    obtain ⟨p1, p2⟩ := cTn_ok hc h1
    exact pa_cons p1 (cTns_ok hc h2) (star_cons p2 es X.env)
def cIsi (p : Cp) (c : Ctx) : List Expr → Option AE
  | [a, .Tuple es _ _] => gd (notStar a) ((p.e c a).bind fun x => (cTns c es).bind fun ts => gd (decide (ts.length ≤ 10)) (some (.isi ts x)))
  | [a, e] => gd (notStar a) ((p.e c a).bind fun x => (cTn c e).bind fun t => some (.isi [t] x))
  | _ => none
theorem isi_boot : bootBuiltins ("isinstance" : Str) = some (.builtin "isinstance") := by decide +kernel
theorem cIsi_ok (hp : CpOk p) (hc : CtxOk X c T) (hg : Gl X ("isinstance" : Str)) (hf : c.gl ("isinstance" : Str) = some .blt) (h : cIsi p c es = some r) : PD X (.Call (.Name ("isinstance" : Str) q) es [] pos) (wpE T r) := by
  have hm := hc.blt _ hf
  unfold cIsi at h
  split at h
  · obtain ⟨g1, h⟩ := gd_of h
    obtain ⟨x, hx, h⟩ := bnd h
    obtain ⟨ts, ht, h⟩ := bnd h
    obtain ⟨g2, h⟩ := gd_of h
    cases h
    exact pd_isiT (by simpa using g2) (hp.e hc hx) fun ta ha => pe_callB call_isiT hg hm isi_boot (pa_cons ha (pa_cons (pe_tup (cTns_ok hc ht)) pa_nil rfl) (star_cons g1 _ X.env)) (by decide) (by decide) (star_cons g1 _ X.env) rfl
  · obtain ⟨g1, h⟩ := gd_of h
    obtain ⟨x, hx, h⟩ := bnd h
    obtain ⟨t, ht, h⟩ := bnd h
    cases h
    obtain ⟨p1, p2⟩ := cTn_ok hc ht
    have s1 := star_cons p2 [] X.env
    exact pd_isi1 (hp.e hc hx) fun ta ha => pe_callB call_isi hg hm isi_boot (pa_cons ha (pa_cons p1 pa_nil s1) (star_cons g1 _ X.env)) (by decide) (by decide) (star_cons g1 _ X.env) (by rw [s1]; rfl)
  · cases h
def baseOk : Expr → Bool
  | .Call (.Name _ _) [] [] _ => false
  | _ => true
theorem baseOk_ok {m : Str} {env : PySem.Env} {w : Sem Value} (h : baseOk o = true) : attributeBase o m env w = w := by
  unfold attributeBase
  split
  · cases h
  · rfl
theorem all_plain : ∀ {es : List Expr} (env : PySem.Env) (pos : Pos), es.all notStar = true → (backTo pos (starEach es env)).all (fun x => !x.1) = true
  | [], _, _, _ => rfl
  | e :: es, env, pos, h => by
    rw [List.all_cons, Bool.and_eq_true] at h
    rw [star_cons h.1]
    exact all_plain env pos h.2
theorem few_ok (env : PySem.Env) (pos : Pos) (h : es.all notStar = true) (hl : es.length < 30) : ((backTo pos (starEach es env)).all (fun x => !x.1) && (backToKw pos (keywordEach [] env)).all (fun x => x.1.isSome)
    && decide (es.length + ([] : List Keyword).length + (if ([] : List Keyword).isEmpty then 0 else 1) < 30)) = true := by
  rw [all_plain env pos h]
  simpa [backToKw, keywordEach] using hl
theorem mm_slot (m : MM) : Slot "list" (Str.ofString (nameMM m)) ("list." ++ nameMM m) ∧ typeOf (.builtin ("list." ++ nameMM m)) = pure (.type "method_descriptor") ∧ MtR X ("list." ++ nameMM m) (rMM m) := by
  cases m
  · exact ⟨PySem.F.slot_list_append, PySem.F.type_list_append, mt_append⟩
  · exact ⟨PySem.F.slot_list_extend, PySem.F.type_list_extend, mt_extend⟩
  · exact ⟨PySem.F.slot_list_pop, PySem.F.type_list_pop, mt_popA⟩
def cMeth (p : Cp) (c : Ctx) (o : Expr) (m : Str) (apos : Pos) (es : List Expr) (pos : Pos) : Option AE := gd (baseOk o && apos.endLine == pos.line && decide (es.length < 30)) (match mmOf m with
  | some mm => (p.e c o).bind fun x => (cEs p c es).bind fun as => some (.mm mm x as)
  | none => if m = ("get" : Str) then (match es with
    | [a, b] => gd (notStar a && notStar b) ((p.e c o).bind fun x => (p.e c a).bind fun y => (p.e c b).bind fun z => some (.get2 x y z))
    | _ => none) else none)
theorem cMeth_ok {m : Str} (hp : CpOk p) (hc : CtxOk X c T) (h : cMeth p c o m apos es pos = some r) : PD X (.Call (.Attribute o m apos) es [] pos) (wpE T r) := by
  replace h := gd_of h
  obtain ⟨g1, h⟩ := h
  simp only [Bool.and_eq_true, decide_eq_true_eq] at g1
  obtain ⟨⟨g1, g2⟩, g3⟩ := g1
  split at h
  · rename_i mm hm
    obtain ⟨x, hx, h⟩ := bnd h
    obtain ⟨as, has, h⟩ := bnd h
    cases h
    obtain ⟨q1, q2⟩ := cEs_ok hp hc has
    have em := mm_ofS hm
    subst em
    obtain ⟨m1, m2, m3⟩ := mm_slot (X := X) mm
    cases es with
    | nil =>
      cases has
      exact pd_mm0 (hp.e hc hx) fun to ho => pe_bm0 PySem.F.plainAttrs_list m1 m2 m3 ho (baseOk_ok g1) g2
    | cons e es =>
      have q3 := q2
      rw [List.all_cons, Bool.and_eq_true] at q3
      exact pd_mm (hp.e hc hx) q1 fun to ta ho ht => pe_bm PySem.F.plainAttrs_list m1 m2 m3 ho ht (baseOk_ok g1) (few_ok X.env pos q2 g3) g2 (star_cons q3.1 es X.env) (star_plain X.env pos q3.2)
  · split at h
    · rename_i em
      subst em
      split at h
      · rename_i a b
        obtain ⟨g4, h⟩ := gd_of h
        rw [Bool.and_eq_true] at g4
        obtain ⟨x, hx, h⟩ := bnd h
        obtain ⟨y, hy, h⟩ := bnd h
        obtain ⟨z, hz, h⟩ := bnd h
        cases h
        have s1 := star_cons g4.1 [b] X.env
        have s2 := star_cons g4.2 [] X.env
        refine pd_get2 (hp.e hc hx) (hp.e hc hy) (hp.e hc hz) fun to ta tb ho ha hb => pe_dget2 (by have := hc.un; omega) ho ha hb ⟨baseOk_ok g1, few_ok X.env pos ?_ (by simp), g2, ?_⟩
        · simp [g4.1, g4.2]
        · rw [s1, s2]; rfl
      · cases h
    · cases h
def cCallN (p : Cp) (c : Ctx) (x : Str) (es : List Expr) (kws : List Keyword) : Option AE := match c.gl x with
  | some (.fn j ps pats) => cFn p c j ps pats es kws
  | some .blt => gd kws.isEmpty (if x = ("isinstance" : Str) then cIsi p c es else (biOf x).bind fun b => cBi p c b es)
  | _ => none
def cCall (p : Cp) (c : Ctx) (f : Expr) (es : List Expr) (kws : List Keyword) (pos : Pos) : Option AE := match f with
  | .Name x _ => gd (isGl c x && !(x == ("__debug__" : Str))) (cCallN p c x es kws)
  | .Attribute o m apos => gd kws.isEmpty (cMeth p c o m apos es pos)
  | _ => none
theorem cCall_ok {f : Expr} (hp : CpOk p) (hc : CtxOk X c T) (h : cCall p c f es kws pos = some r) : PD X (.Call f es kws pos) (wpE T r) := by
  unfold cCall at h
  split at h
  · rename_i x q
    replace h := gd_of h
    obtain ⟨g1, h⟩ := h
    rw [Bool.and_eq_true] at g1
    have hg := isGl_ok hc g1.1
    unfold cCallN at h
    split at h
    · rename_i j ps pats hf
      exact cFn_ok hp hc hg (dbg g1.2) hf h
    · rename_i hf
      replace h := gd_of h
      obtain ⟨g2, h⟩ := h
      rw [List.isEmpty_iff] at g2
      subst g2
      split at h
      · rename_i ex
        subst ex
        exact cIsi_ok hp hc hg hf h
      · obtain ⟨b, hb, h⟩ := bnd h
        exact cBi_ok hp hc hg hf hb h
    · cases h
  · obtain ⟨g2, h⟩ := gd_of h
    rw [List.isEmpty_iff] at g2
    subst g2
    exact cMeth_ok hp hc h
  · cases h
end
end Dl

namespace Dl
open L2 PySem PyProof.Rows PySem.Spec
section
variable {X : Cx} {K : PySem.W.Frag} {θ θa θb : Th} {A : Env} {B : Mem} {σ : L2.St} {G H Ga Ha Gb Hb : Hp}
theorem besideO {D : Addr} {o : HO} (g : Gr θa θb Ga Ha Gb Hb) (n1 : D ∉ θa.flatten) (n2 : Ga D = none) (n3 : Ha D = some o) : D ∉ θb.flatten ∧ Gb D = none ∧ Hb D = some o := by
  refine ⟨fun z => ?_, ?_, g.keep D _ n3 n1⟩
  · rcases g.new D z with q | q
    · exact n1 q
    · rw [n3] at q; cases q
  · cases z : Gb D with
    | none => rfl
    | some o =>
      rcases g.gnew D (by rw [z]; exact fun w => nomatch w) with q | q | q
      · exact absurd n2 q
      · exact absurd q n1
      · rw [n3] at q; cases q
theorem av_set {v : V} {w : AV} {j : Nat} {as : List Addr} (h : AVok K G θ v w) (e : hideJ j (some w) = some w) : AVok K G (θ.set j as) v w := by
  cases h with
  | d h => exact .d h
  | kt h q => exact .kt h q
  | sc h => exact .sc h
  | @m k a bs h =>
    simp only [hideJ] at e
    split at e
    · cases e
    · rename_i n
      exact .m (by rw [List.getElem?_set_ne (Ne.symm n)]; exact h)
  | @r k i a b bs h q =>
    simp only [hideJ] at e
    split at e
    · cases e
    · rename_i n
      exact .r (by rw [List.getElem?_set_ne (Ne.symm n)]; exact h) q
theorem hideJ_some {j : Nat} {u : Option AV} {w : AV} (e : hideJ j u = some w) : u = some w ∧ hideJ j (some w) = some w := by
  cases u with
  | none => cases e
  | some u =>
    cases u with
    | d x => cases e; exact ⟨rfl, rfl⟩
    | kt x => cases e; exact ⟨rfl, rfl⟩
    | sc x => cases e; exact ⟨rfl, rfl⟩
    | m k =>
      have e2 := e
      simp only [hideJ] at e
      split at e <;> cases e
      exact ⟨rfl, e2⟩
    | r k i =>
      have e2 := e
      simp only [hideJ] at e
      split at e <;> cases e
      exact ⟨rfl, e2⟩
theorem slots_hideJ {j : Nat} {as : List Addr} (h : SlotsOk K G θ σ A) : SlotsOk K G (θ.set j as) σ (A.map (hideJ j)) := by
  refine ⟨by rw [List.length_map]; exact h.1, fun i w e => ?_⟩
  rw [List.getElem?_map] at e
  cases q : A[i]? with
  | none => rw [q] at e; cases e
  | some u =>
    rw [q] at e
    obtain ⟨rfl, e2⟩ := hideJ_some (Option.some.inj e)
    obtain ⟨v, h1, h2⟩ := h.2 i w q
    exact ⟨v, h1, av_set h2 e2⟩
theorem flat_put : ∀ {θ : Th} {j : Nat} {d : Addr}, θ[j]? = some [] → (θ.set j [d]).flatten.Perm (d :: θ.flatten)
  | [], _, _, e => by simp at e
  | as :: θ, 0, d, e => by
    simp at e
    subst e
    simp
  | as :: θ, j + 1, d, e => by
    simp at e
    rw [List.set_cons_succ, List.flatten_cons, List.flatten_cons]
    exact ((flat_put e).append_left as).trans List.perm_middle
theorem CellsOk.put : ∀ {θ : Th} {B : Mem} {j : Nat} {as : List Addr} {c : MC}, CellsOk K G H θ B → CellOk K G H as c → CellsOk K G H (θ.set j as) (B.set j c)
  | _, _, _, _, _, .nil, _ => .nil
  | _, _, 0, _, _, .cons _ t, h => .cons h t
  | _, _, j + 1, _, _, .cons g t, h => .cons g (CellsOk.put t h)
theorem set_same_of {α : Type} : ∀ {xs : List α} {j : Nat} {x : α}, xs[j]? = some x → xs.set j x = xs
  | [], _, _, h => by simp at h
  | y :: xs, 0, x, h => by simp at h; subst h; rfl
  | y :: xs, j + 1, x, h => by
    simp at h
    rw [List.set_cons_succ, set_same_of h]
theorem dq_key (k : Key) : Dq K G (kV k) (keyPy k) := by
  cases k with
  | inl i => exact .int i
  | inr s => exact .str s
end
section
variable {X : Cx} {K : PySem.W.Frag} {f : FE} {t : FTt} {gt : FG}
theorem tf_lcD {i : Nat} {gT' : TG} {vs : List Nat} {σ : L2.St} {H : Hp} {Q : VK} {pt : Bool} (hg : ∀ v σ H Q, tfG K pt gt v σ H Q → gT' v σ H Q) (hq : Quiet gT' vs)
    (w : tf K (fLcD2 i gt t f vs) σ H Q) : tLockE (tLc (iKeys (tVar i)) gT' (tfT K t) (tf K f) vs) σ H Q := by
  obtain ⟨θ, A, B, G, k, S, ⟨j, kvs, hA, hB, Iv, h0, turn, done⟩, q⟩ := w
  obtain ⟨v, hv, hav⟩ := S.slots.2 i _ hA
  obtain ⟨as0, hk0, hc0⟩ := S.mem.cells.getB hB
  cases hav with
  | @m _ d as hk =>
  rw [hk] at hk0
  cases hk0
  cases hc0 with
  | @dK _ vs0 _ e kv =>
  have hdin : d ∈ θ.flatten := List.mem_flatten.mpr ⟨_, List.mem_of_getElem? hk, by simp⟩
  have hdG : G d = none := S.mem.free d hdin
  have hdout : d ∉ (θ.set j []).flatten := not_in_set S.mem.nd hk d (by simp)
  have hlen : (kvs.map fun p => keyPy p.1).length = vs0.length := by
    rw [List.length_map]
    have : ∀ {vs : List (Key × V)} {ds : List (Key × PyData)}, KvOk K G vs ds → ds.length = vs.length := fun h => by
      induction h with
      | nil => rfl
      | cons _ _ ih => simp [ih]
    exact this kv
  have hkey : ∀ {vs : List (Key × V)} {ds : List (Key × PyData)}, KvOk K G vs ds → ∀ (n : Nat) (k : Key) (u : V) (x : PyData), vs[n]? = some (k, u) → (ds.map fun p => keyPy p.1)[n]? = some x → x = keyPy k := fun h => by
    induction h with
    | nil => intro n k u x h1 h2; simp at h1
    | cons _ _ ih =>
      intro n k u x h1 h2
      cases n with
      | zero => simp at h1 h2; rw [← h2, h1.1]
      | succ n => exact ih n k u x (by simpa using h1) (by simpa using h2)
  refine ⟨d, .dK vs0, e, trivial, fun od => ?_⟩
  have exd : ∀ a ∈ (θ.set j []).flatten, ∀ o, H a = some o → upd H d (.frz od (.dK vs0)) a = some o := fun a ha o ho => by
    rw [upd_ne fun z : a = d => hdout (by rw [← z]; exact ha)]
    exact ho
  have S1 : StOk K (θ.set j []) (A.map (hideJ j)) (B.set j .gone) σ G (upd H d (.frz od (.dK vs0))) := by
    refine ⟨⟨S.mem.ex.side hdG, (cells_gone (Ext.refl G) j S.mem.cells).mono (Ext.refl G) exd, (flat_set j).nodup S.mem.nd, fun a ha => S.mem.free a ((flat_set j).subset ha)⟩, slots_hideJ S.slots⟩
  have hd1 : upd H d (.frz od (.dK vs0)) d = some (.frz od (.dK vs0)) := upd_same
  have hx : ∀ a o, H a = some o → a ≠ d → upd H d (.frz od (.dK vs0)) a = some o := fun a o h n => by rw [upd_ne n]; exact h
  have hn : ∀ a, upd H d (.frz od (.dK vs0)) a = none → H a = none := fun a h => by
    by_cases z : a = d
    · subst z; rw [upd_same] at h; cases h
    · rw [upd_ne z] at h; exact h
  generalize upd H d (.frz od (.dK vs0)) = H1 at S1 hd1 hx hn
  refine ⟨.ref d, hv, d, od, rfl, .inl ⟨vs0, hd1, ?_⟩⟩
  intro D hD
  have hDd : D ≠ d := fun z => by subst z; rw [hd1] at hD; cases hD
  generalize hxs : (kvs.map fun p => keyPy p.1) = xs at hlen turn done
  generalize hθ1 : θ.set j [] = θ1 at S1 hdout
  generalize hA1 : A.map (hideJ j) = A1 at S1 turn
  have exD : Ext H1 (upd H1 D (.lst [])) := Ext.new hD
  refine ⟨fun i m H' => m = xs.length - i ∧ i ≤ xs.length ∧ ∃ θ2 B2 G2 us acc, StOk K θ2 A1 B2 σ G2 H' ∧ Gr θ1 θ2 G H1 G2 H' ∧ D ∉ θ2.flatten ∧ G2 D = none ∧ H' D = some (.lst us) ∧ DqAll K G2 us acc ∧ Iv i acc B2, ⟨_, rfl, Nat.zero_le _, θ1, _, G, [], [], (Stp.junk S1.mem.ex hD).st S1, (Stp.junk S1.mem.ex hD).gr, S1.mem.fresh hD, S1.mem.ex.fresh hD, upd_same, .nil, h0⟩, ?_⟩
  rintro i m H' ⟨rfl, hil, θ2, B2, G2, us, acc, S2, g2, nD, fD, hD2, dd, iv⟩
  obtain ⟨z1, z2, z3⟩ := besideO g2 hdout hdG hd1
  by_cases hlt : i < xs.length
  · refine .inr ⟨⟨z3, by rw [← hlen]; exact hlt⟩, fun H' => ∃ θ2 B2 G2 us acc, StOk K θ2 A1 B2 σ G2 H' ∧ Gr θ1 θ2 G H1 G2 H' ∧ D ∉ θ2.flatten ∧ G2 D = none ∧ H' D = some (.lst us) ∧ DqAll K G2 us acc ∧ Iv (i + 1) acc B2, fun H3 z => ⟨_, by omega, rfl, hlt, z⟩, fun v H3 y => ?_⟩
    obtain ⟨rfl, k0, u0, hget, rfl⟩ := y
    obtain ⟨dx, hxd⟩ : ∃ d, xs[i]? = some d := ⟨xs[i], by simp [hlt]⟩
    have hdx : dx = keyPy k0 := hkey kv i k0 u0 dx hget (by rw [hxs]; exact hxd)
    subst hdx
    refine hq _ _ _ _ (hg _ _ _ _ ⟨θ2, wipeA A1 vs, B2, G2, _, _, wipe_st S2 vs, .a (.d (dq_key k0)), turn i _ acc B2 hxd iv, fun θ4 A4 B4 σ4 G4 H4 g4 S4 k4 => ?_⟩) _ (wipe_idem σ vs)
    obtain ⟨c1, c2, c3⟩ := beside g4 nD fD hD2
    have back4 : StOk K θ4 A1 B4 σ G4 H4 := ⟨S4.mem, S2.slots.mono g4.gx g4.th⟩
    refine ⟨θ4, A4, B4, G4, _, S4, k4, fun θ5 B5 G5 H5 bb g5 S5 k5 => ?_⟩
    obtain ⟨d1, d2, d3⟩ := beside g5 c1 c2 c3
    have g35 := ((g2.trans g4).trans g5)
    cases bb with
    | true =>
      refine iteT ⟨θ5, A4, B5, G5, _, S5, k5.1 rfl, fun θ6 B6 G6 H6 z w g6 S6 hz k6 => ?_⟩
      obtain ⟨e1, e2, e3⟩ := beside g6 d1 d2 d3
      obtain ⟨dz, hdz, hz2, k7⟩ := wK_of hz k6
      have dd6 := dqAll_mono ((g4.gx.trans g5.gx).trans g6.gx) dd
      refine ⟨us, e3, by rw [dqAll_len dd6]; exact hz2, θ6, B6, G6, us ++ [z], acc ++ [dz], ⟨⟨S6.mem.ex.side e2, S6.mem.cells.mono (Ext.refl _) fun a ha o ho => ?_, S6.mem.nd, S6.mem.free⟩, back4.slots.mono (g5.gx.trans g6.gx) (g5.th.trans g6.th)⟩, ?_, e1, e2, upd_same, dqAll_append dd6 (dqAll_one hdz), k7⟩
      · rw [upd_ne fun q : a = D => e1 (by rw [← q]; exact ha)]
        exact ho
      · have g36 := g35.trans g6
        exact ⟨g36.gx, g36.th, fun a o ha hn => by
          rw [upd_ne (ne_of_none ha hD)]
          exact g36.keep a o ha hn, g36.new, g36.gnew⟩
    | false =>
      refine iteF ⟨θ5, B5, G5, us, acc, ⟨S5.mem, back4.slots.mono g5.gx g5.th⟩, g35, d1, d2, d3, dqAll_mono (g4.gx.trans g5.gx) dd, k5.2 rfl⟩
  · have ei : i = xs.length := by omega
    subst ei
    refine .inl ⟨⟨z3, by rw [← hlen]; exact Nat.le_refl _⟩, ?_⟩
    obtain ⟨θ3, B3, G3, w, g3, m3, hw, hgone, hk2⟩ := fin_list S2.mem hD2 dd nD fD hD g2 (done acc B2 iv)
    obtain ⟨y1, y2, y3⟩ := besideO g3 hdout hdG hd1
    refine ⟨y3, ?_⟩
    obtain ⟨aj, hj3, hcj⟩ := m3.cells.getB hgone
    cases hcj with
    | gone =>
    have perm := flat_put (d := d) hj3
    have hH : ∀ a o, H' a = some o → a ≠ d → upd H' d (.dK vs0) a = some o := fun a o h n => by rw [upd_ne n]; exact h
    have th3 : θ <+: θ3.set j [d] := by
      obtain ⟨ψ, hψ⟩ := g3.th
      refine ⟨ψ, ?_⟩
      rw [← hψ, ← hθ1]
      have hl : j < (θ.set j []).length := by
        rw [List.length_set]
        exact (List.getElem?_eq_some_iff.mp hk).1
      rw [List.set_append_left _ _ hl, List.set_set]
      rw [set_same_of hk]
    have sub1 : ∀ a, a ∈ θ1.flatten → a ∈ θ.flatten := fun a ha => by
      rw [← hθ1] at ha
      exact (flat_set j).subset ha
    have g' : Gr θ (θ3.set j [d]) G H G3 (upd H' d (.dK vs0)) := by
      refine ⟨g3.gx, th3, fun a o h ha => ?_, fun a ha => ?_, fun a ha => ?_⟩
      · have n : a ≠ d := fun z => ha (by rw [z]; exact hdin)
        exact hH a o (g3.keep a o (hx a o h n) fun z => ha (sub1 a z)) n
      · rcases List.mem_cons.mp (perm.mem_iff.mp ha) with z | z
        · subst z; exact .inl hdin
        · rcases g3.new a z with z | z
          · exact .inl (sub1 a z)
          · exact .inr (hn a z)
      · rcases g3.gnew a ha with z | z | z
        · exact .inl z
        · exact .inr (.inl (sub1 a z))
        · exact .inr (.inr (hn a z))
    have m' : MemOk K (θ3.set j [d]) (B3.set j (.dK kvs)) G3 (upd H' d (.dK vs0)) := by
      refine ⟨m3.ex.side y2, ?_, ?_, fun a ha => ?_⟩
      · refine (m3.cells.mono (H' := upd H' d (.dK vs0)) (Ext.refl _) fun a ha o ho => hH a o ho fun z => y1 (by rw [← z]; exact ha)).put (.dK upd_same (kv.mono g3.gx))
      · exact perm.nodup_iff.mpr (List.nodup_cons.mpr ⟨y1, m3.nd⟩)
      · rcases List.mem_cons.mp (perm.mem_iff.mp ha) with z | z
        · subst z; exact y2
        · exact m3.free a z
    refine q _ _ G3 _ _ w g' ⟨m', S.slots.mono g3.gx th3⟩ ?_ hk2
    cases hw with
    | d h => exact .d h
    | kt h h2 => exact .kt h h2
    | sc h => exact .sc h
    | @m k' a bs h =>
      refine .m (as := bs) ?_
      by_cases z : k' = j
      · subst z; rw [hj3] at h; cases h
      · rw [List.getElem?_set_ne (Ne.symm z)]; exact h
    | @r k' i' a b bs h h2 =>
      refine .r (as := bs) (b := b) ?_ h2
      by_cases z : k' = j
      · subst z; rw [hj3] at h; cases h
      · rw [List.getElem?_set_ne (Ne.symm z)]; exact h
end
end Dl

namespace Dl
open L2 PySem PyProof.Rows PySem.Spec
open AutoSeq1 (wpAny_loadPart')
abbrev titObj (l : Addr) : Obj := { cls := .type "tuple_iterator", data := .fields #[.ref l, .int 0 0] }
abbrev enumObj (i : Addr) : Obj := { cls := .type "enumerate", data := .fields #[.none, .bool false, .ref i, rawInt 0, .none, .none] }
theorem meets_enumT (l : Addr) (items : Array Value) (n : Nat) (dct : Option Addr) (sl : Array (Option Value)) :
    Meets (Builtin.«enumerate.__new__» ⟨[.type "enumerate", .ref l], []⟩) (fun _ R s => s.heap.get? l = some { cls := .type "tuple", dict := dct, data := .seq items n, slots := sl } ∧
      R (.ok (.ret (.ref (s.heap.push (titObj l)).objs.size))) { s with heap := (s.heap.push (titObj l)).push (enumObj s.heap.objs.size) }) :=
  .of_wp fun prog w A R s h => by
    obtain ⟨hp, g, d, tk, os⟩ := s
    obtain ⟨hl, h⟩ := h
    have hsub := sub_enumerate
    have hL : Heap.IsTuple (Shared.heap ⟨hp, g, d, tk, os⟩) l items := ⟨_, hl, rfl, n, rfl⟩
    wp_walk using wpAny_loadPart' hl
    refine wpAny_stack_any fun st => wpAny_pure ?_
    split
    · rename_i c _ _ _ _ _
      cases (c == Value.type "enumerate")
      all_goals (wp_walk using wpAny_loadPart' hl, wpAny_pyIter_tuple hL; exact ⟨_, rfl, h⟩)
    · wp_walk using wpAny_loadPart' hl, wpAny_pyIter_tuple hL
      exact ⟨_, rfl, h⟩
theorem call_enumT {prog : Program} {w : World} {A : Around} {E : Value → Shared → Prop} {s : Shared} {l : Addr} {items : Array Value} {Q : Value → Shared → Prop} (hL : s.heap.IsTuple l items)
    (h : ∀ h', IsEnum h' (s.heap.objs.size + 1) s.heap.objs.size 0 .none → h'.IsTupleIter s.heap.objs.size l 0 → h'.objs.size = s.heap.objs.size + 2 → (∀ b o, s.heap.get? b = some o → h'.get? b = some o) → Q (.ref (s.heap.objs.size + 1)) { s with heap := h' }) :
    wpAny (model prog w) A (call (.type "enumerate") [.ref l]) Q E s := by
  obtain ⟨⟨c, dct, dt, sl⟩, hl, hc, n, hd⟩ := hL
  obtain rfl : c = .type "tuple" := hc
  obtain rfl : dt = .seq items n := hd
  refine callType_new F.called_enumerate (by decide) (F.typeCall_enumerate_1 _) (F.newCall_enumerate_1 _) (fun obj => F.args_object_init_2 obj _) F.entry_enumerate_new (meets_enumT l items n dct sl) ⟨hl, ?_⟩
  have hz : (s.heap.push (titObj l)).objs.size = s.heap.objs.size + 1 := Heap.size_push ..
  show _ ∧ _
  rw [hz]
  have he : IsEnum ((s.heap.push (titObj l)).push (enumObj s.heap.objs.size)) (s.heap.objs.size + 1) s.heap.objs.size 0 .none := by
    have q := Heap.get?_push_size (s.heap.push (titObj l)) (o := enumObj s.heap.objs.size) rfl
    rw [hz] at q
    exact q
  exact ⟨⟨_, he, rfl⟩, h _ he ⟨_, Heap.get?_push_of_some _ (Heap.get?_push_size _ rfl), rfl, rfl⟩ (by rw [Heap.size_push, hz]) fun b o x => Heap.get?_push_of_some _ (Heap.get?_push_of_some _ x)⟩
def IteT (K : PySem.W.Frag) (a : Addr) : It :=
  ⟨fun i H => ∃ (xs : List V) (x : V), SqT K H a xs ∧ xs[i]? = some x, fun i H v H' => ∃ T x, v = .ref T ∧ H T = none ∧ H' = upd H T (.tup [.int (i : Nat), x]) ∧ ∀ xs, SqT K H a xs → xs[i]? = some x, fun i H => ∃ xs : List V, SqT K H a xs ∧ xs.length ≤ i⟩
theorem tup_is {h : Heap} {a : Addr} {its : Array Value} (p : IsTup h a its) : h.IsTuple a its := by
  obtain ⟨o, h1, h2, h3⟩ := p
  exact ⟨o, h1, h2, h3⟩
theorem draws_end {prog : Program} {w : World} {A : Around} (hh : A.handled = none) (it t : Addr) (hne : t ≠ it) (items : Array Value) {i : Nat} (hx : items[i]? = none) :
    Draws prog w A it [it, t] i (fun _ _ => True) (fun j h => j = i ∧ h.IsTupleIter it t i ∧ h.IsTuple t items) where
  live := fun _ _ st => let ⟨o, ho, _⟩ := st.2.1; ⟨o, ho⟩
  frame := fun _ _ _ st hk => ⟨st.1, st.2.1.at fun o e => hk it (by simp) o e, st.2.2.at fun o e => hk t (by simp) o e⟩
  item := fun j s Q E hj st hQ => absurd st.1 (by omega)
  done := fun s Q E st hE => wpAny_nextOf_tuple_end hh st.2.1 st.2.2 hx hE
theorem turn_enumT {P : Program} {w : World} {K : PySem.W.Frag} {elts : List Expr} {kk : Nat} {tpos : Pos} (a e it : Addr) :
    Turn P w K (.Tuple elts kk tpos) (IteT K a) [e, it] e (fun i h => (∃ old, IsEnum h e it ((i : Nat) : Int) old) ∧ h.IsTupleIter it a i ∧ e ≠ it ∧ a ≠ it ∧ e ≠ a) where
  mem := by simp
  obj := fun i h st b hb => by
    obtain ⟨⟨old, he⟩, ⟨o, ho, hc, hd⟩, _⟩ := st
    rcases (show b = e ∨ b = it by simpa using hb) with z | z
    · subst z; exact ⟨_, he, fun v q => nomatch q⟩
    · subst z; exact ⟨o, ho, fun v q => by rw [hd] at q; cases q⟩
  keep := fun i h h' st k => let ⟨⟨old, he⟩, hi, r⟩ := st; ⟨⟨old, k e (by simp) _ he⟩, hi.at fun o q => k it (by simp) o q, r⟩
  item := by
    intro X hP hw hK hc i pins s σ H E I hf st hg
    subst hP hw hK
    obtain ⟨⟨old, he⟩, hit, hne, hai, hea⟩ := st
    obtain ⟨xs, x, hq, hx⟩ := hg
    obtain ⟨its, rv, p, hz⟩ := I.tuple hq
    obtain ⟨u, hu, ru⟩ := rv.get hx
    have hel : e < s.heap.objs.size := Heap.lt_size he
    have hil : it < s.heap.objs.size := by obtain ⟨_, q, _⟩ := hit; exact Heap.lt_size q
    have hlt : i < its.toArray.size := by
      have := (List.getElem?_eq_some_iff.mp hu).1
      simpa using this
    refine wpAny_pyNext_enum_itemD (Draws.tuple (A := X.A.in1) (I.ok.hd hc) it a hai its.toArray) he ⟨hit, tup_is p⟩ hlt hne (by simp [hne, hea]) fun y h' tk hy ho hst hT hsz hk => ?_
    have ey : y = u := by
      have : its[i]? = some y := by simpa using hy
      rw [hu] at this
      exact (Option.some.inj this).symm
    subst ey
    refine ⟨_, rfl, wpAny_letOwnedTupleGo_enum (s := { s with heap := h', toks := tk + 1 }) ho fun h'' he' sb => ?_⟩
    have hT2 : h''.get? s.heap.objs.size = some { cls := .type "tuple", data := .seq #[.int i tk, y] } := (sb.2 _ (Nat.ne_of_gt hel)).trans hT
    have new : ObjOk X.prog X.w (upd H s.heap.objs.size (.tup [.int (i : Nat), x])) h'' s.heap.objs.size (.tup [.int (i : Nat), x]) :=
      ⟨by show 2 ≤ sizeLine; decide, [.int i tk, y], .cons ⟨_, rfl⟩ (.cons ru .nil), ⟨_, hT2, rfl, _, rfl⟩⟩
    have I1 : Inv X pins σ (upd H s.heap.objs.size (.tup [.int (i : Nat), x])) { s with heap := h'', toks := tk + 1 } :=
      I.turnedNew (ch := [e, it]) (fun b ob hb q => (sb.2 b (fun z => hb (by simp [z]))).trans (hk b ob (fun z => hb (by simp [z])) (fun z => hb (by simp [z])) q)) hf (Nat.le_refl _) new
    refine ⟨.ref s.heap.objs.size, _, I1, rfl, ⟨_, x, rfl, I.hok.fresh (Nat.le_refl _), rfl, fun ys hy => by rw [I.tuple_inj hy hq]; exact hx⟩, ⟨⟨y, ?_⟩, hst.1.at fun o q => (sb.2 it (Ne.symm hne)).trans q, hne, hai, hea⟩, fun b hb => ?_⟩
    · rw [show ((i + 1 : Nat) : Int) = (i : Int) + 1 by omega]
      exact he'
    · have hb' : b < s.heap.objs.size := by
        rcases (show b = e ∨ b = it by simpa using hb) with z | z
        · rw [z]; exact hel
        · rw [z]; exact hil
      rw [upd_ne (Nat.ne_of_lt hb')]
      exact (hf b hb).1
  done := by
    intro X hP hw hK hc i pins s σ H E I hf st hg
    subst hP hw hK
    obtain ⟨⟨old, he⟩, hit, hne, hai, hea⟩ := st
    obtain ⟨xs, hq, hx⟩ := hg
    obtain ⟨its, rv, p, hz⟩ := I.tuple hq
    obtain ⟨f0, f1, f2, f3, f4, f5⟩ := hf it (by simp)
    have hl := rv.length
    exact wpAny_pyNext_enum_endD (draws_end (A := X.A.in1) (I.ok.hd hc) it a hai its.toArray (by simp; omega)) he ⟨rfl, hit, tup_is p⟩ fun h' eb => ⟨rfl, I.turned (t' := s.toks) (fun b o hb q => eb b o hb q) f0 f1 f3 f4 f5⟩
  self := fun A i s Q E st h => let ⟨⟨_, he⟩, _⟩ := st; wpAny_pyIter_enum he h
def iEnum2 (K : PySem.W.Frag) (ta : TA) : TI := fun σ H R => ta σ H fun vs H1 => ∃ a xs, vs = [.ref a] ∧ ((SqL K H1 a xs ∧ R (Ite K a) H1) ∨ (SqT K H1 a xs ∧ R (IteT K a) H1))
theorem pi_enum2 {X : Cx} {e : Expr} {ta : TA} {p pos tpos : Pos} {elts : List Expr} {kk : Nat} (hg : Gl X "enumerate") (hm : X.mg "enumerate" = none) (ha : PA X [e] ta) (hs : starEach [e] X.env = [(false, eval e X.env)] := by rfl) :
    PI X (.Tuple elts kk tpos) (.Call (.Name "enumerate" p) [e] [] pos) (iEnum2 X.K ta) := by
  refine ⟨fun pins s σ H R I h => ?_⟩
  refine Call_ (ld_blt I hg hm boot_enumerate (PyProof.Rows.callWith_type1 (thn (ha.run pos pins s σ H _ I h) fun us s1 ⟨vs, H1, I1, r1, q1⟩ => ?_) hs rfl))
  obtain ⟨a, xs, rfl, q⟩ := q1
  cases r1 with
  | cons r rr =>
    cases rr
    cases r
    have fresh : ∀ b, b = s1.heap.objs.size + 1 ∨ b = s1.heap.objs.size → s1.heap.objs.size ≤ b := fun b hb => by rcases hb with z | z <;> omega
    rcases q with ⟨hq, q⟩ | ⟨hq, q⟩
    · obtain ⟨its, rv, p', hz⟩ := I1.list hq
      refine call_enumerate_list p'.isList fun h' he hit hsz hk => wpAny_pyIter_enum he ?_
      have I2 : Inv X pins σ H1 { s1 with heap := h' } := I1.kept (t' := s1.toks) hk
      refine ⟨s1.heap.objs.size + 1, [s1.heap.objs.size + 1, s1.heap.objs.size], _, _, H1, rfl, I2, turn_enum a (s1.heap.objs.size + 1) s1.heap.objs.size, ⟨⟨.none, he⟩, hit, Nat.succ_ne_self _⟩, fun b hb => ?_, q⟩
      have hle := fresh b (by simpa using hb)
      exact I1.fpOk hle (I1.hok.fresh hle)
    · obtain ⟨its, rv, p', hz⟩ := I1.tuple hq
      have hla : a < s1.heap.objs.size := p'.lt
      refine call_enumT (tup_is p') fun h' he hit hsz hk => wpAny_pyIter_enum he ?_
      have I2 : Inv X pins σ H1 { s1 with heap := h' } := I1.kept (t' := s1.toks) hk
      refine ⟨s1.heap.objs.size + 1, [s1.heap.objs.size + 1, s1.heap.objs.size], _, _, H1, rfl, I2, turn_enumT a (s1.heap.objs.size + 1) s1.heap.objs.size, ⟨⟨.none, he⟩, hit, Nat.succ_ne_self _, Nat.ne_of_lt hla, Nat.ne_of_gt (Nat.lt_succ_of_lt hla)⟩, fun b hb => ?_, q⟩
      have hle := fresh b (by simpa using hb)
      exact I1.fpOk hle (I1.hok.fresh hle)
section
variable {X : Cx} {es : List Expr} {tg e : Expr} {fs : FA}
theorem pdi_enum (hs : PDA X es fs) (h : ∀ ta, PA X es ta → PI X tg e (iEnum2 X.K ta)) : PDI X true tg e (fEnum fs) := ⟨PI.imp (h _ hs.pa) fun σ H R w => by
  obtain ⟨θ, A, B, G, k, S, hf, q⟩ := w
  refine ⟨θ, A, B, G, _, S, hf, fun θ1 B1 G1 H1 us ws g1 S1 hws k1 => ?_⟩
  obtain ⟨xs, hx, k1⟩ := k1
  rcases hx with rfl | rfl
  · obtain ⟨v, rfl, hv⟩ := avs1 hws
    cases hv with
    | d hd =>
      cases hd with
      | @lst p vs xs e d =>
        refine ⟨_, _, rfl, .inl ⟨SqL.of (S1.mem.ex _ _ e), q θ1 B1 G1 H1 _ _ g1 S1 ?_ k1⟩⟩
        have hl := dqAll_len d
        have lz : (enumD xs).length = xs.length := by simp [enumD]
        refine ⟨fun i G2 H2 x1 x2 hi => ⟨⟨vs, vs[i]'(by omega), SqL.of (x2 _ _ (x1 _ _ e)), by simp⟩, fun x H' y => ?_⟩, fun H x1 => ⟨vs, SqL.of (x1 _ _ e), by omega⟩⟩
        obtain ⟨T, y1, rfl, hT, rfl, hy⟩ := y
        have s := Stp.new (o := .tup [.int (i : Nat), y1]) x2 hT
        refine ⟨_, s, fun d2 hd => ?_⟩
        obtain ⟨z1, f1, rfl⟩ := enumD_get hd
        exact .t rfl upd_same (.cons (.int _) (.cons (dq_mono (x1.trans s.gx) (dq_el d (hy vs (SqL.of (x2 _ _ (x1 _ _ e)))) _ f1)) .nil))
  · obtain ⟨v, rfl, hv⟩ := avs1 hws
    cases hv with
    | d hd =>
      cases hd with
      | @tup p vs xs e d =>
        refine ⟨_, _, rfl, .inr ⟨(e.ex S1.mem.ex).sq, q θ1 B1 G1 H1 _ _ g1 S1 ?_ k1⟩⟩
        have hl := dqAll_len d
        have lz : (enumD xs).length = xs.length := by simp [enumD]
        refine ⟨fun i G2 H2 x1 x2 hi => ⟨⟨vs, vs[i]'(by omega), ((e.ex x1).ex x2).sq, by simp⟩, fun x H' y => ?_⟩, fun H x1 => ⟨vs, (e.ex x1).sq, by omega⟩⟩
        obtain ⟨T, y1, rfl, hT, rfl, hy⟩ := y
        have s := Stp.new (o := .tup [.int (i : Nat), y1]) x2 hT
        refine ⟨_, s, fun d2 hd => ?_⟩
        obtain ⟨z1, f1, rfl⟩ := enumD_get hd
        exact .t rfl upd_same (.cons (.int _) (.cons (dq_mono (x1.trans s.gx) (dq_el d (hy vs ((e.ex x1).ex x2).sq) _ f1)) .nil))⟩
end
end Dl

namespace Dl
open L2 PySem PyProof.Rows PySem.Spec
mutual
def rawG (K : PySem.W.Frag) : AG → TG
  | .nm i => gName i
  | .tp gs => gTup K (lenG gs) (rawGs K gs)
def rawGs (K : PySem.W.Frag) : AGs → TGs
  | .nil => gNil
  | .cons g gs => gCons (rawG K g) (rawGs K gs)
end
def isTp : AG → Bool
  | .tp _ => true
  | _ => false
mutual
def slG : AG → List Nat
  | .nm i => [i]
  | .tp gs => slGs gs
def slGs : AGs → List Nat
  | .nil => []
  | .cons g gs => slG g ++ slGs gs
end
def isTupE : Expr → Bool
  | .Tuple _ _ _ => true
  | _ => false
section
variable {X : Cx} {K : PySem.W.Frag} {c : Ctx} {T : Nat → FT} {p : Cp} {x : Str} {e a b i o tg elt iter : Expr} {es ifs : List Expr} {kws : List Keyword} {q pos apos : Pos} {r : AE} {scope : Scope}
mutual
theorem tfG_raw : ∀ (g : AG) {pt : Bool} {v : V} {σ : L2.St} {H : Hp} {Q : L2.St → Hp → Prop}, (pt = true → isTp g = true) → tfG K pt (wpG g) v σ H Q → rawG K g v σ H Q
  | .nm i, pt, v, σ, H, Q, np, w => by
    obtain ⟨θ, A, B, G, w, k, S, hv, hf, q⟩ := w
    cases hv with
    | a hv => exact q θ _ B _ G H Gr.refl (S.set i hv) hf
    | t p _ _ => cases np p
  | .tp gs, pt, v, σ, H, Q, np, w => by
    obtain ⟨θ, A, B, G, w, k, S, hv, hf, q⟩ := w
    have hf' : gT (lenG gs) (wpGs gs) w A B k := hf
    unfold gT wT at hf'
    cases hv with
    | t p e d => exact ⟨_, _, rfl, SqT.of (S.mem.ex _ _ e), by rw [dqAll_len d]; exact hf'.2.1, tfGs_raw gs ⟨θ, A, B, G, _, k, S, d, hf'.2.2, q⟩⟩
    | a hv =>
    split at hf'
    · cases hv with
      | d hd =>
        cases hd with
        | tup e d => exact ⟨_, _, rfl, (e.ex S.mem.ex).sq, by rw [dqAll_len d]; exact hf'.2.1, tfGs_raw gs ⟨θ, A, B, G, _, k, S, d, hf'.2.2, q⟩⟩
    · cases hf'.1
    · exact hf'.elim
theorem tfGs_raw : ∀ (gs : AGs) {vs : List V} {σ : L2.St} {H : Hp} {Q : L2.St → Hp → Prop}, tfGs K (wpGs gs) vs σ H Q → rawGs K gs vs σ H Q
  | .nil, vs, σ, H, Q, w => by
    obtain ⟨θ, A, B, G, ds, k, S, hv, ⟨rfl, hf⟩, q⟩ := w
    cases hv
    exact ⟨rfl, q θ A B σ G H Gr.refl S hf⟩
  | .cons g gs, vs, σ, H, Q, w => by
    obtain ⟨θ, A, B, G, ds, k, S, hv, ⟨d, r, rfl, hf⟩, q⟩ := w
    cases hv with
    | cons hd t =>
      refine ⟨_, _, rfl, tfG_raw g (pt := false) (fun z => nomatch z) ⟨θ, A, B, G, _, _, S, .a (.d hd), hf, fun θ1 A1 B1 σ1 G1 H1 g1 S1 k1 => ?_⟩⟩
      exact tfGs_raw gs ⟨θ1, A1, B1, G1, r, k, S1, dqAll_mono g1.gx t, k1, fun θ2 A2 B2 σ2 G2 H2 g2 S2 k2 => q θ2 A2 B2 σ2 G2 H2 (g1.trans g2) S2 k2⟩
end
mutual
theorem raw_quiet {vs : List Nat} {τ : L2.St} : ∀ (g : AG), (∀ i ∈ slG g, i ∈ vs) → ∀ {v : V} {σ : L2.St} {H : Hp} {Q Q' : L2.St → Hp → Prop}, wipe σ vs = τ → (∀ σ2 H2, wipe σ2 vs = τ → Q σ2 H2 → Q' σ2 H2) → rawG K g v σ H Q → rawG K g v σ H Q'
  | .nm i, hs, v, σ, H, Q, Q', hw, im, h => im _ _ (by rw [wipe_set (hs i (by simp [slG]))]; exact hw) h
  | .tp gs, hs, v, σ, H, Q, Q', hw, im, h => by
    obtain ⟨a, xs, h1, h2, h3, h4⟩ := (show gTup K (lenG gs) (rawGs K gs) v σ H Q from h)
    exact ⟨a, xs, h1, h2, h3, raws_quiet gs hs hw im h4⟩
theorem raws_quiet {vs : List Nat} {τ : L2.St} : ∀ (gs : AGs), (∀ i ∈ slGs gs, i ∈ vs) → ∀ {us : List V} {σ : L2.St} {H : Hp} {Q Q' : L2.St → Hp → Prop}, wipe σ vs = τ → (∀ σ2 H2, wipe σ2 vs = τ → Q σ2 H2 → Q' σ2 H2) → rawGs K gs us σ H Q → rawGs K gs us σ H Q'
  | .nil, hs, us, σ, H, Q, Q', hw, im, h => ⟨h.1, im _ _ hw h.2⟩
  | .cons g gs, hs, us, σ, H, Q, Q', hw, im, h => by
    obtain ⟨v, r, h1, h2⟩ := (show gCons (rawG K g) (rawGs K gs) us σ H Q from h)
    refine ⟨v, r, h1, raw_quiet g (fun i hi => hs i (by simp [slGs, hi])) hw (fun σ2 H2 hw2 h3 => ?_) h2⟩
    exact raws_quiet gs (fun i hi => hs i (by simp [slGs, hi])) hw2 im h3
end
theorem quiet_of {g : AG} {vs : List Nat} (h : (slG g).all (fun i => decide (i ∈ vs)) = true) : Quiet (rawG K g) vs := fun v σ H Q hq τ hw =>
  raw_quiet g (fun i hi => by simpa using List.all_eq_true.mp h i hi) hw (fun σ2 H2 h1 h2 => ⟨h1, h2⟩) hq
def cGL (f : Expr → Option AG) : List Expr → Option AGs
  | [] => some .nil
  | e :: es => gd (notStar e) ((f e).bind fun a => (cGL f es).bind fun as => some (.cons a as))
def cG (c : Ctx) : Nat → Expr → Option AG
  | 0, _ => none
  | n + 1, e => match e with
    | .Name x _ => (stoOf c x).map .nm
    | .Tuple es _ _ => (cGL (cG c n) es).map .tp
    | _ => none
theorem asg_cons (h : notStar e = true) (es : List Expr) (env : PySem.Env) : assignEach (e :: es) env = (false, assign e env) :: assignEach es env := by
  cases e <;> first | rfl | cases h
theorem sto_ok {i : Nat} (hc : CtxOk X c T) (h : stoOf c x = some i) : X.N[i]? = some x ∧ Loc X.env.scope x ∧ (X.fn x = true ∨ X.env.scope.names.lookup x = some .local) := by
  unfold stoOf at h
  rw [hc.hN, hc.sc]
  split at h
  · rename_i e; exact ⟨find_ok h, .inl e, .inr e⟩
  · rename_i e
    split at h
    · rename_i hf; exact ⟨find_ok h, .inr e, .inl (hc.fn x hf)⟩
    · cases h
  · cases h
theorem cGL_ok {f : Expr → Option AG} (hf : ∀ {e g}, f e = some g → PG X e (rawG X.K g)) : ∀ {es : List Expr} {gs : AGs}, cGL f es = some gs → PGs X es (rawGs X.K gs) ∧ (assignEach es X.env).length = lenG gs ∧ (assignEach es X.env).findIdx? (·.1) = none
  | [], _, h => by cases h; exact ⟨pgs_nil, rfl, rfl⟩
  | e :: es, _, h => by
    obtain ⟨g1, h⟩ := gd_of h
    obtain ⟨a, ha, h⟩ := bnd h
    obtain ⟨as, has, h⟩ := bnd h
    cases h
    obtain ⟨q1, q2, q3⟩ := cGL_ok hf has
    have ec := asg_cons g1 es X.env
    refine ⟨pgs_cons (hf ha) q1 (by rw [ec]; rfl), by rw [ec, List.length_cons, q2]; rfl, by rw [ec, List.findIdx?_cons, q3]; rfl⟩
theorem cG_ok (hc : CtxOk X c T) : ∀ {n : Nat} {e : Expr} {g : AG}, cG c n e = some g → PG X e (rawG X.K g)
  | 0, _, _, h => by cases h
  | n + 1, e, g, h => by
    unfold cG at h
    split at h
    · obtain ⟨i, hi, rfl⟩ := mpd h
      obtain ⟨s1, s2, s3⟩ := sto_ok hc hi
      exact pg_name (by rw [hc.hN]; exact hc.nd) s1 s2 s3
    · obtain ⟨gs, hg, rfl⟩ := mpd h
      obtain ⟨q1, q2, q3⟩ := cGL_ok (fun h => cG_ok hc h) hg
      exact pg_tup hc.calm q1 q2 q3
    · cases h
theorem cG_pdg (hc : CtxOk X c T) {n : Nat} {g : AG} {pt : Bool} (np : pt = true → isTp g = true) (h : cG c n e = some g) : PDG X pt e (wpG g) := ⟨PG.imp (cG_ok hc h) fun v σ H Q w => tfG_raw g np w⟩
theorem cG_tp {n : Nat} {g : AG} (h : cG c n e = some g) (t : isTupE e = true) : isTp g = true := by
  cases n with
  | zero => cases h
  | succ n =>
    cases e with
    | Tuple es k p =>
      obtain ⟨gs, _, rfl⟩ := mpd (show (cGL (cG c n) es).map AG.tp = some g from h)
      rfl
    | _ => cases t
def ptOf : AI → Bool
  | .zip _ => true
  | .enum _ => true
  | _ => false
def cIB (p : Cp) (c : Ctx) (tg iter : Expr) : Option AI := match iter with
  | .Call (.Name x _) es [] _ => gd (isGl c x && (match c.gl x with | some .blt => true | _ => false)) (
      if x = ("range" : Str) then (match es with
        | [a] => (cEs p c [a]).map .r1
        | [a, b] => (cEs p c [a, b]).map .r2
        | [a, b, d] => (cEs p c [a, b, d]).map .r3
        | _ => none)
      else if x = ("zip" : Str) then (match es with
        | [a, b] => gd (isTupE tg) ((cEs p c [a, b]).map .zip)
        | _ => none)
      else if x = ("enumerate" : Str) then (match es with
        | [a] => gd (isTupE tg) ((cEs p c [a]).map .enum)
        | _ => none)
      else none)
  | _ => none
theorem isTupE_ok (h : isTupE e = true) : ∃ es k p, e = .Tuple es k p := by
  cases e <;> first | exact ⟨_, _, _, rfl⟩ | cases h
theorem cIB_ok {ai : AI} (hp : CpOk p) (hc : CtxOk X c T) (h : cIB p c tg iter = some ai) : PDI X (ptOf ai) tg iter (wpI T ai) ∧ (ptOf ai = true → isTupE tg = true) := by
  unfold cIB at h
  split at h
  · rename_i x q es pos
    replace h := gd_of h
    obtain ⟨g1, h⟩ := h
    rw [Bool.and_eq_true] at g1
    have hg := isGl_ok hc g1.1
    have hm : X.mg x = none := by
      have g2 := g1.2
      split at g2
      · rename_i hb; exact hc.blt x hb
      · cases g2
    clear g1
    split at h
    · rename_i ex
      subst ex
      split at h
      · obtain ⟨as, has, rfl⟩ := mpd h
        obtain ⟨q1, q2⟩ := cEs_ok hp hc has
        simp only [List.all_cons, Bool.and_eq_true] at q2
        exact ⟨pdi_r1 q1 fun ta ha => pi_range1 hg hm ha (star_cons q2.1 [] X.env), fun z => nomatch z⟩
      · rename_i a b
        obtain ⟨as, has, rfl⟩ := mpd h
        obtain ⟨q1, q2⟩ := cEs_ok hp hc has
        simp only [List.all_cons, Bool.and_eq_true] at q2
        have s2 := star_cons q2.2.1 [] X.env
        have s1 := star_cons q2.1 [b] X.env
        rw [s2] at s1
        exact ⟨pdi_r2 q1 fun ta ha => pi_range2 hg hm ha s1 s2, fun z => nomatch z⟩
      · rename_i a b d
        obtain ⟨as, has, rfl⟩ := mpd h
        obtain ⟨q1, q2⟩ := cEs_ok hp hc has
        rw [List.all_cons, Bool.and_eq_true] at q2
        exact ⟨pdi_r3 q1 fun ta ha => pi_range3 hg hm ha (star_cons q2.1 [b, d] X.env) (star_plain X.env _ q2.2), fun z => nomatch z⟩
      · cases h
    · split at h
      · rename_i ex
        subst ex
        split at h
        · rename_i a b
          obtain ⟨g2, h⟩ := gd_of h
          obtain ⟨es', k', p', rfl⟩ := isTupE_ok g2
          obtain ⟨as, has, rfl⟩ := mpd h
          obtain ⟨q1, q2⟩ := cEs_ok hp hc has
          rw [List.all_cons, Bool.and_eq_true] at q2
          exact ⟨pdi_zip q1 fun ta ha => RZ.pi_zipA hg hm ha (star_cons q2.1 [b] X.env) (star_plain X.env _ q2.2), fun _ => rfl⟩
        · cases h
      · split at h
        · rename_i ex
          subst ex
          split at h
          · obtain ⟨g2, h⟩ := gd_of h
            obtain ⟨es', k', p', rfl⟩ := isTupE_ok g2
            obtain ⟨as, has, rfl⟩ := mpd h
            obtain ⟨q1, q2⟩ := cEs_ok hp hc has
            simp only [List.all_cons, Bool.and_eq_true] at q2
            exact ⟨pdi_enum q1 fun ta ha => pi_enum2 hg hm ha (star_cons q2.1 [] X.env), fun _ => rfl⟩
          · cases h
        · cases h
  · cases h
def cI (p : Cp) (c : Ctx) (tg iter : Expr) : Option AI := gd (noSet iter) ((cIB p c tg iter).or ((p.e c iter).map .seq))
theorem cI_ok {ai : AI} (hp : CpOk p) (hc : CtxOk X c T) (h : cI p c tg iter = some ai) : (PDI X (ptOf ai) tg iter (wpI T ai) ∧ (ptOf ai = true → isTupE tg = true)) ∧ noSet iter = true := by
  obtain ⟨g1, h⟩ := gd_of h
  refine ⟨?_, g1⟩
  cases z : cIB p c tg iter with
  | some y =>
    rw [z] at h
    cases h
    exact cIB_ok hp hc z
  | none =>
    rw [z] at h
    obtain ⟨x, hx, rfl⟩ := mpd (show Option.map AI.seq (p.e c iter) = some ai from h)
    exact ⟨pdi_seq (hp.e hc hx), fun z => nomatch z⟩
end
end Dl

namespace Dl
open L2 PySem PyProof.Rows PySem.Spec
section
variable {K : PySem.W.Frag} {G H : Hp} {f : FE} {t : FTt} {gt : FG} {fi : FI}
theorem cells_split : ∀ {θ : Th} {B1 B2 : Mem}, CellsOk K G H θ (B1 ++ B2) → ∃ θa θb, θ = θa ++ θb ∧ CellsOk K G H θa B1 ∧ CellsOk K G H θb B2
  | θ, [], B2, h => ⟨[], θ, rfl, .nil, h⟩
  | _, c :: B1, B2, h => by
    cases h with
    | cons hc ht =>
      obtain ⟨θa, θb, rfl, h1, h2⟩ := cells_split ht
      exact ⟨_ :: θa, θb, rfl, .cons hc h1, h2⟩
def ones (rs : List Addr) : Th := rs.map fun r => [r]
theorem ones_flat (rs : List Addr) : (ones rs).flatten = rs := by
  induction rs with
  | nil => rfl
  | cons r rs ih => show r :: (ones rs).flatten = _; rw [ih]
theorem rows_of : ∀ {rs : List Addr} {rows : List (List PyData)}, CellsOk K G H (ones rs) (rows.map .lst) → RowsOk K G H rs rows
  | [], [], _ => .nil
  | [], _ :: _, h => by cases h
  | _ :: _, [], h => by cases h
  | r :: rs, row :: rows, h => by
    cases h with
    | cons hc ht =>
      cases hc with
      | lst e d => exact .cons e d (rows_of ht)
theorem tf_lcM {pt : Bool} {wi : TI} {gT' : TG} {vs : List Nat} {σ : L2.St} {H : Hp} {Q : VK} (hi : ∀ σ H R, tfI K pt fi σ H R → wi σ H R) (hg : ∀ v σ H Q, tfG K pt gt v σ H Q → gT' v σ H Q) (hq : Quiet gT' vs)
    (w : tf K (fLcM fi gt t f vs) σ H Q) : tLc wi gT' (tfT K t) (tf K f) vs σ H Q := by
  obtain ⟨θ, A, B, G, k, S, hf, q⟩ := w
  refine hi _ _ _ ⟨θ, A, B, G, _, S, hf, fun θ1 B1 G1 H1 xs J g1 S1 wk k1 => ?_⟩
  obtain ⟨hsz, Iv, h0, turn, done⟩ := k1
  have l1 : θ1.length = B1.length := S1.mem.cells.len
  intro D hD
  let Inn (i : Nat) (H' : Hp) : Prop := ∃ rs Bb G2 rows, StOk K (θ1 ++ ones rs) A (Bb ++ rows.map .lst) σ G2 H' ∧ Gr θ1 (θ1 ++ ones rs) G1 H1 G2 H' ∧ D ∉ (θ1 ++ ones rs).flatten ∧ G2 D = none ∧ H' D = some (.lst (rs.map V.ref)) ∧ rs.length = rows.length ∧ rows.length ≤ i ∧ Bb.length = B1.length ∧ Iv i rows Bb
  have z0 : Inn 0 (upd H1 D (.lst [])) := by
    have j := Stp.junk (o := .lst []) S1.mem.ex hD
    refine ⟨[], B1, G1, [], ?_, ?_, ?_, S1.mem.ex.fresh hD, upd_same, rfl, Nat.le_refl _, rfl, h0⟩
    · simpa [ones] using j.st S1
    · simpa [ones] using j.gr (θ := θ1)
    · simpa [ones] using S1.mem.fresh hD
  refine ⟨fun i m H' => m = xs.length - i ∧ i ≤ xs.length ∧ Inn i H', ⟨_, rfl, Nat.zero_le _, z0⟩, ?_⟩
  rintro i m H' ⟨rfl, hil, rs, Bb, G2, rows, S2, g2, nD, fD, hD2, lrs, lrow, lb, iv⟩
  by_cases hlt : i < xs.length
  · obtain ⟨go, yl⟩ := wk.step i G2 H' g2.gx S2.mem.ex hlt
    refine .inr ⟨go, Inn (i + 1), fun H3 z => ⟨_, by omega, rfl, hlt, z⟩, fun v H3 y => ?_⟩
    obtain ⟨G3, s3, hd⟩ := yl v H3 y
    obtain ⟨d, hxd⟩ : ∃ d, xs[i]? = some d := ⟨xs[i], by simp [hlt]⟩
    have S3 := s3.st S2
    obtain ⟨b1, b2, b3⟩ := beside (s3.gr (θ := θ1 ++ ones rs)) nD fD hD2
    refine hq _ _ _ _ (hg _ _ _ _ ⟨_, wipeA A vs, _, G3, _, _, wipe_st S3 vs, (hd d hxd).v, turn i d rows Bb hxd lb iv, fun θ4 A4 B4 σ4 G4 H4 g4 S4 k4 => ?_⟩) _ (wipe_idem σ vs)
    obtain ⟨c1, c2, c3⟩ := beside g4 b1 b2 b3
    have back4 : StOk K θ4 A B4 σ G4 H4 := ⟨S4.mem, S3.slots.mono g4.gx g4.th⟩
    refine ⟨θ4, A4, B4, G4, _, S4, k4, fun θ5 B5 G5 H5 bb g5 S5 k5 => ?_⟩
    obtain ⟨d1, d2, d3⟩ := beside g5 c1 c2 c3
    have g35 := (((g2.trans s3.gr).trans g4).trans g5)
    obtain ⟨rfl, k5⟩ := k5
    refine iteT ⟨θ5, A4, B5, G5, _, S5, k5, fun θ6 B6 G6 H6 z w g6 S6 hz k6 => ?_⟩
    obtain ⟨e1, e2, e3⟩ := beside g6 d1 d2 d3
    obtain ⟨Bb', ds, rfl, rfl, lb', k7⟩ := k6
    have g36 := g35.trans g6
    have th6 : (θ1 ++ ones rs) <+: θ6 := g4.th.trans (g5.th.trans g6.th)
    obtain ⟨rest, hrest⟩ := th6
    have cells := S6.mem.cells
    have len6 := cells.len
    have lrest : rest.length = 1 := by
      rw [← hrest] at len6
      simp only [List.length_append, List.length_map, List.length_cons, List.length_nil, ones] at len6
      omega
    obtain ⟨as, rfl⟩ := List.length_eq_one_iff.mp lrest
    subst hrest
    obtain ⟨ta, tb, et, ca, cb⟩ := cells_split cells
    have : tb = [as] := by
      have := cb.len
      have l2 := congrArg (fun l => l.drop (l.length - 1)) et
      have ltb : tb.length = 1 := this
      obtain ⟨u, rfl⟩ := List.length_eq_one_iff.mp ltb
      have := (List.append_inj' et rfl).2
      exact this.symm
    subst this
    cases cb with
    | cons hc _ =>
    cases hc with
    | @lst r us _ er dr =>
    have zr : z = .ref r := by
      cases hz with
      | @m _ a' as' hk =>
        have : (θ1 ++ ones rs ++ [[r]])[B1.length + rows.length]? = some [r] := by
          rw [List.getElem?_append_right (by simp [ones]; omega)]
          simp [ones, l1, lrs]
        rw [this] at hk
        cases hk
        rfl
    subst zr
    have enew : θ1 ++ ones (rs ++ [r]) = θ1 ++ ones rs ++ [[r]] := by simp [ones]
    refine ⟨rs.map V.ref, e3, by rw [List.length_map, lrs]; omega, rs ++ [r], Bb', G6, rows ++ [ds], ?_, ?_, ?_, e2, ?_, by simp [lrs], by simp; omega, lb', k7⟩
    · rw [enew, List.map_append, ← List.append_assoc]
      refine ⟨⟨S6.mem.ex.side e2, S6.mem.cells.mono (Ext.refl _) fun a ha o ho => ?_, S6.mem.nd, S6.mem.free⟩, back4.slots.mono (g5.gx.trans g6.gx) (g5.th.trans g6.th)⟩
      rw [upd_ne fun q : a = D => e1 (by rw [← q]; exact ha)]
      exact ho
    · rw [enew]
      exact ⟨g36.gx, g36.th, fun a o ha hn => by
        rw [upd_ne (ne_of_none ha hD)]
        exact g36.keep a o ha hn, g36.new, g36.gnew⟩
    · rw [enew]; exact e1
    · rw [upd_same, List.map_append]; rfl
  · have e : i = xs.length := by omega
    subst e
    refine .inl ⟨wk.stop H' (g2.gx.trans S2.mem.ex), ?_⟩
    obtain ⟨ta, tb, et, ca, cb⟩ := cells_split S2.mem.cells
    have lta : ta.length = θ1.length := by rw [ca.len, lb, l1]
    obtain ⟨rfl, rfl⟩ := List.append_inj et lta.symm
    have rr := rows_of cb
    have perm : (θ1 ++ [D :: rs]).flatten.Perm (D :: (θ1 ++ ones rs).flatten) := by
      simp only [List.flatten_append, ones_flat, List.flatten_cons, List.flatten_nil, List.append_nil]
      exact List.perm_middle
    refine q (θ1 ++ [D :: rs]) (Bb ++ [.mat rows]) G2 H' _ (.m B1.length) (g1.trans ?_) ⟨⟨S2.mem.ex, ca.append (.cons (.mat hD2 rr) .nil), perm.nodup_iff.mpr (List.nodup_cons.mpr ⟨nD, S2.mem.nd⟩), fun a ha => ?_⟩, S1.slots.mono g2.gx (List.prefix_append _ _)⟩ (.m (as := rs) ?_) (done rows Bb iv)
    · refine ⟨g2.gx, List.prefix_append _ _, g2.keep, fun a ha => ?_, g2.gnew⟩
      rcases List.mem_cons.mp (perm.mem_iff.mp ha) with z | z
      · subst z; exact .inr hD
      · exact g2.new a z
    · rcases List.mem_cons.mp (perm.mem_iff.mp ha) with z | z
      · subst z; exact fD
      · exact S2.mem.free a z
    · rw [← l1, List.getElem?_append_right (Nat.le_refl _), Nat.sub_self]
      rfl
end
end Dl

namespace Dl
open L2 PySem PyProof.Rows PySem.Spec
def mergeK (kvs more : List (Key × V)) : List (Key × V) := more.foldl (fun acc p => putK acc p.1 p.2) kvs
theorem kvV_merge : ∀ {more : List (Key × V)} {ms : List (Key × Value)} {kvs : List (Key × V)} {vs : List (Key × Value)}, KV kvs vs → KV more ms → KV (mergeK kvs more) (merged vs ms)
  | _, _, _, _, r, .nil => r
  | _, _, _, _, r, .cons (a := p) (b := q) h t => by
    obtain ⟨e, rv⟩ := h
    show KV (mergeK (putK _ p.1 p.2) _) (merged (stored _ q.1 q.2) _)
    rw [← e]
    exact kvV_merge (r.put p.1 rv) t
theorem mergeK_len : ∀ (more kvs : List (Key × V)), (mergeK kvs more).length ≤ kvs.length + more.length
  | [], kvs => Nat.le_refl _
  | p :: more, kvs => by
    have h1 := mergeK_len more (putK kvs p.1 p.2)
    have h2 := length_putK kvs p.1 p.2
    show (mergeK (putK kvs p.1 p.2) more).length ≤ _
    rw [List.length_cons]
    omega
section
variable {X : Cx}
def rUpd : V → List V → Hp → VK → Prop := fun x xs H Q => ∃ d o kvs more, x = .ref d ∧ xs = [.ref o] ∧ d ≠ o ∧ H d = some (.dK kvs) ∧ H o = some (.dK more) ∧ kvs.length + more.length ≤ sizeLine ∧ Q .non (upd H d (.dK (mergeK kvs more)))
theorem mt_upd : MtR X "dict.update" rUpd := by
  intro pins s σ H x xs v us Q I rx rxs h
  obtain ⟨d, o, kvs, more, rfl, rfl, ne, hd, ho, hz, q⟩ := h
  cases rx
  obtain ⟨u, rfl, ru⟩ := vals1 rxs
  cases ru
  obtain ⟨_, sd, vs, rel, dd⟩ := dk_of I.hok hd
  obtain ⟨_, so, ms, rel2, do2⟩ := dk_of I.hok ho
  have e1 : kvs.length = vs.length := rel.length
  have e2 : more.length = ms.length := rel2.length
  refine call_meetsIn PySem.F.slot_dict_update dd.typeIs PySem.F.entry_dict_update (PySem.F.args_dict_update_2 _ _) (meets_dict_update (mixKind X.prog X.w) d o ne so) ⟨vs, ms, dd, do2, by omega, fun h' hm _ sb => ?_⟩
  have ex : ∃ q, h'.get? d = some q := let ⟨q, _, _, hq, _⟩ := hm; ⟨q, hq⟩
  have ln := mergeK_len more kvs
  exact ⟨.non, _, d_write (t' := s.toks) I (by rw [hd]; trivial) sb ex (dk_new (by omega) sd (kvV_merge rel rel2) hm), rfl, q⟩
end
section
variable {K : PySem.W.Frag} {θ θ' θ1 : Th} {A : Env} {B : Mem} {σ : L2.St} {G H G' H' H1 : Hp} {fk fv : FE} {t : FTt} {gt : FG} {fi : FI}
theorem fin_dict {D : Addr} {us : List (Key × V)} {acc : List (Key × PyData)} {k : Kt} (m : MemOk K θ' B G' H') (hD : H' D = some (.dK us)) (dd : KvOk K G' us acc) (nD : D ∉ θ'.flatten) (fD : G' D = none) (oD : H1 D = none) (g : Gr θ θ' G H1 G' H') (h : k (.m B.length) (B ++ [.dK acc])) :
    ∃ θ2 B2 w, Gr θ θ2 G H1 G' H' ∧ MemOk K θ2 B2 G' H' ∧ AVok K G' θ2 (.ref D) w ∧ k w B2 := by
  have hl := m.cells.len
  refine ⟨θ' ++ [[D]], B ++ [.dK acc], .m B.length, ⟨g.gx, g.th.trans (List.prefix_append _ _), g.keep, fun a ha => ?_, g.gnew⟩, ⟨m.ex, m.cells.append (.cons (.dK hD dd) .nil), ?_, fun a ha => ?_⟩, .m (as := []) ?_, h⟩
  · rw [List.flatten_append, List.mem_append] at ha
    rcases ha with q | q
    · exact g.new a q
    · simp at q; subst q; exact .inr oD
  · rw [List.flatten_append, List.nodup_append]
    refine ⟨m.nd, by simp, fun a ha b hb e => ?_⟩
    simp at hb
    subst hb
    subst e
    exact nD ha
  · rw [List.flatten_append, List.mem_append] at ha
    rcases ha with q | q
    · exact m.free a q
    · simp at q; subst q; exact fD
  · rw [← hl, List.getElem?_append_right (Nat.le_refl _), Nat.sub_self]
    rfl
theorem putD_len (kvs : List (Key × PyData)) (key : Key) (d : PyData) : (putD kvs key d).length ≤ kvs.length + 1 := by
  unfold putD
  split <;> simp
theorem kv_mono (e : Ext G G') : ∀ {vs : List (Key × V)} {ds : List (Key × PyData)}, KvOk K G vs ds → KvOk K G' vs ds
  | _, _, .nil => .nil
  | _, _, .cons h t => .cons (dq_mono e h) (kv_mono e t)
theorem tf_dcm {pt : Bool} {wi : TI} {gT' : TG} {vs : List Nat} {σ : L2.St} {H : Hp} {Q : VK} (hi : ∀ σ H R, tfI K pt fi σ H R → wi σ H R) (hg : ∀ v σ H Q, tfG K pt gt v σ H Q → gT' v σ H Q) (hq : Quiet gT' vs)
    (w : tf K (fDcm fi gt t fk fv vs) σ H Q) : tDc wi gT' (tfT K t) (tf K fk) (tf K fv) vs σ H Q := by
  obtain ⟨θ, A, B, G, k, S, hf, q⟩ := w
  refine hi _ _ _ ⟨θ, A, B, G, _, S, hf, fun θ1 B1 G1 H1 xs J g1 S1 wk k1 => ?_⟩
  obtain ⟨hsz, Iv, h0, turn, done⟩ := k1
  intro D hD
  let Inn (i : Nat) (H' : Hp) : Prop := ∃ θ2 B2 G2 us acc, StOk K θ2 A B2 σ G2 H' ∧ Gr θ1 θ2 G1 H1 G2 H' ∧ D ∉ θ2.flatten ∧ G2 D = none ∧ H' D = some (.dK us) ∧ KvOk K G2 us acc ∧ acc.length ≤ i ∧ Iv i acc B2
  have z0 : Inn 0 (upd H1 D (.dK [])) := by
    have j := Stp.junk (o := .dK []) S1.mem.ex hD
    exact ⟨θ1, B1, G1, [], [], j.st S1, j.gr, S1.mem.fresh hD, S1.mem.ex.fresh hD, upd_same, .nil, Nat.le_refl _, h0⟩
  refine ⟨fun i m H' => m = xs.length - i ∧ i ≤ xs.length ∧ Inn i H', ⟨_, rfl, Nat.zero_le _, z0⟩, ?_⟩
  rintro i m H' ⟨rfl, hil, θ2, B2, G2, us, acc, S2, g2, nD, fD, hD2, dd, al, iv⟩
  by_cases hlt : i < xs.length
  · obtain ⟨go, yl⟩ := wk.step i G2 H' g2.gx S2.mem.ex hlt
    refine .inr ⟨go, Inn (i + 1), fun H3 z => ⟨_, by omega, rfl, hlt, z⟩, fun v H3 y => ?_⟩
    obtain ⟨G3, s3, hd⟩ := yl v H3 y
    obtain ⟨d, hxd⟩ : ∃ d, xs[i]? = some d := ⟨xs[i], by simp [hlt]⟩
    have S3 := s3.st S2
    obtain ⟨b1, b2, b3⟩ := besideO (s3.gr (θ := θ2)) nD fD hD2
    refine hq _ _ _ _ (hg _ _ _ _ ⟨θ2, wipeA A vs, B2, G3, _, _, wipe_st S3 vs, (hd d hxd).v, turn i d acc B2 hxd iv, fun θ4 A4 B4 σ4 G4 H4 g4 S4 k4 => ?_⟩) _ (wipe_idem σ vs)
    obtain ⟨c1, c2, c3⟩ := besideO g4 b1 b2 b3
    have back4 : StOk K θ4 A B4 σ G4 H4 := ⟨S4.mem, S3.slots.mono g4.gx g4.th⟩
    refine ⟨θ4, A4, B4, G4, _, S4, k4, fun θ5 B5 G5 H5 bb g5 S5 k5 => ?_⟩
    obtain ⟨d1, d2, d3⟩ := besideO g5 c1 c2 c3
    have g35 := (((g2.trans s3.gr).trans g4).trans g5)
    have dd5 := kv_mono g5.gx (kv_mono g4.gx (kv_mono s3.gx dd))
    cases bb with
    | true =>
      refine iteT ⟨θ5, A4, B5, G5, _, S5, k5.1 rfl, fun θ6 B6 G6 H6 y w g6 S6 hy k6 => ?_⟩
      obtain ⟨e1, e2, e3⟩ := besideO g6 d1 d2 d3
      obtain ⟨kd, key, rfl, hk, k7⟩ := k6
      refine ⟨θ6, A4, B6, G6, _, S6, k7, fun θ7 B7 G7 H7 z w g7 S7 hz k8 => ?_⟩
      obtain ⟨f1, f2, f3⟩ := besideO g7 e1 e2 e3
      obtain ⟨dz, hdz, k9⟩ := wK_of hz k8
      have ey : y = kV key := by
        cases hy with
        | d hy => exact keyD_of hy hk
      have dd7 := kv_put (kv_mono g7.gx (kv_mono g6.gx dd5)) key hdz
      have lu := kv_len dd5
      have lp := putD_len acc key dz
      refine ⟨us, key, ey, f3, by omega, θ7, B7, G7, putK us key z, putD acc key dz, ⟨⟨S7.mem.ex.side f2, S7.mem.cells.mono (Ext.refl _) fun a ha o ho => ?_, S7.mem.nd, S7.mem.free⟩, back4.slots.mono ((g5.gx.trans g6.gx).trans g7.gx) ((g5.th.trans g6.th).trans g7.th)⟩, ?_, f1, f2, upd_same, dd7, by omega, k9⟩
      · rw [upd_ne fun q : a = D => f1 (by rw [← q]; exact ha)]
        exact ho
      · have g37 := (g35.trans g6).trans g7
        exact ⟨g37.gx, g37.th, fun a o ha hn => by
          rw [upd_ne (ne_of_none ha hD)]
          exact g37.keep a o ha hn, g37.new, g37.gnew⟩
    | false =>
      exact iteF ⟨θ5, B5, G5, us, acc, ⟨S5.mem, back4.slots.mono g5.gx g5.th⟩, g35, d1, d2, d3, dd5, by omega, k5.2 rfl⟩
  · have e : i = xs.length := by omega
    subst e
    refine .inl ⟨wk.stop H' (g2.gx.trans S2.mem.ex), ?_⟩
    obtain ⟨θ3, B3, w, g3, m3, hw, hk⟩ := fin_dict S2.mem hD2 dd nD fD hD g2 (done acc B2 iv)
    exact q θ3 B3 G2 H' _ w (g1.trans g3) ⟨m3, (S1.slots.mono g3.gx g3.th)⟩ hw hk
end
end Dl

namespace Dl
open L2 PySem PyProof.Rows PySem.Spec
section
variable {P : Program} {w : World} {κ : Type} [DecidableEq κ] {kd : KeyKind P w κ} {A : Around} {E : Value → Shared → Prop} {s : Shared}
def Tame (kd : KeyKind P w κ) : Prop := ∀ (k : κ) (v : Value), kd.is k v = true → ∀ n, ofAClassStatement n v = pure false
theorem tame_items (T : Tame kd) {ks : List κ} {vs : List Value} (h : ItemsAre kd ks vs) : ∀ u ∈ vs, ∀ n, ofAClassStatement n u = pure false := by
  induction h with
  | nil => exact fun u hu => nomatch hu
  | cons q _ ih => exact fun u hu => (List.mem_cons.mp hu).elim (fun e => e ▸ T _ _ q) (ih u)
abbrev tHash (kd : KeyKind P w κ) (ks : List κ) : Int := tupleKeyHash kd ks
abbrev wy (m : Nat) (H : Int) (c : Nat) : SetTable.Probe := nth m (runAt m (SetTable.bits H % (m + 1)) (SetTable.bits H)) c
theorem wy_j (m : Nat) (H : Int) (c : Nat) : (wy m H c).j = way m H c := rfl
theorem wy_dummy (m : Nat) (H : Int) (c : Nat) : (wy m H c).dummy = none := by
  have go : ∀ (c : Nat) (p : SetTable.Probe), p.dummy = none → (nth m p c).dummy = none := fun c => by
    induction c with
    | zero => exact fun p e => e
    | succ c ih => exact fun p e => ih (adv m p) (by unfold adv; split <;> exact e)
  exact go c _ rfl
theorem wy_add (m : Nat) (H : Int) (c q : Nat) : nth m (wy m H c) q = wy m H (c + q) := (nth_add m c _ q).symm
theorem tup_cls (T : Tame kd) {ks : List κ} {b : Addr} {Q : Bool → Shared → Prop} (hb : IsTupleKey kd s.heap ks b) (h : Q false s) : wpAny (model P w) A (ofAClassStatement 8 (.ref b)) Q E s := by
  have ty := hb.typeIs
  obtain ⟨ob, its, nn, get, _, dat, are⟩ := hb
  have tm := tame_items T are
  unfold ofAClassStatement
  refine wpAny_bind (wpAny_typeOf ty ?_)
  dsimp only
  rw [show (("tuple" : String) == "tuple") = true from by decide]
  simp only [if_true, Bool.not_true, Bool.false_eq_true, if_false]
  try refine wpAny_bind (wpAny_pure ?_)
  try simp only [Bool.not_true, Bool.false_eq_true, if_false]
  refine wpAny_bind (wpAny_seqItems get dat ?_)
  dsimp only
  refine wpAny_bind ?_
  rw [← Array.forIn_toList]
  refine wpAny_forIn_list _ (fun left r z => r.1 = none ∧ z = s ∧ ∀ u ∈ left, ∀ n, ofAClassStatement n u = pure false) _ ?_ ?_ _ _ ⟨rfl, rfl, tm⟩
  · rintro u left r z ⟨e1, rfl, all⟩
    rw [all u List.mem_cons_self]
    refine wpAny_bind (wpAny_pure ?_)
    rw [if_neg Bool.false_ne_true]
    exact wpAny_pure ⟨rfl, rfl, fun y hy => all y (List.mem_cons_of_mem _ hy)⟩
  · rintro ⟨r1, r2⟩ z ⟨e1, rfl, _⟩
    cases (show r1 = none from e1)
    exact wpAny_pure h
theorem tup_seen (T : Tame kd) {ks : List κ} {b : Addr} {Q : Bool → Shared → Prop} (hb : IsTupleKey kd s.heap ks b) {ys : List Value} (all : ∀ y ∈ ys, ∃ c ls, y = .ref c ∧ IsTupleKey kd s.heap ls c) (h : Q false s) :
    wpAny (model P w) A (searchCouldBeSeen (.ref b) ys) Q E s := by
  unfold searchCouldBeSeen
  refine wpAny_bind (wpAny_forIn_list _ (fun left r z => r.1 = none ∧ z = s ∧ ∀ y ∈ left, ∃ c ls, y = .ref c ∧ IsTupleKey kd s.heap ls c) _ ?_ ?_ _ _ ⟨rfl, rfl, all⟩)
  · rintro u left r z ⟨e1, rfl, al⟩
    obtain ⟨c, ls, rfl, hc⟩ := al u List.mem_cons_self
    have al2 := fun y hy => al y (List.mem_cons_of_mem (Value.ref c) hy)
    dsimp only
    by_cases e : (b == c || (carriedByValue (.ref b) && carriedByValue (.ref c))) = true
    · exact wp_if_pos e (wpAny_pure ⟨rfl, rfl, al2⟩)
    · refine wp_if_neg e (wpAny_bind (wpAny_eqIsQuiet_tuple hb ?_))
      rw [if_neg (by decide)]
      refine wpAny_bind (wpAny_eqIsQuiet_tuple hc ?_)
      rw [if_neg (by decide)]
      refine wpAny_bind (tup_cls T hb ?_)
      rw [if_neg (by decide)]
      refine wpAny_bind (tup_cls T hc ?_)
      rw [if_neg (by decide)]
      exact wpAny_pure ⟨rfl, rfl, al2⟩
  · rintro ⟨r1, r2⟩ z ⟨e1, rfl, _⟩
    cases (show r1 = none from e1)
    exact wpAny_pure h
def tRows (kd : KeyKind P w κ) (L : List (Addr × List κ)) : List (Int × Value) := L.map fun q => (tHash kd q.2, .ref q.1)
structure TsAt (kd : KeyKind P w κ) (h : Heap) (a : Addr) (L : List (Addr × List κ)) (es : Array (Int × Value)) (ep : Nat) (t : SetTable) : Prop where
  obj : ∃ o, h.get? a = some o ∧ o.ExactSet ∧ o.data = .set es ep t
  rows : es.toList = tRows kd L
  tab : TabOk t (L.map fun q => tHash kd q.2)
  nd : (L.map Prod.snd).Nodup
  wide : L.length * 5 < t.mask * 3
  few : L.length < 64
abbrev Tups (kd : KeyKind P w κ) (h : Heap) (L : List (Addr × List κ)) : Prop := ∀ q ∈ L, IsTupleKey kd h q.2 q.1
theorem tRows_len (L : List (Addr × List κ)) : (tRows kd L).length = L.length := List.length_map _
theorem rows_size {L : List (Addr × List κ)} {es : Array (Int × Value)} (e : es.toList = tRows kd L) : es.size = L.length := by rw [← Array.length_toList, e, tRows_len]
theorem rows_at {L : List (Addr × List κ)} {es : Array (Int × Value)} (e : es.toList = tRows kd L) {i : Nat} {q : Addr × List κ} (h : L[i]? = some q) : es[i]? = some (tHash kd q.2, .ref q.1) := by
  rw [← Array.getElem?_toList, e, tRows, List.getElem?_map, h]
  rfl
theorem tab_fits {L : List (Addr × List κ)} {t : SetTable} {n : Nat} (T : TabOk t (L.map fun q => tHash kd q.2)) (hn : n = L.length) (h : L.length ≤ t.mask) : t.fits n = true := by
  have e := T.sz
  rw [List.length_map] at e
  unfold SetTable.fits SetTable.fill
  rw [T.dm, Bool.and_eq_true, beq_iff_eq, decide_eq_true_eq]
  exact ⟨by omega, show t.place.size + 0 ≤ t.mask by omega⟩
variable {a : Addr} {L : List (Addr × List κ)} {es : Array (Int × Value)} {ep : Nat} {t : SetTable}
theorem TsAt.fits (R : TsAt kd s.heap a L es ep t) : t.fits es.size = true := tab_fits R.tab (rows_size R.rows) (by have := R.wide; omega)
theorem ts_from (T : Tame kd) (R : TsAt kd s.heap a L es ep t) (tp : Tups kd s.heap L) {x : Addr} {k : List κ} (hx : IsTupleKey kd s.heap k x) (hu : A.units < cLine) {N : Nat} (hN : N < 10 * SetTable.turns t.mask)
    (free : way t.mask (tHash kd k) N ∉ t.place.toList) (busy : ∀ c, c < N → way t.mask (tHash kd k) c ∈ t.place.toList) {Q : SetFound → Shared → Prop} (yes : k ∈ L.map Prod.snd → Q (.there none) s) (no : k ∉ L.map Prod.snd → Q (.free (way t.mask (tHash kd k) N) false) s) :
    ∀ (f c : Nat) (st : Option SetTable.Probe), st.getD (t.probeStart (tHash kd k)) = wy t.mask (tHash kd k) c → c ≤ N → N - c < f →
      (∀ (i : Nat) (q : Addr × List κ), L[i]? = some q → q.2 = k → ∃ b, c ≤ b ∧ b < N ∧ t.place.toList[i]? = some (way t.mask (tHash kd k) b)) → wpAny (model P w) A (setSearchFrom a (.ref x) (tHash kd k) true f st) Q E s := by
  intro f
  induction f with
  | zero => exact fun c st _ _ z _ => absurd z (Nat.not_lt_zero _)
  | succ f ih =>
    intro c st e0 hc hf left
    obtain ⟨o, get, hex, dat⟩ := R.obj
    rw [setSearchFrom_succ]
    refine wpAny_bind (wpAny_setState_of get dat R.fits ?_)
    dsimp only
    refine wp_if_neg (by unfold SetTable.gaveWay; rw [mask_odd R.tab.mok]; decide) ?_
    try refine wpAny_bind (wpAny_pure ?_)
    have hashes : ∀ (i : Nat) (q : Addr × List κ), L[i]? = some q → (es[i]?.map (·.1)).getD 0 = tHash kd q.2 := fun i q hq => by rw [rows_at R.rows hq]; rfl
    have key := go_spec t R.tab.ris R.tab.dm (fun i => (es[i]?.map (·.1)).getD 0) (tHash kd k) (10 * SetTable.turns t.mask) (N - c) (wy t.mask (tHash kd k) c) (wy_dummy _ _ _) (by omega)
      (fun q hq => by rw [wy_add]; exact busy (c + q) (by omega)) (by rw [wy_add, Nat.add_sub_cancel' hc]; exact free)
    rcases key with ⟨q, i, hq, hi, hh, before, met⟩ | ⟨before, met⟩
    · rw [wy_add, wy_add] at met
      rw [wy_add] at hi
      have met2 : t.probe (fun i => (es[i]?.map (·.1)).getD 0) (tHash kd k) (st.getD (t.probeStart (tHash kd k))) = some (.candidate (way t.mask (tHash kd k) (c + q)) i (wy t.mask (tHash kd k) (c + (q + 1)))) := by
        rw [e0]; exact met
      rw [met2]
      dsimp only
      have il : i < L.length := by
        have l1 := (List.getElem?_eq_some_iff.mp hi).1
        have l2 := R.tab.sz
        rw [List.length_map] at l2
        rw [Array.length_toList] at l1
        omega
      obtain ⟨p, hp⟩ : ∃ p, L[i]? = some p := ⟨_, List.getElem?_eq_getElem il⟩
      have pm : p ∈ L := List.mem_of_getElem? hp
      have live : t.slot (way t.mask (tHash kd k) (c + q)) = .live i := slot_live R.tab.ris hi
      have on : wpAny (model P w) A (searchRest a (.ref x) (tHash kd k) true f es t (way t.mask (tHash kd k) (c + q)) i (wy t.mask (tHash kd k) (c + (q + 1)))) Q E s := by
        unfold searchRest
        rw [rows_at R.rows hp]
        dsimp only
        refine wpAny_bind (wpAny_holding (wpAny_eqBool_tuple hu (tp p pm) hx ?_))
        refine wpAny_bind (wpAny_setState_of get dat R.fits ?_)
        dsimp only
        by_cases same : p.2 = k
        · exact wp_if_pos (by simp [same]) (wpAny_pure (yes (List.mem_map.mpr ⟨p, pm, same⟩)))
        · refine wp_if_neg (by simp [same]) ?_
          try refine wpAny_bind (wpAny_pure ?_)
          rw [sameMem]
          dsimp only
          simp only [if_true, live, rows_at R.rows hp]
          refine wpAny_bind (wpAny_isSame_ref_self (wpAny_bind (wpAny_pure ?_)))
          simp only [if_true]
          refine wp_if_neg (by simp [same]) (ih (c + (q + 1)) _ rfl (by omega) (by omega) fun i0 p0 h0 hk0 => ?_)
          obtain ⟨b, b1, b2, b3⟩ := left i0 p0 h0 hk0
          have far : c + q < b := by
            rcases Nat.lt_trichotomy b (c + q) with z | z | z
            · exact absurd ((hashes i0 p0 h0).trans (by rw [hk0])) (before (b - c) i0 (by omega) (by rw [wy_add, Nat.add_sub_cancel' b1]; exact b3))
            · subst z
              have l0 := slot_live R.tab.ris b3
              rw [live] at l0
              cases l0
              rw [hp] at h0
              cases h0
              exact absurd hk0 same
            · exact z
          exact ⟨b, far, b2, b3⟩
      by_cases led : t.led = true
      · refine wp_if_neg (by simp [led]) ?_
        try refine wpAny_bind (wpAny_pure ?_)
        exact on
      · refine wp_if_pos (by simp [led]) (wpAny_bind (tup_seen T hx (fun y hy => ?_) ?_))
        · obtain ⟨e, he, rfl⟩ := List.mem_map.mp hy
          have he2 : e ∈ es.toList := by
            have z : e ∈ es ∧ e.1 = tHash kd k := by simpa using he
            simpa using z.1
          rw [R.rows] at he2
          obtain ⟨p2, hp2, rfl⟩ := List.mem_map.mp he2
          exact ⟨p2.1, p2.2, rfl, tp p2 hp2⟩
        · refine wp_if_neg (by decide) ?_
          try refine wpAny_bind (wpAny_pure ?_)
          exact on
    · rw [wy_add, Nat.add_sub_cancel' hc] at met
      have met2 : t.probe (fun i => (es[i]?.map (·.1)).getD 0) (tHash kd k) (st.getD (t.probeStart (tHash kd k))) = some (.empty (way t.mask (tHash kd k) N) none) := by
        rw [e0]; exact met
      rw [met2]
      dsimp only
      refine wpAny_pure (no fun hm => ?_)
      obtain ⟨p0, h0, hk0⟩ := List.mem_map.mp hm
      obtain ⟨i0, hi0, rfl⟩ := List.getElem_of_mem h0
      have h1 := List.getElem?_eq_getElem hi0
      obtain ⟨b, b1, b2, b3⟩ := left i0 _ h1 hk0
      exact before (b - c) i0 (by omega) (by rw [wy_add, Nat.add_sub_cancel' b1]; exact b3) ((hashes i0 _ h1).trans (by rw [hk0]))
theorem ts_search (T : Tame kd) (R : TsAt kd s.heap a L es ep t) (tp : Tups kd s.heap L) {x : Addr} {k : List κ} (hx : IsTupleKey kd s.heap k x) (hu : A.units < cLine) {Q : SetFound → Shared → Prop} (yes : k ∈ L.map Prod.snd → Q (.there none) s)
    (no : ∀ N, k ∉ L.map Prod.snd → way t.mask (tHash kd k) N ∉ t.place.toList → (∀ c, c < N → way t.mask (tHash kd k) c ∈ t.place.toList) → Q (.free (way t.mask (tHash kd k) N) false) s) : wpAny (model P w) A (setSearch a (.ref x) (tHash kd k) true) Q E s := by
  have hw := R.wide
  obtain ⟨N, n1, n2, n3⟩ := R.tab.first (by rw [List.length_map]; omega) (tHash kd k)
  have big : N < 100000 := by
    have : SetTable.turns t.mask ≤ 142 := by
      unfold SetTable.turns
      rcases R.tab.mok with e | e | e <;> omega
    omega
  unfold setSearch
  refine ts_from T R tp hx hu n1 n2 n3 yes (fun z => no N z n2 n3) 100000 0 none rfl (Nat.zero_le _) (by omega) fun i q hq e => ?_
  have il : i < t.place.toList.length := by
    have l1 := (List.getElem?_eq_some_iff.mp hq).1
    have l2 := R.tab.sz
    rw [List.length_map] at l2
    rw [Array.length_toList]
    omega
  obtain ⟨b, b1, b2⟩ := R.tab.before (h := tHash kd k) n2 (by rw [List.getElem?_map, hq, ← e]; rfl) (List.getElem?_eq_getElem il)
  exact ⟨b, Nat.zero_le _, b1, by rw [List.getElem?_eq_getElem il, b2]⟩
end
end Dl

namespace Dl
open L2 PySem PyProof.Rows PySem.Spec
section
variable {P : Program} {w : World} {κ : Type} [DecidableEq κ] {kd : KeyKind P w κ} {A : Around} {E : Value → Shared → Prop} {s : Shared} {a : Addr} {L : List (Addr × List κ)} {es : Array (Int × Value)} {ep : Nat} {t : SetTable}
theorem tRows_ins (L : List (Addr × List κ)) (p : Nat) (q : Addr × List κ) : tRows kd (L.take p ++ q :: L.drop p) = (tRows kd L).take p ++ (tHash kd q.2, Value.ref q.1) :: (tRows kd L).drop p := by
  simp only [tRows, List.map_append, List.map_cons, List.map_take, List.map_drop]
theorem ins_perm {α : Type} (L : List α) (p : Nat) (x : α) : (L.take p ++ x :: L.drop p).Perm (x :: L) :=
  (List.perm_middle).trans (by rw [List.take_append_drop])
theorem filter_ix {α : Type} (L : List α) : (List.range L.length).filterMap (fun i => L[i]?) = L := by
  induction L with
  | nil => rfl
  | cons x L ih =>
    rw [List.length_cons, List.range_succ_eq_map]
    simp only [List.filterMap_cons, List.getElem?_cons_zero, List.filterMap_map, Function.comp_def, List.getElem?_cons_succ, ih]
theorem order_of (e : es.toList = tRows kd L) {order : Array Nat} (hp : order.toList.Perm (List.range L.length)) :
    ∃ L2, (order.filterMap (es[·]?)).toList = tRows kd L2 ∧ L2.Perm L ∧ (L2.map fun q => tHash kd q.2) = order.toList.map fun i => (es.map (·.1)).getD i 0 := by
  have key : ∀ l : List Nat, (∀ i ∈ l, i < L.length) → l.filterMap (fun i => es[i]?) = tRows kd (l.filterMap fun i => L[i]?) ∧ ((l.filterMap fun i => L[i]?).map fun q => tHash kd q.2) = l.map fun i => (es.map (·.1)).getD i 0 := by
    intro l
    induction l with
    | nil => exact fun _ => ⟨rfl, rfl⟩
    | cons i l ih =>
      intro hl
      have il := hl i List.mem_cons_self
      obtain ⟨q, hq⟩ : ∃ q, L[i]? = some q := ⟨_, List.getElem?_eq_getElem il⟩
      obtain ⟨e1, e2⟩ := ih fun j hj => hl j (List.mem_cons_of_mem _ hj)
      have e3 := rows_at (kd := kd) e hq
      have e4 : (es.map (·.1)).getD i 0 = tHash kd q.2 := by
        rw [Array.getD_eq_getD_getElem?, Array.getElem?_map, e3]
        rfl
      rw [List.filterMap_cons_some e3, List.filterMap_cons_some hq, e1, List.map_cons, List.map_cons, e2, e4]
      exact ⟨rfl, rfl⟩
  obtain ⟨e1, e2⟩ := key order.toList fun i hi => List.mem_range.mp (hp.mem_iff.mp hi)
  refine ⟨_, by rw [Array.toList_filterMap]; exact e1, ?_, e2⟩
  have := hp.filterMap fun i => L[i]?
  rwa [filter_ix] at this
theorem ts_relay {o : Obj} (get : s.heap.get? a = some o) (hex : o.ExactSet) (dat : o.data = .set es ep t) (rows : es.toList = tRows kd L) (T : TabOk t (L.map fun q => tHash kd q.2)) (fl : L.length ≤ t.mask) (nd : (L.map Prod.snd).Nodup) (few : L.length < 64)
    {wanted M : Nat} (hw : SetTable.sizeAbove wanted - 1 = M) (hM : MaskOk M) (hw2 : SetTable.sizeAbove wanted ≤ 128) (hn : L.length * 5 < M * 3) {Q : Unit → Shared → Prop}
    (hQ : ∀ h' L' es' ep' t', Heap.SameBut a s.heap h' → TsAt kd h' a L' es' ep' t' → L'.Perm L → Q () { s with heap := h' }) : wpAny (model P w) A (setRelay a wanted) Q E s := by
  have sz := rows_size rows
  obtain ⟨t', order, e, hp, T', em, _, _, _⟩ := relaid_ok t (hs := es.map (·.1)) (wanted := wanted) hw hM (by rw [Array.size_map, sz]; omega)
  rw [Array.size_map, sz] at hp
  obtain ⟨L2, r1, r2, r3⟩ := order_of rows hp
  rw [← r3] at T'
  have sz2 : (order.filterMap (es[·]?)).size = es.size := by rw [rows_size r1, r2.length_eq, sz]
  rw [setRelay_eq]
  refine wpAny_bind (wpAny_setState_of get dat (tab_fits T sz fl) ?_)
  dsimp only
  refine wp_if_neg (by rw [sizeLine_eq]; omega) ?_
  try refine wpAny_bind (wpAny_pure ?_)
  rw [e]
  dsimp only
  refine wpAny_bind (wp_if_neg (by rw [sz2]; simp) ?_)
  try refine wpAny_bind (wpAny_pure ?_)
  refine wpAny_pure ?_
  dsimp only
  refine wpAny_storeSet_of get dat (hQ _ L2 _ (ep + 1) t' (Heap.SameBut.update ..) ⟨⟨_, store_at get dat, ⟨hex.1, hex.2.1, hex.2.2⟩, rfl⟩, r1, T', (r2.map Prod.snd).nodup_iff.mpr nd, ?_, ?_⟩ r2) (by rw [sz2, sz, sizeLine_eq]; omega)
  · rw [r2.length_eq, em]; exact hn
  · rw [r2.length_eq]; exact few
theorem tup_hashBy {ks : List κ} {b : Addr} {Q : Bool → Shared → Prop} (hb : IsTupleKey kd s.heap ks b) (plainly : ∀ u v, kd.is u v = true → ∀ n, ∃ z, hashByValue n v = pure z) (h : ∀ z, Q z s) : wpAny (model P w) A (hashByValue 8 (.ref b)) Q E s := by
  have ty := hb.typeIs
  obtain ⟨ob, its, nn, get, _, dat, are⟩ := hb
  have all : ∀ u ∈ its.toList, ∀ n, ∃ z, hashByValue n u = pure z := by
    generalize its.toList = vs at are
    induction are with
    | nil => exact fun u hu => nomatch hu
    | cons q _ ih => exact fun u hu => (List.mem_cons.mp hu).elim (fun e => e ▸ plainly _ _ q) (ih u)
  unfold hashByValue
  refine wpAny_bind (wpAny_specialOf ty F.slot_tuple_hash.lookup ?_)
  dsimp only
  refine wpAny_bind (wpAny_seqItems get dat ?_)
  refine wpAny_bind ?_
  show wpAny _ _ (forIn its _ _) _ _ s
  rw [← Array.forIn_toList]
  refine wpAny_forIn_list _ (fun left r z => r.1 = none ∧ z = s ∧ ∀ u ∈ left, ∀ n, ∃ z, hashByValue n u = pure z) _ ?_ ?_ _ _ ⟨rfl, rfl, all⟩
  · rintro u left r z ⟨e1, rfl, al⟩
    obtain ⟨q, hq⟩ := al u List.mem_cons_self 7
    rw [hq]
    refine wpAny_bind (wpAny_pure ?_)
    cases q with
    | true =>
      rw [if_neg (by decide)]
      exact wpAny_pure ⟨rfl, rfl, fun y hy => al y (List.mem_cons_of_mem _ hy)⟩
    | false =>
      rw [if_pos (by decide)]
      exact wpAny_pure (wpAny_pure (h _))
  · rintro ⟨r1, r2⟩ z ⟨e1, rfl, _⟩
    cases (show r1 = none from e1)
    exact wpAny_pure (h _)
theorem tab_off {t : SetTable} {hs : List Int} (T : TabOk t hs) (b : Bool) : TabOk (if b = true then t else { t with plain := false }) hs := by
  cases b with
  | true => exact T
  | false => exact ⟨T.ris, T.dm, T.sz, T.mok, T.bd, T.reach⟩
theorem tup_same {h h' : Heap} {k : List κ} {b : Addr} {o : Obj} (hb : IsTupleKey kd h k b) (get : h.get? a = some o) (dat : o.data = .set es ep t) (hs : Heap.SameBut a h h') : IsTupleKey kd h' k b := by
  obtain ⟨ob, its, nn, g, c, d, are⟩ := hb
  have ne : b ≠ a := fun z => by
    subst z
    rw [get] at g
    cases g
    rw [dat] at d
    cases d
  exact ⟨ob, its, nn, (hs.2 b ne).trans g, c, d, are⟩
theorem ts_add (T : Tame kd) (plainly : ∀ u v, kd.is u v = true → ∀ n, ∃ z, hashByValue n v = pure z) (R : TsAt kd s.heap a L es ep t) (tp : Tups kd s.heap L) {x : Addr} {k : List κ} (hx : IsTupleKey kd s.heap k x) (hu : A.units < cLine) (hfew : L.length + 1 < 64) {Q : Bool → Shared → Prop}
    (hQ : ∀ b h' L' es' ep' t', Heap.SameBut a s.heap h' → TsAt kd h' a L' es' ep' t' → (k ∈ L.map Prod.snd → L' = L) → (k ∉ L.map Prod.snd → L'.Perm ((x, k) :: L)) → Q b { s with heap := h' }) : wpAny (model P w) A (setAddHashed a (.ref x) (tHash kd k)) Q E s := by
  obtain ⟨o, get, hex, dat⟩ := R.obj
  have sz := rows_size R.rows
  have hwd := R.wide
  unfold setAddHashed
  refine wpAny_holding ?_
  rw [show (100000 : Nat) = Nat.succ 99999 from rfl, setAddHashedIn_succ]
  refine wpAny_bind (wpAny_setState_of get dat R.fits ?_)
  dsimp only
  refine wp_if_neg (by simp [byScan, Value.scannable]) ?_
  try refine wpAny_bind (wpAny_pure ?_)
  refine wpAny_bind (ts_search T R tp hx hu (fun hm => ?_) fun N hm n1 n2 => ?_)
  · dsimp only
    exact wpAny_pure (hQ false s.heap L es ep t (Heap.SameBut.refl a s.heap) R (fun _ => rfl) fun z => absurd hm z)
  dsimp only
  refine wpAny_bind (wpAny_setState_of get dat R.fits ?_)
  dsimp only
  obtain ⟨q1, q2, q3, q4, q5, q6, q7, q8, q9⟩ := R.tab.put n1 n2
  generalize hpt : t.put (way t.mask (tHash kd k) N) = pt at q1 q3 q4 q5 q6 q7 q8 q9 ⊢
  obtain ⟨t1, p⟩ := pt
  dsimp only at q1 q3 q4 q5 q6 q7 q8 q9 ⊢
  have put2 : ∀ z : Bool, wpAny (model P w) A (do
      let t := if z = true then t1 else { t1 with plain := false }
      storeSet a (SetTable.insertAt es p (tHash kd k, .ref x)) t
      if !false && t.tooFull then setRelay a (SetTable.grown (es.size + 1))
      return true) Q E s := fun z => by
    have q3' := tab_off q3 z
    have m' : (if z = true then t1 else { t1 with plain := false }).mask = t.mask := by cases z <;> exact q4
    have f' : (if z = true then t1 else { t1 with plain := false }).fill = (L.map fun q => tHash kd q.2).length + 1 := by cases z <;> exact q9
    subst q1
    generalize (if z = true then t1 else { t1 with plain := false }) = t2 at q3' m' f'
    have ins : (SetTable.insertAt es (SetTable.below t.place (way t.mask (tHash kd k) N)) (tHash kd k, Value.ref x)).toList = tRows kd (L.take (SetTable.below t.place (way t.mask (tHash kd k) N)) ++ (x, k) :: L.drop (SetTable.below t.place (way t.mask (tHash kd k) N))) := by
      rw [SetTable.toList_insertAt, tRows_ins, R.rows]
    generalize SetTable.below t.place (way t.mask (tHash kd k) N) = p at q2 q3' ins ⊢
    have pm := ins_perm L p (x, k)
    have ln := pm.length_eq
    rw [List.length_cons] at ln
    have hh : (L.take p ++ (x, k) :: L.drop p).map (fun q => tHash kd q.2) = (L.map fun q => tHash kd q.2).take p ++ tHash kd k :: (L.map fun q => tHash kd q.2).drop p := by
      simp only [List.map_append, List.map_cons, List.map_take, List.map_drop]
    rw [← hh] at q3'
    have nd1 : ((L.take p ++ (x, k) :: L.drop p).map Prod.snd).Nodup := by
      refine (pm.map Prod.snd).nodup_iff.mpr ?_
      exact List.nodup_cons.mpr ⟨hm, R.nd⟩
    have sz1 := rows_size ins
    generalize SetTable.insertAt es p (tHash kd k, Value.ref x) = es1 at ins sz1
    generalize L.take p ++ (x, k) :: L.drop p = L1 at *
    refine wpAny_bind (wpAny_storeSet_of get dat ?_ (by rw [sz1, ln, sizeLine_eq]; omega))
    have sb : Heap.SameBut a s.heap (s.heap.update a (Obj.putSet es1 t2)) := Heap.SameBut.update ..
    have get1 := store_at (es' := es1) (t' := t2) get dat
    generalize s.heap.update a (Obj.putSet es1 t2) = h1 at sb get1 ⊢
    by_cases full : t2.tooFull = true
    · first
        | refine wpAny_bind (wp_if_pos (by simp [full]) ?_)
        | refine wp_if_pos (by simp [full]) (wpAny_bind ?_)
      have most : (L.length + 1) * 5 ≥ t2.mask * 3 := by
        have h := full
        unfold SetTable.tooFull at h
        rw [decide_eq_true_eq, f', List.length_map] at h
        exact h
      have two : (t.mask = 7 ∧ L.length = 4) ∨ (t.mask = 31 ∧ L.length = 18) := by
        rw [m'] at most
        rcases R.tab.mok with e | e | e
        · exact .inl ⟨e, by omega⟩
        · exact .inr ⟨e, by omega⟩
        · omega
      have go : ∀ M, SetTable.sizeAbove (SetTable.grown (L.length + 1)) - 1 = M → MaskOk M → SetTable.sizeAbove (SetTable.grown (L.length + 1)) ≤ 128 → (L.length + 1) * 5 < M * 3 → wpAny (model P w) A (setRelay a (SetTable.grown (es.size + 1))) (fun _ z => wpAny (model P w) A (pure true) Q E z) E { s with heap := h1 } := fun M g1 g2 g3 g4 => by
        rw [sz]
        refine ts_relay (s := { s with heap := h1 }) get1 ⟨hex.1, hex.2.1, hex.2.2⟩ rfl ins q3' (by rw [m', ln]; omega) nd1 (by omega) g1 g2 g3 (by omega) fun h2 L2 es2 ep2 t2 sb2 R2 pm2 => ?_
        exact wpAny_pure (hQ true h2 L2 es2 ep2 t2 (sb.trans sb2) R2 (fun z => absurd z hm) fun _ => pm2.trans pm)
      rcases two with ⟨_, e2⟩ | ⟨_, e2⟩
      · exact go 31 (by rw [e2, size_20]) (.inr (.inl rfl)) (by rw [e2, size_20]; decide) (by omega)
      · exact go 127 (by rw [e2, size_76]) (.inr (.inr rfl)) (by rw [e2, size_76]; decide) (by omega)
    · first
        | refine wp_if_neg (by simp [full]) ?_
        | refine wpAny_bind (wp_if_neg (by simp [full]) (wpAny_pure ?_))
      refine wpAny_pure (hQ true h1 L1 es1 (ep + 1) t2 sb ⟨⟨_, get1, ⟨hex.1, hex.2.1, hex.2.2⟩, rfl⟩, ins, q3', nd1, ?_, by omega⟩ (fun z => absurd z hm) fun _ => pm)
      have h := full
      unfold SetTable.tooFull at h
      rw [decide_eq_true_eq, f', List.length_map] at h
      omega
  by_cases pl : t1.plain = true
  · first
      | (refine wpAny_bind (wp_if_pos pl (tup_hashBy hx plainly fun z => ?_)); exact put2 z)
      | (refine wp_if_pos pl (wpAny_bind (tup_hashBy hx plainly fun z => ?_)); exact put2 z)
  · first
      | (refine wpAny_bind (wp_if_neg pl (wpAny_pure ?_)); exact put2 true)
      | (refine wp_if_neg pl ?_; exact put2 true)
end
end Dl

namespace Dl
open L2 PySem PyProof.Rows PySem.Spec
section
variable {P : Program} {w : World} {κ : Type} [DecidableEq κ] {kd : KeyKind P w κ} {A : Around} {E : Value → Shared → Prop} {s : Shared} {a : Addr} {L : List (Addr × List κ)}
def Hashy (kd : KeyKind P w κ) : Prop := ∀ u v, kd.is u v = true → ∀ n, ∃ z, hashByValue n v = pure z
def TsO (kd : KeyKind P w κ) (a : Addr) (L : List (Addr × List κ)) : HO := .ext fun h => ∃ es ep t, TsAt kd h a L es ep t
theorem TsAt.at {h h' : Heap} {es : Array (Int × Value)} {ep : Nat} {t : SetTable} (R : TsAt kd h a L es ep t) (k : ∀ o, h.get? a = some o → h'.get? a = some o) : TsAt kd h' a L es ep t :=
  ⟨let ⟨o, e, r⟩ := R.obj; ⟨o, k o e, r⟩, R.rows, R.tab, R.nd, R.wide, R.few⟩
theorem tsO_new {H : Hp} {h : Heap} {es : Array (Int × Value)} {ep : Nat} {t : SetTable} (R : TsAt kd h a L es ep t) : ObjOk P w H h a (TsO kd a L) :=
  ⟨⟨es, ep, t, R⟩, let ⟨o, e, _⟩ := R.obj; ⟨o, e⟩, fun h1 h2 ⟨es, ep, t, R⟩ k => ⟨es, ep, t, R.at k⟩⟩
theorem ts_new {h : Heap} {b : Bool} (e : h.get? a = some { cls := .type "set", dict := none, data := .set #[] 0 (.fresh 0 0 b) }) : TsAt kd h a [] #[] 0 (.fresh 0 0 b) :=
  ⟨⟨_, e, ⟨rfl, rfl, rfl⟩, rfl⟩, rfl, ⟨.nil, rfl, rfl, .inl rfl, (fun x hx => nomatch hx), fun i h j hi => by simp at hi⟩, .nil, by show 0 * 5 < 7 * 3; decide, by show 0 < 64; decide⟩
theorem ts_call_add (T : Tame kd) (hy : Hashy kd) {es : Array (Int × Value)} {ep : Nat} {t : SetTable} (R : TsAt kd s.heap a L es ep t) (tp : Tups kd s.heap L) {x : Addr} {k : List κ} (hx : IsTupleKey kd s.heap k x) (hu : A.units + 4 < cLine) (hfew : L.length + 1 < 64) {Q : Value → Shared → Prop}
    (hQ : ∀ h' tk L' es' ep' t', Heap.SameBut a s.heap h' → TsAt kd h' a L' es' ep' t' → (k ∈ L.map Prod.snd → L' = L) → (k ∉ L.map Prod.snd → L'.Perm ((x, k) :: L)) → Q .none { s with heap := h', toks := tk }) : wpAny (model P w) A (call (.builtin "set.add") [.ref a, .ref x]) Q E s := by
  have ty : s.TypeIs (.ref a) "set" := let ⟨o, e, c, _⟩ := R.obj; ⟨o, e, c.1⟩
  refine wpAny_call_entry F.slot_set_add ty F.entry_set_add ?_ (F.args_set_add_2 _ _)
  unfold Builtin.«set.add» Builtin.Frozenset.oneOther
  simp only [List.isEmpty_nil, bind_assoc]
  unfold Builtin.Frozenset.addrOf setAdd
  refine wpAny_bind (wpAny_pure ?_)
  try dsimp only
  refine wpAny_bind (wpAny_pure ?_)
  try dsimp only
  refine wpAny_bind (wpAny_holding (wpAny_bind (wpAny_pyHash_tuple (by first | omega | (show _ < _; simp only [Around.in1]; omega)) hx ?_)))
  refine ts_add (s := { s with toks := s.toks + (k.length + 1) }) T hy R tp hx (by first | omega | (show _ < _; simp only [Around.in1]; omega)) hfew fun b h' L' es' ep' t' sb R' e1 e2 => ?_
  exact wpAny_pure ⟨_, rfl, hQ h' _ L' es' ep' t' sb R' e1 e2⟩
end
section
variable {X : Cx} {κ : Type} [DecidableEq κ] {kd : KeyKind X.prog X.w κ}
def Shows (kd : KeyKind X.prog X.w κ) (tv : κ → V) : Prop := ∀ k u, RelV (tv k) u → kd.is k u = true
theorem items_show {tv : κ → V} (hs : Shows kd tv) : ∀ {ks : List κ} {us : List Value}, Vals (ks.map tv) us → ItemsAre kd ks us
  | [], _, .nil => .nil
  | k :: ks, _, .cons r t => .cons (hs k _ r) (items_show hs t)
theorem inv_tup {tv : κ → V} (hs : Shows kd tv) {pins : List (Addr × Obj)} {σ : L2.St} {H : Hp} {s : Shared} {b : Addr} {k : List κ} (I : Inv X pins σ H s) (h : SqT X.K H b (k.map tv)) : IsTupleKey kd s.heap k b := by
  obtain ⟨its, r, ⟨o, e, c, n, d⟩, _⟩ := I.tuple h
  exact ⟨o, its.toArray, n, e, c, d, by simpa using items_show hs r⟩
theorem add_inv {tv : κ → V} (T : Tame kd) (hy : Hashy kd) (hs : Shows kd tv) {pins : List (Addr × Obj)} {σ : L2.St} {H : Hp} {s : Shared} {E : Value → Shared → Prop} {D b : Addr} {k : List κ} {L : List (Addr × List κ)} {Q : Value → Shared → Prop} (I : Inv X pins σ H s) (hD : H D = some (TsO kd D L))
    (tp : ∀ q ∈ L, SqT X.K H q.1 (q.2.map tv)) (hb : SqT X.K H b (k.map tv)) (hu : X.A.units + 4 < cLine) (few : L.length + 1 < 64)
    (h : ∀ s' L', (k ∈ L.map Prod.snd → L' = L) → (k ∉ L.map Prod.snd → L'.Perm ((b, k) :: L)) → Inv X pins σ (upd H D (TsO kd D L')) s' → Q .none s') : wpAny (model X.prog X.w) X.A (call (.builtin "set.add") [.ref D, .ref b]) Q E s := by
  obtain ⟨es, ep, t, R⟩ := (I.hok D _ hD).1
  refine ts_call_add T hy R (fun q hq => inv_tup hs I (tp q hq)) (inv_tup hs I hb) hu few fun h' tk L' es' ep' t' sb R' e1 e2 => h _ L' e1 e2 ?_
  exact I.write (e := D) (t' := tk) (by rw [hD]; trivial) (.inl rfl) (fun c u hc hu => (sb.2 c hc).trans hu) (let ⟨o, e, _⟩ := R'.obj; ⟨o, e⟩) (tsO_new R')
def tScT (K : PySem.W.Frag) {P : Program} {w : World} (kd : KeyKind P w κ) (tv : κ → V) (wi : TI) (g : TG) (tt : TT) (te : TE) (vs : List Nat) : TE := fun σ H Q => wi σ H fun J H1 => ∀ D, H1 D = none → ∃ W : Nat → Nat → Hp → Prop, (∃ m, W 0 m (upd H1 D (TsO kd D []))) ∧ ∀ i m H, W i m H →
  (J.stop i H ∧ ∃ L, H D = some (TsO kd D L) ∧ Q (.ref D) H) ∨ (J.go i H ∧ ∃ Nx : Hp → Prop, (∀ H', Nx H' → ∃ n, n < m ∧ W (i + 1) n H') ∧ ∀ x H', J.yld i H x H' → g x (wipe σ vs) H' fun σ2 H2 => wipe σ2 vs = wipe σ vs ∧ tt σ2 H2 fun b H3 =>
    if b = true then te σ2 H3 fun y H4 => ∃ (b : Addr) (k : List κ) (L : List (Addr × List κ)), y = .ref b ∧ SqT K H4 b (k.map tv) ∧ H4 D = some (TsO kd D L) ∧ (∀ q ∈ L, SqT K H4 q.1 (q.2.map tv)) ∧ L.length + 1 < 64 ∧
      ∀ L', (k ∈ L.map Prod.snd → L' = L) → (k ∉ L.map Prod.snd → L'.Perm ((b, k) :: L)) → Nx (upd H4 D (TsO kd D L')) else Nx H3)
theorem pe_scT {tv : κ → V} (T : Tame kd) (hy : Hashy kd) (hs : Shows kd tv) (hu : X.A.units + 4 < cLine) {elt tg iter : Expr} {ifs : List Expr} {scope : Scope} {own : List (PySem.Str × Nat)} {pos : Pos} {wi : TI} {g : TG} {tt : TT} {te : TE} (hc : X.calm = true) (hN : X.N.Nodup) (hi : PI X tg iter wi) (ok : BlkOk X.N X.env.scope scope own)
    (hg : ∀ (s : Shared) (H : Hp) (C : Addr) (cl : List (PySem.Str × Addr)) (fp : List Addr), PG (X.blk s H scope (compEnvC scope cl C X.env) fp) tg g) (ht : ∀ (s : Shared) (H : Hp) (C : Addr) (cl : List (PySem.Str × Addr)) (fp : List Addr), PTs (X.blk s H scope (compEnvC scope cl C X.env) fp) ifs tt)
    (he : ∀ (s : Shared) (H : Hp) (C : Addr) (cl : List (PySem.Str × Addr)) (fp : List Addr), PE (X.blk s H scope (compEnvC scope cl C X.env) fp) elt te) (hf : ∀ x, foldedSetIterable iter X.env x = pure x) :
    PE X (.SetComp elt [⟨tg, iter, ifs, 0⟩] scope pos) (tScT X.K kd tv wi g tt te (own.map (·.2))) := by
  refine ⟨fun pins s σ H Q I h => ?_⟩
  rw [PpSet.eval_SetComp]
  have closed : ∀ y ∈ scope.names, y.2 = .free → ∃ c, X.env.cells.lookup y.1 = some c := fun y hy e => (ok.free y hy e).elim (fun k => I.ok.has _ (.inl k)) fun k => I.ok.has _ (.inr k)
  refine wpAny_comprehension_free (use := none) rfl hf (closure_ok closed) ok.kind (fun y hy e => by rw [ok.uniq y hy, e]) ?_
  refine thn (hi.run pins s σ H _ I h) fun xv s1 q1 => thn q1 fun iv s2 q2 => ?_
  obtain ⟨it, fp, tn, J, H2, rfl, I2, Tn, st2, fp2, q⟩ := q2
  refine PpSet.newSet_ok (newEnv_comp ?_)
  generalize hD : s2.heap.objs.size = D
  have none2 : H2 D = none := I2.hok.fresh (Nat.le_of_eq hD)
  obtain ⟨W, ⟨m0, w0⟩, turn⟩ := q D none2
  generalize hs3 : ({ s2 with heap := s2.heap.push { cls := .type "set", dict := none, data := .set #[] 0 (.fresh 0 0 (!X.w.params.followText "set-order")) } } : Shared) = s3
  have heap3 : s3.heap = s2.heap.push { cls := .type "set", dict := none, data := .set #[] 0 (.fresh 0 0 (!X.w.params.followText "set-order")) } := by rw [← hs3]
  have I3 : Inv X pins σ (upd H2 D (TsO kd D [])) s3 := by
    rw [← hs3]
    refine I2.laid (t' := s2.toks) (fun b o e => Heap.get?_push_of_some _ e) (Nat.le_of_eq hD) ?_
    rw [← hD]
    exact tsO_new (ts_new (Heap.get?_push_size _ rfl))
  have fp3 : ∀ b ∈ fp, FpOk X pins (upd H2 D (TsO kd D [])) b ∧ b < s3.heap.objs.size := fun b hb => by
    obtain ⟨o, e, _⟩ := Tn.obj _ _ st2 b hb
    have lt := Heap.lt_size e
    exact ⟨⟨by rw [upd_ne (by rw [← hD]; exact Nat.ne_of_lt lt)]; exact (fp2 b hb).1, (fp2 b hb).2⟩, by rw [heap3, Heap.size_push]; exact Nat.lt_succ_of_lt lt⟩
  have st3 : tn 0 s3.heap := Tn.keep _ _ _ st2 fun b _ o e => by rw [heap3]; exact Heap.get?_push_of_some _ e
  have I4 := block_start I3 ok hN fp3
  have pg := hg s3 (upd H2 D (TsO kd D [])) s3.heap.objs.size (cellsFrom (s3.heap.objs.size + 1) scope.names (cloFrom X.env.cells scope.names [])) fp
  have pt := ht s3 (upd H2 D (TsO kd D [])) s3.heap.objs.size (cellsFrom (s3.heap.objs.size + 1) scope.names (cloFrom X.env.cells scope.names [])) fp
  have pe := he s3 (upd H2 D (TsO kd D [])) s3.heap.objs.size (cellsFrom (s3.heap.objs.size + 1) scope.names (cloFrom X.env.cells scope.names [])) fp
  have fpn : ∀ b ∈ fp, (upd H2 D (TsO kd D [])) b = none := fun b hb => (fp3 b hb).1.1
  refine (show codeAny _ _ (.compStart (.SetComp elt [⟨tg, iter, ifs, 0⟩] scope pos) 0 (.ref it) (.ref D) (compEnvC scope (cellsFrom (s3.heap.objs.size + 1) scope.names (cloFrom X.env.cells scope.names [])) s3.heap.objs.size X.env)) (compPost (model X.prog X.w) X.A X.xe none (EP X pins σ Q) (.ref D) s3.heap.objs.size) { s3 with heap := pushCells (s3.heap.push { cls := .type "dict", data := .dict #[] }) scope.names } from ?_)
  generalize hce : compEnvC scope (cellsFrom (s3.heap.objs.size + 1) scope.names (cloFrom X.env.cells scope.names [])) s3.heap.objs.size X.env = ce at I4 pg pt pe ⊢
  have loc : ce.locals = s3.heap.objs.size := by subst hce; rfl
  generalize hH3 : upd H2 D (TsO kd D []) = H3 at I3 I4 pg pt pe w0 fpn fp3
  generalize hs4 : ({ s3 with heap := pushCells (s3.heap.push { cls := .type "dict", data := .dict #[] }) scope.names } : Shared) = s4 at I4 ⊢
  have st4 : tn 0 s4.heap := Tn.keep _ _ _ st3 fun b _ o e => by rw [← hs4]; exact pushCells_keeps _ _ _ _ (Heap.get?_push_of_some _ e)
  have still : ∀ {τ : L2.St} {H' : Hp} {z : Shared}, Inv (X.blk s3 H3 scope ce fp) [] τ H' z → (∀ b ∈ fp, H' b = none) → ∀ b ∈ fp, FpOk (X.blk s3 H3 scope ce fp) [] H' b := fun {τ H' z} J' hn b hb =>
    ⟨hn b hb, (J'.ok.exf b hb).1, J'.ok.exfs b hb, .inl hb, fun x c e => (J'.ok.exf b hb).2 x c e, fun p hp => absurd (show p ∈ ([] : List (Addr × Obj)) ++ [] from hp) (by simp)⟩
  refine PpSet.codeAny_compStart_set ?loop (Tn.self X.A 0 _ _ _ st4 ?loop)
  case loop =>
  refine PpSet.compLoopS_any (fun n z => ∃ i H', Inv (X.blk s3 H3 scope ce fp) [] (wipe σ (own.map (·.2))) H' z ∧ tn i z.heap ∧ (∀ b ∈ fp, H' b = none) ∧ W i n H') ?_ m0 ⟨0, H3, I4, st4, fpn, w0⟩
  rintro n s5 ⟨i, H5, I5, st5, n5, w5⟩
  rcases turn i n H5 w5 with ⟨stop, L, hL, qq⟩ | ⟨go, Nx, hNx, step⟩
  · refine thnF (Tn.done (X.blk s3 H3 scope ce fp) rfl rfl rfl hc i [] s5 _ H5 (fun _ _ => False) I5 (still I5 n5) st5 stop) fun r s6 ⟨hr, I6⟩ => ?_
    subst hr
    have I7 : Inv X pins σ H5 s6 := I3.call' (ch := fp) I6.os I6.base I6.hok I6.bare fun b hb => ⟨(fp3 b hb).1.2.2.2.1, (fp3 b hb).1.2.1, (fp3 b hb).1.2.2.2.2.1, (fp3 b hb).1.2.2.2.2.2⟩
    have locn : H5 s3.heap.objs.size = none := by rw [← loc]; exact I6.free
    obtain ⟨m, hn, _⟩ := I6.loc
    have hn : s6.heap.Ns ce.locals m := hn
    rw [loc] at hn
    obtain ⟨f0, f1, f2, f3, f4, f5⟩ := I3.fpOk (Nat.le_refl _) locn
    exact ⟨m, hn, fun h'' sb => ⟨.ref D, H5, I7.turned (t' := s6.toks) (fun b o hb e => (sb.2 b hb).trans e) f0 f1 f3 f4 f5, rfl, qq⟩⟩
  · refine thnF (Tn.item (X.blk s3 H3 scope ce fp) rfl rfl rfl hc i [] s5 _ H5 (fun _ _ => False) I5 (still I5 n5) st5 go) fun r s6 ⟨u, hr, h6⟩ => ?_
    subst hr
    refine thnF h6 fun _ s7 ⟨x, H7, I7, r7, y7, st7, n7⟩ => ?_
    have I7p := I7.pinned (still I7 n7) (Tn.obj _ _ st7)
    refine thnF (pg.run _ s7 _ H7 x u _ I7p r7 (step x H7 y7)) fun _ s8 ⟨σ8, H8, I8, same8, q8⟩ => ?_
    refine thnF (pt.run _ s8 σ8 H8 _ I8 q8) fun b s9 ⟨H9, I9, q9⟩ => ?_
    have fin : ∀ {z : Shared} {H' : Hp}, Inv (X.blk s3 H3 scope ce fp) ([] ++ pinsAt fp s7.heap) σ8 H' z → Nx H' → ∃ m, m < n ∧ ∃ i H', Inv (X.blk s3 H3 scope ce fp) [] (wipe σ (own.map (·.2))) H' z ∧ tn i z.heap ∧ (∀ b ∈ fp, H' b = none) ∧ W i m H' := fun {z H'} J' nx => by
      obtain ⟨m', lt, w'⟩ := hNx H' nx
      have pin' : ∀ b ∈ fp, ∀ o, s7.heap.get? b = some o → z.heap.get? b = some o ∧ H' b = none := fun b hb o e =>
        let p := J'.pin (b, o) (List.mem_append_right _ (List.mem_append_right _ (mem_pinsAt hb e)))
        ⟨p.1, p.2.1⟩
      refine ⟨m', lt, i + 1, H', (J'.unpinned (pins := [])).weak (by rw [← same8, wipe_length]) (fun j v e => (wipe_some (by rw [same8]; exact e)).1), Tn.keep _ _ _ st7 fun b hb o e => (pin' b hb o e).1, fun b hb => ?_, w'⟩
      obtain ⟨o, e, _⟩ := Tn.obj _ _ st7 b hb
      exact (pin' b hb o e).2
    cases b with
    | false =>
      rw [if_neg Bool.false_ne_true] at q9
      rw [if_neg Bool.false_ne_true]
      exact fin I9 q9
    | true =>
      rw [if_pos rfl] at q9
      rw [if_pos rfl]
      refine thnF (pe.run _ s9 σ8 H9 _ I9 q9) fun z s10 ⟨yv, H10, I10, r10, bt, k, L, ey, hb, hD10, tp, few, nx⟩ => ?_
      subst ey
      cases r10
      exact add_inv (X := X.blk s3 H3 scope ce fp) (kd := kd) T hy hs I10 hD10 tp hb hu few fun s11 L' e1 e2 I11 => fin I11 (nx L' e1 e2)
end
end Dl

namespace Dl
open L2 PySem PyProof.Rows PySem.Spec
theorem tame_str (P : Program) (w : World) : Tame (PySem.strKind P w) := fun k v h n => by
  obtain ⟨t, rfl⟩ := Value.isStrOf_shape h
  cases n <;> rfl
theorem hashy_str (P : Program) (w : World) : Hashy (PySem.strKind P w) := fun k v h n => by
  obtain ⟨t, rfl⟩ := Value.isStrOf_shape h
  exact ⟨_, hashByValue_scannable n rfl⟩
theorem shows_str {X : Cx} : Shows (PySem.strKind X.prog X.w) V.str := fun k u r => by
  obtain ⟨t, rfl⟩ := r
  show Value.isStrOf k (.str k t) = true
  simp [Value.isStrOf]
def tLenSc (K : PySem.W.Frag) {P : Program} {w : World} (kd : KeyKind P w Str) (wi : TI) (g : TG) (tt : TT) (te : TE) (vs : List Nat) : TE := fun σ H Q => tScT K kd V.str wi g tt te vs σ H fun x H' => ∃ (D : Addr) (L : List (Addr × List Str)), x = .ref D ∧ H' D = some (TsO kd D L) ∧ Q (.int L.length) H'
section
variable {X : Cx}
theorem pe_lenSc (hu : X.A.units + 4 < cLine) {elt tg iter : Expr} {ifs : List Expr} {scope : Scope} {own : List (PySem.Str × Nat)} {p pos pos2 : Pos} {wi : TI} {g : TG} {tt : TT} {te : TE} (hc : X.calm = true) (hl : Gl X "len") (hm : X.mg "len" = none)
    (h : PE X (.SetComp elt [⟨tg, iter, ifs, 0⟩] scope pos) (tScT X.K (PySem.strKind X.prog X.w) V.str wi g tt te (own.map (·.2)))) : PE X (.Call (.Name "len" p) [.SetComp elt [⟨tg, iter, ifs, 0⟩] scope pos] [] pos2) (tLenSc X.K (PySem.strKind X.prog X.w) wi g tt te (own.map (·.2))) := by
  refine ⟨fun pins s σ H Q I w => ?_⟩
  refine Call_ (ld_blt I hl hm PySem.boot_len ?_)
  refine PyProof.Rows.callWith_builtin1 (PyProof.Rows.args_cons (thn (h.run pins s σ H _ I w) fun v s1 ⟨x, H1, I1, r1, D, L, e, hD, q⟩ => PyProof.Rows.args_nil ?_) rfl) rfl rfl
  subst e
  cases r1
  obtain ⟨es, ep, t, R⟩ := (I1.hok D _ hD).1
  have sz := rows_size R.rows
  have fw := R.few
  obtain ⟨o, get, hex, dat⟩ := R.obj
  exact call_len_set get hex dat (TsAt.fits (s := s1) R) (by rw [sz]; omega) ⟨.int L.length, H1, I1.tok _, ⟨_, by rw [sz]⟩, q⟩
end
section
variable {K : PySem.W.Frag} {P : Program} {w : World} {f : FE} {t : FTt} {gt : FG} {fi : FI}
theorem strs_of {G : Hp} {v : V} {ks : List Str} (h : Dq K G v (.tuple (ks.map .str))) : ∃ a, v = .ref a ∧ TupF G a (ks.map V.str) := by
  cases h with
  | tup e al =>
    rw [dqAll_strs al] at e
    exact ⟨_, rfl, e⟩
theorem tf_lsc {kd : KeyKind P w Str} {wi : TI} {gT' : TG} {vs : List Nat} {σ : L2.St} {H : Hp} {Q : VK} {pt : Bool} (hi : ∀ σ H R, tfI K pt fi σ H R → wi σ H R) (hg : ∀ v σ H Q, tfG K pt gt v σ H Q → gT' v σ H Q) (hq : Quiet gT' vs)
    (w : tf K (fLsc fi gt t f vs) σ H Q) : tLenSc K kd wi gT' (tfT K t) (tf K f) vs σ H Q := by
  obtain ⟨θ, A, B, G, k, S, hf, q⟩ := w
  refine hi _ _ _ ⟨θ, A, B, G, _, S, hf, fun θ1 B1 G1 H1 xs J g1 S1 wk k1 => ?_⟩
  obtain ⟨hx63, Iv, h0, turn, done⟩ := k1
  intro D hD
  let Inn (i : Nat) (H' : Hp) : Prop := ∃ θ2 B2 G2 L acc, StOk K θ2 A B2 σ G2 H' ∧ Gr θ1 θ2 G1 H1 G2 H' ∧ D ∉ θ2.flatten ∧ G2 D = none ∧ H' D = some (TsO kd D L) ∧ (L.map Prod.snd).Perm acc ∧ acc.length ≤ i ∧ (∀ q ∈ L, TupF G2 q.1 (q.2.map V.str)) ∧ Iv i acc B2
  have z0 : Inn 0 (upd H1 D (TsO kd D [])) := by
    refine ⟨θ1, B1, G1, [], [], ⟨⟨S1.mem.ex.side (S1.mem.ex.fresh hD), S1.mem.cells.mono (Ext.refl _) fun a ha o ho => ?_, S1.mem.nd, S1.mem.free⟩, S1.slots⟩, ⟨Ext.refl _, List.prefix_refl _, fun a o ho hn => ?_, fun a ha => .inl ha, fun a ha => .inl ha⟩, S1.mem.fresh hD, S1.mem.ex.fresh hD, upd_same, .nil, Nat.le_refl _, fun q hq => (nomatch hq), h0⟩
    · rw [upd_ne (ne_of_none ho hD)]; exact ho
    · rw [upd_ne (ne_of_none ho hD)]; exact ho
  refine ⟨fun i m H' => m = xs.length - i ∧ i ≤ xs.length ∧ Inn i H', ⟨_, rfl, Nat.zero_le _, z0⟩, ?_⟩
  rintro i m H' ⟨rfl, hil, θ2, B2, G2, L, acc, S2, g2, nD, fD, hD2, pm, al, tp, iv⟩
  by_cases hlt : i < xs.length
  · obtain ⟨go, yl⟩ := wk.step i G2 H' g2.gx S2.mem.ex hlt
    refine .inr ⟨go, Inn (i + 1), fun H3 z => ⟨_, by omega, rfl, hlt, z⟩, fun v H3 y => ?_⟩
    obtain ⟨G3, s3, hd⟩ := yl v H3 y
    obtain ⟨d, hxd⟩ : ∃ d, xs[i]? = some d := ⟨xs[i], by simp [hlt]⟩
    have S3 := s3.st S2
    obtain ⟨b1, b2, b3⟩ := besideO (s3.gr (θ := θ2)) nD fD hD2
    refine hq _ _ _ _ (hg _ _ _ _ ⟨θ2, wipeA A vs, B2, G3, _, _, wipe_st S3 vs, (hd d hxd).v, turn i d acc B2 hxd iv, fun θ4 A4 B4 σ4 G4 H4 g4 S4 k4 => ?_⟩) _ (wipe_idem σ vs)
    obtain ⟨c1, c2, c3⟩ := besideO g4 b1 b2 b3
    have back4 : StOk K θ4 A B4 σ G4 H4 := ⟨S4.mem, S3.slots.mono g4.gx g4.th⟩
    refine ⟨θ4, A4, B4, G4, _, S4, k4, fun θ5 B5 G5 H5 bb g5 S5 k5 => ?_⟩
    obtain ⟨d1, d2, d3⟩ := besideO g5 c1 c2 c3
    have g35 := (((g2.trans s3.gr).trans g4).trans g5)
    have tp5 : ∀ q ∈ L, TupF G5 q.1 (q.2.map V.str) := fun q hq => (((tp q hq).ex s3.gx).ex g4.gx).ex g5.gx
    cases bb with
    | true =>
      refine iteT ⟨θ5, A4, B5, G5, _, S5, k5.1 rfl, fun θ6 B6 G6 H6 z w g6 S6 hz k6 => ?_⟩
      obtain ⟨e1, e2, e3⟩ := besideO g6 d1 d2 d3
      obtain ⟨ks, rfl, k7⟩ := k6
      cases hz with
      | d hz =>
      obtain ⟨bt, rfl, hbt⟩ := strs_of hz
      have ln : L.length = acc.length := by rw [← pm.length_eq, List.length_map]
      refine ⟨bt, ks, L, rfl, (hbt.ex S6.mem.ex).sq, e3, fun q hq => (((tp5 q hq).ex g6.gx).ex S6.mem.ex).sq, by omega, fun L' m1 m2 => ?_⟩
      have mem : ks ∈ L.map Prod.snd ↔ ks ∈ acc := pm.mem_iff
      refine ⟨θ6, B6, G6, L', insK acc ks, ⟨⟨S6.mem.ex.side e2, S6.mem.cells.mono (Ext.refl _) fun a ha o ho => ?_, S6.mem.nd, S6.mem.free⟩, back4.slots.mono (g5.gx.trans g6.gx) (g5.th.trans g6.th)⟩, ?_, e1, e2, upd_same, ?_, Nat.le_trans (insK_len acc ks) (by omega), ?_, k7⟩
      · rw [upd_ne fun q : a = D => e1 (by rw [← q]; exact ha)]
        exact ho
      · have g36 := g35.trans g6
        exact ⟨g36.gx, g36.th, fun a o ha hn => by
          rw [upd_ne (ne_of_none ha hD)]
          exact g36.keep a o ha hn, g36.new, g36.gnew⟩
      · by_cases hk : ks ∈ acc
        · rw [m1 (mem.mpr hk), insK, if_pos hk]; exact pm
        · rw [insK, if_neg hk]
          exact ((m2 fun z => hk (mem.mp z)).map Prod.snd).trans (pm.cons ks)
      · intro q hq
        by_cases hk : ks ∈ acc
        · rw [m1 (mem.mpr hk)] at hq
          exact (tp5 q hq).ex g6.gx
        · rcases List.mem_cons.mp ((m2 fun z => hk (mem.mp z)).mem_iff.mp hq) with z | z
          · subst z; exact hbt
          · exact (tp5 q z).ex g6.gx
    | false =>
      exact iteF ⟨θ5, B5, G5, L, acc, ⟨S5.mem, back4.slots.mono g5.gx g5.th⟩, g35, d1, d2, d3, pm, by omega, tp5, k5.2 rfl⟩
  · have e : i = xs.length := by omega
    subst e
    have ln : L.length = acc.length := by rw [← pm.length_eq, List.length_map]
    refine .inl ⟨wk.stop H' (g2.gx.trans S2.mem.ex), L, hD2, D, L, rfl, hD2, ?_⟩
    rw [ln]
    exact q θ2 B2 G2 H' _ _ (g1.trans g2) ⟨S2.mem, S1.slots.mono g2.gx g2.th⟩ (.d (.int _)) (done acc B2 iv)
end
end Dl

namespace Dl
open L2 PySem PyProof.Rows PySem.Spec
section
variable {P : Program} {w : World} {A : Around} {E : Value → Shared → Prop} {s : Shared}
theorem upd_loop {I : Addr} {fp wr : List Addr} {Gg : Array GenState → Array GenState → Prop} {n : Nat} {Pv : Nat → Value → Prop} {St : Nat → Shared → Prop} {R : Result → Shared → Prop} (W : WalksS P w A.in1 I fp wr Gg n Pv St) (S : Addr) (hSf : S ∉ fp) (Gd : Nat → Heap → Prop)
    (keep : ∀ i h h', Gd i h → (∀ b o, b ∉ wr → h.get? b = some o → h'.get? b = some o) → Gd i h')
    (step : ∀ (i : Nat) (v : Value) (s : Shared) (E : Value → Shared → Prop) (Q : Bool → Shared → Prop), i < n → Pv i v → Gd i s.heap → (∀ b h' tk, s.toks ≤ tk → Heap.SameBut S s.heap h' → Gd (i + 1) h' → Q b { s with heap := h', toks := tk }) → wpAny (model P w) A.in1 (setAdd S v) Q E s) :
    ∀ (k i : Nat) (s : Shared), n - i = k → i ≤ n → St i s → Gd i s.heap → (∀ s', Moved (S :: wr) Gg s s' → Gd n s'.heap → R (.ok (.ret .none)) s') → codeAny (model P w) A (.builtin "set.update.loop" ⟨[.ref S, .ref I], []⟩) R s := by
  have Sw : S ∉ wr := fun h => hSf (W.sub _ h)
  have more : ∀ b ∈ wr, b ∈ S :: wr := fun b hb => List.mem_cons_of_mem _ hb
  intro k
  induction k with
  | zero =>
    intro i s hk hi st gd fin
    obtain rfl : i = n := by omega
    refine codeAny_builtin F.entry_set_update_loop ?_
    rw [Around.under_plainId F.plain_set_update_loop _]
    refine wpAny_bind (W.done s _ _ st fun s' mv => ?_)
    exact wpAny_pure (fin s' (mv.mono more) (keep _ _ _ gd fun b o hb e => mv.heap b o hb e))
  | succ k ih =>
    intro i s hk hi st gd fin
    have lt : i < n := by omega
    refine codeAny_builtin F.entry_set_update_loop ?_
    rw [Around.under_plainId F.plain_set_update_loop _]
    refine wpAny_bind (W.item i s _ _ lt st fun v s' hP st' mv => ?_)
    refine wpAny_bind (wpAny_holding (step i v s' _ _ lt hP (keep _ _ _ gd fun b o hb e => mv.heap b o hb e) fun bb h' tk le sb gd' => ?_))
    refine wpAny_pure ⟨plainId_quiet F.plain_set_update_loop _, ih (i + 1) _ (by omega) lt (W.frame _ s' _ _ st' le fun b hb o e => ?_) gd' fun s2 mv2 gd2 => ?_⟩
    · exact (sb.2 b (fun z : b = S => hSf (by rw [← z]; exact hb))).trans e
    · refine fin s2 (Moved.trans W.gtrans ((mv.mono more).then_heap le fun b o hb e => ?_) mv2) gd2
      exact (sb.2 b (fun z : b = S => hb (by rw [z]; exact List.mem_cons_self))).trans e
theorem call_set_list {l : Addr} {items : Array Value} {Q : Value → Shared → Prop} (hh : A.handled = none) (hl : s.heap.IsList l items) (Gd : Nat → Heap → Prop)
    (keep : ∀ i h h', Gd i h → (∀ b o, b < s.heap.objs.size + 1 → h.get? b = some o → h'.get? b = some o) → Gd i h') (new : ∀ h b, h.get? s.heap.objs.size = some { cls := .type "set", dict := none, data := .set #[] 0 (.fresh 0 0 b) } → (∀ b o, s.heap.get? b = some o → h.get? b = some o) → Gd 0 h)
    (step : ∀ (i : Nat) (v : Value) (z : Shared) (E : Value → Shared → Prop) (Q : Bool → Shared → Prop), items[i]? = some v → Gd i z.heap → (∀ b h' tk, z.toks ≤ tk → Heap.SameBut s.heap.objs.size z.heap h' → Gd (i + 1) h' → Q b { z with heap := h', toks := tk }) → wpAny (model P w) A.in1.in1.in1 (setAdd s.heap.objs.size v) Q E z)
    (h : ∀ (h' : Heap) (tk : Nat), Gd items.size h' → (∀ b o, s.heap.get? b = some o → h'.get? b = some o) → Q (.ref s.heap.objs.size) { s with heap := h', toks := tk }) : wpAny (model P w) A (call (.type "set") [.ref l]) Q E s := by
  obtain ⟨c, tl, hmro⟩ := F.called_set.mro
  have m1 := F.called_set.made
  have m2 := F.called_set.sub
  have m3 := F.called_set.notType
  have m4 := F.called_set.canCreate
  have m5 := F.typeCall_set_1 (.ref l)
  refine wpAny_call (codeAny_of_tree ?_)
  refine wpAny_pure ⟨Code.quiet_builtin _ (by decide +kernel), codeAny_builtin F.entry_type_call ?_⟩
  rw [Around.under_plain (weight_type_call_type "set" [.ref l] []) rfl]
  repeat (any_goals (first | assumption | wp_step))
  refine codeAny_mono (code_set_led1 (.ref l) (E := E) (Q₁ := fun obj z => obj = .ref s.heap.objs.size ∧ z = { s with heap := s.heap.push { cls := .type "set", dict := none, data := .set #[] 0 (.fresh 0 0 (!w.params.followText "set-order")) } }) ⟨rfl, rfl⟩) fun r z hr => ?_
  cases r with
  | error e => exact hr
  | ok fl =>
  cases fl with
  | ret obj =>
    obtain ⟨rfl, rfl⟩ := hr
    have at1 : (s.heap.push { cls := .type "set", dict := none, data := .set #[] 0 (.fresh 0 0 (!w.params.followText "set-order")) }).get? s.heap.objs.size = some { cls := .type "set", dict := none, data := .set #[] 0 (.fresh 0 0 (!w.params.followText "set-order")) } := Heap.get?_push_size _ rfl
    have ty : Shared.TypeIs { s with heap := s.heap.push { cls := .type "set", dict := none, data := .set #[] 0 (.fresh 0 0 (!w.params.followText "set-order")) } } (.ref s.heap.objs.size) "set" := ⟨_, at1, rfl⟩
    have i1 := F.called_set.init.lookup
    have i2 := F.called_set.init.bind (.ref s.heap.objs.size)
    repeat (any_goals (first | assumption | wp_step))
    refine codeAny_mono (codeAny_call_builtin (R := wants (fun r z => r = .none ∧ ∃ h' tk, z = { s with heap := h', toks := tk } ∧ Gd items.size h' ∧ ∀ b o, s.heap.get? b = some o → h'.get? b = some o) E) F.called_set.init.plain F.entry_set_init (check_set_init_1 ty ?_)) fun r2 z2 hr2 => ?_
    · obtain ⟨ol, hol, hcl, nl, hdl⟩ := hl
      obtain ⟨ocls, odict, odata, oslots⟩ := ol
      simp only at hcl hdl
      subst hcl
      subst hdl
      have hol2 : (s.heap.push { cls := .type "set", dict := none, data := .set #[] 0 (.fresh 0 0 (!w.params.followText "set-order")) }).get? l = some { cls := .type "list", dict := odict, data := .seq items nl, slots := oslots } := Heap.get?_push_of_some _ hol
      have k1 := F.sub_list_set
      have k2 := F.sub_list_frozenset
      have k3 : (Value.type "list" == Value.type "dict") = false := by decide
      have l1 : (s.heap.push { cls := .type "set", dict := none, data := .set #[] 0 (.fresh 0 0 (!w.params.followText "set-order")) }).IsList l items := ⟨_, hol2, rfl, nl, rfl⟩
      unfold Builtin.«set.__init__» noKeywords Builtin.Frozenset.updateFrom
      generalize hPI : pyIter = PI
      wp_walk
      subst hPI
      refine wpAny_pyIter_list l1 (wpAny_bind (wpAny_runValue ?_))
      have low : l < s.heap.objs.size := Heap.lt_size hol
      have hh3 : A.in1.in1.in1.handled = none := by simp [hh]
      have sz1 : (s.heap.push { cls := .type "set", dict := none, data := .set #[] 0 (.fresh 0 0 (!w.params.followText "set-order")) }).objs.size = s.heap.objs.size + 1 := Heap.size_push ..
      have far : l ≠ (s.heap.push { cls := .type "set", dict := none, data := .set #[] 0 (.fresh 0 0 (!w.params.followText "set-order")) }).objs.size := by rw [sz1]; exact Nat.ne_of_lt (Nat.lt_succ_of_lt low)
      refine upd_loop ((Walks.list hh3 _ l far items).toS) s.heap.objs.size (by rw [sz1]; simp only [List.mem_cons, List.not_mem_nil, or_false, not_or]; exact ⟨Nat.ne_of_lt (Nat.lt_succ_self _), Nat.ne_of_gt low⟩) Gd (fun i h h' g k => keep i h h' g fun b o hb e => k b o (by rw [sz1]; simp only [List.mem_cons, List.not_mem_nil, or_false]; exact Nat.ne_of_lt hb) e) (fun i v z E Q _ hv g q => step i v z E Q hv g q) (items.size - 0) 0 _ (by omega) (Nat.zero_le _)
        ⟨⟨_, Heap.get?_push_size _ rfl, rfl, rfl⟩, (l1.push _)⟩ (new _ _ (Heap.get?_push_of_some _ at1) fun b o e => Heap.get?_push_of_some _ (Heap.get?_push_of_some _ e)) ?fin
      case fin =>
        intro z mv gd
        obtain ⟨h', g2, d', tk', os'⟩ := z
        have eg : g2 = s.gens := mv.gens
        have ed : d' = s.drawn := mv.drawn
        have eo : os' = s.os := mv.os
        subst eg
        subst ed
        subst eo
        refine wpAny_pure ?_
        refine wpAny_pure ⟨rfl, h', tk', rfl, gd, fun b o e => ?_⟩
        have b0 : b < s.heap.objs.size := Heap.lt_size e
        exact mv.heap b o (by rw [sz1]; simp only [List.mem_cons, List.not_mem_nil, or_false, not_or]; exact ⟨Nat.ne_of_lt b0, Nat.ne_of_lt (Nat.lt_succ_of_lt b0)⟩) (Heap.get?_push_of_some _ (Heap.get?_push_of_some _ e))
    · cases r2 with
      | error e => exact hr2
      | ok f2 =>
      cases f2 with
      | ret r =>
        obtain ⟨rfl, h', tk, rfl, gd, kk⟩ := hr2
        repeat (any_goals (first | assumption | wp_step))
        exact h _ _ gd kk
      | _ => exact hr2.elim
  | _ => exact hr.elim
theorem call_set_tuple {l : Addr} {items : Array Value} {Q : Value → Shared → Prop} (hh : A.handled = none) (hl : s.heap.IsTuple l items) (Gd : Nat → Heap → Prop)
    (keep : ∀ i h h', Gd i h → (∀ b o, b < s.heap.objs.size + 1 → h.get? b = some o → h'.get? b = some o) → Gd i h') (new : ∀ h b, h.get? s.heap.objs.size = some { cls := .type "set", dict := none, data := .set #[] 0 (.fresh 0 0 b) } → (∀ b o, s.heap.get? b = some o → h.get? b = some o) → Gd 0 h)
    (step : ∀ (i : Nat) (v : Value) (z : Shared) (E : Value → Shared → Prop) (Q : Bool → Shared → Prop), items[i]? = some v → Gd i z.heap → (∀ b h' tk, z.toks ≤ tk → Heap.SameBut s.heap.objs.size z.heap h' → Gd (i + 1) h' → Q b { z with heap := h', toks := tk }) → wpAny (model P w) A.in1.in1.in1 (setAdd s.heap.objs.size v) Q E z)
    (h : ∀ (h' : Heap) (tk : Nat), Gd items.size h' → (∀ b o, s.heap.get? b = some o → h'.get? b = some o) → Q (.ref s.heap.objs.size) { s with heap := h', toks := tk }) : wpAny (model P w) A (call (.type "set") [.ref l]) Q E s := by
  obtain ⟨c, tl, hmro⟩ := F.called_set.mro
  have m1 := F.called_set.made
  have m2 := F.called_set.sub
  have m3 := F.called_set.notType
  have m4 := F.called_set.canCreate
  have m5 := F.typeCall_set_1 (.ref l)
  refine wpAny_call (codeAny_of_tree ?_)
  refine wpAny_pure ⟨Code.quiet_builtin _ (by decide +kernel), codeAny_builtin F.entry_type_call ?_⟩
  rw [Around.under_plain (weight_type_call_type "set" [.ref l] []) rfl]
  repeat (any_goals (first | assumption | wp_step))
  refine codeAny_mono (code_set_led1 (.ref l) (E := E) (Q₁ := fun obj z => obj = .ref s.heap.objs.size ∧ z = { s with heap := s.heap.push { cls := .type "set", dict := none, data := .set #[] 0 (.fresh 0 0 (!w.params.followText "set-order")) } }) ⟨rfl, rfl⟩) fun r z hr => ?_
  cases r with
  | error e => exact hr
  | ok fl =>
  cases fl with
  | ret obj =>
    obtain ⟨rfl, rfl⟩ := hr
    have at1 : (s.heap.push { cls := .type "set", dict := none, data := .set #[] 0 (.fresh 0 0 (!w.params.followText "set-order")) }).get? s.heap.objs.size = some { cls := .type "set", dict := none, data := .set #[] 0 (.fresh 0 0 (!w.params.followText "set-order")) } := Heap.get?_push_size _ rfl
    have ty : Shared.TypeIs { s with heap := s.heap.push { cls := .type "set", dict := none, data := .set #[] 0 (.fresh 0 0 (!w.params.followText "set-order")) } } (.ref s.heap.objs.size) "set" := ⟨_, at1, rfl⟩
    have i1 := F.called_set.init.lookup
    have i2 := F.called_set.init.bind (.ref s.heap.objs.size)
    repeat (any_goals (first | assumption | wp_step))
    refine codeAny_mono (codeAny_call_builtin (R := wants (fun r z => r = .none ∧ ∃ h' tk, z = { s with heap := h', toks := tk } ∧ Gd items.size h' ∧ ∀ b o, s.heap.get? b = some o → h'.get? b = some o) E) F.called_set.init.plain F.entry_set_init (check_set_init_1 ty ?_)) fun r2 z2 hr2 => ?_
    · obtain ⟨ol, hol, hcl, nl, hdl⟩ := hl
      obtain ⟨ocls, odict, odata, oslots⟩ := ol
      simp only at hcl hdl
      subst hcl
      subst hdl
      have hol2 : (s.heap.push { cls := .type "set", dict := none, data := .set #[] 0 (.fresh 0 0 (!w.params.followText "set-order")) }).get? l = some { cls := .type "tuple", dict := odict, data := .seq items nl, slots := oslots } := Heap.get?_push_of_some _ hol
      have k1 := F.sub_tuple_set
      have k2 := F.sub_tuple_frozenset
      have k3 : (Value.type "tuple" == Value.type "dict") = false := by decide
      have l1 : (s.heap.push { cls := .type "set", dict := none, data := .set #[] 0 (.fresh 0 0 (!w.params.followText "set-order")) }).IsTuple l items := ⟨_, hol2, rfl, nl, rfl⟩
      unfold Builtin.«set.__init__» noKeywords Builtin.Frozenset.updateFrom
      generalize hPI : pyIter = PI
      wp_walk
      subst hPI
      refine wpAny_pyIter_tuple l1 (wpAny_bind (wpAny_runValue ?_))
      have low : l < s.heap.objs.size := Heap.lt_size hol
      have hh3 : A.in1.in1.in1.handled = none := by simp [hh]
      have sz1 : (s.heap.push { cls := .type "set", dict := none, data := .set #[] 0 (.fresh 0 0 (!w.params.followText "set-order")) }).objs.size = s.heap.objs.size + 1 := Heap.size_push ..
      have far : l ≠ (s.heap.push { cls := .type "set", dict := none, data := .set #[] 0 (.fresh 0 0 (!w.params.followText "set-order")) }).objs.size := by rw [sz1]; exact Nat.ne_of_lt (Nat.lt_succ_of_lt low)
      refine upd_loop ((Walks.tuple hh3 _ l far items).toS) s.heap.objs.size (by rw [sz1]; simp only [List.mem_cons, List.not_mem_nil, or_false, not_or]; exact ⟨Nat.ne_of_lt (Nat.lt_succ_self _), Nat.ne_of_gt low⟩) Gd (fun i h h' g k => keep i h h' g fun b o hb e => k b o (by rw [sz1]; simp only [List.mem_cons, List.not_mem_nil, or_false]; exact Nat.ne_of_lt hb) e) (fun i v z E Q _ hv g q => step i v z E Q hv g q) (items.size - 0) 0 _ (by omega) (Nat.zero_le _)
        ⟨⟨_, Heap.get?_push_size _ rfl, rfl, rfl⟩, (l1.push _)⟩ (new _ _ (Heap.get?_push_of_some _ at1) fun b o e => Heap.get?_push_of_some _ (Heap.get?_push_of_some _ e)) ?fin
      case fin =>
        intro z mv gd
        obtain ⟨h', g2, d', tk', os'⟩ := z
        have eg : g2 = s.gens := mv.gens
        have ed : d' = s.drawn := mv.drawn
        have eo : os' = s.os := mv.os
        subst eg
        subst ed
        subst eo
        refine wpAny_pure ?_
        refine wpAny_pure ⟨rfl, h', tk', rfl, gd, fun b o e => ?_⟩
        have b0 : b < s.heap.objs.size := Heap.lt_size e
        exact mv.heap b o (by rw [sz1]; simp only [List.mem_cons, List.not_mem_nil, or_false, not_or]; exact ⟨Nat.ne_of_lt b0, Nat.ne_of_lt (Nat.lt_succ_of_lt b0)⟩) (Heap.get?_push_of_some _ (Heap.get?_push_of_some _ e))
    · cases r2 with
      | error e => exact hr2
      | ok f2 =>
      cases f2 with
      | ret r =>
        obtain ⟨rfl, h', tk, rfl, gd, kk⟩ := hr2
        repeat (any_goals (first | assumption | wp_step))
        exact h _ _ gd kk
      | _ => exact hr2.elim
  | _ => exact hr.elim
end
end Dl

namespace Dl
open L2 PySem PyProof.Rows PySem.Spec
section
variable {P : Program} {w : World} {A : Around} {E : Value → Shared → Prop} {s : Shared}
def TxG (P : Program) (w : World) (a : Addr) (h : Heap) (l : List Str) : Prop := ∃ D, h.get? a = some (PySem.Froz.sObj "set" D) ∧ PySem.Froz.TxOk P w D l
theorem tx_again {a : Addr} {T : String} {D : PySem.Froz.SD} {l : List Str} {k : Str} {u : Tok} {Q : Bool → Shared → Prop} (get : s.heap.get? a = some (PySem.Froz.sObj T D)) (F : PySem.Froz.TxOk P w D l) (hk : k ∈ l) (hb : l.length < scanBound) (h : Q false s) : wpAny (model P w) A (setAddHashed a (.str k u) (hashStr w k)) Q E s := by
  obtain ⟨es, ep, t⟩ := D
  have hd : (PySem.Froz.sObj T (es, ep, t)).data = .set es ep t := rfl
  have sz : es.size = l.length := F.sz
  obtain ⟨e, he, eq⟩ := (F.mem k).mp hk
  obtain ⟨j, hj⟩ : ∃ j, List.findIdx? (fun e => (strKind P w).is k e.2) es.toList = some j := by
    cases q : List.findIdx? (fun e => (strKind P w).is k e.2) es.toList with
    | some j => exact ⟨j, rfl⟩
    | none =>
      rw [List.findIdx?_eq_none_iff] at q
      rw [q e he] at eq
      cases eq
  unfold setAddHashed setAddHashedIn
  refine wpAny_holding (wpAny_bind (wpAny_setState_of get hd F.fit ?_))
  dsimp only
  rw [byScan_of (knd := strKind P w) (es := es) rfl (by omega) F.el]
  simp only [↓reduceIte]
  unfold setAddByScan
  refine wpAny_bind (wpAny_bind (wpAny_rule (wpAny_bind (wpAny_setScan_of (knd := strKind P w) (k := k) (PySem.Froz.is_str k u) get hd F.fit F.el ?_))))
  rw [hj]
  dsimp only
  exact wpAny_pure (wpAny_pure h)
theorem tx_add {a : Addr} {l : List Str} {k : Str} {u : Tok} {Q : Bool → Shared → Prop} (G : TxG P w a s.heap l) (hb : l.length + 1 < scanBound)
    (h : ∀ b h' tk, s.toks ≤ tk → Heap.SameBut a s.heap h' → TxG P w a h' (insK l k) → Q b { s with heap := h', toks := tk }) : wpAny (model P w) A (setAdd a (.str k u)) Q E s := by
  obtain ⟨D, get, F⟩ := G
  unfold setAdd
  refine wpAny_holding (wpAny_bind ((strKind P w).pyHash (PySem.Froz.is_str k u) ?_))
  by_cases hk : k ∈ l
  · refine tx_again (s := { s with toks := s.toks + 1 }) get F hk (by omega) (h _ _ _ (Nat.le_succ _) (Heap.SameBut.refl a s.heap) ⟨D, get, ?_⟩)
    rw [insK, if_pos hk]
    exact F
  · refine PySem.Froz.add_x (s := { s with toks := s.toks + 1 }) get F hk hb (h _ _ _ (Nat.le_succ _) (Heap.SameBut.update ..) ⟨_, PySem.Froz.get_upd _ get rfl, ?_⟩)
    rw [insK, if_neg hk]
    exact PySem.Froz.add_ok u F
end
section
variable {X : Cx}
def rLenSet (K : PySem.W.Frag) : V → Hp → VK → Prop := fun x H Q => ∃ l, ∃ xs : List Str, x = .ref l ∧ (SqL K H l (xs.map V.str) ∨ SqT K H l (xs.map V.str)) ∧ xs.length ≤ 1000 ∧ Q (.int (dedK xs).length) H
theorem txg_keep {P : Program} {w : World} {a : Addr} {h h' : Heap} {l : List Str} (G : TxG P w a h l) (k : ∀ o, h.get? a = some o → h'.get? a = some o) : TxG P w a h' l := let ⟨D, e, F⟩ := G; ⟨D, k _ e, F⟩
theorem strs_at2 : ∀ {xs : List Str} {its : List Value}, Vals (xs.map V.str) its → ∀ {i : Nat} {v : Value}, its[i]? = some v → ∃ t x, v = .str x t ∧ xs.take (i + 1) = xs.take i ++ [x]
  | [], _, .nil, i, v, h => by simp at h
  | x :: ys, _, .cons r0 rt, 0, v, h => by
    simp at h
    subst h
    obtain ⟨t, e⟩ := r0
    exact ⟨t, x, e, rfl⟩
  | x :: ys, _, .cons r0 rt, i + 1, v, h => by
    obtain ⟨t, y, e1, e2⟩ := strs_at2 rt (i := i) (by simpa using h)
    exact ⟨t, y, e1, by rw [List.take_succ_cons, e2, List.take_succ_cons, List.cons_append]⟩
theorem pe_lenSetS {a : Expr} {ta : TE} {p p2 q pos : Pos} (hc : X.calm = true) (hg : Gl X "len") (hm : X.mg "len" = none) (hg2 : Gl X "set") (hm2 : X.mg "set" = none) (ha : PE X a ta) (na : starEach [a] X.env = (false, eval a X.env) :: starEach [] X.env) :
    PE X (.Call (.Name "len" p) [.Call (.Name "set" p2) [a] [] q] [] pos) (tUn (rLenSet X.K) ta) := by
  refine ⟨fun pins s σ H Q I h => ?_⟩
  refine Call_ (ld_blt I hg hm PySem.boot_len (PyProof.Rows.callWith_builtin1 (PyProof.Rows.args_cons ?_ rfl) rfl rfl))
  refine Call_ (ld_blt I hg2 hm2 PyProof.Rows.boot_set ?_)
  refine PyProof.Rows.callWith_type1 (PyProof.Rows.args_cons (thn (ha.run pins s σ H _ I h) fun v s1 ⟨x, H1, I1, r1, q1⟩ => PyProof.Rows.args_nil ?_) na) na rfl
  obtain ⟨l, xs, rfl, hq, hl, q1⟩ := q1
  cases r1
  have last : ∀ (its : List Value), Vals (xs.map V.str) its → ∀ (h' : Heap) (tk : Nat), TxG X.prog X.w s1.heap.objs.size h' (dedK (xs.take its.toArray.size)) → (∀ b o, s1.heap.get? b = some o → h'.get? b = some o) →
      wpAny (model X.prog X.w) X.A (spliced (backTo pos (starEach [] X.env))) (fun vs s₂ => wpAny (model X.prog X.w) X.A (call (.builtin "len") (Value.ref s1.heap.objs.size :: vs)) (EP X pins σ Q) X.xe s₂) X.xe { s1 with heap := h', toks := tk } := fun its r h' tk ⟨D, get, F⟩ kk => by
    refine PyProof.Rows.args_nil ?_
    have ln : its.toArray.size = xs.length := by rw [List.size_toArray, ← r.length, List.length_map]
    rw [ln, List.take_length] at F
    have I2 : Inv X pins σ H1 { s1 with heap := h', toks := tk } := I1.kept kk
    have small := dedK_len xs
    have sz := F.sz
    exact call_len_set get ⟨rfl, rfl, rfl⟩ rfl F.fit (by rw [sz]; omega) ⟨.int (dedK xs).length, H1, I2.tok _, ⟨_, by rw [sz]⟩, q1⟩
  have z0 : ∀ (h : Heap) (b : Bool), h.get? s1.heap.objs.size = some { cls := .type "set", dict := none, data := .set #[] 0 (.fresh 0 0 b) } → TxG X.prog X.w s1.heap.objs.size h (dedK (xs.take 0)) := fun h b e => ⟨(#[], 0, .fresh 0 0 b), e, PySem.Froz.TxOk.nil rfl⟩
  have bd : ∀ i, (dedK (xs.take i)).length + 1 < scanBound := fun i => by
    have := dedK_len (xs.take i)
    have : (xs.take i).length ≤ xs.length := by rw [List.length_take]; omega
    unfold scanBound
    omega
  rcases hq with hq | hq
  · obtain ⟨its, r, pl, hz⟩ := I1.list hq
    refine call_set_list (I1.ok.hd hc) pl.isList (fun i h => TxG X.prog X.w s1.heap.objs.size h (dedK (xs.take i))) (fun i h h' g k => txg_keep g fun o e => k _ o (Nat.lt_succ_self _) e) (fun h b e _ => z0 h b e) (fun i v z E Q hv g q => ?_) fun h' tk g kk => last its r h' tk g kk
    obtain ⟨t, x, rfl, ex⟩ := strs_at2 r (i := i) (v := v) (by simpa using hv)
    refine tx_add g (bd i) fun b h' tk le sb g2 => q b h' tk le sb ?_
    show TxG _ _ _ _ (dedK (xs.take (i + 1)))
    rw [ex, dedK_snoc]
    exact g2
  · obtain ⟨its, r, pl, hz⟩ := I1.tuple hq
    refine call_set_tuple (I1.ok.hd hc) pl (fun i h => TxG X.prog X.w s1.heap.objs.size h (dedK (xs.take i))) (fun i h h' g k => txg_keep g fun o e => k _ o (Nat.lt_succ_self _) e) (fun h b e _ => z0 h b e) (fun i v z E Q hv g q => ?_) fun h' tk g kk => last its r h' tk g kk
    obtain ⟨t, x, rfl, ex⟩ := strs_at2 r (i := i) (v := v) (by simpa using hv)
    refine tx_add g (bd i) fun b h' tk le sb g2 => q b h' tk le sb ?_
    show TxG _ _ _ _ (dedK (xs.take (i + 1)))
    rw [ex, dedK_snoc]
    exact g2
theorem rd_lenSet {K : PySem.W.Frag} : RD1 K (rLenSet K) (aD1 dLenSet) := rd1_data fun G H v d P Q ex t1 h q => by
  unfold dLenSet at h
  split at h
  · obtain ⟨ss, e, l, k⟩ := h
    obtain ⟨a, vs, rfl, e1, d1⟩ := t1.list ex
    rw [toStrs_of e] at d1
    rw [dqAll_strs d1] at e1
    exact ⟨a, ss, rfl, .inl (SqL.of e1), l, q _ _ _ _ (res_int ex) k⟩
  · obtain ⟨ss, e, l, k⟩ := h
    obtain ⟨a, vs, rfl, e1, d1⟩ := t1.tuple ex
    rw [toStrs_of e] at d1
    rw [dqAll_strs d1] at e1
    exact ⟨a, ss, rfl, .inr e1, l, q _ _ _ _ (res_int ex) k⟩
  · exact h.elim
theorem pd_lenSet {e : Expr} {fa : FE} {p p2 q pos : Pos} (hc : X.calm = true) (hg : Gl X "len") (hm : X.mg "len" = none) (hg2 : Gl X "set") (hm2 : X.mg "set" = none) (na : starEach [e] X.env = (false, eval e X.env) :: starEach [] X.env) (ha : PD X e fa) :
    PD X (.Call (.Name "len" p) [.Call (.Name "set" p2) [e] [] q] [] pos) (fUn (aD1 dLenSet) fa) := pd_un ha rd_lenSet fun ta h => pe_lenSetS hc hg hm hg2 hm2 h na
end
end Dl

namespace Dl
open L2 PySem PyProof.Rows PySem.Spec
section
variable {X : Cx} {K : PySem.W.Frag} {θ θ' : Th} {A : Env} {B : Mem} {σ : L2.St} {G H : Hp} {e a o : Expr} {es : List Expr} {fo fa : FE} {fs : FA}
theorem tup_sq {v : V} {x : AV} {ss : List Str} (hv : AVok K G θ v x) (h : tupA x = some (ss.map .str)) : ∃ p, v = .ref p ∧ TupF G p (ss.map V.str) := by
  unfold tupA at h
  split at h
  · cases h
    cases hv with
    | d hd =>
      cases hd with
      | tup q d =>
        rw [dqAll_strs d] at q
        exact ⟨_, rfl, q⟩
  · cases h
theorem pd_idx {apos pos : Pos} (ho : PD X o fo) (ha : PD X a fa) (hb : attributeBase o "index" X.env (eval o X.env) = eval o X.env) (hl : (apos.endLine == pos.line) = true) (hn : notStar a = true) : PD X (.Call (.Attribute o "index" apos) [a] [] pos) (fIdx fo fa) :=
  ⟨PE.imp (pe_tm PySem.F.slot_tuple_index PySem.F.type_tuple_index mt_tup_index ho.pe (pa_cons ha.pe pa_nil (star_cons hn [] X.env)) hb (few_ok X.env pos (by simpa using hn) (by show 1 < 30; decide)) hl (star_cons hn [] X.env) rfl) fun σ H Q w => by
    obtain ⟨θ, A, B, G, k, S, hf, q⟩ := w
    refine ⟨θ, A, B, G, _, S, hf, fun θ1 B1 G1 H1 v x g1 S1 hv k1 => ?_⟩
    obtain ⟨ss, e1, k1⟩ := k1
    obtain ⟨p, rfl, sq⟩ := tup_sq hv e1
    refine ⟨⟨p, _, rfl, sq.ex S1.mem.ex⟩, θ1, A, B1, G1, _, S1, k1, fun θ2 B2 G2 H2 u y g2 S2 hu k2 => ?_⟩
    obtain ⟨z, j, rfl, h1, h2, h3⟩ := k2
    cases hu with
    | d hu =>
      cases hu
      exact ⟨p, ss, z, j, rfl, rfl, ((sq.ex g2.gx).ex S2.mem.ex).sq, h1, h2, q θ2 B2 G2 H2 _ _ (g1.trans g2) S2 (.d (.int _)) h3⟩⟩
theorem dq_rgV (a b : Int) : DqAll K G (rgV a b) (rangeD a (b - a).toNat) := by
  unfold rgV rangeD
  generalize List.range (b - a).toNat = l
  induction l with
  | nil => exact .nil
  | cons x l ih => exact .cons (.int _) ih
theorem pd_lrg1 {p p2 q pos : Pos} (ha : PD X a fa) (hg : Gl X "list") (hm : X.mg "list" = none) (hg2 : Gl X "range") (hm2 : X.mg "range" = none) (hc : X.calm = true) (hn : notStar a = true) : PD X (.Call (.Name "list" p) [.Call (.Name "range" p2) [a] [] q] [] pos) (fLrg1 fa) :=
  ⟨PE.imp (pe_listRg hc hg hm (prg_1 hg2 hm2 ha.pe (star_cons hn [] X.env)) rfl) fun σ H Q w => by
    obtain ⟨θ, A, B, G, k, S, hf, q⟩ := w
    refine ⟨θ, A, B, G, _, S, hf, fun θ1 B1 G1 H1 v x g1 S1 hv k1 => ?_⟩
    obtain ⟨j, rfl, h1, h2⟩ := k1
    rw [avInt hv]
    refine ⟨j, rfl, h1, fun l hl => ?_⟩
    exact st_fin S1 (res_lst S1.mem.ex hl (dq_rgV 0 j)) h2 fun θ2 B2 G2 H2 z w g2 S2 hz k2 => q θ2 B2 G2 H2 z w (g1.trans g2) S2 hz k2⟩
def tTupRgF (te : L2.St → Hp → (Int → Int → Hp → Prop) → Prop) : TE := fun σ H Q => te σ H fun a b H1 => RgOk a b ∧ FreshT Q H1 (rgV a b)
theorem pe_tupRgF {te : L2.St → Hp → (Int → Int → Hp → Prop) → Prop} {p pos : Pos} (hc : X.calm = true) (hg : Gl X "tuple") (hm : X.mg "tuple" = none) (he : PRg X e te) (na : starEach [e] X.env = (false, eval e X.env) :: starEach [] X.env := by rfl) : PE X (.Call (.Name "tuple" p) [e] [] pos) (tTupRgF te) := by
  refine ⟨fun pins s σ H Q I h => Call_ (ld_blt I hg hm boot_tuple (PyProof.Rows.callWith_type1 (args_cons (thn (he pins s σ H _ I h) fun x s1 ⟨r, a, b, t, u, v, H1, ex, hr, I1, ok, q⟩ => args_nil ?_) na) na))⟩
  subst ex
  obtain ⟨b1, b2, b3, b4, b5⟩ := ok
  refine call_tuple_range (n := (b - a).toNat) (I1.ok.hd hc) hr (small_one b1 b2 b3 b4) (rangeSize_nat a b) b5 fun h' tk acc hk hi => ?_
  have I2 : Inv X pins σ H1 { s1 with heap := h', toks := tk } := I1.kept hk
  have z : (rgV a b).length ≤ sizeLine := by rw [rgV_length, sizeLine_eq]; omega
  have w := lay_tup (tk := tk) I2 (vals_rg hi) z q
  rw [Array.toArray_toList] at w
  exact w
theorem pd_trg1 {p p2 q pos : Pos} (ha : PD X a fa) (hg : Gl X "tuple") (hm : X.mg "tuple" = none) (hg2 : Gl X "range") (hm2 : X.mg "range" = none) (hc : X.calm = true) (hn : notStar a = true) : PD X (.Call (.Name "tuple" p) [.Call (.Name "range" p2) [a] [] q] [] pos) (fTrg1 fa) :=
  ⟨PE.imp (pe_tupRgF hc hg hm (prg_1 hg2 hm2 ha.pe (star_cons hn [] X.env)) rfl) fun σ H Q w => by
    obtain ⟨θ, A, B, G, k, S, hf, q⟩ := w
    refine ⟨θ, A, B, G, _, S, hf, fun θ1 B1 G1 H1 v x g1 S1 hv k1 => ?_⟩
    obtain ⟨j, rfl, h1, h2⟩ := k1
    rw [avInt hv]
    refine ⟨j, rfl, h1, fun p ob hp dn => ?_⟩
    have s := Stp.new (o := .frz ob (.tup (rgV 0 j))) S1.mem.ex hp
    exact q θ1 B1 _ _ _ _ (g1.trans s.gr) ⟨s.mem S1.mem, S1.slots.mono s.gx (List.prefix_refl _)⟩ (.d (.tup (.new dn) (dq_rgV 0 j))) h2⟩
theorem tops_dp : ∀ {vs : List V} {ds : List PyData}, Ext G H → Tops K G H vs ds → DpAll K H vs ds
  | _, _, e, .nil => .nil
  | _, _, e, .cons h t => .cons (h.dp e) (tops_dp e t)
theorem Shown.mem {ds : List PyData} (h : Shown (.list ds)) : True := trivial
theorem pd_reprL {p pos pos2 : Pos} (hs : PDA X es fs) (hg : Gl X "repr") (hm : X.mg "repr" = none) (hq : Calm X.A) (hu : X.A.units + 65 < cLine) : PD X (.Call (.Name "repr" p) [.List es pos] [] pos2) (fL aReprL fs) := by
  refine ⟨⟨fun pins s σ H Q I w => ?_⟩⟩
  obtain ⟨θ, A, B, G, k, S, hf, q⟩ := w
  refine Call_ (ld_blt I hg hm (by decide +kernel : bootBuiltins ("repr" : Str) = some (.builtin "repr")) ?_)
  refine PyProof.Rows.callWith_builtin1 (PyProof.Rows.args_cons (thn ((pe_lst hs.pa).run pins s σ H (fun v H' => ∃ θ1 B1 G1 H1 a vs ds, v = .ref a ∧ H1 a = none ∧ H' = upd H1 a (.lst vs) ∧ Gr θ θ1 G H G1 H1 ∧ StOk X.K θ1 A B1 σ G1 H1 ∧ Tops X.K G1 H1 vs ds ∧ Shown (.list ds) ∧ k (.d (.str (PyData.shown (.list ds)))) B1) I
    ⟨θ, A, B, G, _, S, hf, fun θ1 B1 G1 H1 vs ws g1 S1 hv k1 => ?_⟩) fun v s1 ⟨x, H1, I1, r1, q1⟩ => PyProof.Rows.args_nil ?_) rfl) rfl rfl
  · obtain ⟨ds, t1, h1, h2, h3⟩ := wDL_of S1.mem hv k1
    have ln : vs.length = ds.length := t1.length
    exact ⟨by rw [ln]; exact h1, fun a ha => ⟨θ1, B1, G1, H1, a, vs, ds, rfl, ha, rfl, g1, S1, t1, h2, h3⟩⟩
  · obtain ⟨θ1, B1, G1, H2, a, vs, ds, rfl, ha, rfl, g1, S1, t1, h2, h3⟩ := q1
    have st := Stp.junk (o := .lst vs) S1.mem.ex ha
    have ext : Ext H2 (upd H2 a (.lst vs)) := Ext.new ha
    have all : DpAll X.K (upd H2 a (.lst vs)) vs ds := by
      have go : ∀ {vs : List V} {ds : List PyData} {H' : Hp}, Ext H2 H' → Ext G1 H2 → Tops X.K G1 H2 vs ds → DpAll X.K H' vs ds := fun {vs ds H'} e1 e2 t => by
        induction t with
        | nil => exact .nil
        | cons h _ ih =>
          refine .cons ?_ ih
          cases h with
          | sc h => exact dq_dp (dq_mono (e2.trans e1) h)
          | ls q h => exact .lst (SqL.of (e1 _ _ q)) (dqAll_dp (dqAll_mono (e2.trans e1) h))
          | kt q h => exact .tup (sqT_any q) (dqAll_dp (dqAll_mono ex_nil h))
      exact go ext S1.mem.ex t1
    have call := cr_repr hq hu pins s1 σ (upd H2 a (.lst vs)) [.ref a] [v] Q I1 (.cons r1 .nil) ⟨.ref a, .list ds, rfl, .lst (SqL.of upd_same) all, rfl, h2, q θ1 B1 G1 _ _ _ (g1.trans st.gr) (st.st S1) (.d (.str _)) h3⟩
    exact call
end
end Dl

namespace Dl
open L2 PySem PyProof.Rows PySem.Spec
section
variable {X : Cx} {K : PySem.W.Frag} {θ : Th} {A : Env} {B : Mem} {σ : L2.St} {G H : Hp} {a o : Expr} {fo fa : FE}
theorem kv_merge : ∀ {more : List (Key × V)} {md : List (Key × PyData)} {kvs : List (Key × V)} {kd : List (Key × PyData)}, KvOk K G kvs kd → KvOk K G more md → KvOk K G (mergeK kvs more) (mergeD kd md)
  | _, _, _, _, r, .nil => r
  | _, _, kvs, kd, r, .cons (k := k) (v := v) (d := d) h t => kv_merge (kvs := putK kvs k v) (kd := putD kd k d) (kv_put r k h) t
theorem cell_dK {v : V} {j : Nat} {kvs : List (Key × PyData)} (m : MemOk K θ B G H) (hv : AVok K G θ v (.m j)) (hb : B[j]? = some (.dK kvs)) : ∃ d us, v = .ref d ∧ θ[j]? = some [d] ∧ H d = some (.dK us) ∧ KvOk K G us kvs := by
  cases hv with
  | @m _ d as hk =>
    obtain ⟨c, h1, hc⟩ := m.cells.get hk
    rw [hb] at h1
    cases h1
    cases hc with
    | dK e r => exact ⟨d, _, rfl, hk, e, r⟩
theorem pd_upd {apos pos : Pos} (ho : PD X o fo) (ha : PD X a fa) (hb : attributeBase o "update" X.env (eval o X.env) = eval o X.env) (hl : (apos.endLine == pos.line) = true) (hn : notStar a = true) : PD X (.Call (.Attribute o "update" apos) [a] [] pos) (fUpd fo fa) :=
  ⟨PE.imp (pe_bm PySem.F.plainAttrs_dict PySem.F.slot_dict_update PySem.F.type_dict_update mt_upd ho.pe (pa_cons ha.pe pa_nil (star_cons hn [] X.env)) hb (few_ok X.env pos (by simpa using hn) (by show 1 < 30; decide)) hl (star_cons hn [] X.env) rfl) fun σ H Q w => by
    obtain ⟨θ, A, B, G, k, S, hf, q⟩ := w
    refine ⟨θ, A, B, G, _, S, hf, fun θ1 B1 G1 H1 v x g1 S1 hv k1 => ?_⟩
    obtain ⟨j, kv0, rfl, hb0, k1⟩ := k1
    obtain ⟨d, us0, rfl, hk0, hd0, _⟩ := cell_dK S1.mem hv hb0
    refine ⟨.inr (.inr (.inl ⟨rfl, .inl ⟨_, hd0⟩⟩)), θ1, A, B1, G1, _, S1, k1, fun θ2 B2 G2 H2 u y g2 S2 hu k2 => ?_⟩
    obtain ⟨j2, kvs, more, rfl, ne, hb1, hb2, hz, h3⟩ := k2
    obtain ⟨d', us, e, hk, hd, r⟩ := cell_dK S2.mem (hv.gr g2) hb1
    cases e
    obtain ⟨d2, ms, rfl, hk2, hd2, r2⟩ := cell_dK S2.mem hu hb2
    have nd : d ≠ d2 := fun z => by
      subst z
      have := S2.mem.nd
      have key : ∀ (θ : Th) (i j : Nat), θ.flatten.Nodup → θ[i]? = some [d] → θ[j]? = some [d] → i = j := fun θ => by
        induction θ with
        | nil => intro i j _ h; simp at h
        | cons as θ ih =>
          intro i j hnd h1 h2
          rw [List.flatten_cons, List.nodup_append] at hnd
          have out : ∀ n, as = [d] → θ[n]? = some [d] → False := fun n e1 e2 => hnd.2.2 d (by rw [e1]; exact List.mem_singleton.mpr rfl) d (List.mem_flatten.mpr ⟨[d], List.mem_of_getElem? e2, List.mem_singleton.mpr rfl⟩) rfl
          cases i with
          | zero =>
            cases j with
            | zero => rfl
            | succ j => exact (out j (by simpa using h1) (by simpa using h2)).elim
          | succ i =>
            cases j with
            | zero => exact (out i (by simpa using h2) (by simpa using h1)).elim
            | succ j => rw [ih i j hnd.2.1 (by simpa using h1) (by simpa using h2)]
      exact ne (key θ2 j j2 this hk hk2)
    have l1 := kv_len r
    have l2 := kv_len r2
    have hc : CellOk X.K G2 (upd H2 d (.dK (mergeK us ms))) [d] (.dK (mergeD kvs more)) := .dK upd_same (kv_merge r r2)
    exact ⟨d, d2, us, ms, rfl, rfl, nd, hd, hd2, by omega, q θ2 _ G2 _ _ (.d .none) ((g1.trans g2).trans (mem_upd S2.mem hk (List.mem_singleton.mpr rfl) hc).2) (st_upd S2 hk (List.mem_singleton.mpr rfl) hc) (.d .non) h3⟩⟩
end
end Dl

namespace Dl
open L2 PySem PyProof.Rows PySem.Spec
section
variable {X : Cx} {K : PySem.W.Frag} {c : Ctx} {T : Nat → FT} {p : Cp} {x : Str} {e a b i o tg elt iter : Expr} {es ifs : List Expr} {kws : List Keyword} {q pos apos : Pos} {r : AE} {scope : Scope}
def ownOf (N : List Str) (scope : Scope) : List (Str × Nat) := scope.names.filterMap fun y => match y.2 with
  | .local => (find? N y.1).map fun i => (y.1, i)
  | .cell => (find? N y.1).map fun i => (y.1, i)
  | _ => none
def cIfs (p : Cp) (c : Ctx) : List Expr → Option AE
  | [] => some .omit
  | [t] => p.t c t
  | _ => none
theorem cIfs_ok (hp : CpOk p) (hc : CtxOk X c T) {r : AE} (h : cIfs p c ifs = some r) : PTs X ifs (tfT X.K (wpT T r)) := by
  unfold cIfs at h
  split at h
  · cases h
    refine ⟨fun pins s σ H Q I w => pts_nil.run pins s σ H Q I ?_⟩
    obtain ⟨θ, A, B, G, k, S, hf, q⟩ := w
    exact q θ B G H true Gr.refl S hf
  · exact pts_one (hp.t hc h).pt
  · cases h
def dictAt (c : Ctx) : Expr → Option Nat
  | .Name x pos => if pos.line ∈ c.dl then slotOf c x else none
  | _ => none
def cLc (p : Cp) (c : Ctx) (elt tg iter : Expr) (ifs : List Expr) (scope : Scope) : Option AE := gd (blkC c.N c.sc scope (ownOf c.N scope)) ((cG (c.blk scope) 8 tg).bind fun g =>
  gd ((slG g).all (fun i => decide (i ∈ (ownOf c.N scope).map (·.2)))) ((cIfs p (c.blk scope) ifs).bind fun t => (p.e (c.blk scope) elt).bind fun e =>
    match dictAt c iter with
    | some i => some (.lcD i g t e ((ownOf c.N scope).map (·.2)))
    | none => (cI p c tg iter).map fun it => .lc it g t e ((ownOf c.N scope).map (·.2))))
theorem slot_var (hc : CtxOk X c T) {i : Nat} (h : slotOf c x = some i) : PE X (.Name x pos) (tVar i) := by
  unfold slotOf at h
  split at h
  · rename_i hv
    rw [Bool.and_eq_true, Bool.not_eq_true'] at hv
    obtain ⟨s1, s2, s3⟩ := spec_ok hv.2
    exact pe_var (by rw [hc.hN]; exact find_ok h) (by rw [hc.sc]; exact vis_ok hv.1) s1 s2
  · cases h
theorem dictAt_ok (hc : CtxOk X c T) {i : Nat} (h : dictAt c iter = some i) : PE X iter (tVar i) ∧ noSet iter = true := by
  unfold dictAt at h
  split at h
  · split at h
    · exact ⟨slot_var hc h, rfl⟩
    · cases h
  · cases h
theorem lc_parts (hp : CpOk p) (hc : CtxOk X c T) (h : cLc p c elt tg iter ifs scope = some r) : ∃ (wi : TI) (g : TG) (tt : TT) (te : TE) (own : List (Str × Nat)), PI X tg iter wi ∧ BlkOk X.N X.env.scope scope own ∧
    (∀ (s : Shared) (H : Hp) (C : Addr) (cl : List (Str × Addr)) (fp : List Addr), PG (X.blk s H scope (compEnvC scope cl C X.env) fp) tg g) ∧
    (∀ (s : Shared) (H : Hp) (C : Addr) (cl : List (Str × Addr)) (fp : List Addr), PTs (X.blk s H scope (compEnvC scope cl C X.env) fp) ifs tt) ∧
    (∀ (s : Shared) (H : Hp) (C : Addr) (cl : List (Str × Addr)) (fp : List Addr), PE (X.blk s H scope (compEnvC scope cl C X.env) fp) elt te) ∧
    (∀ x, foldedSetIterable iter X.env x = pure x) ∧
    (((∃ i, dictAt c iter = some i) ∧ ∀ σ H Q, tf X.K (wpE T r) σ H Q → tLockE (tLc wi g tt te (own.map (·.2))) σ H Q) ∨ (dictAt c iter = none ∧ ∀ σ H Q, tf X.K (wpE T r) σ H Q → tLc wi g tt te (own.map (·.2)) σ H Q)) := by
  obtain ⟨g1, h⟩ := gd_of h
  obtain ⟨g, hg, h⟩ := bnd h
  obtain ⟨g2, h⟩ := gd_of h
  obtain ⟨t, ht, h⟩ := bnd h
  obtain ⟨e, he, h⟩ := bnd h
  have bk : BlkOk X.N X.env.scope scope (ownOf c.N scope) := by rw [hc.hN, hc.sc]; exact blkOk_by g1
  have inn := fun (s : Shared) (H : Hp) (C : Addr) (cl : List (Str × Addr)) (fp : List Addr) => hc.blk s H scope C cl fp bk.kind
  split at h
  · rename_i i hd
    cases h
    obtain ⟨d1, d2⟩ := dictAt_ok hc hd
    refine ⟨iKeys (tVar i), rawG X.K g, tfT X.K (wpT T t), tf X.K (wpE T e), ownOf c.N scope, pi_keys d1, bk, fun s H C cl fp => cG_ok (inn s H C cl fp) hg, fun s H C cl fp => cIfs_ok hp (inn s H C cl fp) ht, fun s H C cl fp => (hp.e (inn s H C cl fp) he).pe, noSet_hs d2, .inl ⟨⟨i, hd⟩, fun σ H Q w => ?_⟩⟩
    exact tf_lcD (pt := false) (fun v σ H Q w => tfG_raw g (pt := false) (fun z => nomatch z) w) (quiet_of g2) w
  · rename_i hd
    obtain ⟨it, hit, rfl⟩ := mpd h
    obtain ⟨⟨i1, i3⟩, i2⟩ := cI_ok hp hc hit
    refine ⟨tfI X.K (ptOf it) (wpI T it), rawG X.K g, tfT X.K (wpT T t), tf X.K (wpE T e), ownOf c.N scope, i1.pi, bk, fun s H C cl fp => cG_ok (inn s H C cl fp) hg, fun s H C cl fp => cIfs_ok hp (inn s H C cl fp) ht, fun s H C cl fp => (hp.e (inn s H C cl fp) he).pe, noSet_hs i2, .inr ⟨hd, fun σ H Q w => ?_⟩⟩
    obtain ⟨θ, A, B, G, k, S, hf, q⟩ := w
    rcases hf with hf | hf
    · exact tf_lc (pt := ptOf it) (fun σ H R w => w) (fun v σ H Q w => tfG_raw g (fun z => cG_tp hg (i3 z)) w) (quiet_of g2) ⟨θ, A, B, G, k, S, hf, q⟩
    · exact tf_lcM (pt := ptOf it) (fun σ H R w => w) (fun v σ H Q w => tfG_raw g (fun z => cG_tp hg (i3 z)) w) (quiet_of g2) ⟨θ, A, B, G, k, S, hf, q⟩
def cComp (p : Cp) (c : Ctx) (elt : Expr) (gens : List Comprehension) (scope : Scope) : Option AE := match gens with
  | [⟨tg, iter, ifs, 0⟩] => cLc p c elt tg iter ifs scope
  | _ => none
theorem cComp_ok {gens : List Comprehension} (hp : CpOk p) (hc : CtxOk X c T) (h : cComp p c elt gens scope = some r) : PD X (.ListComp elt gens scope pos) (wpE T r) := by
  unfold cComp at h
  split at h
  · obtain ⟨wi, g, tt, te, own, h1, h2, h3, h4, h5, h6, h7⟩ := lc_parts hp hc h
    have base := pe_lc (pos := pos) hc.calm (by rw [hc.hN]; exact hc.nd) h1 h2 h3 h4 h5 h6
    rcases h7 with ⟨_, h7⟩ | ⟨_, h7⟩
    · exact ⟨PE.imp (pe_lock base) h7⟩
    · exact ⟨PE.imp base h7⟩
  · cases h
def isB (c : Ctx) (x : Str) : Bool := isGl c x && (match c.gl x with | some .blt => true | _ => false)
theorem isB_ok (hc : CtxOk X c T) (h : isB c x = true) : Gl X x ∧ X.mg x = none := by
  unfold isB at h
  rw [Bool.and_eq_true] at h
  refine ⟨isGl_ok hc h.1, ?_⟩
  have g2 := h.2
  split at g2
  · rename_i hb; exact hc.blt x hb
  · cases g2
def cScS (p : Cp) (c : Ctx) (elt tg iter : Expr) (ifs : List Expr) (scope : Scope) : Option AE := gd (blkC c.N c.sc scope (ownOf c.N scope)) ((cG (c.blk scope) 8 tg).bind fun g =>
  gd ((slG g).all (fun i => decide (i ∈ (ownOf c.N scope).map (·.2)))) ((cIfs p (c.blk scope) ifs).bind fun t => (p.e (c.blk scope) elt).bind fun e => (cI p c tg iter).map fun it => .lsc it g t e ((ownOf c.N scope).map (·.2))))
def cDcS (p : Cp) (c : Ctx) (kx vx tg iter : Expr) (ifs : List Expr) (scope : Scope) : Option AE := gd (blkC c.N c.sc scope (ownOf c.N scope)) ((cG (c.blk scope) 8 tg).bind fun g =>
  gd ((slG g).all (fun i => decide (i ∈ (ownOf c.N scope).map (·.2)))) ((cIfs p (c.blk scope) ifs).bind fun t => (p.e (c.blk scope) kx).bind fun e => (p.e (c.blk scope) vx).bind fun v => (cI p c tg iter).map fun it => .dcm it g t e v ((ownOf c.N scope).map (·.2))))
theorem cScS_ok {p1 pos2 : Pos} (hp : CpOk p) (hc : CtxOk X c T) (hl : Gl X "len") (hm : X.mg "len" = none) (h : cScS p c elt tg iter ifs scope = some r) : PD X (.Call (.Name "len" p1) [.SetComp elt [⟨tg, iter, ifs, 0⟩] scope pos] [] pos2) (wpE T r) := by
  obtain ⟨g1, h⟩ := gd_of h
  obtain ⟨g, hg, h⟩ := bnd h
  obtain ⟨g2, h⟩ := gd_of h
  obtain ⟨t, ht, h⟩ := bnd h
  obtain ⟨e, he, h⟩ := bnd h
  obtain ⟨it, hit, rfl⟩ := mpd h
  have bk : BlkOk X.N X.env.scope scope (ownOf c.N scope) := by rw [hc.hN, hc.sc]; exact blkOk_by g1
  have inn := fun (s : Shared) (H : Hp) (C : Addr) (cl : List (Str × Addr)) (fp : List Addr) => hc.blk s H scope C cl fp bk.kind
  obtain ⟨⟨i1, i3⟩, i2⟩ := cI_ok hp hc hit
  have un := hc.un
  have base := pe_scT (X := X) (kd := PySem.strKind X.prog X.w) (tv := V.str) (pos := pos) (wi := tfI X.K (ptOf it) (wpI T it)) (g := rawG X.K g) (tt := tfT X.K (wpT T t)) (te := tf X.K (wpE T e)) (tame_str _ _) (hashy_str _ _) shows_str (by omega) hc.calm (by rw [hc.hN]; exact hc.nd) i1.pi bk (fun s H C cl fp => cG_ok (inn s H C cl fp) hg) (fun s H C cl fp => cIfs_ok hp (inn s H C cl fp) ht) (fun s H C cl fp => (hp.e (inn s H C cl fp) he).pe) (noSet_hs i2)
  exact ⟨PE.imp (pe_lenSc (by omega) hc.calm hl hm base) fun σ H Q w => tf_lsc (pt := ptOf it) (fun σ H R w => w) (fun v σ H Q w => tfG_raw g (fun z => cG_tp hg (i3 z)) w) (quiet_of g2) w⟩
theorem cDcS_ok {kx vx : Expr} (hp : CpOk p) (hc : CtxOk X c T) (h : cDcS p c kx vx tg iter ifs scope = some r) : PD X (.DictComp kx vx [⟨tg, iter, ifs, 0⟩] scope pos) (wpE T r) := by
  obtain ⟨g1, h⟩ := gd_of h
  obtain ⟨g, hg, h⟩ := bnd h
  obtain ⟨g2, h⟩ := gd_of h
  obtain ⟨t, ht, h⟩ := bnd h
  obtain ⟨e, he, h⟩ := bnd h
  obtain ⟨v, hv, h⟩ := bnd h
  obtain ⟨it, hit, rfl⟩ := mpd h
  have bk : BlkOk X.N X.env.scope scope (ownOf c.N scope) := by rw [hc.hN, hc.sc]; exact blkOk_by g1
  have inn := fun (s : Shared) (H : Hp) (C : Addr) (cl : List (Str × Addr)) (fp : List Addr) => hc.blk s H scope C cl fp bk.kind
  obtain ⟨⟨i1, i3⟩, i2⟩ := cI_ok hp hc hit
  have base := pe_dc (X := X) (pos := pos) (wi := tfI X.K (ptOf it) (wpI T it)) (g := rawG X.K g) (tt := tfT X.K (wpT T t)) (tk := tf X.K (wpE T e)) (tv := tf X.K (wpE T v)) hc.calm (by rw [hc.hN]; exact hc.nd) i1.pi bk (fun s H C cl fp => cG_ok (inn s H C cl fp) hg) (fun s H C cl fp => cIfs_ok hp (inn s H C cl fp) ht) (fun s H C cl fp => (hp.e (inn s H C cl fp) he).pe) (fun s H C cl fp => (hp.e (inn s H C cl fp) hv).pe) (noSet_hs i2)
  exact ⟨PE.imp base fun σ H Q w => tf_dcm (pt := ptOf it) (fun σ H R w => w) (fun v σ H Q w => tfG_raw g (fun z => cG_tp hg (i3 z)) w) (quiet_of g2) w⟩
def cSp (p : Cp) (c : Ctx) (f : Expr) (es : List Expr) (kws : List Keyword) (pos : Pos) : Option AE := match f, es, kws with
  | .Name x _, [.Call (.Name y _) [a] [] _], [] => gd (isB c x && isB c y && notStar a) (if x = ("len" : Str) then (if y = ("set" : Str) then (p.e c a).map .lset else none) else if x = ("list" : Str) then (if y = ("range" : Str) then (p.e c a).map .lrg else none) else if x = ("tuple" : Str) then (if y = ("range" : Str) then (p.e c a).map .trg else none) else none)
  | .Name x _, [.SetComp elt [⟨tg, iter, ifs, 0⟩] scope _], [] => gd (isB c x) (if x = ("len" : Str) then cScS p c elt tg iter ifs scope else none)
  | .Name x _, [.List es _], [] => gd (isB c x) (if x = ("repr" : Str) then (cEs p c es).map .reprL else none)
  | .Attribute o m apos, [a], [] => gd (baseOk o && apos.endLine == pos.line && notStar a) (if m = ("index" : Str) then (p.e c o).bind fun x => (p.e c a).map (.idx x) else if m = ("update" : Str) then (p.e c o).bind fun x => (p.e c a).map (.upd x) else none)
  | _, _, _ => none
theorem cSp_ok {f : Expr} (hp : CpOk p) (hc : CtxOk X c T) (h : cSp p c f es kws pos = some r) : PD X (.Call f es kws pos) (wpE T r) := by
  unfold cSp at h
  split at h
  · replace h := gd_of h
    obtain ⟨g1, h⟩ := h
    simp only [Bool.and_eq_true] at g1
    obtain ⟨⟨b1, b2⟩, ns⟩ := g1
    obtain ⟨l1, m1⟩ := isB_ok hc b1
    obtain ⟨l2, m2⟩ := isB_ok hc b2
    split at h
    · rename_i ex
      split at h
      · rename_i ey
        subst ex
        subst ey
        obtain ⟨a, ha, rfl⟩ := mpd h
        exact pd_lenSet hc.calm l1 m1 l2 m2 (star_cons ns [] X.env) (hp.e hc ha)
      · cases h
    · split at h
      · rename_i ex
        split at h
        · rename_i ey
          subst ex
          subst ey
          obtain ⟨a, ha, rfl⟩ := mpd h
          exact pd_lrg1 (hp.e hc ha) l1 m1 l2 m2 hc.calm ns
        · cases h
      · split at h
        · rename_i ex
          split at h
          · rename_i ey
            subst ex
            subst ey
            obtain ⟨a, ha, rfl⟩ := mpd h
            exact pd_trg1 (hp.e hc ha) l1 m1 l2 m2 hc.calm ns
          · cases h
        · cases h
  · replace h := gd_of h
    obtain ⟨g1, h⟩ := h
    obtain ⟨l1, m1⟩ := isB_ok hc g1
    split at h
    · rename_i ex
      subst ex
      exact cScS_ok hp hc l1 m1 h
    · cases h
  · replace h := gd_of h
    obtain ⟨g1, h⟩ := h
    obtain ⟨l1, m1⟩ := isB_ok hc g1
    split at h
    · rename_i ex
      subst ex
      obtain ⟨as, has, rfl⟩ := mpd h
      exact pd_reprL (cEs_ok hp hc has).1 l1 m1 hc.grd hc.un
    · cases h
  · replace h := gd_of h
    obtain ⟨g1, h⟩ := h
    simp only [Bool.and_eq_true] at g1
    obtain ⟨⟨b1, b2⟩, ns⟩ := g1
    split at h
    · rename_i em
      subst em
      obtain ⟨x, hx, h⟩ := bnd h
      obtain ⟨y, hy, rfl⟩ := mpd h
      exact pd_idx (hp.e hc hx) (hp.e hc hy) (baseOk_ok b1) b2 ns
    · split at h
      · rename_i em
        subst em
        obtain ⟨x, hx, h⟩ := bnd h
        obtain ⟨y, hy, rfl⟩ := mpd h
        exact pd_upd (hp.e hc hx) (hp.e hc hy) (baseOk_ok b1) b2 ns
      · cases h
  · cases h
def stepE (p : Cp) (c : Ctx) (e : Expr) : Option AE := match e with
  | .Name x _ => cName c x
  | .Constant k _ _ => (cConst k).map .c
  | .BinOp a op b _ => cBin p c a op b
  | .UnaryOp op a _ => cUn p c op a
  | .BoolOp op es _ => cBoolV p c op es
  | .Compare a ops bs _ => cCmp p c a ops bs
  | .IfExp t a b _ => cIf p c t a b
  | .Subscript a i _ => cSub p c a i
  | .Call f es kws pos => match cSp p c f es kws pos with
    | some r => some r
    | none => cCall p c f es kws pos
  | .DictComp kx vx [⟨tg, iter, ifs, 0⟩] scope _ => cDcS p c kx vx tg iter ifs scope
  | .Tuple es _ _ => (cEs p c es).map .tup
  | .List es _ => (cEs p c es).map .lst
  | .Dict ks vs _ => cDict ks vs
  | .ListComp elt gens scope _ => cComp p c elt gens scope
  | _ => none
theorem stepE_ok (hp : CpOk p) (hc : CtxOk X c T) (h : stepE p c e = some r) : PD X e (wpE T r) := by
  unfold stepE at h
  split at h
  · exact cName_ok hc h
  · obtain ⟨d, hd, rfl⟩ := mpd h
    exact cConst_ok hd
  · exact cBin_ok hp hc h
  · exact cUn_ok hp hc h
  · exact cBoolV_ok hp hc h
  · exact (cCmp_ok hp hc h).1
  · exact cIf_ok hp hc h
  · exact cSub_ok hp hc h
  · split at h
    · rename_i q
      cases h
      exact cSp_ok hp hc q
    · exact cCall_ok hp hc h
  · exact cDcS_ok hp hc h
  · obtain ⟨as, h1, rfl⟩ := mpd h
    exact pd_tup (cEs_ok hp hc h1).1
  · obtain ⟨as, h1, rfl⟩ := mpd h
    exact pd_lst (cEs_ok hp hc h1).1
  · exact cDict_ok h
  · exact cComp_ok hp hc h
  · cases h
def truOk : AE → Bool
  | .var _ => true
  | .c _ => true
  | .call _ _ => true
  | .bi _ _ => true
  | .isi _ _ => true
  | .lc _ _ _ _ _ => true
  | .op2 o _ _ => !isCmp o
  | _ => false
theorem truOk_ok (h : truOk r = true) : wpT T r = fTru (wpE T r) := by
  cases r <;> first | rfl | cases h | skip
  rename_i o a b
  have h' : isCmp o = false := by simpa [truOk] using h
  show (if isCmp o = true then _ else _) = _
  rw [h']
  rfl
def cBoolT (p : Cp) (c : Ctx) (op : BoolOp) : List Expr → Option AE
  | [] => none
  | [a] => p.t c a
  | a :: b :: es => (p.t c a).bind fun x => (cBoolT p c op (b :: es)).bind fun y => some (match op with
    | .And => .and x y
    | .Or => .or x y)
theorem cBoolT_ok (hp : CpOk p) (hc : CtxOk X c T) {op : BoolOp} : ∀ {es : List Expr} {r : AE}, cBoolT p c op es = some r → PDW X (.BoolOp op es pos) (wpT T r)
  | [], _, h => by cases h
  | [a], _, h => by
    cases op with
    | And => exact pdw_and1 (hp.t hc h)
    | Or => exact pdw_or1 (hp.t hc h)
  | a :: b :: es, _, h => by
    obtain ⟨x, hx, h⟩ := bnd h
    obtain ⟨y, hy, h⟩ := bnd h
    cases h
    cases op with
    | And => exact pdw_and (hp.t hc hx) (cBoolT_ok hp hc hy)
    | Or => exact pdw_or (hp.t hc hx) (cBoolT_ok hp hc hy)
def stepT (p : Cp) (c : Ctx) (e : Expr) : Option AE := match e with
  | .UnaryOp .Not a _ => (p.t c a).map .not
  | .BoolOp op es _ => cBoolT p c op es
  | .Compare a ops bs _ => cCmp p c a ops bs
  | e => gd (plainE e) ((p.e c e).bind fun r => gd (truOk r) (some r))
theorem stepT_ok (hp : CpOk p) (hc : CtxOk X c T) (h : stepT p c e = some r) : PDT X e (wpT T r) := by
  unfold stepT at h
  split at h
  · obtain ⟨x, hx, rfl⟩ := mpd h
    exact pdt_not (hp.t hc hx)
  · exact (cBoolT_ok hp hc h).pt
  · exact (cCmp_ok hp hc h).2
  · obtain ⟨g1, h⟩ := gd_of h
    obtain ⟨x, hx, h⟩ := bnd h
    obtain ⟨g2, h⟩ := gd_of h
    cases h
    rw [truOk_ok g2]
    exact pdt_tru (hp.e hc hx) (plain_ok g1)
def cp : Nat → Cp
  | 0 => ⟨fun _ _ => none, fun _ _ => none⟩
  | n + 1 => ⟨stepE (cp n), stepT (cp n)⟩
theorem cp_ok : ∀ n, CpOk (cp n)
  | 0 => ⟨fun _ h => (by cases h), fun _ h => (by cases h)⟩
  | n + 1 => ⟨fun hc h => stepE_ok (cp_ok n) hc h, fun hc h => stepT_ok (cp_ok n) hc h⟩
end
end Dl

namespace Dl
open L2 PySem PyProof.Rows PySem.Spec
def isStarE : Expr → Bool
  | .Starred _ _ => true
  | _ => false
def swNames (sc : Scope) (line : Nat) (ts : List Expr) : List Str := ts.filterMap fun
  | .Name id pos => if sc.names.lookup id == some .local && pos.line == line then some id else none
  | _ => none
def lineOf (ts : List Expr) : Nat := (ts.head?.map (·.pos.line)).getD 0
def swF (sc : Scope) (ts vs : List Expr) : Option (Option (List Str)) :=
  if (!(ts.length == 2 || ts.length == 3) || vs.length != ts.length) = true then some none
  else if vs.any isStarE = true then some none
  else if ((swNames sc (lineOf ts) ts).length != ts.length || (swNames sc (lineOf ts) ts).eraseDups.length != (swNames sc (lineOf ts) ts).length) = true then some none
  else if vs.all (foldedForSure 8) = true then some none
  else if vs.all (constantsAlone 8) = true then none
  else some (some (swNames sc (lineOf ts) ts))
theorem sw_env {env : PySem.Env} {ts vs : List Expr} {k k2 : Nat} {p p2 : Pos} (hb : env.blockKind = .function) : swappedStores [.Tuple ts k p] (.Tuple vs k2 p2) env =
    (if (!(ts.length == 2 || ts.length == 3) || vs.length != ts.length) = true then pure none
    else if vs.any isStarE = true then pure none
    else if ((swNames env.scope (lineOf ts) ts).length != ts.length || (swNames env.scope (lineOf ts) ts).eraseDups.length != (swNames env.scope (lineOf ts) ts).length) = true then pure none
    else if vs.all (foldedForSure 8) = true then pure none
    else if vs.all (constantsAlone 8) = true then (do unsupported "assign.tuple-of-constant-expressions:order-of-the-stores"; pure (some (swNames env.scope (lineOf ts) ts)))
    else pure (some (swNames env.scope (lineOf ts) ts))) := by
  unfold swappedStores
  simp only [hb]
  have hff : (ScopeKind.function != ScopeKind.function) = false := by decide
  rw [hff, Bool.or_false]
  rfl
theorem sw_ok {sc : Scope} {env : PySem.Env} {ts vs : List Expr} {r : Option (List Str)} {k k2 : Nat} {p p2 : Pos} (hs : env.scope = sc) (hk : sc.kind = .function) (h : swF sc ts vs = some r) : swappedStores [.Tuple ts k p] (.Tuple vs k2 p2) env = pure r := by
  have hb : env.blockKind = .function := by
    unfold Env.blockKind
    rw [hs, hk]
    rfl
  rw [sw_env hb, hs]
  unfold swF at h
  split at h
  · rename_i e; cases h; rw [if_pos e]
  · rename_i e
    rw [if_neg e]
    split at h
    · rename_i e2; cases h; rw [if_pos e2]
    · rename_i e2
      rw [if_neg e2]
      split at h
      · rename_i e3; cases h; rw [if_pos e3]
      · rename_i e3
        rw [if_neg e3]
        split at h
        · rename_i e4; cases h; rw [if_pos e4]
        · rename_i e4
          rw [if_neg e4]
          split at h
          · cases h
          · rename_i e5
            cases h
            rw [if_neg e5]

section
variable {X : Cx} {c : Ctx} {T : Nat → FT} {p : Cp} {np : Nat} {x y z : Str} {e a b i o tg elt iter : Expr} {es ts vs ifs : List Expr} {kws : List Keyword} {q pos apos px py pz pt ps : Pos} {kt k2 : Nat} {r : AS} {scope : Scope} {st : Stmt} {f : FE} {gt : FG}
def locOf (c : Ctx) (x : Str) : Option Nat := match c.sc.names.lookup x with
  | some .local => find? c.N x
  | _ => none
theorem locOf_ok (hc : CtxOk X c T) {i : Nat} (h : locOf c x = some i) : X.N[i]? = some x ∧ X.env.scope.names.lookup x = some .local := by
  unfold locOf at h
  rw [hc.hN, hc.sc]
  split at h
  · rename_i e; exact ⟨find_ok h, e⟩
  · cases h
theorem pds_asgT {te : TE} {g : TG} (hs : PS X st (tAsg te g)) (h1 : ∀ σ H Q, tf X.K f σ H Q → te σ H Q) (h2 : ∀ v σ H Q, tfG X.K false gt v σ H Q → g v σ H Q) : PDS X np st (sAsg f gt) := ⟨fun N => PS.imp hs fun D σ H w => by
  obtain ⟨θ, A, B, G, E, S, gw, hf, ok⟩ := w
  refine h1 _ _ _ ⟨θ, A, B, G, _, S, hf, fun θ1 B1 G1 H1 v x g1 S1 hv k1 => ?_⟩
  exact h2 _ _ _ _ ⟨θ1, A, B1, G1, x, _, S1, .a hv, k1, fun θ2 A2 B2 σ2 G2 H2 g2 S2 k2 => ok.nx θ2 A2 B2 σ2 G2 H2 S2 ((gw.gr g1).gr g2) k2⟩⟩
theorem pds_par3 {i j l : Nat} {fs : FA} (hs : PDA X es fs) (h : ∀ ta, PA X es ta → PS X st (tPar3 i j l ta)) : PDS X np st (sPar3 i j l fs) := ⟨fun N => PS.imp (h _ hs.pa) fun D σ H w => by
  obtain ⟨θ, A, B, G, E, S, gw, hf, ok⟩ := w
  refine ⟨θ, A, B, G, _, S, hf, fun θ1 B1 G1 H1 vs ws g1 S1 hv k1 => ?_⟩
  split at k1
  · obtain ⟨v, u, w, rfl, h1, h2, h3⟩ := avs3 hv
    exact ⟨v, u, w, rfl, ok.nx θ1 _ B1 _ G1 H1 (((S1.set i h1).set j h2).set l h3) (gw.gr g1) k1⟩
  · exact k1.elim⟩
def swL (c : Ctx) (x : Str) (px : Pos) (scope : Scope) (pe : Pos) : Bool := c.sc.names.lookup x == some .local && px.line == pe.line && !(scope.names.any fun (n, k) => n == x && (k == .local || k == .cell))
theorem swL_ok {gens : List Comprehension} {l : Nat} (hc : CtxOk X c T) : swapsWith (.ListComp elt gens scope pos) (some (.Name x px)) l X.env = pure (swL c x px scope pos) := by
  have hb : X.env.blockKind = .function := by
    unfold Env.blockKind
    rw [hc.sc, hc.kind]
    rfl
  show (pure (X.env.blockKind == .function && X.env.kindOf x == some .local && px.line == pos.line && !(scope.names.any fun (n, k) => n == x && (k == .local || k == .cell))) : Sem Bool) = _
  rw [hb]
  unfold Env.kindOf swL
  rw [hc.sc]
  rfl
def cSet (p : Cp) (c : Ctx) (x : Str) (px : Pos) (e : Expr) : Option AS := match e with
  | .ListComp elt gens scope pe => if swL c x px scope pe = true then (match gens with
      | [⟨tg, iter, ifs, 0⟩] => (locOf c x).bind fun i => (cLc p c elt tg iter ifs scope).bind fun r => match dictAt c iter with
        | none => some (.asg (.nm i) r)
        | some _ => none
      | _ => none)
    else (stoOf c x).bind fun i => (p.e c e).map (.asg (.nm i))
  | e => gd (!isComp e) ((stoOf c x).bind fun i => (p.e c e).map (.asg (.nm i)))
theorem cSet_ok (hp : CpOk p) (hc : CtxOk X c T) (h : cSet p c x px e = some r) : PDS X np (.Assign [.Name x px] e pos) (wpS T np r) := by
  have nd : X.N.Nodup := by rw [hc.hN]; exact hc.nd
  unfold cSet at h
  split at h
  · rename_i elt gens scope pe
    split at h
    · rename_i hsw
      split at h
      · rename_i tg iter ifs
        obtain ⟨i, hi, h⟩ := bnd h
        obtain ⟨r0, hr, h⟩ := bnd h
        split at h
        · rename_i hd
          cases h
          obtain ⟨s1, s2⟩ := locOf_ok hc hi
          obtain ⟨wi, g, tt, te, own, h1, h2, h3, h4, h5, h6, h7⟩ := lc_parts hp hc hr
          rcases h7 with ⟨⟨_, z⟩, _⟩ | ⟨_, h7⟩
          · rw [hd] at z; cases z
          · exact pds_asgT (ps_setLc hc.calm nd s1 s2 (by rw [swL_ok hc, hsw]) h1 h2 h3 h4 h5 h6) h7 fun v σ H Q w => tfG_raw (.nm i) (pt := false) (fun z => nomatch z) w
        · cases h
      · cases h
    · rename_i hsw
      obtain ⟨i, hi, h⟩ := bnd h
      obtain ⟨r0, hr, rfl⟩ := mpd h
      obtain ⟨s1, s2, s3⟩ := sto_ok hc hi
      exact pds_asgT (ps_set nd s1 s2 (hp.e hc hr).pe (by rw [swL_ok hc, show swL c x px scope pe = false by simpa using hsw]) s3) (fun σ H Q w => w) fun v σ H Q w => tfG_raw (.nm i) (pt := false) (fun z => nomatch z) w
  · obtain ⟨g1, h⟩ := gd_of h
    obtain ⟨i, hi, h⟩ := bnd h
    obtain ⟨r0, hr, rfl⟩ := mpd h
    obtain ⟨s1, s2, s3⟩ := sto_ok hc hi
    exact pds_asgT (ps_set nd s1 s2 (hp.e hc hr).pe (swaps_plain (by simpa using g1)) s3) (fun σ H Q w => w) fun v σ H Q w => tfG_raw (.nm i) (pt := false) (fun z => nomatch z) w
def cPar (p : Cp) (c : Ctx) (ts vs : List Expr) : Option AS := match ts, vs with
  | [.Name x _, .Name y _], [a, b] => gd (decide (swF c.sc ts vs = some (some [x, y]))) ((locOf c x).bind fun i => (locOf c y).bind fun j => gd (decide (i ≠ j)) ((cEs p c [a, b]).map (.par i j)))
  | [.Name x _, .Name y _, .Name z _], [a, b, d] => gd (decide (swF c.sc ts vs = some (some [x, y, z]))) ((locOf c x).bind fun i => (locOf c y).bind fun j => (locOf c z).bind fun l => gd (decide (i ≠ j) && decide (i ≠ l) && decide (j ≠ l)) ((cEs p c [a, b, d]).map (.par3 i j l)))
  | _, _ => none
theorem cPar_ok (hp : CpOk p) (hc : CtxOk X c T) (h : cPar p c ts vs = some r) : PDS X np (.Assign [.Tuple ts kt pt] (.Tuple vs k2 ps) pos) (wpS T np r) := by
  have nd : X.N.Nodup := by rw [hc.hN]; exact hc.nd
  unfold cPar at h
  split at h
  · obtain ⟨g1, h⟩ := gd_of h
    obtain ⟨i, hi, h⟩ := bnd h
    obtain ⟨j, hj, h⟩ := bnd h
    obtain ⟨g2, h⟩ := gd_of h
    obtain ⟨as, has, rfl⟩ := mpd h
    obtain ⟨s1, s2⟩ := locOf_ok hc hi
    obtain ⟨s3, s4⟩ := locOf_ok hc hj
    exact pds_par (cEs_ok hp hc has).1 fun ta ha => ps_par hc.calm nd s1 s3 (of_decide_eq_true g2) s2 s4 ha (sw_ok hc.sc hc.kind (of_decide_eq_true g1)) rfl
  · obtain ⟨g1, h⟩ := gd_of h
    obtain ⟨i, hi, h⟩ := bnd h
    obtain ⟨j, hj, h⟩ := bnd h
    obtain ⟨l, hl, h⟩ := bnd h
    obtain ⟨g2, h⟩ := gd_of h
    obtain ⟨as, has, rfl⟩ := mpd h
    simp only [Bool.and_eq_true, decide_eq_true_eq] at g2
    obtain ⟨s1, s2⟩ := locOf_ok hc hi
    obtain ⟨s3, s4⟩ := locOf_ok hc hj
    obtain ⟨s5, s6⟩ := locOf_ok hc hl
    exact pds_par3 (cEs_ok hp hc has).1 fun ta ha => ps_par3 hc.calm nd s1 s3 s5 g2.1.1 g2.1.2 g2.2 s2 s4 s6 ha (sw_ok hc.sc hc.kind (of_decide_eq_true g1)) rfl
  · cases h
def nmsOf : AGs → Option (List Nat)
  | .nil => some []
  | .cons (.nm i) gs => (nmsOf gs).map (i :: ·)
  | .cons (.tp _) _ => none
def setAllV : List Nat → List V → L2.St → L2.St
  | i :: is, v :: vs, σ => setAllV is vs (σ.set i (some v))
  | _, _, σ => σ
theorem nms_len : ∀ {gs : AGs} {ix : List Nat}, nmsOf gs = some ix → ix.length = lenG gs
  | .nil, _, h => by cases h; rfl
  | .cons (.nm i) gs, _, h => by
    obtain ⟨r, hr, rfl⟩ := mpd (show (nmsOf gs).map (i :: ·) = _ from h)
    show r.length + 1 = lenG gs + 1
    rw [nms_len hr]
  | .cons (.tp _) gs, _, h => by cases h
theorem raws_nms {K : PySem.W.Frag} : ∀ {gs : AGs} {ix : List Nat} {vs : List V} {σ : L2.St} {H : Hp} {Q : L2.St → Hp → Prop}, nmsOf gs = some ix → vs.length = ix.length → Q (setAllV ix vs σ) H → rawGs K gs vs σ H Q
  | .nil, _, vs, σ, H, Q, h, hl, q => by
    cases h
    cases vs with
    | nil => exact ⟨rfl, q⟩
    | cons v vs => cases hl
  | .cons (.nm i) gs, _, vs, σ, H, Q, h, hl, q => by
    obtain ⟨r, hr, rfl⟩ := mpd (show (nmsOf gs).map (i :: ·) = _ from h)
    cases vs with
    | nil => cases hl
    | cons v vs => exact ⟨v, vs, rfl, raws_nms (gs := gs) hr (by simpa using hl) q⟩
  | .cons (.tp _) gs, _, _, _, _, _, h, _, _ => by cases h
theorem setAll_len : ∀ {ix : List Nat} {ws : List AV} {A A' : Env}, setAll ix ws A = some A' → ws.length = ix.length
  | [], [], _, _, _ => rfl
  | i :: is, w :: ws, A, A', h => by
    show ws.length + 1 = is.length + 1
    rw [setAll_len (ix := is) (ws := ws) (show setAll is ws (A.set i (some w)) = some A' from h)]
  | [], _ :: _, _, _, h => by cases h
  | _ :: _, [], _, _, h => by cases h
theorem setAll_slots {K : PySem.W.Frag} {θ : Th} {G : Hp} : ∀ {ix : List Nat} {ws : List AV} {vs : List V} {A A' : Env} {σ : L2.St}, setAll ix ws A = some A' → AVs K G θ vs ws → SlotsOk K G θ σ A → SlotsOk K G θ (setAllV ix vs σ) A'
  | [], [], vs, _, _, _, h, hv, S => by
    cases h
    cases hv
    exact S
  | i :: is, w :: ws, vs, A, A', _, h, hv, S => by
    cases hv with
    | cons hw t => exact setAll_slots (ix := is) (ws := ws) (show setAll is ws (A.set i (some w)) = some A' from h) t (S.set i hw)
  | [], _ :: _, _, _, _, _, h, _, _ => by cases h
  | _ :: _, [], _, _, _, _, h, _, _ => by cases h
theorem pds_parT {gs : AGs} {ix : List Nat} {fs : FA} (ha : PDA X vs fs) (hn : nmsOf gs = some ix) (hl : ix.length ≤ 8) (h : ∀ ta, PE X (.Tuple vs k2 ps) ta → PS X st (tAsg ta (rawG X.K (.tp gs)))) : PDS X np st (sParT ix fs) := ⟨fun N => PS.imp (h _ (pe_tupF ha.pa)) fun D σ H w => by
  obtain ⟨θ, A, B, G, E, S, gw, hf, ok⟩ := w
  refine ⟨θ, A, B, G, _, S, hf, fun θ1 B1 G1 H1 vs ws g1 S1 hv k1 => ?_⟩
  obtain ⟨A', e, k2⟩ := k1
  have l1 : vs.length = ix.length := by rw [Paired.length hv]; exact setAll_len e
  refine ⟨Nat.le_trans (by omega) (show 8 ≤ sizeLine by decide), fun p ob hp dn => ⟨p, vs, rfl, .inl (.inr ⟨ob, upd_same⟩), by rw [l1]; exact nms_len hn, raws_nms hn l1 ?_⟩⟩
  have s := Stp.new (o := .frz ob (.tup vs)) S1.mem.ex hp
  exact ok.nx θ1 A' B1 _ _ _ ⟨s.mem S1.mem, (setAll_slots e hv S1.slots).mono s.gx (List.prefix_refl _)⟩ (gw.gr (g1.trans s.gr)) k2⟩
theorem sw_other (h : isTupE e = false) : swappedStores [tg] e X.env = pure none := by
  unfold swappedStores
  cases e <;> first | cases h | skip
  all_goals (cases tg <;> rfl)
theorem asg1 (h : notStar tg = true) (env : PySem.Env) : (assignEach [tg] env).map (·.2) = [assign tg env] := by
  rw [asg_cons h]
  rfl
theorem sole {l : Nat} {env : PySem.Env} (h : swapsWith e (some tg) l env = pure false) : swapsWithSole [tg] e l env = pure false := h
def cTupA (p : Cp) (c : Ctx) (ts : List Expr) (kt : Nat) (pt : Pos) (e : Expr) : Option AS := match e with
  | .Tuple vs k2 ps => if swF c.sc ts vs = some none then (cG c 8 (.Tuple ts kt pt)).bind fun g => match g with
      | .tp gs => match nmsOf gs with
        | some ix => gd (decide (ix.length ≤ 8)) ((cEs p c vs).map (.parT ix))
        | none => (p.e c (.Tuple vs k2 ps)).map (.asg g)
      | g => (p.e c (.Tuple vs k2 ps)).map (.asg g)
    else cPar p c ts vs
  | e => gd (!isTupE e && !isComp e) ((cG c 8 (.Tuple ts kt pt)).bind fun g => (p.e c e).map (.asg g))
theorem cTupA_ok (hp : CpOk p) (hc : CtxOk X c T) (h : cTupA p c ts kt pt e = some r) : PDS X np (.Assign [.Tuple ts kt pt] e pos) (wpS T np r) := by
  unfold cTupA at h
  split at h
  · split at h
    · rename_i hw
      obtain ⟨g, hg, h⟩ := bnd h
      split at h
      · rename_i gs
        split at h
        · rename_i ix hn
          obtain ⟨hl, h⟩ := gd_of h
          obtain ⟨as, has, rfl⟩ := mpd h
          exact pds_parT (cEs_ok hp hc has).1 hn (of_decide_eq_true hl) fun ta ha => ps_asg ha (cG_ok hc hg) rfl (sw_ok hc.sc hc.kind hw) (asg1 rfl X.env)
        · obtain ⟨r0, hr, rfl⟩ := mpd h
          exact pds_asg (hp.e hc hr) (cG_pdg (pt := false) hc (fun z => nomatch z) hg) fun ta tg ha ht => ps_asg ha ht rfl (sw_ok hc.sc hc.kind hw) (asg1 rfl X.env)
      · obtain ⟨r0, hr, rfl⟩ := mpd h
        exact pds_asg (hp.e hc hr) (cG_pdg (pt := false) hc (fun z => nomatch z) hg) fun ta tg ha ht => ps_asg ha ht rfl (sw_ok hc.sc hc.kind hw) (asg1 rfl X.env)
    · exact cPar_ok hp hc h
  · obtain ⟨g1, h⟩ := gd_of h
    simp only [Bool.and_eq_true, Bool.not_eq_true'] at g1
    obtain ⟨g, hg, h⟩ := bnd h
    obtain ⟨r0, hr, rfl⟩ := mpd h
    exact pds_asg (hp.e hc hr) (cG_pdg (pt := false) hc (fun z => nomatch z) hg) fun ta tg ha ht => ps_asg ha ht (sole (swaps_plain g1.2)) (sw_other g1.1) (asg1 rfl X.env)
def cPut (p : Cp) (c : Ctx) (o i e : Expr) : Option AS := gd (!isComp e && plainIx i) ((p.e c e).bind fun v => (p.e c o).bind fun x => (p.e c i).bind fun y => some (.put v x y))
theorem asg_sub (h : plainIx i = true) (env : PySem.Env) (v : Value) : assign (.Subscript o i pos) env v = (do let ov ← holding [v] (eval o env); let iv ← holding [v, ov] (eval i env); standAt pos; holding [v, ov, iv] (setItem ov iv v); release [v, ov, iv] []) := by
  cases i <;> first | rfl | cases h
theorem sw_sub : swappedStores [.Subscript o i apos] e X.env = pure none := by
  unfold swappedStores
  cases e <;> rfl
theorem cPut_ok (hp : CpOk p) (hc : CtxOk X c T) (h : cPut p c o i e = some r) : PDS X np (.Assign [.Subscript o i apos] e pos) (wpS T np r) := by
  obtain ⟨g1, h⟩ := gd_of h
  simp only [Bool.and_eq_true, Bool.not_eq_true'] at g1
  obtain ⟨v, hv, h⟩ := bnd h
  obtain ⟨x, hx, h⟩ := bnd h
  obtain ⟨y, hy, h⟩ := bnd h
  cases h
  exact pds_put (hp.e hc hv) (hp.e hc hx) (hp.e hc hy) (by have := hc.un; omega) fun ta to ti ha ho hi hs => ps_asg ha (pg_sub ho hi hs (asg_sub g1.2 X.env)) (sole (swaps_plain g1.1)) sw_sub rfl
def cAsg (p : Cp) (c : Ctx) (tg e : Expr) : Option AS := match tg with
  | .Name x px => cSet p c x px e
  | .Tuple ts kt pt => cTupA p c ts kt pt e
  | .Subscript o i _ => cPut p c o i e
  | _ => none
theorem cAsg_ok (hp : CpOk p) (hc : CtxOk X c T) (h : cAsg p c tg e = some r) : PDS X np (.Assign [tg] e pos) (wpS T np r) := by
  unfold cAsg at h
  split at h
  · exact cSet_ok hp hc h
  · exact cTupA_ok hp hc h
  · exact cPut_ok hp hc h
  · cases h
def cAug (p : Cp) (c : Ctx) (x : Str) (op : Operator) (e : Expr) : Option AS := match op with
  | .Add => (stoOf c x).bind fun i => (p.e c e).map (.aug i true)
  | .Sub => (stoOf c x).bind fun i => (p.e c e).map (.aug i false)
  | _ => none
theorem cAug_ok {op : Operator} (hp : CpOk p) (hc : CtxOk X c T) (h : cAug p c x op e = some r) : PDS X np (.AugAssign (.Name x px) op e pos) (wpS T np r) := by
  have nd : X.N.Nodup := by rw [hc.hN]; exact hc.nd
  unfold cAug at h
  split at h
  · obtain ⟨i, hi, h⟩ := bnd h
    obtain ⟨r0, hr, rfl⟩ := mpd h
    obtain ⟨s1, s2, s3⟩ := sto_ok hc hi
    exact pds_aug (hp.e hc hr) fun ta ha => ps_aug nd s1 s2 ha ip_add s3
  · obtain ⟨i, hi, h⟩ := bnd h
    obtain ⟨r0, hr, rfl⟩ := mpd h
    obtain ⟨s1, s2, s3⟩ := sto_ok hc hi
    exact pds_aug (hp.e hc hr) fun ta ha => ps_aug nd s1 s2 ha ip_sub s3
  · cases h
def isStrC : Expr → Bool
  | .Constant (.str _) _ _ => true
  | _ => false
def cDrop (p : Cp) (c : Ctx) (e : Expr) : Option AS := if isStrC e = true then some .pass else gd (!isComp e) ((p.e c e).map .drop)
theorem cDrop_ok (hp : CpOk p) (hc : CtxOk X c T) (h : cDrop p c e = some r) : PDS X np (.Expr e pos) (wpS T np r) := by
  unfold cDrop at h
  split at h
  · rename_i hs
    cases h
    unfold isStrC at hs
    split at hs
    · exact pds_doc ps_doc
    · cases hs
  · obtain ⟨g1, h⟩ := gd_of h
    obtain ⟨r0, hr, rfl⟩ := mpd h
    exact pds_drop (hp.e hc hr) fun ta ha => ps_expr ha (swaps_plain (by simpa using g1))
def cL (f : Stmt → Option AS) : List Stmt → Option ASs
  | [] => some .nil
  | s :: ss => (f s).bind fun a => (cL f ss).bind fun as => some (.cons a as)
def stLine : Stmt → Nat
  | .Assign _ _ pos => pos.line
  | .Expr _ pos => pos.line
  | .For _ _ _ _ pos => pos.line
  | .While _ _ _ pos => pos.line
  | .If _ _ _ pos => pos.line
  | .Return _ pos => pos.line
  | .AugAssign _ _ _ pos => pos.line
  | _ => 0
def cS (p : Cp) (c : Ctx) : Nat → Stmt → Option AS
  | 0, _ => none
  | n + 1, st => (match st with
    | .Expr e _ => cDrop p c e
    | .Pass _ => some .pass
    | .Break _ => some .brk
    | .Continue _ => some .cont
    | .Raise _ _ _ => some .never
    | .Return (some e) _ => (p.e c e).map .ret
    | .Return none _ => some .retN
    | .Assign [tg] e _ => cAsg p c tg e
    | .AugAssign (.Name x _) op e _ => cAug p c x op e
    | .If t a b _ => (p.t c t).bind fun t' => (cL (cS p c n) a).bind fun a' => (cL (cS p c n) b).bind fun b' => some (.ife t' a' b')
    | .For tg iter body [] _ => (cI p c tg iter).bind fun i' => (cG c 8 tg).bind fun g' => (cL (cS p c n) body).bind fun b' => some (.for_ i' g' b')
    | .While t body [] _ => (p.t c t).bind fun t' => (cL (cS p c n) body).bind fun b' => some (.while_ t' b')
    | _ => none).bind fun r => some (if stLine st ∈ c.ghost ∨ dpS [] r ≠ [] then .sh r else r)
theorem cL_ok {f : Stmt → Option AS} (hf : ∀ {s r}, f s = some r → PDS X np s (wpS T np r)) : ∀ {ss : List Stmt} {r : ASs}, cL f ss = some r → PDSs X np ss (wpSs T np r)
  | [], _, h => by cases h; exact pdss_nil
  | [s], _, h => by
    obtain ⟨a, ha, h⟩ := bnd h
    cases h
    exact pdss_one (hf ha)
  | s :: s2 :: ss, _, h => by
    obtain ⟨a, ha, h⟩ := bnd h
    obtain ⟨as, has, h⟩ := bnd h
    cases h
    have q := cL_ok hf has
    cases as with
    | nil =>
      obtain ⟨_, _, h⟩ := bnd has
      obtain ⟨_, _, h⟩ := bnd h
      cases h
    | cons a2 as => exact pdss_cons (hf ha) q
theorem cS_ok (hp : CpOk p) (hc : CtxOk X c T) (ho : PassesOwn (model X.prog X.w) X.A X.env X.xe) : ∀ {n : Nat} {st : Stmt} {r : AS}, cS p c n st = some r → PDS X np st (wpS T np r)
  | 0, _, _, h => by cases h
  | n + 1, st, r, h => by
    have ih := fun {ss : List Stmt} {r : ASs} (h : cL (cS p c n) ss = some r) => cL_ok (fun {s r} h => cS_ok hp hc ho (n := n) h) h
    obtain ⟨r1, h, h2⟩ := bnd h
    have key : PDS X np st (wpS T np r1) := by
      clear h2
      split at h
      · exact cDrop_ok hp hc h
      · cases h; exact pds_pass
      · cases h; exact pds_break
      · cases h; exact pds_cont
      · cases h; exact pds_never
      · obtain ⟨r0, hr, rfl⟩ := mpd h
        exact pds_ret (hp.e hc hr)
      · cases h; exact pds_retN
      · exact cAsg_ok hp hc h
      · exact cAug_ok hp hc h
      · obtain ⟨t', ht, h⟩ := bnd h
        obtain ⟨a', ha, h⟩ := bnd h
        obtain ⟨b', hb, h⟩ := bnd h
        cases h
        exact pds_if (hp.t hc ht) (ih ha) (ih hb)
      · obtain ⟨i', hi, h⟩ := bnd h
        obtain ⟨g', hg, h⟩ := bnd h
        obtain ⟨b', hb, h⟩ := bnd h
        cases h
        obtain ⟨⟨i1, i3⟩, i2⟩ := cI_ok hp hc hi
        exact pds_for i1 (cG_pdg hc (fun z => cG_tp hg (i3 z)) hg) (ih hb) (fun ti tg' tb h1 h2 h3 => ps_for ho hc.calm h1 h2 h3 (noSet_hs i2)) (ih hb).pss
      · obtain ⟨t', ht, h⟩ := bnd h
        obtain ⟨b', hb, h⟩ := bnd h
        cases h
        exact pds_while (hp.t hc ht) (ih hb) fun tt tb h1 h2 => ps_while ho h1 h2
      · cases h
    cases h2
    split
    · exact pds_shift key
    · exact key
end
end Dl

namespace Dl
open L2 PySem PyProof.Rows PySem.Spec
section
variable {P : Program} {w : World} {K : PySem.W.Frag} {mg : Str → Option Value} {base : Heap}
structure FnAtG (P : Program) (w : World) (K : PySem.W.Frag) (mg : Str → Option Value) (base : Heap) (k : Nat) (x : Str) (ps : List Str) (pats : List (List Str)) (F : FT) : Prop where
  ex : ∃ f fd, FnG P w K mg base k f fd ps (spOf K F) ∧ mg x = some (.ref f) ∧ PySem.W.keepIn K (.ref f) = true ∧ Binds K fd ps [] ∧ ∀ ks ∈ pats, KBinds K fd ps ks (kg ps ks) (kgV ps ks)
structure GlOk (P : Program) (w : World) (K : PySem.W.Frag) (mg : Str → Option Value) (base : Heap) (k : Nat) (gl : Str → Option GK) (T : Nat → FT) : Prop where
  fns : ∀ x i ps pats, gl x = some (.fn i ps pats) → FnAtG P w K mg base k x ps pats (T i)
  cst : ∀ x d, gl x = some (.cst d) → ∃ v u, mg x = some u ∧ RelV v u ∧ Dq K (fun _ => none) v d
  kts : ∀ x xs, gl x = some (.kt xs) → ∃ a vs, mg x = some (.ref a) ∧ SqT K (fun _ => none) a vs ∧ DqAll K (fun _ => none) vs xs
  blt : ∀ x, gl x = some .blt → mg x = none
def ctxOf (N : List Str) (st : Stmt) (gl : Str → Option GK) (ghost dl : List Nat) : Ctx := ⟨N, defScope st, fun _ => true, gl, ghost, dl⟩
def compileDef (N : List Str) (st : Stmt) (gl : Str → Option GK) (ghost dl : List Nat) : Option ASs := cL (cS (cp 24) (ctxOf N st gl ghost dl) 24) (defBody st)
def glOf (tab : List (Str × GK)) (x : Str) : Option GK := tab.lookup x
theorem slots_start {G : Hp} {θ : Th} {N : List Str} : ∀ {vs : List V} {ws : List AV}, AVs K G θ vs ws → SlotsOk K G θ (vs.map some ++ List.replicate (N.length - vs.length) none) (ws.map some ++ List.replicate (N.length - ws.length) none) := fun {vs ws} h => by
  have hl := paired_len h
  refine ⟨by simp [hl], fun i w e => ?_⟩
  by_cases hi : i < ws.length
  · rw [List.getElem?_append_left (by simpa using hi), List.getElem?_map, List.getElem?_eq_getElem hi] at e
    rw [List.getElem?_append_left (by simpa [hl] using hi), List.getElem?_map]
    have key : ∀ {vs : List V} {ws : List AV} (i : Nat) (hi : i < ws.length), AVs K G θ vs ws → ∃ v, vs[i]? = some v ∧ AVok K G θ v ws[i] := fun i hi h => by
      induction h generalizing i with
      | nil => simp at hi
      | cons h t ih =>
        cases i with
        | zero => exact ⟨_, rfl, h⟩
        | succ i => simpa using ih i (by simpa using hi)
    obtain ⟨v, h1, h2⟩ := key i hi h
    have ew : ws[i] = w := by simpa using e
    rw [ew] at h2
    exact ⟨v, by rw [h1]; rfl, h2⟩
  · rw [List.getElem?_append_right (by simpa using hi)] at e
    rw [List.getElem?_replicate] at e
    split at e <;> cases e
theorem sub_pick {α : Type} : ∀ {xs : List α} {n j : Nat} {x : α}, n ≤ j → xs[j]? = some x → (xs.take n ++ [x]).Sublist xs
  | [], _, _, _, _, e => by simp at e
  | y :: xs, 0, j, x, _, e => by
    simp only [List.take_zero, List.nil_append]
    exact List.singleton_sublist.mpr (List.mem_of_getElem? e)
  | y :: xs, n + 1, 0, x, h, e => by omega
  | y :: xs, n + 1, j + 1, x, h, e => by
    simp only [List.take_succ_cons, List.cons_append]
    exact (sub_pick (Nat.le_of_succ_le_succ h) (show xs[j]? = some x by simpa using e)).cons_cons y
theorem flat_sub {xs ys : Th} (h : xs.Sublist ys) : xs.flatten.Sublist ys.flatten := by
  induction h with
  | slnil => exact .slnil
  | cons a _ ih => exact ih.trans (by rw [List.flatten_cons]; exact List.sublist_append_right _ _)
  | cons_cons a _ ih => rw [List.flatten_cons, List.flatten_cons]; exact ih.append_left a
theorem ret_back {θ θ1 : Th} {B B1 : Mem} {G G1 H H1 : Hp} {v : V} {u : AV} {kk : Kt} {Q : VK} (m : MemOk K θ B G H)
    (q : ∀ θ' B' G' H' v w, Gr θ θ' G H G' H' → MemOk K θ' B' G' H' → AVok K G' θ' v w → kk w B' → Q v H')
    (m1 : MemOk K θ1 B1 G1 H1) (gw : Gw B.length ⟨θ, G, H⟩ ⟨θ1, G1, H1⟩) (hv : AVok K G1 θ1 v u) (hk : retK B.length kk u B1) : Q v H1 := by
  have hl := m.cells.len
  have hth : θ1.take B.length = θ := by
    have := gw.th
    rw [← hl] at this ⊢
    rw [this, List.take_length]
  have hln : B.length ≤ θ1.length := gw.ln
  cases u with
  | d x =>
    obtain ⟨mc, _⟩ := mem_cut (np := 0) (n := B.length) m1
    rw [hth] at mc
    refine q θ _ G1 H1 v _ ⟨gw.gx, List.prefix_refl _, gw.keep, fun a h => .inl h, gw.gnew⟩ mc ?_ hk
    cases hv with
    | d h => exact .d h
  | kt x => exact hk.elim
  | sc x => exact hk.elim
  | r j i => exact hk.elim
  | m j =>
    obtain ⟨hj, c, hb, hng, h⟩ := hk
    cases hv with
    | @m _ a as h1 =>
    obtain ⟨c', hb', hc⟩ := m1.cells.get h1
    rw [hb] at hb'
    cases hb'
    rcases h with ⟨x, hx, h⟩ | h
    · obtain ⟨m2, g2⟩ := mem_frz (np := B.length) m1 h1
      obtain ⟨mc, _⟩ := mem_cut (np := 0) (n := B.length) m2
      have gw2 := gw.trans (g2 hj hln)
      rw [List.take_set_of_le hj, List.take_set_of_le hj, hth] at mc
      obtain ⟨a', rs, e1, e2⟩ := frz_dq (fun b hb => m1.free b (List.mem_flatten.mpr ⟨_, List.mem_of_getElem? h1, hb⟩)) hc hx
      cases e1
      exact q θ _ _ H1 _ _ ⟨gw2.gx, List.prefix_refl _, gw2.keep, fun a h => .inl h, gw2.gnew⟩ mc (.d e2) h
    · have sub : (θ ++ [a :: as]).Sublist θ1 := by
        have := sub_pick hj h1
        rw [hth] at this
        exact this
      have cells : CellsOk K G1 H1 (θ ++ [a :: as]) (B1.take B.length ++ [c]) := by
        have := m1.cells.take B.length
        rw [hth] at this
        exact this.append (.cons hc .nil)
      refine q (θ ++ [a :: as]) _ G1 H1 _ _ ⟨gw.gx, List.prefix_append _ _, gw.keep, fun b hb => gw.new b ((flat_sub sub).subset hb), gw.gnew⟩ ⟨m1.ex, cells, (flat_sub sub).nodup m1.nd, fun b hb => m1.free b ((flat_sub sub).subset hb)⟩ (.m (as := as) ?_) h
      rw [← hl, List.getElem?_append_right (Nat.le_refl _), Nat.sub_self]
      rfl
theorem def_ok {x qual : Str} {st : Stmt} {f : Addr} {fd : FuncData} {N ps : List Str} {k : Nat} {gl : Str → Option GK} {ghost dl : List Nat} {T : Nat → FT} {F : FT} {as : ASs} (Fu : Fun K x qual st f fd) (S : FnScope N ps (defScope st)) (hg : GlOk P w K mg base k gl T)
    (hcomp : compileDef N st gl ghost dl = some as) (hlen : ∀ ws B k, F ws B k → ws.length = ps.length)
    (hwp : ∀ ws B k, F ws B k → wpSs T B.length as { nx := fun _ B' => retK B.length k (.d .none) B', rt := retK B.length k, bk := fun _ _ => False, ct := fun _ _ => False } (ws.map some ++ List.replicate (N.length - ws.length) none) B) : FnG P w K mg base (k + 1) f fd ps (spOf K F) := by
  refine Fun.okG (N := N) Fu S (fun vs H Q E h => ?_) (fun cdv A outer s H vs Q hr hcalm h => ?_)
  · obtain ⟨θ, G, B, ws, kk, m, hv, hf, q⟩ := h
    rw [paired_len hv]
    exact hlen ws B kk hf
  · obtain ⟨θ, G, B, ws, kk, m, hv, hf, q⟩ := h
    have cx : CtxOk (cxOf CX0 P w K mg base N qual (defScope st) f cdv A outer s H E0).nox (ctxOf N st gl ghost dl) T := by
      refine ⟨rfl, S.nd, rfl, S.kind, fun _ _ => rfl, rfl, hcalm, by have := hr.un; show (A.deeper _).units + 65 < _; omega, fun y i ps' pats e => ?_, hg.cst, hg.kts, hg.blt⟩
      obtain ⟨f', fd', a1, a2, a3, a4, a5⟩ := (hg.fns y i ps' pats e).ex
      exact ⟨f', fd', k, a1, hr, a2, a3, a4, a5⟩
    have body := (cL_ok (np := B.length) (fun {s r} h => cS_ok (cp_ok 24) cx PassesOwn.never h) hcomp).pss ⟨θ, G, H⟩
    refine ⟨_, body, θ, _, B, G, _, ⟨m, slots_start (N := N) hv⟩, Gw.refl (by rw [m.cells.len]; exact Nat.le_refl _), hwp ws B kk hf, ?_⟩
    have back : ∀ θ1 B1 G1 H1 v u, MemOk K θ1 B1 G1 H1 → Gw B.length ⟨θ, G, H⟩ ⟨θ1, G1, H1⟩ → AVok K G1 θ1 v u → retK B.length kk u B1 → Q v H1 := fun θ1 B1 G1 H1 v u m1 gw hv1 hk => ret_back m q m1 gw hv1 hk
    exact ⟨fun θ1 A1 B1 σ1 G1 H1 S1 gw h => back θ1 B1 G1 H1 .non _ S1.mem gw (.d .non) h, back, fun _ _ _ _ _ _ _ _ h => h.elim, fun _ _ _ _ _ _ _ _ h => h.elim⟩
end
end Dl

namespace Dl
open L2 PySem PyProof.Rows PySem.Spec
theorem sh0 {np : Nat} {P : Env → Mem → Prop} {A : Env} {B : Mem} (h : P A B) : shiftTo np P A B := ⟨A, B, .refl, h⟩
theorem shF {np : Nat} {P : Env → Mem → Prop} {A : Env} {B : Mem} (j : Nat) {c : MC} {x : PyData} (h1 : np ≤ j) (h2 : B[j]? = some c) (h3 : frzC c = some x) (h : shiftTo np P (A.map (subF j x)) (B.set j .gone)) : shiftTo np P A B := by
  obtain ⟨A', B', s, q⟩ := h
  exact ⟨A', B', .frz j h1 h2 h3 s, q⟩
theorem shC {np : Nat} {P : Env → Mem → Prop} {A : Env} {B : Mem} (n : Nat) (h1 : np ≤ n) (h : shiftTo np P (A.map (hideF n)) (B.take n)) : shiftTo np P A B := by
  obtain ⟨A', B', s, q⟩ := h
  exact ⟨A', B', .cut n h1 s, q⟩
theorem shH {np : Nat} {P : Env → Mem → Prop} {A : Env} {B : Mem} (i : Nat) (h : shiftTo np P (A.set i none) B) : shiftTo np P A B := by
  obtain ⟨A', B', s, q⟩ := h
  exact ⟨A', B', .hide i s, q⟩
theorem isi_int (d : PyData) : dIsi [.int] d = match d with | .int _ => true | .bool _ => true | _ => false := by cases d <;> simp [dIsi, isSub, tyD, nameTN]
theorem isi_bool (d : PyData) : dIsi [.bool] d = match d with | .bool _ => true | _ => false := by cases d <;> simp [dIsi, isSub, tyD, nameTN]
theorem isi_str (d : PyData) : dIsi [.str] d = match d with | .str _ => true | _ => false := by cases d <;> simp [dIsi, isSub, tyD, nameTN]
theorem isi_list (d : PyData) : dIsi [.list] d = match d with | .list _ => true | _ => false := by cases d <;> simp [dIsi, isSub, tyD, nameTN]
theorem isi_tuple (d : PyData) : dIsi [.tuple] d = match d with | .tuple _ => true | _ => false := by cases d <;> simp [dIsi, isSub, tyD, nameTN]
theorem isi_lt (d : PyData) : dIsi [.list, .tuple] d = match d with | .list _ => true | .tuple _ => true | _ => false := by cases d <;> simp [dIsi, isSub, tyD, nameTN]
theorem isi_is (d : PyData) : dIsi [.int, .str] d = match d with | .int _ => true | .bool _ => true | .str _ => true | _ => false := by cases d <;> simp [dIsi, isSub, tyD, nameTN]
theorem dIx_last (xs : List PyData) (x : PyData) (k : Kr) : dIx (.list (xs ++ [x])) (.int (-1)) k = k (.v x) := by
  simp only [dIx, atI_last, Option.some.injEq, exists_eq_left']
theorem dIx_0t (x : PyData) (xs : List PyData) (k : Kr) : dIx (.tuple (x :: xs)) (.int 0) k = k (.v x) := by
  have : atI (x :: xs) (0 : Int) = some x := atI_nat (j := 0) rfl
  simp only [dIx, this, Option.some.injEq, exists_eq_left']
theorem dIx_1t (x y : PyData) (xs : List PyData) (k : Kr) : dIx (.tuple (x :: y :: xs)) (.int 1) k = k (.v y) := by
  have : atI (x :: y :: xs) (1 : Int) = some y := atI_nat (j := 1) rfl
  simp only [dIx, this, Option.some.injEq, exists_eq_left']
theorem dIx_0l (x : PyData) (xs : List PyData) (k : Kr) : dIx (.list (x :: xs)) (.int 0) k = k (.v x) := by
  have : atI (x :: xs) (0 : Int) = some x := atI_nat (j := 0) rfl
  simp only [dIx, this, Option.some.injEq, exists_eq_left']
theorem dIx_1l (x y : PyData) (xs : List PyData) (k : Kr) : dIx (.list (x :: y :: xs)) (.int 1) k = k (.v y) := by
  have : atI (x :: y :: xs) (1 : Int) = some y := atI_nat (j := 1) rfl
  simp only [dIx, this, Option.some.injEq, exists_eq_left']
theorem dIx_2l (x y z : PyData) (xs : List PyData) (k : Kr) : dIx (.list (x :: y :: z :: xs)) (.int 2) k = k (.v z) := by
  have : atI (x :: y :: z :: xs) (2 : Int) = some z := atI_nat (j := 2) rfl
  simp only [dIx, this, Option.some.injEq, exists_eq_left']
theorem ixN_lastN (n : Nat) : ixN (n + 1) (-1) = some n := by
  unfold ixN
  rw [if_neg (by decide), if_pos (by omega)]
  congr 1
  omega
theorem set_last {α : Type} (xs : List α) (x y : α) : (xs ++ [x]).set xs.length y = xs ++ [y] := by
  rw [List.set_append_right _ _ (Nat.le_refl _), Nat.sub_self]
  rfl
def intsD' (ns : List Int) : List PyData := ns.map .int
def prs (L : List (Int × Int)) : List PyData := L.map fun p => .tuple [.int p.1, .int p.2]
theorem prs_app (L M : List (Int × Int)) : prs (L ++ M) = prs L ++ prs M := List.map_append
theorem prs_one (a b : Int) : prs [(a, b)] = [.tuple [.int a, .int b]] := rfl
theorem prs_len (L : List (Int × Int)) : (prs L).length = L.length := List.length_map _
theorem prs_get {L : List (Int × Int)} {i : Nat} {x : PyData} (h : (prs L)[i]? = some x) : ∃ a b, L[i]? = some (a, b) ∧ x = .tuple [.int a, .int b] := by
  unfold prs at h
  rw [List.getElem?_map] at h
  cases q : L[i]? with
  | none => rw [q] at h; cases h
  | some p =>
    rw [q] at h
    cases h
    exact ⟨p.1, p.2, rfl, rfl⟩
theorem ints_get {ns : List Int} {i : Nat} {x : PyData} (h : (ns.map PyData.int)[i]? = some x) : ∃ n, ns[i]? = some n ∧ x = .int n := by
  rw [List.getElem?_map] at h
  cases q : ns[i]? with
  | none => rw [q] at h; cases h
  | some p =>
    rw [q] at h
    cases h
    exact ⟨p, rfl, rfl⟩
theorem take_succ {α : Type} {xs : List α} {i : Nat} {x : α} (h : xs[i]? = some x) : xs.take (i + 1) = xs.take i ++ [x] := by
  rw [List.take_add_one, h]
  rfl
theorem foldl_step {α β : Type} {g : β → α → β} {b : β} {xs : List α} {i : Nat} {x : α} (h : xs[i]? = some x) : (xs.take (i + 1)).foldl g b = g ((xs.take i).foldl g b) x := by
  rw [take_succ h, List.foldl_append]
  rfl
theorem sz {n : Nat} (h : n ≤ 1000000) : n ≤ sizeLine := Nat.le_trans h (by decide)
theorem sz' {n : Nat} (h : n ≤ 1000000) : n < sizeLine := Nat.lt_of_le_of_lt h (by decide)
theorem cut_1 (xs : List PyData) : Dl.cutD xs (some 1) none = xs.drop 1 := by
  unfold Dl.cutD
  rw [show HT.sIx xs.length 0 (some 1) = min 1 xs.length from HT.sIx_nat _ 0 1, HT.sIx_none]
  cases xs with
  | nil => rfl
  | cons x r =>
    rw [show min 1 (x :: r).length = 1 by rw [List.length_cons]; omega]
    show (List.take ((x :: r).length - 1) r) = r
    rw [List.length_cons, Nat.add_sub_cancel]
    exact List.take_length
theorem cut_to (xs : List PyData) (n : Nat) : Dl.cutD xs none (some (n : Int)) = xs.take n := by
  unfold Dl.cutD
  rw [HT.sIx_none, show HT.sIx xs.length xs.length (some (n : Int)) = min n xs.length from HT.sIx_nat xs.length xs.length n]
  rw [List.drop_zero, Nat.sub_zero]
  by_cases h : n ≤ xs.length
  · rw [Nat.min_eq_left h]
  · rw [Nat.min_eq_right (by omega), List.take_length, List.take_of_length_le (by omega)]
theorem bT {b : Bool} {P Q : Prop} (h : b = true) (p : P) : (b = true → P) ∧ (b = false → Q) := ⟨fun _ => p, fun e => absurd (h.symm.trans e) (by decide)⟩
theorem bF {b : Bool} {P Q : Prop} (h : b = false) (q : Q) : (b = true → P) ∧ (b = false → Q) := ⟨fun e => absurd (h.symm.trans e) (by decide), fun _ => q⟩
theorem dT {p : Prop} [Decidable p] {P Q : Prop} (h : p) (a : P) : (decide p = true → P) ∧ (decide p = false → Q) := bT (decide_eq_true h) a
theorem dF {p : Prop} [Decidable p] {P Q : Prop} (h : ¬ p) (a : Q) : (decide p = true → P) ∧ (decide p = false → Q) := bF (decide_eq_false h) a
theorem neT {α : Type} {xs : List α} {x : α} : (!(xs ++ [x]).isEmpty) = true := by cases xs <;> rfl
end Dl

namespace Dl
open L2 PySem PyProof.Rows PySem.Spec
def lexLe (p q : Int × Int) : Bool := decide (p.1 < q.1 ∨ (p.1 = q.1 ∧ p.2 ≤ q.2))
theorem sort_ints (ns : List Int) : (ns.map PyData.int).mergeSort (PySem.W.dataLe false id) = (ns.mergeSort fun a b => decide (a ≤ b)).map .int := by
  refine (List.map_mergeSort (r := fun a b => decide (a ≤ b)) fun a _ b _ => ?_).symm
  have := congrFun (congrFun (PySem.W.dataLe_int (β := Int) id) a) b
  exact this.symm
theorem sort_prs (L : List (Int × Int)) : (prs L).mergeSort (PySem.W.dataLe false id) = prs (L.mergeSort lexLe) := by
  refine (List.map_mergeSort (r := lexLe) fun a _ b _ => ?_).symm
  have := congrFun (congrFun (PySem.W.dataLe_ii (β := Int × Int) (·.1) (·.2)) a) b
  exact this.symm
theorem sorted_ints {ns : List Int} {k : Kr} (h : ns.length ≤ sizeLine) (hk : k (.l ((ns.mergeSort fun a b => decide (a ≤ b)).map .int))) : dSorted (.list (ns.map .int)) k := by
  refine ⟨?_, .inr ?_, by rw [List.length_map]; exact h, ?_, by rw [sort_ints]; exact hk⟩
  · intro d hd d' hd'
    obtain ⟨a, _, rfl⟩ := List.mem_map.mp hd
    obtain ⟨b, _, rfl⟩ := List.mem_map.mp hd'
    rfl
  · intro d hd
    obtain ⟨a, _, rfl⟩ := List.mem_map.mp hd
    exact ⟨(fun z => by cases z), (fun xs z => by cases z)⟩
  · intro d hd
    obtain ⟨a, _, rfl⟩ := List.mem_map.mp hd
    exact Nat.zero_le _
theorem sorted_prs {L : List (Int × Int)} {k : Kr} (h : L.length ≤ sizeLine) (hk : k (.l (prs (L.mergeSort lexLe)))) : dSorted (.list (prs L)) k := by
  refine ⟨?_, .inl ?_, by rw [prs_len]; exact h, ?_, by rw [sort_prs]; exact hk⟩
  · intro d hd d' hd'
    obtain ⟨a, _, rfl⟩ := List.mem_map.mp hd
    obtain ⟨b, _, rfl⟩ := List.mem_map.mp hd'
    rfl
  · intro d hd
    obtain ⟨a, _, rfl⟩ := List.mem_map.mp hd
    exact ⟨_, _, rfl⟩
  · intro d hd
    obtain ⟨a, _, rfl⟩ := List.mem_map.mp hd
    show max 0 (max 0 0) + 1 ≤ 60
    omega
theorem lay_ints : ∀ ns : List Int, PyData.canLayAll0 (ns.map .int) = true
  | [] => rfl
  | n :: ns => by
    show (PyData.canLay0 (.int n) && PyData.canLayAll0 (ns.map .int)) = true
    rw [lay_ints ns]
    rfl
theorem lay_prs : ∀ L : List (Int × Int), PyData.canLayAll0 (prs L) = true
  | [] => rfl
  | n :: ns => by
    show (PyData.canLay0 (.tuple [.int n.1, .int n.2]) && PyData.canLayAll0 (prs ns)) = true
    rw [lay_prs ns]
    rfl
theorem dep_ints : ∀ ns : List Int, PyData.depthAll (ns.map .int) = 0
  | [] => rfl
  | n :: ns => by
    show max 0 (PyData.depthAll (ns.map .int)) = 0
    rw [dep_ints ns]
    rfl
theorem dep_prs : ∀ L : List (Int × Int), PyData.depthAll (prs L) ≤ 1
  | [] => Nat.zero_le _
  | n :: ns => by
    show max (max 0 (max 0 0) + 1) (PyData.depthAll (prs ns)) ≤ 1
    have := dep_prs ns
    omega
theorem lay_app : ∀ xs ys : List PyData, PyData.canLayAll0 (xs ++ ys) = (PyData.canLayAll0 xs && PyData.canLayAll0 ys)
  | [], ys => by simp [PyData.canLayAll0]
  | x :: xs, ys => by
    show (PyData.canLay0 x && PyData.canLayAll0 (xs ++ ys)) = _
    rw [lay_app xs ys, ← Bool.and_assoc]
    rfl
theorem dep_app : ∀ xs ys : List PyData, PyData.depthAll (xs ++ ys) = max (PyData.depthAll xs) (PyData.depthAll ys)
  | [], ys => by simp [PyData.depthAll]
  | x :: xs, ys => by
    show max (PyData.depth x) (PyData.depthAll (xs ++ ys)) = max (max (PyData.depth x) (PyData.depthAll xs)) (PyData.depthAll ys)
    rw [dep_app xs ys]
    omega
theorem shaped_list {xs : List PyData} (h1 : PyData.canLayAll0 xs = true) (h2 : PyData.depthAll xs ≤ 63) : SeqAt.shaped (.list xs) = true := by
  show (PyData.canLayAll0 xs && decide (PyData.depthAll xs + 1 ≤ 64)) = true
  rw [h1, decide_eq_true (by omega)]
  rfl
theorem shaped_tuple {xs : List PyData} (h1 : PyData.canLayAll0 xs = true) (h2 : PyData.depthAll xs ≤ 63) : SeqAt.shaped (.tuple xs) = true := by
  show (PyData.canLayAll0 xs && decide (PyData.depthAll xs + 1 ≤ 64)) = true
  rw [h1, decide_eq_true (by omega)]
  rfl
theorem eqv_nil (xs : List PyData) : PyData.eqv (.list xs) (.list []) = xs.isEmpty := by
  cases xs <;> rfl
theorem eqvt_nil (xs : List PyData) : PyData.eqv (.tuple xs) (.tuple []) = xs.isEmpty := by
  cases xs <;> rfl
theorem tgt2 {i j : Nat} {d1 d2 : PyData} {A : Env} {B : Mem} {Q : Env → Mem → Prop} (h : Q ((A.set i (some (.d d1))).set j (some (.d d2))) B) : Dl.wpG (.tp (.cons (.nm i) (.cons (.nm j) .nil))) (.d (.tuple [d1, d2])) A B Q := ⟨rfl, rfl, _, _, rfl, _, _, rfl, rfl, h⟩
theorem tgt22 {i j l m : Nat} {d1 d2 d3 d4 : PyData} {A : Env} {B : Mem} {Q : Env → Mem → Prop} (h : Q ((((A.set i (some (.d d1))).set j (some (.d d2))).set l (some (.d d3))).set m (some (.d d4))) B) :
    Dl.wpG (.tp (.cons (.tp (.cons (.nm i) (.cons (.nm j) .nil))) (.cons (.tp (.cons (.nm l) (.cons (.nm m) .nil))) .nil))) (.d (.tuple [.tuple [d1, d2], .tuple [d3, d4]])) A B Q :=
  ⟨rfl, rfl, _, _, rfl, tgt2 ⟨_, _, rfl, tgt2 ⟨rfl, h⟩⟩⟩
def dk (d : List (Int × Int)) : List (L2.Key × PyData) := d.map fun p => (Sum.inl p.1, .int p.2)
def getI (d : List (Int × Int)) (k : Int) : Int := ((d.find? fun p => decide (p.1 = k)).map (·.2)).getD 0
def putI (d : List (Int × Int)) (k v : Int) : List (Int × Int) := if (d.any fun p => decide (p.1 = k)) = true then d.map (fun p => if p.1 = k then (p.1, v) else p) else d ++ [(k, v)]
theorem dk_look (d : List (Int × Int)) (k : Int) : lookK (dk d) (Sum.inl k) = (d.find? fun p => decide (p.1 = k)).map fun p => .int p.2 := by
  unfold lookK dk
  induction d with
  | nil => rfl
  | cons p d ih =>
    rw [List.map_cons, List.find?_cons, List.find?_cons]
    by_cases h : p.1 = k
    · simp [h]
    · simp only [h, Sum.inl.injEq, decide_false]
      exact ih
theorem dk_put (d : List (Int × Int)) (k v : Int) : putD (dk d) (Sum.inl k) (.int v) = dk (putI d k v) := by
  unfold putD putI
  have h : ((dk d).any fun kv => decide (kv.1 = Sum.inl k)) = d.any fun p => decide (p.1 = k) := by
    unfold dk
    rw [List.any_map]
    congr 1
    funext p
    simp
  rw [h]
  split
  · unfold dk
    rw [List.map_map, List.map_map]
    refine List.map_congr_left fun p _ => ?_
    by_cases e : p.1 = k <;> simp [e]
  · simp [dk]
theorem dk_keys (d : List (Int × Int)) : (dk d).map (·.1) = (d.map (·.1)).map Sum.inl := by
  simp [dk]
theorem dk_len (d : List (Int × Int)) : (dk d).length = d.length := by simp [dk]
theorem putI_len (d : List (Int × Int)) (k v : Int) : (putI d k v).length ≤ d.length + 1 := by
  unfold putI
  split <;> simp
theorem get_dk {B : Mem} {j : Nat} {d : List (Int × Int)} {q : Int} {k : Kt} (hb : B[j]? = some (.dK (dk d))) (h : k (.d (.int (getI d q))) B) : ∃ c, dictOf B (.m j) = some c ∧ Dl.wK (.d (.int q)) fun dd => dlook c dd fun r => selK r (.d (.int 0)) k B := by
  refine ⟨.k (dk d), by simp only [dictOf, hb], _, rfl, ?_⟩
  rw [dk_look]
  unfold getI at h
  cases z : d.find? fun p => decide (p.1 = q) with
  | none => rw [z] at h; exact h
  | some p => rw [z] at h; exact h
theorem look_in {d : List (Int × Int)} {q : Int} (hq : q ∈ d.map (·.1)) : lookK (dk d) (Sum.inl q) = some (.int (getI d q)) := by
  rw [dk_look]
  unfold getI
  cases z : d.find? fun p => decide (p.1 = q) with
  | none =>
    obtain ⟨p, hp, e⟩ := List.mem_map.mp hq
    have := List.find?_eq_none.mp z p hp
    simp [e] at this
  | some p => rfl
theorem put_dk {B : Mem} {j : Nat} {d : List (Int × Int)} {q v : Int} {k : Mem → Prop} (hl : d.length < 1000000) (h : k (B.set j (.dK (dk (putI d q v))))) : ∃ key, keyD (.int q) = some key ∧ (dk d).length < sizeLine ∧ k (B.set j (.dK (putD (dk d) key (.int v)))) :=
  ⟨_, rfl, by rw [dk_len]; exact sz' (by omega), by rw [dk_put]; exact h⟩
def bk (ms : List Int) : List (L2.Key × PyData) := ms.map fun m => (Sum.inl m, .bool true)
def insM (ms : List Int) (m : Int) : List Int := if m ∈ ms then ms else ms ++ [m]
theorem bk_put (ms : List Int) (m : Int) : putD (bk ms) (Sum.inl m) (.bool true) = bk (insM ms m) := by
  unfold putD insM
  have h : ((bk ms).any fun kv => decide (kv.1 = Sum.inl m)) = decide (m ∈ ms) := by
    unfold bk
    rw [List.any_map, Bool.eq_iff_iff]
    simp
  rw [h]
  by_cases e : m ∈ ms
  · rw [if_pos (by simpa using e), if_pos e]
    unfold bk
    rw [List.map_map]
    refine List.map_congr_left fun p _ => ?_
    by_cases q : p = m <;> simp [q]
  · rw [if_neg (by simpa using e), if_neg e]
    simp [bk]
theorem bk_keys (ms : List Int) : ((bk ms).map fun p => keyPy p.1) = ms.map PyData.int := by
  simp [bk, keyPy]
theorem bk_len (ms : List Int) : (bk ms).length = ms.length := by simp [bk]
theorem insM_nd {ms : List Int} {m : Int} (h : ms.Nodup) : (insM ms m).Nodup := by
  unfold insM
  split
  · exact h
  · rename_i e
    rw [List.nodup_append]
    refine ⟨h, by simp, fun a ha b hb z => ?_⟩
    simp at hb
    subst hb
    subst z
    exact e ha
theorem insM_mem {ms : List Int} {m x : Int} (h : x ∈ insM ms m) : x ∈ ms ∨ x = m := by
  unfold insM at h
  split at h
  · exact .inl h
  · simpa using h
theorem insM_len (ms : List Int) (m : Int) : (insM ms m).length ≤ ms.length + 1 := by
  unfold insM
  split <;> simp
theorem put_bk {B : Mem} {j : Nat} {ms : List Int} {m : Int} {k : Mem → Prop} (hl : ms.length < 1000000) (h : k (B.set j (.dK (bk (insM ms m))))) : ∃ key, keyD (.int m) = some key ∧ (bk ms).length < sizeLine ∧ k (B.set j (.dK (putD (bk ms) key (.bool true)))) :=
  ⟨_, rfl, by rw [bk_len]; exact sz' (by omega), by rw [bk_put]; exact h⟩
theorem mem_lit {L : List Int} {x : PyData} (h : x ∈ L.map PyData.int) : ∃ i, i ∈ L ∧ x = .int i := by
  obtain ⟨i, h1, h2⟩ := List.mem_map.mp h
  exact ⟨i, h1, h2.symm⟩
theorem sort_le (ms : List Int) : (ms.mergeSort fun a b => decide (a ≤ b)).Pairwise fun a b => a ≤ b := by
  have := List.pairwise_mergeSort (le := fun a b : Int => decide (a ≤ b)) (fun a b c h1 h2 => by simp at *; omega) (fun a b => by simp; omega) ms
  exact this.imp fun h => by simpa using h
theorem sort_nd {ms : List Int} (h : ms.Nodup) : (ms.mergeSort fun a b => decide (a ≤ b)).Nodup := (List.mergeSort_perm ms _).nodup_iff.mpr h
theorem rangeD0_get {n i : Nat} {d : PyData} (h : (rangeD 0 n)[i]? = some d) : i < n ∧ d = .int (i : Int) := by
  obtain ⟨h1, h2⟩ := rangeD_get h
  exact ⟨h1, by rw [h2]; simp⟩
end Dl

namespace Dl
noncomputable section
open L2 PySem PyProof.Rows PySem.Spec
def ob {α β : Type} (x : Option α) (f : α → Option β) : Option β := match x with
  | some a => f a
  | none => none
def ob2 {α β γ : Type} (x : Option (α × β)) (f : α → β → Option γ) : Option γ := match x with
  | some p => f p.1 p.2
  | none => none
open Classical in
def gu {α : Type} (p : Prop) (x : Option α) : Option α := if p then x else none
theorem ob_of {α β : Type} {x : Option α} {f : α → Option β} {b : β} (h : ob x f = some b) : ∃ a, x = some a ∧ f a = some b := by
  cases x with
  | none => cases h
  | some a => exact ⟨a, rfl, h⟩
theorem ob2_of {α β γ : Type} {x : Option (α × β)} {f : α → β → Option γ} {b : γ} (h : ob2 x f = some b) : ∃ a c, x = some (a, c) ∧ f a c = some b := by
  cases x with
  | none => cases h
  | some a => exact ⟨a.1, a.2, rfl, h⟩
theorem gu_of {α : Type} {p : Prop} {x : Option α} {a : α} (h : gu p x = some a) : p ∧ x = some a := by
  unfold gu at h
  split at h
  · rename_i q; exact ⟨q, h⟩
  · cases h
def oAdd : PyData → PyData → Option Res
  | .int i, .int j => some (.v (.int (i + j)))
  | .str s, .str t => gu (s.length + t.length ≤ sizeLine) (some (.v (.str (s ++ t))))
  | .list xs, .list ys => gu (xs.length + ys.length ≤ sizeLine) (some (.l (xs ++ ys)))
  | .tuple xs, .tuple ys => gu (xs.length + ys.length ≤ sizeLine) (some (.v (.tuple (xs ++ ys))))
  | _, _ => none
def oSub : PyData → PyData → Option Res
  | .int i, .int j => some (.v (.int (i - j)))
  | _, _ => none
instance (i j : Int) : Decidable (CMul i j) := by unfold CMul; infer_instance
instance (i j : Int) : Decidable (CMulW i j) := by unfold CMulW; infer_instance
instance (i j : Int) : Decidable (MulOk i j) := by unfold MulOk; infer_instance
instance (i j : Int) : Decidable (CDivW i j) := by unfold CDivW; infer_instance
instance (i j : Int) : Decidable (CPow i j) := by unfold CPow; infer_instance
def oMul : PyData → PyData → Option Res
  | .int i, .int j => gu (MulOk i j) (some (.v (.int (i * j))))
  | .list xs, .int n => gu (-(2 ^ 63) ≤ n ∧ n < 2 ^ 63 ∧ xs.length * n.toNat ≤ sizeLine) (some (.l (List.replicate n.toNat xs).flatten))
  | _, _ => none
def oDiv : PyData → PyData → Option Res
  | .int i, .int j => gu (CDivW i j) (some (.v (.int (i / j))))
  | _, _ => none
def oMod : PyData → PyData → Option Res
  | .int i, .int j => gu (0 < j) (some (.v (.int (i % j))))
  | _, _ => none
def oPow : PyData → PyData → Option Res
  | .int i, .int j => gu (CPow i j) (some (.v (.int (i ^ j.toNat))))
  | _, _ => none
def oNeg : PyData → Option Res
  | .int i => some (.v (.int (-i)))
  | _ => none
def oEqB (d e : PyData) : Option Bool := match d, e with
  | .int i, .int j => some (decide (i = j))
  | .str i, .str j => some (decide (i = j))
  | .bool i, .bool j => some (decide (i = j))
  | d, e => gu (SeqAt.shaped d = true ∧ SeqAt.shaped e = true) (some (PyData.eqv d e))
def rB (b : Bool) : Option Res := some (.v (.bool b))
def oEq (d e : PyData) : Option Res := ob (oEqB d e) rB
def oNe (d e : PyData) : Option Res := ob (oEqB d e) fun b => rB (!b)
def oLt : PyData → PyData → Option Res
  | .int i, .int j => rB (decide (i < j))
  | .str i, .str j => rB (decide (i.cps.toList < j.cps.toList))
  | _, _ => none
def oLe : PyData → PyData → Option Res
  | .int i, .int j => rB (decide (i ≤ j))
  | _, _ => none
def oGt : PyData → PyData → Option Res
  | .int i, .int j => rB (decide (j < i))
  | _, _ => none
def oGe : PyData → PyData → Option Res
  | .int i, .int j => rB (decide (j ≤ i))
  | _, _ => none
theorem oAdd_ok {d e : PyData} {r : Res} {k : Kr} (h : oAdd d e = some r) (hk : k r) : dAdd d e k := by
  unfold oAdd at h
  split at h
  · cases h; exact hk
  · obtain ⟨q, h⟩ := gu_of h; cases h; exact ⟨q, hk⟩
  · obtain ⟨q, h⟩ := gu_of h; cases h; exact ⟨q, hk⟩
  · obtain ⟨q, h⟩ := gu_of h; cases h; exact ⟨q, hk⟩
  · cases h
theorem oSub_ok {d e : PyData} {r : Res} {k : Kr} (h : oSub d e = some r) (hk : k r) : dSub d e k := by
  unfold oSub at h
  split at h
  · cases h; exact hk
  · cases h
theorem oMul_ok {d e : PyData} {r : Res} {k : Kr} (h : oMul d e = some r) (hk : k r) : dMul d e k := by
  unfold oMul at h
  split at h
  · obtain ⟨q, h⟩ := gu_of h; cases h; exact ⟨q, hk⟩
  · obtain ⟨q, h⟩ := gu_of h; cases h; exact ⟨q.1, q.2.1, q.2.2, hk⟩
  · cases h
theorem oDiv_ok {d e : PyData} {r : Res} {k : Kr} (h : oDiv d e = some r) (hk : k r) : dDiv d e k := by
  unfold oDiv at h
  split at h
  · obtain ⟨q, h⟩ := gu_of h; cases h; exact ⟨q, hk⟩
  · cases h
theorem oMod_ok {d e : PyData} {r : Res} {k : Kr} (h : oMod d e = some r) (hk : k r) : dMod d e k := by
  unfold oMod at h
  split at h
  · obtain ⟨q, h⟩ := gu_of h; cases h; exact ⟨q, hk⟩
  · cases h
theorem oPow_ok {d e : PyData} {r : Res} {k : Kr} (h : oPow d e = some r) (hk : k r) : dPow d e k := by
  unfold oPow at h
  split at h
  · obtain ⟨q, h⟩ := gu_of h; cases h; exact ⟨q, hk⟩
  · cases h
theorem oNeg_ok {d : PyData} {r : Res} {k : Kr} (h : oNeg d = some r) (hk : k r) : dNeg d k := by
  unfold oNeg at h
  split at h
  · cases h; exact hk
  · cases h
theorem oEqB_ok {d e : PyData} {b : Bool} {k : Bool → Prop} (h : oEqB d e = some b) (hk : k b) : dEqK d e k := by
  unfold oEqB at h
  unfold dEqK
  split at h
  · cases h; exact hk
  · cases h; exact hk
  · cases h; exact hk
  · rename_i n1 n2 n3
    obtain ⟨q, h⟩ := gu_of h; cases h
    first
      | exact ⟨q.1, q.2, hk⟩
      | (split
         · exact absurd rfl (n1 _ _ rfl)
         · exact absurd rfl (n2 _ _ rfl)
         · exact absurd rfl (n3 _ _ rfl)
         · exact ⟨q.1, q.2, hk⟩)
theorem oEq_ok {d e : PyData} {r : Res} {k : Kr} (h : oEq d e = some r) (hk : k r) : dEq d e k := by
  obtain ⟨b, h1, h2⟩ := ob_of h
  cases h2
  exact oEqB_ok h1 hk
theorem oNe_ok {d e : PyData} {r : Res} {k : Kr} (h : oNe d e = some r) (hk : k r) : dNe d e k := by
  obtain ⟨b, h1, h2⟩ := ob_of h
  cases h2
  exact oEqB_ok h1 hk
theorem oLt_ok {d e : PyData} {r : Res} {k : Kr} (h : oLt d e = some r) (hk : k r) : dLt d e k := by
  unfold oLt at h
  split at h
  · cases h; exact hk
  · cases h; exact hk
  · cases h
theorem oLe_ok {d e : PyData} {r : Res} {k : Kr} (h : oLe d e = some r) (hk : k r) : dLe d e k := by
  unfold oLe at h
  split at h
  · cases h; exact hk
  · cases h
theorem oGt_ok {d e : PyData} {r : Res} {k : Kr} (h : oGt d e = some r) (hk : k r) : dGt d e k := by
  unfold oGt at h
  split at h
  · cases h; exact hk
  · cases h
theorem oGe_ok {d e : PyData} {r : Res} {k : Kr} (h : oGe d e = some r) (hk : k r) : dGe d e k := by
  unfold oGe at h
  split at h
  · cases h; exact hk
  · cases h
def newO (cw : Bool) (xs : List PyData) (B : Mem) : AV × Mem := match cw with
  | true => (.m B.length, B ++ [.lst xs])
  | false => (.d (.list xs), B)
def resO (cw : Bool) (B : Mem) : Res → Option (AV × Mem)
  | .v x => some (.d x, B)
  | .l xs => some (newO cw xs B)
theorem newO_ok {cw : Bool} {xs : List PyData} {B B' : Mem} {w : AV} {k : Kt} (h : some (newO cw xs B) = some (w, B')) (hk : k w B') : newL xs B k := by
  cases cw with
  | true => cases h; exact .inr hk
  | false => cases h; exact .inl hk
theorem resO_ok {cw : Bool} {B B' : Mem} {r : Res} {w : AV} {k : Kt} (h : resO cw B r = some (w, B')) (hk : k w B') : wpR B k r := by
  cases r with
  | v x => cases h; exact hk
  | l xs => exact newO_ok h hk
def eD2 (cw : Bool) (f : PyData → PyData → Option Res) (x y : AV) (B : Mem) : Option (AV × Mem) := ob (rd B x) fun d => ob (rd B y) fun e => ob (f d e) (resO cw B)
def eD1 (cw : Bool) (f : PyData → Option Res) (x : AV) (B : Mem) : Option (AV × Mem) := ob (rd B x) fun d => ob (f d) (resO cw B)
theorem wD_ok {B : Mem} {x : AV} {d : PyData} {k : PyData → Prop} (h : rd B x = some d) (hk : k d) : wD B x k := by
  unfold wD
  rw [h]
  exact hk
theorem eD2_ok {cw : Bool} {f : PyData → PyData → Option Res} {g : PyData → PyData → Kr → Prop} (hf : ∀ {d e r k}, f d e = some r → k r → g d e k) {x y w : AV} {B B' : Mem} {k : Kt} (h : eD2 cw f x y B = some (w, B')) (hk : k w B') : aD2 g x y B k := by
  obtain ⟨d, h1, h⟩ := ob_of h
  obtain ⟨e, h2, h⟩ := ob_of h
  obtain ⟨r, h3, h⟩ := ob_of h
  exact wD_ok h1 (wD_ok h2 (hf h3 (resO_ok h hk)))
theorem eD1_ok {cw : Bool} {f : PyData → Option Res} {g : PyData → Kr → Prop} (hf : ∀ {d r k}, f d = some r → k r → g d k) {x w : AV} {B B' : Mem} {k : Kt} (h : eD1 cw f x B = some (w, B')) (hk : k w B') : aD1 g x B k := by
  obtain ⟨d, h1, h⟩ := ob_of h
  obtain ⟨r, h3, h⟩ := ob_of h
  exact wD_ok h1 (hf h3 (resO_ok h hk))
def eAdd (cw : Bool) (x y : AV) (B : Mem) : Option (AV × Mem) := match isKt x || isKt y with
  | true => gu ((isKt x = true → rd B y ≠ some (.tuple [])) ∧ (isKt y = true → rd B x ≠ some (.tuple []))) (eD2 cw oAdd x y B)
  | false => eD2 cw oAdd x y B
theorem eAdd_ok {cw : Bool} {x y w : AV} {B B' : Mem} {k : Kt} (h : eAdd cw x y B = some (w, B')) (hk : k w B') : aAdd x y B k := by
  unfold eAdd at h
  unfold aAdd
  split at h
  · rename_i e
    try rw [e]
    obtain ⟨q, h⟩ := gu_of h
    exact ⟨q.1, q.2, eD2_ok oAdd_ok h hk⟩
  · rename_i e
    try rw [e]
    exact eD2_ok oAdd_ok h hk
def eIs (neg : Bool) (x y : AV) (B : Mem) : Option (AV × Mem) := match y with
  | .d .none => some (.d (.bool (if neg then !isN x else isN x)), B)
  | _ => none
theorem eIs_ok {neg : Bool} {x y w : AV} {B B' : Mem} {k : Kt} (h : eIs neg x y B = some (w, B')) (hk : k w B') : aIs neg x y B k := by
  unfold eIs at h
  unfold aIs
  split at h
  · cases h; exact hk
  · cases h
def oK (y : AV) : Option PyData := match y with
  | .d d => some d
  | _ => none
theorem oK_ok {y : AV} {d : PyData} {k : PyData → Prop} (h : oK y = some d) (hk : k d) : wK y k := by
  unfold oK at h
  split at h
  · cases h; exact hk
  · cases h
def oLook (c : DictC) (d : PyData) : Option (Option PyData) := match c with
  | .k kvs => ob (keyD d) fun key => some (lookK kvs key)
  | .t kvs => ob (keyT d) fun key => some (lookK kvs key)
theorem oLook_ok {c : DictC} {d : PyData} {o : Option PyData} {k : Option PyData → Prop} (h : oLook c d = some o) (hk : k o) : dlook c d k := by
  cases c with
  | k kvs => obtain ⟨key, h1, h2⟩ := ob_of h; cases h2; exact ⟨key, h1, hk⟩
  | t kvs => obtain ⟨key, h1, h2⟩ := ob_of h; cases h2; exact ⟨key, h1, hk⟩
def oIn (d e : PyData) : Option Bool := match e with
  | .list ys => gu ((flatD d = true ∧ ys.all flatD = true) ∨ (SeqAt.shaped d = true ∧ SeqAt.shaped (.list ys) = true)) (some (ys.any fun z => PyData.eqv z d))
  | .tuple ys => gu (flatD d = true ∧ ys.all flatD = true) (some (ys.any fun z => PyData.eqv z d))
  | .str z => match d with
    | .str s => match s.cps.toList with
      | [c] => some (decide (c ∈ z.cps.toList))
      | _ => none
    | _ => none
  | _ => none
theorem oIn_ok {d e : PyData} {b : Bool} {k : Bool → Prop} (h : oIn d e = some b) (hk : k b) : dIn d e k := by
  unfold oIn at h
  unfold dIn
  split at h
  · obtain ⟨q, h⟩ := gu_of h; cases h; exact ⟨q, hk⟩
  · obtain ⟨q, h⟩ := gu_of h; cases h; exact ⟨q, hk⟩
  · split at h
    · rename_i s
      split at h
      · rename_i c e
        cases h
        refine ⟨c, ?_, hk⟩
        have : s.cps = #[c] := by rw [← Array.toArray_toList (xs := s.cps), e]
        cases s
        rw [← this]
      · cases h
    · cases h
  · cases h
def eIn (neg : Bool) (x y : AV) (B : Mem) : Option (AV × Mem) := match dictOf B y with
  | some c => ob (oK x) fun d => ob (oLook c d) fun o => some (.d (.bool (if neg then !o.isSome else o.isSome)), B)
  | none => ob (rd B x) fun d => ob (rd B y) fun e => ob (oIn d e) fun b => some (.d (.bool (if neg then !b else b)), B)
theorem eIn_ok {neg : Bool} {x y w : AV} {B B' : Mem} {k : Kt} (h : eIn neg x y B = some (w, B')) (hk : k w B') : aIn neg x y B k := by
  unfold eIn at h
  unfold aIn
  split at h
  · rename_i c hc
    try rw [hc]
    obtain ⟨d, h1, h⟩ := ob_of h
    obtain ⟨o, h2, h⟩ := ob_of h
    cases h
    exact oK_ok h1 (oLook_ok h2 hk)
  · rename_i hc
    try rw [hc]
    obtain ⟨d, h1, h⟩ := ob_of h
    obtain ⟨e, h2, h⟩ := ob_of h
    obtain ⟨b, h3, h⟩ := ob_of h
    cases h
    exact wD_ok h1 (wD_ok h2 (oIn_ok h3 hk))
def oIx (d e : PyData) : Option Res := match d, e with
  | .list xs, .int i => ob (atI xs i) fun x => some (.v x)
  | .tuple xs, .int i => ob (atI xs i) fun x => some (.v x)
  | .str z, .int i => gu (z.length ≤ sizeLine) (ob (atI z.cps.toList i) fun c => some (.v (.str ⟨#[c]⟩)))
  | _, _ => none
theorem oIx_ok {d e : PyData} {r : Res} {k : Kr} (h : oIx d e = some r) (hk : k r) : dIx d e k := by
  unfold oIx at h
  split at h
  · obtain ⟨x, h1, h⟩ := ob_of h; cases h; exact ⟨x, h1, hk⟩
  · obtain ⟨x, h1, h⟩ := ob_of h; cases h; exact ⟨x, h1, hk⟩
  · obtain ⟨q, h⟩ := gu_of h
    obtain ⟨x, h1, h⟩ := ob_of h; cases h; exact ⟨q, x, h1, hk⟩
  · cases h
def oInt (d : PyData) : Option Int := match d with
  | .int i => some i
  | _ => none
theorem oInt_of {d : PyData} {i : Int} (h : oInt d = some i) : d = .int i := by
  unfold oInt at h
  split at h
  · cases h; rfl
  · cases h
def eIx (cw : Bool) (x y : AV) (B : Mem) : Option (AV × Mem) := match kdOf B x with
  | .dict c => ob (oK y) fun d => ob (oLook c d) fun o => ob o fun z => some (.d z, B)
  | .mat j rows => ob (oK y) fun d => ob (oInt d) fun i => ob (ixN rows.length i) fun n => some (.r j n, B)
  | .scr ns => ob (oK y) fun d => ob (oInt d) fun i => ob (atI ns i) fun n => some (.d (.int n), B)
  | .data => eD2 cw oIx x y B
theorem eIx_ok {cw : Bool} {x y w : AV} {B B' : Mem} {k : Kt} (h : eIx cw x y B = some (w, B')) (hk : k w B') : aIx x y B k := by
  unfold eIx at h
  unfold aIx
  split at h
  · rename_i c hc
    try rw [hc]
    obtain ⟨d, h1, h⟩ := ob_of h
    obtain ⟨o, h2, h⟩ := ob_of h
    obtain ⟨z, h3, h⟩ := ob_of h
    cases h
    exact oK_ok h1 (oLook_ok h2 ⟨z, h3, hk⟩)
  · rename_i j rows hc
    try rw [hc]
    obtain ⟨d, h1, h⟩ := ob_of h
    obtain ⟨i, h2, h⟩ := ob_of h
    obtain ⟨n, h3, h⟩ := ob_of h
    cases h
    exact oK_ok h1 ⟨i, n, oInt_of h2, h3, hk⟩
  · rename_i ns hc
    try rw [hc]
    obtain ⟨d, h1, h⟩ := ob_of h
    obtain ⟨i, h2, h⟩ := ob_of h
    obtain ⟨n, h3, h⟩ := ob_of h
    cases h
    exact oK_ok h1 ⟨i, n, oInt_of h2, h3, hk⟩
  · rename_i hc
    try rw [hc]
    exact eD2_ok oIx_ok h hk
def e2 (cw : Bool) : O2 → AV → AV → Mem → Option (AV × Mem)
  | .add => eAdd cw | .sub => eD2 cw oSub | .mul => eD2 cw oMul | .div => eD2 cw oDiv | .mod => eD2 cw oMod | .pow => eD2 cw oPow
  | .eq => eD2 cw oEq | .ne => eD2 cw oNe | .lt => eD2 cw oLt | .le => eD2 cw oLe | .gt => eD2 cw oGt | .ge => eD2 cw oGe
  | .inn => eIn false | .nin => eIn true | .is_ => eIs false | .isn => eIs true | .ix => eIx cw
theorem e2_ok {cw : Bool} {o : O2} {x y w : AV} {B B' : Mem} {k : Kt} (h : e2 cw o x y B = some (w, B')) (hk : k w B') : a2 o x y B k := by
  cases o with
  | add => exact eAdd_ok h hk
  | sub => exact eD2_ok oSub_ok h hk
  | mul => exact eD2_ok oMul_ok h hk
  | div => exact eD2_ok oDiv_ok h hk
  | mod => exact eD2_ok oMod_ok h hk
  | pow => exact eD2_ok oPow_ok h hk
  | eq => exact eD2_ok oEq_ok h hk
  | ne => exact eD2_ok oNe_ok h hk
  | lt => exact eD2_ok oLt_ok h hk
  | le => exact eD2_ok oLe_ok h hk
  | gt => exact eD2_ok oGt_ok h hk
  | ge => exact eD2_ok oGe_ok h hk
  | inn => exact eIn_ok h hk
  | nin => exact eIn_ok h hk
  | is_ => exact eIs_ok h hk
  | isn => exact eIs_ok h hk
  | ix => exact eIx_ok h hk
def oTru (x : AV) (B : Mem) : Option Bool := match x with
  | .d .none => some false
  | .d (.bool b) => some b
  | .d (.int i) => some (i != 0)
  | .d (.str y) => gu (y.length ≤ sizeLine) (some ((y.length : Int) != 0))
  | .d (.list xs) => some (!xs.isEmpty)
  | .d (.tuple xs) => some (!xs.isEmpty)
  | .kt xs => some (!xs.isEmpty)
  | .m j => match B[j]? with
    | some (.lst xs) => some (!xs.isEmpty)
    | some (.dK kvs) => some (!kvs.isEmpty)
    | _ => none
  | _ => none
theorem oTru_ok {x : AV} {B : Mem} {b : Bool} {k : Bool → Prop} (h : oTru x B = some b) (hk : k b) : aTru x B k := by
  unfold oTru at h
  unfold aTru
  split at h
  · cases h; exact hk
  · cases h; exact hk
  · cases h; exact hk
  · obtain ⟨q, h⟩ := gu_of h; cases h; exact ⟨q, hk⟩
  · cases h; exact hk
  · cases h; exact hk
  · cases h; exact hk
  · split at h
    · rename_i e; (try simp only [e]); cases h; exact hk
    · rename_i e; (try simp only [e]); cases h; exact hk
    · cases h
  · cases h
def oBool (x : AV) : Option Bool := match x with
  | .d (.bool b) => some b
  | _ => none
theorem oBool_ok {x : AV} {b : Bool} {P : Bool → Prop} (h : oBool x = some b) (hp : P b) : boolK x P := by
  unfold oBool at h
  split at h
  · cases h; exact hp
  · cases h
def toInts : List PyData → Option (List Int)
  | [] => some []
  | .int i :: ds => ob (toInts ds) fun ns => some (i :: ns)
  | _ :: _ => none
def toBools : List PyData → Option (List Bool)
  | [] => some []
  | .bool i :: ds => ob (toBools ds) fun ns => some (i :: ns)
  | _ :: _ => none
theorem toInts_of : ∀ {ds : List PyData} {ns : List Int}, toInts ds = some ns → ds = ns.map .int
  | [], _, h => by cases h; rfl
  | .int i :: ds, _, h => by
    obtain ⟨ms, h1, h⟩ := ob_of (show ob (toInts ds) (fun ns => some (i :: ns)) = _ from h)
    cases h
    rw [toInts_of h1]; rfl
  | .none :: _, _, h => by cases h
  | .bool _ :: _, _, h => by cases h
  | .str _ :: _, _, h => by cases h
  | .list _ :: _, _, h => by cases h
  | .tuple _ :: _, _, h => by cases h
  | .dict _ :: _, _, h => by cases h
theorem toBools_of : ∀ {ds : List PyData} {ns : List Bool}, toBools ds = some ns → ds = ns.map .bool
  | [], _, h => by cases h; rfl
  | .bool i :: ds, _, h => by
    obtain ⟨ms, h1, h⟩ := ob_of (show ob (toBools ds) (fun ns => some (i :: ns)) = _ from h)
    cases h
    rw [toBools_of h1]; rfl
  | .none :: _, _, h => by cases h
  | .int _ :: _, _, h => by cases h
  | .str _ :: _, _, h => by cases h
  | .list _ :: _, _, h => by cases h
  | .tuple _ :: _, _, h => by cases h
  | .dict _ :: _, _, h => by cases h
theorem toInts_map (ns : List Int) : toInts (ns.map .int) = some ns := by
  induction ns with
  | nil => rfl
  | cons n ns ih => show ob (toInts (ns.map .int)) _ = _; rw [ih]; rfl
theorem toBools_map (ns : List Bool) : toBools (ns.map .bool) = some ns := by
  induction ns with
  | nil => rfl
  | cons n ns ih => show ob (toBools (ns.map .bool)) _ = _; rw [ih]; rfl
def maxI : List Int → Int
  | [] => 0
  | [x] => x
  | x :: y :: r => let m := maxI (y :: r); if x < m then m else x
def minI : List Int → Int
  | [] => 0
  | [x] => x
  | x :: y :: r => let m := minI (y :: r); if m < x then m else x
theorem maxI_spec : ∀ {ns : List Int}, ns ≠ [] → maxI ns ∈ ns ∧ ∀ y ∈ ns, y ≤ maxI ns
  | [], h => absurd rfl h
  | [x], _ => ⟨by simp [maxI], by simp [maxI]⟩
  | x :: y :: r, _ => by
    have ih := maxI_spec (ns := y :: r) (by simp)
    unfold maxI
    try simp only
    split
    · rename_i q
      refine ⟨List.mem_cons_of_mem _ ih.1, fun z hz => ?_⟩
      rcases List.mem_cons.mp hz with e | e
      · subst e; omega
      · exact ih.2 z e
    · rename_i q
      refine ⟨List.mem_cons_self, fun z hz => ?_⟩
      rcases List.mem_cons.mp hz with e | e
      · subst e; omega
      · have := ih.2 z e; omega
theorem minI_spec : ∀ {ns : List Int}, ns ≠ [] → minI ns ∈ ns ∧ ∀ y ∈ ns, minI ns ≤ y
  | [], h => absurd rfl h
  | [x], _ => ⟨by simp [minI], by simp [minI]⟩
  | x :: y :: r, _ => by
    have ih := minI_spec (ns := y :: r) (by simp)
    unfold minI
    try simp only
    split
    · rename_i q
      refine ⟨List.mem_cons_of_mem _ ih.1, fun z hz => ?_⟩
      rcases List.mem_cons.mp hz with e | e
      · subst e; omega
      · exact ih.2 z e
    · rename_i q
      refine ⟨List.mem_cons_self, fun z hz => ?_⟩
      rcases List.mem_cons.mp hz with e | e
      · subst e; omega
      · have := ih.2 z e; omega
def isTupC : PyData → Bool
  | .tuple (_ :: _) => true
  | _ => false
def noNT : PyData → Bool
  | .none => false
  | .tuple _ => false
  | _ => true
def sortOk (xs : List PyData) : Bool := (xs.all fun d => xs.all fun e => PySem.W.alike d e) && (xs.all isTupC || xs.all noNT) && (xs.all fun d => decide (d.depth ≤ 60))
def oLen : PyData → Option Res
  | .list xs => some (.v (.int (xs.length : Int)))
  | .tuple xs => some (.v (.int (xs.length : Int)))
  | .str z => gu (z.length ≤ sizeLine) (some (.v (.int (z.length : Int))))
  | _ => none
def intsO : PyData → Option (List Int)
  | .list xs => toInts xs
  | _ => none
def boolsO : PyData → Option (List Bool)
  | .list xs => toBools xs
  | _ => none
def sortD (xs : List PyData) : List PyData := xs.mergeSort (PySem.W.dataLe false id)
def oSorted : PyData → Option Res
  | .list xs => gu (sortOk xs = true ∧ xs.length ≤ sizeLine) (some (.l (sortD xs)))
  | _ => none
def oBest (mn : Bool) : PyData → Option Res
  | .list (d :: ds) => gu (AllAl (d :: ds) ∧ ∀ e ∈ d :: ds, e.depth ≤ 60 ∧ e.canLay0 = true) (some (.v (bestD mn d ds)))
  | _ => none
theorem oBest_ok {mn : Bool} {x : PyData} {r : Res} {k : Kr} (h : oBest mn x = some r) (hk : k r) : dBest mn x k := by
  unfold oBest at h
  split at h
  · obtain ⟨q, h⟩ := gu_of h
    cases h
    exact ⟨_, _, rfl, q.1, q.2, hk⟩
  · cases h
theorem oBest_lst {mn : Bool} {x : PyData} {r : Res} (h : oBest mn x = some r) : ∃ xs, x = .list xs := by
  unfold oBest at h
  split at h
  · exact ⟨_, rfl⟩
  · cases h
def oBi : BI → List PyData → Option Res
  | .len, [x] => oLen x
  | .abs, [.int i] => some (.v (.int (if i < 0 then -i else i)))
  | .int, [.int i] => some (.v (.int i))
  | .int, [.bool b] => some (.v (.int (if b then 1 else 0)))
  | .bool, [.int i] => some (.v (.bool (i != 0)))
  | .bool, [.bool b] => some (.v (.bool b))
  | .str, [.int i] => gu (i.natAbs.log2 < 1920) (some (.v (.str (toString i))))
  | .max, [.int i, .int j] => some (.v (.int (if j > i then j else i)))
  | .min, [.int i, .int j] => some (.v (.int (if j < i then j else i)))
  | .max, [.int i, .int j, .int l] => some (.v (.int (if (if i < j then j else i) < l then l else (if i < j then j else i))))
  | .max, [x] => match intsO x with
    | some ns => gu (ns ≠ []) (some (.v (.int (maxI ns))))
    | none => oBest false x
  | .min, [x] => match intsO x with
    | some ns => gu (ns ≠ []) (some (.v (.int (minI ns))))
    | none => oBest true x
  | .sum, [x] => ob (intsO x) fun ns => some (.v (.int ns.sum))
  | .sorted, [x] => oSorted x
  | .all, [x] => ob (boolsO x) fun bs => some (.v (.bool (bs.all id)))
  | .any, [x] => ob (boolsO x) fun bs => some (.v (.bool (bs.any id)))
  | .list, [.list xs] => some (.l xs)
  | .list, [.tuple xs] => some (.l xs)
  | .repr, [x] => gu (isSeqD x = true ∧ Shown x) (some (.v (.str x.shown)))
  | _, _ => none
theorem intsO_of {x : PyData} {ns : List Int} {k : List Int → Prop} (h : intsO x = some ns) (hk : k ns) : intsD x k := by
  unfold intsO at h
  split at h
  · exact ⟨ns, toInts_of h, hk⟩
  · cases h
theorem intsO_lst {x : PyData} {ns : List Int} (h : intsO x = some ns) : ∃ xs, x = .list xs := by
  unfold intsO at h
  split at h
  · exact ⟨_, rfl⟩
  · cases h
theorem boolsO_of {x : PyData} {ns : List Bool} {k : List Bool → Prop} (h : boolsO x = some ns) (hk : k ns) : boolsD x k := by
  unfold boolsO at h
  split at h
  · exact ⟨ns, toBools_of h, hk⟩
  · cases h
theorem oSorted_ok {d : PyData} {r : Res} {k : Kr} (h : oSorted d = some r) (hk : k r) : dSorted d k := by
  unfold oSorted at h
  split at h
  · rename_i xs
    obtain ⟨q, h⟩ := gu_of h
    cases h
    obtain ⟨q, ql⟩ := q
    unfold sortOk at q
    rw [Bool.and_eq_true, Bool.and_eq_true] at q
    obtain ⟨⟨q1, q2⟩, q3⟩ := q
    refine ⟨fun d hd d' hd' => ?_, ?_, ql, fun d hd => ?_, hk⟩
    · exact List.all_eq_true.mp (List.all_eq_true.mp q1 d hd) d' hd'
    · rcases Bool.or_eq_true _ _ |>.mp q2 with z | z
      · refine .inl fun d hd => ?_
        have := List.all_eq_true.mp z d hd
        unfold isTupC at this
        split at this
        · exact ⟨_, _, rfl⟩
        · cases this
      · refine .inr fun d hd => ?_
        have := List.all_eq_true.mp z d hd
        unfold noNT at this
        split at this
        · cases this
        · cases this
        · rename_i n1 n2
          exact ⟨fun e => n1 e, fun xs e => n2 xs e⟩
    · simpa using List.all_eq_true.mp q3 d hd
  · cases h
def oRev : PyData → Option Res
  | .list xs => some (.l xs.reverse)
  | .tuple xs => some (.v (.tuple xs.reverse))
  | _ => none
theorem oRev_ok {d : PyData} {r : Res} {k : Kr} (h : oRev d = some r) (hk : k r) : dRev d k := by
  unfold oRev at h
  split at h
  · cases h; exact hk
  · cases h; exact hk
  · cases h
theorem maxB_of {x : PyData} {r : Res} (h : (match intsO x with
    | some ns => gu (ns ≠ []) (some (.v (.int (maxI ns))))
    | none => oBest false x) = some r) : (∃ ns, intsO x = some ns ∧ ns ≠ [] ∧ r = .v (.int (maxI ns))) ∨ oBest false x = some r := by
  split at h
  · rename_i ns e
    obtain ⟨q, h⟩ := gu_of h
    cases h
    exact .inl ⟨ns, e, q, rfl⟩
  · exact .inr h
theorem minB_of {x : PyData} {r : Res} (h : (match intsO x with
    | some ns => gu (ns ≠ []) (some (.v (.int (minI ns))))
    | none => oBest true x) = some r) : (∃ ns, intsO x = some ns ∧ ns ≠ [] ∧ r = .v (.int (minI ns))) ∨ oBest true x = some r := by
  split at h
  · rename_i ns e
    obtain ⟨q, h⟩ := gu_of h
    cases h
    exact .inl ⟨ns, e, q, rfl⟩
  · exact .inr h
theorem oBi_ok {b : BI} {xs : List PyData} {r : Res} {k : Kr} (h : oBi b xs = some r) (hk : k r) : dBi b xs k := by
  unfold oBi at h
  split at h
  · unfold oLen at h
    unfold dBi dLen
    split at h
    · cases h; exact hk
    · cases h; exact hk
    · obtain ⟨q, h⟩ := gu_of h; cases h; exact ⟨q, hk⟩
    · cases h
  · cases h; exact hk
  · cases h; exact hk
  · cases h; exact hk
  · cases h; exact hk
  · cases h; exact hk
  · obtain ⟨q, h⟩ := gu_of h; cases h; exact ⟨q, hk⟩
  · cases h; exact hk
  · cases h; exact hk
  · cases h; exact hk
  · replace h := maxB_of h
    rcases h with ⟨ns, h1, q, rfl⟩ | h
    · obtain ⟨xs, rfl⟩ := intsO_lst h1
      refine Or.inl (intsO_of (k := fun ns => 0 < ns.length ∧ ∀ m, m ∈ ns → (∀ y, y ∈ ns → y ≤ m) → k (.v (.int m))) h1 ⟨List.length_pos_iff.mpr q, fun m hm hy => ?_⟩)
      have e : m = maxI ns := by
        have := maxI_spec q
        have a := this.2 m hm
        have b := hy _ this.1
        omega
      rw [e]; exact hk
    · obtain ⟨xs, rfl⟩ := oBest_lst h
      exact Or.inr (oBest_ok h hk)
  · replace h := minB_of h
    rcases h with ⟨ns, h1, q, rfl⟩ | h
    · obtain ⟨xs, rfl⟩ := intsO_lst h1
      refine Or.inl (intsO_of (k := fun ns => 0 < ns.length ∧ ∀ m, m ∈ ns → (∀ y, y ∈ ns → m ≤ y) → k (.v (.int m))) h1 ⟨List.length_pos_iff.mpr q, fun m hm hy => ?_⟩)
      have e : m = minI ns := by
        have := minI_spec q
        have a := this.2 m hm
        have b := hy _ this.1
        omega
      rw [e]; exact hk
    · obtain ⟨xs, rfl⟩ := oBest_lst h
      exact Or.inr (oBest_ok h hk)
  · obtain ⟨ns, h1, h⟩ := ob_of h; cases h; exact intsO_of h1 hk
  · exact oSorted_ok h hk
  · obtain ⟨ns, h1, h⟩ := ob_of h; cases h; exact boolsO_of h1 hk
  · obtain ⟨ns, h1, h⟩ := ob_of h; cases h; exact boolsO_of h1 hk
  · cases h; exact hk
  · cases h; exact hk
  · obtain ⟨q, h⟩ := gu_of h; cases h; exact ⟨q.1, q.2, hk⟩
  · cases h
def rdL (B : Mem) : List AV → Option (List PyData)
  | [] => some []
  | w :: ws => ob (rd B w) fun x => ob (rdL B ws) fun xs => some (x :: xs)
theorem rdL_ok {B : Mem} : ∀ {ws : List AV} {ds : List PyData} {k : List PyData → Prop}, rdL B ws = some ds → k ds → wDL B ws k
  | [], _, _, h, hk => by cases h; exact hk
  | w :: ws, _, _, h, hk => by
    obtain ⟨x, h1, h⟩ := ob_of (show ob (rd B w) _ = _ from h)
    obtain ⟨xs, h2, h⟩ := ob_of h
    cases h
    exact wD_ok h1 (rdL_ok h2 hk)
def intKeys : List (L2.Key × PyData) → Option (List Int)
  | [] => some []
  | (.inl i, _) :: r => ob (intKeys r) fun ns => some (i :: ns)
  | (.inr _, _) :: _ => none
theorem intKeys_of : ∀ {kvs : List (L2.Key × PyData)} {ns : List Int}, intKeys kvs = some ns → kvs.map (·.1) = ns.map Sum.inl
  | [], _, h => by cases h; rfl
  | (.inl i, _) :: r, _, h => by
    obtain ⟨ms, h1, h⟩ := ob_of (show ob (intKeys r) (fun ns => some (i :: ns)) = _ from h)
    cases h
    rw [List.map_cons, intKeys_of h1]; rfl
  | (.inr _, _) :: _, _, h => by cases h
def oTup : PyData → Option Res
  | .list xs => some (.v (.tuple xs))
  | .tuple xs => some (.v (.tuple xs))
  | _ => none
def eBiL (cw : Bool) (b : BI) (xs : List AV) (B : Mem) : Option (AV × Mem) := ob (rdL B xs) fun ds => ob (oBi b ds) (resO cw B)
def eBi (cw : Bool) (b : BI) (xs : List AV) (B : Mem) : Option (AV × Mem) := match b, xs with
  | .sorted, [x] => match dictOf B x with
    | some (.k kvs) => ob (intKeys kvs) fun ks => gu (ks.length ≤ sizeLine) (some (newO cw ((ks.mergeSort fun a b => decide (a ≤ b)).map .int) B))
    | _ => eBiL cw .sorted [x] B
  | .len, [x] => match kdOf B x with
    | .scr ns => some (.d (.int (ns.length : Int)), B)
    | _ => eBiL cw .len [x] B
  | .tuple, [x] => gu (isKt x = false) (eD1 cw oTup x B)
  | b, xs => eBiL cw b xs B
theorem eBiL_ok {cw : Bool} {b : BI} {xs : List AV} {B B' : Mem} {w : AV} {k : Kt} (h : eBiL cw b xs B = some (w, B')) (hk : k w B') : aDL (dBi b) xs B k := by
  obtain ⟨ds, h1, h⟩ := ob_of h
  obtain ⟨r, h2, h⟩ := ob_of h
  exact rdL_ok h1 (oBi_ok h2 (resO_ok h hk))
theorem oTup_ok {d : PyData} {r : Res} {k : Kr} (h : oTup d = some r) (hk : k r) : dTup d k := by
  unfold oTup at h
  split at h
  · cases h; exact hk
  · cases h; exact hk
  · cases h
theorem eBi_ok {cw : Bool} {b : BI} {xs : List AV} {B B' : Mem} {w : AV} {k : Kt} (h : eBi cw b xs B = some (w, B')) (hk : k w B') : aBi b xs B k := by
  unfold eBi at h
  unfold aBi
  split at h
  · rename_i x
    try simp only
    split at h
    · rename_i kvs e
      try rw [e]
      obtain ⟨ks, h1, h⟩ := ob_of h
      obtain ⟨q, h⟩ := gu_of h
      exact ⟨ks, intKeys_of h1, q, newO_ok h hk⟩
    · rename_i n
      first
        | exact eBiL_ok h hk
        | (split
           · rename_i kvs e; exact absurd e (n kvs)
           · exact eBiL_ok h hk)
  · rename_i x
    try simp only
    split at h
    · rename_i ns e
      try rw [e]
      cases h; exact hk
    · rename_i n
      first
        | exact eBiL_ok h hk
        | (split
           · rename_i ns e; exact absurd e (n ns)
           · exact eBiL_ok h hk)
  · rename_i x
    obtain ⟨q, h⟩ := gu_of h
    refine ⟨q, ?_⟩
    obtain ⟨d, h1, h⟩ := ob_of h
    obtain ⟨r, h3, h⟩ := ob_of h
    exact wD_ok h1 (oTup_ok h3 (resO_ok h hk))
  · rename_i n1 n2 n3
    first
      | exact eBiL_ok h hk
      | (split
         · exact absurd rfl (n1 _ rfl)
         · exact absurd rfl (n2 _ rfl)
         · exact absurd rfl (n3 _ rfl)
         · exact eBiL_ok h hk)
end
end Dl

namespace Dl
noncomputable section
open L2 PySem PyProof.Rows PySem.Spec
inductive RV where
  | data (x : PyData) | cell (c : MC)
abbrev DT := List AV → Option MC → Option (RV × Option MC)
def okRet (r : RV) (k : Kt) (B : Mem) : Prop := match r with
  | .data x => k (.d x) B
  | .cell c => (∃ x, frzC c = some x ∧ k (.d x) B) ∨ k (.m B.length) (B ++ [c])
def ftOf (F : DT) : FT := fun ws B k => match B with
  | [] => ∃ r, F ws none = some (r, none) ∧ okRet r k []
  | [c] => ∃ r c', F ws (some c) = some (r, some c') ∧ okRet r k [c']
  | _ => False
def eRet (c : Nat) (r : RV) (B : Mem) : Option (AV × Mem) := match r with
  | .data x => some (.d x, B)
  | .cell cl => match (if c = 0 then frzC cl else none) with
    | some x => some (.d x, B)
    | none => some (.m B.length, B ++ [cl])
theorem frz_if {c : Nat} {cl : MC} {x : PyData} (h : (if c = 0 then frzC cl else none) = some x) : frzC cl = some x := by
  split at h
  · exact h
  · cases h
theorem eRet_ok {c : Nat} {r : RV} {B B' : Mem} {w : AV} {k : Kt} (h : eRet c r B = some (w, B')) (hk : k w B') : okRet r k B := by
  cases r with
  | data x => cases h; exact hk
  | cell cl =>
    unfold eRet at h
    simp only at h
    split at h
    · rename_i x ex
      cases h
      exact .inl ⟨x, frz_if ex, hk⟩
    · cases h
      exact .inr hk
def isGone : MC → Bool
  | .gone => true
  | _ => false
theorem notGone {c : MC} (h : isGone c = false) : c ≠ .gone := by
  rintro rfl
  cases h
def eCall (F : DT) (c : Nat) (ws : List AV) (B : Mem) : Option (AV × Mem) := match refs ws with
  | some none => ob2 (F ws none) fun r o => match o with
    | none => eRet c r B
    | some _ => none
  | some (some j) => ob B[j]? fun cl => gu (isGone cl = false) (ob2 (F (ws.map ren) (some cl)) fun r o => match o with
    | some c' => eRet c r (B.set j c')
    | none => none)
  | none => none
theorem eCall_ok {F : DT} {c : Nat} {ws : List AV} {B B' : Mem} {w : AV} {k : Kt} (h : eCall F c ws B = some (w, B')) (hk : k w B') : callF (ftOf F) ws B k := by
  unfold eCall at h
  unfold callF
  split at h
  · rename_i e
    try rw [e]
    obtain ⟨r, o, h1, h⟩ := ob2_of h
    cases o with
    | some _ => cases h
    | none =>
      refine ⟨r, h1, ?_⟩
      have := eRet_ok (k := k) h hk
      cases r with
      | data x => exact this
      | cell cl => exact this
  · rename_i j e
    try rw [e]
    obtain ⟨cl, h1, h⟩ := ob_of h
    obtain ⟨g, h⟩ := gu_of h
    obtain ⟨r, o, h2, h⟩ := ob2_of h
    cases o with
    | none => cases h
    | some c' =>
      refine ⟨cl, h1, notGone g, r, c', h2, ?_⟩
      have := eRet_ok (k := k) h hk
      cases r with
      | data x => exact this
      | cell cl =>
        rcases this with q | q
        · exact .inl q
        · refine .inr ?_
          show k (.m B.length) (B.set j c' ++ [cl])
          rw [List.length_set] at q
          exact q
  · cases h
def isL (B : Mem) (x : AV) : Bool := match rd B x with
  | some (.list _) => true
  | _ => false
theorem isL_ok {B : Mem} {x : AV} (h : isL B x = true) : isLst B x := by
  unfold isL at h
  split at h
  · rename_i ds e; exact ⟨ds, e⟩
  · cases h
def lstO : PyData → Option (List PyData)
  | .list xs => some xs
  | _ => none
theorem lstO_of {d : PyData} {xs : List PyData} (h : lstO d = some xs) : d = .list xs := by
  unfold lstO at h
  split at h
  · cases h; rfl
  · cases h
def lenI (xs : List PyData) : Nat := xs.length
def eMM (m : MM) (x : AV) (ys : List AV) (B : Mem) : Option (AV × Mem) := match x with
  | .m j => match B[j]? with
    | some (.lst ds) => match m, ys with
      | .append, [y] => ob (oK y) fun d => gu (ds.length < sizeLine) (some (.d .none, B.set j (.lst (ds ++ [d]))))
      | .extend, [y] => ob (rd B y) fun d => ob (lstO d) fun es => gu (ds.length + es.length ≤ sizeLine) (some (.d .none, B.set j (.lst (ds ++ es))))
      | .pop, [y] => ob (oK y) fun d => ob (oInt d) fun n => gu (-(2 ^ 63) ≤ n ∧ n < 2 ^ 63) (ob (seqIndex? n ds.length) fun i => ob ds[i]? fun z => some (.d z, B.set j (.lst (ds.eraseIdx i))))
      | .pop, [] => ob ds[ds.length - 1]? fun z => some (.d z, B.set j (.lst ds.dropLast))
      | _, _ => none
    | _ => none
  | _ => none
theorem eMM_ok {m : MM} {x w : AV} {ys : List AV} {B B' : Mem} {k : Kt} (h : eMM m x ys B = some (w, B')) (hk : k w B') : aMM m x ys B k := by
  unfold eMM at h
  unfold aMM
  split at h
  · rename_i j
    try simp only
    split at h
    · rename_i ds e
      try rw [e]
      try simp only
      split at h
      · obtain ⟨d, h1, h⟩ := ob_of h
        obtain ⟨q, h⟩ := gu_of h
        cases h
        exact oK_ok h1 ⟨q, hk⟩
      · obtain ⟨d, h1, h⟩ := ob_of h
        obtain ⟨es, h2, h⟩ := ob_of h
        obtain ⟨q, h⟩ := gu_of h
        cases h
        exact wD_ok h1 ⟨es, lstO_of h2, q, hk⟩
      · obtain ⟨d, h1, h⟩ := ob_of h
        obtain ⟨n, h2, h⟩ := ob_of h
        obtain ⟨q, h⟩ := gu_of h
        obtain ⟨i, h3, h⟩ := ob_of h
        obtain ⟨z, h4, h⟩ := ob_of h
        cases h
        exact oK_ok h1 ⟨n, i, z, oInt_of h2, q.1, q.2, h3, h4, hk⟩
      · obtain ⟨z, h4, h⟩ := ob_of h
        cases h
        exact ⟨z, h4, hk⟩
      · cases h
    · cases h
  · cases h
def eGet2 (x y z : AV) (B : Mem) : Option (AV × Mem) := ob (dictOf B x) fun c => ob (oK y) fun d => ob (oLook c d) fun r => match r with
  | some w => some (.d w, B)
  | none => some (z, B)
def oSl (d : PyData) (lo hi : Option Int) : Option Res := match d with
  | .list xs => some (.l (cutD xs lo hi))
  | .tuple xs => some (.v (.tuple (cutD xs lo hi)))
  | .str z => gu (z.length ≤ sizeLine) (some (.v (.str (cutS z lo hi))))
  | _ => none
theorem oSl_ok {d : PyData} {lo hi : Option Int} {r : Res} {k : Kr} (h : oSl d lo hi = some r) (hk : k r) : dSl d lo hi k := by
  unfold oSl at h
  split at h
  · cases h; exact hk
  · cases h; exact hk
  · obtain ⟨q, h⟩ := gu_of h; cases h; exact ⟨q, hk⟩
  · cases h
def eSl (cw : Bool) (x : AV) (lo hi : Option Int) (B : Mem) : Option (AV × Mem) := match kdOf B x with
  | .scr ns => ob (oSl (.list (ns.map .int)) lo hi) (resO cw B)
  | _ => gu (isKt x = false) (ob (rd B x) fun d => ob (oSl d lo hi) (resO cw B))
theorem eSl_ok {cw : Bool} {x w : AV} {lo hi : Option Int} {B B' : Mem} {k : Kt} (h : eSl cw x lo hi B = some (w, B')) (hk : k w B') : aSl x lo hi B k := by
  unfold eSl at h
  unfold aSl
  split at h
  · rename_i ns e
    try rw [e]
    obtain ⟨r, h1, h⟩ := ob_of h
    exact oSl_ok h1 (resO_ok h hk)
  · rename_i n
    obtain ⟨q, h⟩ := gu_of h
    obtain ⟨d, h1, h⟩ := ob_of h
    obtain ⟨r, h2, h⟩ := ob_of h
    first
      | exact ⟨q, wD_ok h1 (oSl_ok h2 (resO_ok h hk))⟩
      | (split
         · rename_i ns e; exact absurd e (n ns)
         · exact ⟨q, wD_ok h1 (oSl_ok h2 (resO_ok h hk))⟩)
def dsO : List AV → Option (List PyData)
  | [] => some []
  | .d x :: ws => ob (dsO ws) fun xs => some (x :: xs)
  | _ :: _ => none
theorem dsO_ok {B : Mem} : ∀ {ws : List AV} {ds : List PyData} {k : List PyData → Prop}, dsO ws = some ds → k ds → wDs B ws k
  | [], _, _, h, hk => by cases h; exact hk
  | .d x :: ws, _, _, h, hk => by
    obtain ⟨xs, h2, h⟩ := ob_of (show ob (dsO ws) _ = _ from h)
    cases h
    exact dsO_ok (ws := ws) h2 hk
  | .kt _ :: _, _, _, h, _ => by cases h
  | .sc _ :: _, _, _, h, _ => by cases h
  | .m _ :: _, _, _, h, _ => by cases h
  | .r _ _ :: _, _, _, h, _ => by cases h
inductive Out where
  | nx (A : Env) (B : Mem) | rt (v : AV) (B : Mem) | bk (A : Env) (B : Mem) | ct (A : Env) (B : Mem)
def lcL {α : Type} (step : α → Mem → Option (Option PyData × Mem)) : List α → Mem → Option (List PyData × Mem)
  | [], B => some ([], B)
  | x :: xs, B => ob2 (step x B) fun o B1 => ob2 (lcL step xs B1) fun ds B2 => some (o.toList ++ ds, B2)
def forL {α : Type} (step : α → Env → Mem → Option Out) : List α → Env → Mem → Option Out
  | [], A, B => some (.nx A B)
  | x :: xs, A, B => ob (step x A B) fun o => match o with
    | .nx A' B' => forL step xs A' B'
    | .ct A' B' => forL step xs A' B'
    | .bk A' B' => some (.nx A' B')
    | .rt v B' => some (.rt v B')
def whileL (step : Env → Mem → Option Out) : Nat → Env → Mem → Option Out
  | 0, _, _ => none
  | n + 1, A, B => ob (step A B) fun o => match o with
    | .nx A' B' => whileL step n A' B'
    | .ct A' B' => whileL step n A' B'
    | .bk A' B' => some (.nx A' B')
    | .rt v B' => some (.rt v B')
def rounds : Nat := 2 ^ 60
def dropN : Env → Env → Env
  | none :: r, _ :: s => none :: dropN r s
  | some _ :: r, x :: s => x :: dropN r s
  | _, s => s
def killA (A0 : Env) (n0 : Nat) (A : Env) : Env := (dropN A0 A).map (hideF n0)
def fin (A0 : Env) (n0 : Nat) : Out → Option Out
  | .nx A B => some (.nx (killA A0 n0 A) (B.take n0))
  | .ct A B => some (.nx (killA A0 n0 A) (B.take n0))
  | o => some o
theorem sh_drop {np : Nat} {P : Env → Mem → Prop} {B : Mem} : ∀ (A0 s pre : Env), shiftTo np P (pre ++ dropN A0 s) B → shiftTo np P (pre ++ s) B
  | [], s, pre, h => by
    have : dropN [] s = s := by unfold dropN; rfl
    rw [this] at h; exact h
  | none :: r, [], pre, h => h
  | some _ :: r, [], pre, h => h
  | none :: r, x :: s, pre, h => by
    refine shH pre.length ?_
    rw [List.set_append_right _ _ (Nat.le_refl _), Nat.sub_self, List.set_cons_zero]
    have := sh_drop r s (pre ++ [none]) (by rw [List.append_assoc]; exact h)
    rw [List.append_assoc] at this
    exact this
  | some y :: r, x :: s, pre, h => by
    have := sh_drop r s (pre ++ [x]) (by rw [List.append_assoc]; exact h)
    rw [List.append_assoc] at this
    exact this
theorem sh_kill {np : Nat} {P : Env → Mem → Prop} {A0 A : Env} {B : Mem} {n0 : Nat} (hn : np ≤ n0) (h : P (killA A0 n0 A) (B.take n0)) : shiftTo np P A B := by
  have := sh_drop (np := np) (P := P) (B := B) A0 A [] ?_
  · exact this
  · exact shC n0 hn (sh0 h)
def frz1 (np j : Nat) (A : Env) (B : Mem) : Env × Mem := match A[j]? with
  | some (some (.m k)) => match B[k]? with
    | some c => match frzC c with
      | some x => if np ≤ k then (A.map (subF k x), B.set k .gone) else (A, B)
      | none => (A, B)
    | none => (A, B)
  | _ => (A, B)
def frzs (np : Nat) : List Nat → Env → Mem → Env × Mem
  | [], A, B => (A, B)
  | j :: js, A, B => let p := frz1 np j A B; frzs np js p.1 p.2
theorem frz1_ok {np j : Nat} {P : Env → Mem → Prop} {A : Env} {B : Mem} (h : shiftTo np P (frz1 np j A B).1 (frz1 np j A B).2) : shiftTo np P A B := by
  unfold frz1 at h
  split at h
  · rename_i k e
    split at h
    · rename_i c e2
      split at h
      · rename_i x e3
        split at h
        · rename_i hn
          exact shF k hn e2 e3 h
        · exact h
      · exact h
    · exact h
  · exact h
theorem frzs_ok {np : Nat} {P : Env → Mem → Prop} : ∀ {js : List Nat} {A : Env} {B : Mem}, shiftTo np P (frzs np js A B).1 (frzs np js A B).2 → shiftTo np P A B
  | [], _, _, h => h
  | j :: js, A, B, h => frz1_ok (frzs_ok (js := js) h)
end
end Dl

namespace Dl
noncomputable section
open L2 PySem PyProof.Rows PySem.Spec
def lrgO (x : AV) : Option Int := match x with
  | .d (.int j) => gu (RgOk 0 j) (some j)
  | _ => none
theorem lrgO_of {x : AV} {j : Int} (h : lrgO x = some j) : x = .d (.int j) ∧ RgOk 0 j := by
  unfold lrgO at h
  split at h
  · obtain ⟨q, h⟩ := gu_of h
    cases h
    exact ⟨rfl, q⟩
  · cases h
def idxO (ss : List Str) (y : AV) : Option Nat := match y with
  | .d (.str z) => ss.findIdx? (fun u => decide (u = z))
  | _ => none
theorem idxO_of {ss : List Str} {y : AV} {j : Nat} (h : idxO ss y = some j) : ∃ z, y = .d (.str z) ∧ ss[j]? = some z ∧ ∀ m, m < j → ss[m]? ≠ some z := by
  unfold idxO at h
  split at h
  · rename_i z
    obtain ⟨h1, h2, h3⟩ := List.findIdx?_eq_some_iff_getElem.mp h
    refine ⟨z, rfl, by rw [List.getElem?_eq_getElem h1]; simpa using h2, fun m hm e => ?_⟩
    have := h3 m hm
    obtain ⟨l, e⟩ := List.getElem?_eq_some_iff.mp e
    rw [e] at this
    simp at this
  · cases h
def dkO (x : AV) (B : Mem) : Option (Nat × List (L2.Key × PyData)) := match x with
  | .m j => match B[j]? with
    | some (.dK kvs) => some (j, kvs)
    | _ => none
  | _ => none
theorem dkO_of {x : AV} {B : Mem} {j : Nat} {kvs : List (L2.Key × PyData)} (h : dkO x B = some (j, kvs)) : x = .m j ∧ B[j]? = some (.dK kvs) := by
  unfold dkO at h
  split at h
  · split at h
    · rename_i e
      cases h
      exact ⟨rfl, e⟩
    · cases h
  · cases h
def acL {α γ : Type} (step : α → γ → Mem → Option (γ × Mem)) : List α → γ → Mem → Option (γ × Mem)
  | [], acc, B => some (acc, B)
  | x :: xs, acc, B => ob2 (step x acc B) fun acc B1 => acL step xs acc B1
def oKd (y : AV) : Option L2.Key := match y with
  | .d kd => keyD kd
  | _ => none
theorem oKd_of {y : AV} {key : L2.Key} (h : oKd y = some key) : ∃ kd, y = .d kd ∧ keyD kd = some key := by
  unfold oKd at h
  split at h
  · exact ⟨_, rfl, h⟩
  · cases h
def oKs (y : AV) : Option (List Str) := match y with
  | .d (.tuple xs) => toStrs xs
  | _ => none
theorem oKs_of {y : AV} {ks : List Str} (h : oKs y = some ks) : y = .d (.tuple (ks.map .str)) := by
  unfold oKs at h
  split at h
  · rw [toStrs_of h]
  · cases h
def dmStep (g : AV → Env → Mem → Option (Env × Mem)) (t : Env → Mem → Option (Bool × Mem)) (fk fv : Env → Mem → Option (AV × Mem)) (A : Env) (x : PyData) (acc : List (L2.Key × PyData)) (B : Mem) : Option (List (L2.Key × PyData) × Mem) :=
  ob2 (g (.d x) A B) fun A2 B3 => ob2 (t A2 B3) fun b B4 => if b = true then ob2 (fk A2 B4) fun y B5 => ob (oKd y) fun key => ob2 (fv A2 B5) fun z B6 => ob (oK z) fun d => some (putD acc key d, B6) else some (acc, B4)
def scStep (g : AV → Env → Mem → Option (Env × Mem)) (t : Env → Mem → Option (Bool × Mem)) (f : Env → Mem → Option (AV × Mem)) (A : Env) (x : PyData) (acc : List (List Str)) (B : Mem) : Option (List (List Str) × Mem) :=
  ob2 (g (.d x) A B) fun A2 B3 => ob2 (t A2 B3) fun b B4 => if b = true then ob2 (f A2 B4) fun y B5 => ob (oKs y) fun ks => some (insK acc ks, B5) else some (acc, B4)
theorem drop_at {α : Type} {xs : List α} {i : Nat} {x : α} (hx : xs[i]? = some x) : xs.drop i = x :: xs.drop (i + 1) := by
  obtain ⟨l, e⟩ := List.getElem?_eq_some_iff.mp hx
  rw [List.drop_eq_getElem_cons l, e]
def mtO (n0 : Nat) (rows : List (List PyData)) (y : AV) (B5 : Mem) : Option (List PyData) := match B5.drop (n0 + rows.length) with
  | [.lst ds] => gu (y = .m (n0 + rows.length) ∧ (B5.take (n0 + rows.length)).drop n0 = rows.map .lst ∧ n0 ≤ B5.length) (some ds)
  | _ => none
def mtStep (g : AV → Env → Mem → Option (Env × Mem)) (t : Env → Mem → Option (Bool × Mem)) (f : Env → Mem → Option (AV × Mem)) (A : Env) (n0 : Nat) (x : PyData) (rows : List (List PyData)) (Bb : Mem) : Option (List (List PyData) × Mem) :=
  ob2 (g (.d x) A (Bb ++ rows.map .lst)) fun A2 B3 => ob2 (t A2 B3) fun b B4 => gu (b = true) (ob2 (f A2 B4) fun y B5 => ob (mtO n0 rows y B5) fun ds => some (rows ++ [ds], B5.take n0))
theorem mtO_of {n0 : Nat} {rows : List (List PyData)} {y : AV} {B5 : Mem} {ds : List PyData} (h : mtO n0 rows y B5 = some ds) : y = .m (n0 + rows.length) ∧ B5 = B5.take n0 ++ rows.map .lst ++ [.lst ds] ∧ (B5.take n0).length = n0 := by
  unfold mtO at h
  split at h
  · rename_i ds' e
    obtain ⟨⟨h1, h2, h3⟩, h⟩ := gu_of h
    cases h
    refine ⟨h1, ?_, by rw [List.length_take]; omega⟩
    rw [← e, ← h2]
    have e2 : B5.take n0 = (B5.take (n0 + rows.length)).take n0 := by rw [List.take_take, Nat.min_eq_left (by omega)]
    rw [e2, List.take_append_drop, List.take_append_drop]
  · cases h
def oLenSet : PyData → Option Res
  | .list xs => ob (toStrs xs) fun ss => gu (ss.length ≤ 1000) (some (.v (.int (dedK ss).length)))
  | .tuple xs => ob (toStrs xs) fun ss => gu (ss.length ≤ 1000) (some (.v (.int (dedK ss).length)))
  | _ => none
theorem oLenSet_ok {d : PyData} {r : Res} {k : Kr} (h : oLenSet d = some r) (hk : k r) : dLenSet d k := by
  unfold oLenSet at h
  unfold dLenSet
  cases d with
  | list xs =>
    obtain ⟨ss, h1, h⟩ := ob_of h
    obtain ⟨q, h⟩ := gu_of h
    cases h
    exact ⟨ss, h1, q, hk⟩
  | tuple xs =>
    obtain ⟨ss, h1, h⟩ := ob_of h
    obtain ⟨q, h⟩ := gu_of h
    cases h
    exact ⟨ss, h1, q, hk⟩
  | _ => cases h
def oVar (i : Nat) (A : Env) (B : Mem) : Option (AV × Mem) := match A[i]? with
  | some (some w) => some (w, B)
  | _ => none
def chainE (cw : Bool) (o o' : O2) (x y : AV) (B : Mem) (c : Mem → Option (AV × Mem)) : Option (AV × Mem) :=
  ob2 (e2 false o x y B) fun z B3 => ob (oBool z) fun b => if b = true then ob2 (c B3) fun w B4 => e2 false o' y w B4 else some (.d (.bool false), B3)
def lcStep (g : AV → Env → Mem → Option (Env × Mem)) (t : Env → Mem → Option (Bool × Mem)) (f : Env → Mem → Option (AV × Mem)) (A : Env) (x : PyData) (B : Mem) : Option (Option PyData × Mem) :=
  ob2 (g (.d x) A B) fun A2 B3 => ob2 (t A2 B3) fun b B4 => if b = true then ob2 (f A2 B4) fun y B5 => ob (oK y) fun d => some (some d, B5) else some (none, B4)
def seqO (x : AV) : Option (List PyData) := match x with
  | .d (.list xs) => some xs
  | .d (.tuple xs) => some xs
  | .kt xs => some xs
  | .d (.str z) => some (signsD z)
  | _ => none
def RgB (j : Int) : Prop := -(2 ^ 62) ≤ j ∧ j < 2 ^ 62
instance (j : Int) : Decidable (RgB j) := by unfold RgB; infer_instance
def r1O (ws : List AV) : Option (List PyData) := match ws with
  | [.d (.int j)] => gu (RgB j) (some (rangeD 0 j.toNat))
  | _ => none
def r2O (ws : List AV) : Option (List PyData) := match ws with
  | [.d (.int i), .d (.int j)] => gu (RgB i ∧ RgB j) (some (rangeD i (j - i).toNat))
  | _ => none
def r3O (ws : List AV) : Option (List PyData) := match ws with
  | [.d (.int i), .d (.int j), .d (.int c)] => gu (c ≠ 0 ∧ c.natAbs < 1073741824 ∧ Builtin.Range.small i j c = true ∧ 0 ≤ Builtin.Range.rangeSize i j c) (some (rangeC i c (Builtin.Range.rangeSize i j c).toNat))
  | _ => none
def zipO (ws : List AV) : Option (List PyData) := match ws with
  | [.d (.list xs), .d (.list ys)] => some (zipD xs ys)
  | [.d (.tuple xs), .d (.tuple ys)] => some (zipD xs ys)
  | _ => none
def enumO (ws : List AV) : Option (List PyData) := match ws with
  | [.d (.list xs)] => some (enumD xs)
  | [.d (.tuple xs)] => some (enumD xs)
  | _ => none
def tupO (w : AV) : Option (List PyData) := match w with
  | .d (.tuple xs) => some xs
  | _ => none
mutual
def evG : AG → AV → Env → Mem → Option (Env × Mem)
  | .nm i => fun w A B => some (A.set i (some w), B)
  | .tp gs => fun w A B => ob (tupO w) fun ds => gu (ds.length = lenG gs) (evGs gs ds A B)
def evGs : AGs → List PyData → Env → Mem → Option (Env × Mem)
  | .nil => fun ds A B => match ds with
    | [] => some (A, B)
    | _ :: _ => none
  | .cons g gs => fun ds A B => match ds with
    | d :: r => ob2 (evG g (.d d) A B) fun A1 B1 => evGs gs r A1 B1
    | [] => none
end
def hd0 (ks : List Nat) : Nat := ks.headD 0
def lcDO (i : Nat) (A : Env) (B : Mem) : Option (Nat × List (L2.Key × PyData)) := match A[i]? with
  | some (some (.m j)) => match B[j]? with
    | some (.dK kvs) => some (j, kvs)
    | _ => none
  | _ => none
mutual
def evE (T : Nat → DT) (c : Nat) : AE → Env → Mem → Option (AV × Mem)
  | .var i => fun A B => oVar i A B
  | .c x => fun _ B => some (.d x, B)
  | .kt xs => fun _ B => some (.kt xs, B)
  | .op2 o a b => fun A B => ob2 (evE T 0 a A B) fun x B1 => ob2 (evE T 0 b A B1) fun y B2 => e2 (c != 0) o x y B2
  | .neg a => fun A B => ob2 (evE T 0 a A B) fun x B1 => eD1 false oNeg x B1
  | .chain o o' a b d => fun A B => ob2 (evE T 0 a A B) fun x B1 => ob2 (evE T 0 b A B1) fun y B2 => chainE false o o' x y B2 fun B3 => evE T 0 d A B3
  | .and a b => fun A B => ob2 (evE T 0 a A B) fun x B1 => ob (oTru x B1) fun t => if t = true then evE T c b A B1 else some (x, B1)
  | .or a b => fun A B => ob2 (evE T 0 a A B) fun x B1 => ob (oTru x B1) fun t => if t = true then some (x, B1) else evE T c b A B1
  | .not a => fun A B => ob2 (evE T 0 a A B) fun x B1 => ob (oTru x B1) fun t => some (.d (.bool (!t)), B1)
  | .ife t a b => fun A B => ob2 (evT T t A B) fun q B1 => if q = true then evE T c a A B1 else evE T c b A B1
  | .sl a lo hi => fun A B => ob2 (evE T 0 a A B) fun x B1 => ob2 (evO T lo A B1) fun l B2 => ob2 (evO T hi A B2) fun h B3 => eSl (c != 0) x l h B3
  | .omit => fun _ _ => none
  | .call f es => fun A B => ob2 (evEs T [] es A B) fun ws B1 => eCall (T f) c ws B1
  | .callK f ix es => fun A B => ob2 (evEs T [] es A B) fun ws B1 => gu (ws.length = ix.length) (eCall (T f) c (pick ix ws) B1)
  | .bi b es => fun A B => ob2 (evEs T [] es A B) fun ws B1 => eBi (c != 0) b ws B1
  | .isi ts a => fun A B => ob2 (evE T 0 a A B) fun x B1 => ob (rd B1 x) fun d => some (.d (.bool (dIsi ts d)), B1)
  | .mm m o es => fun A B => ob2 (evE T 0 o A B) fun x B1 => gu (isL B1 x = true) (ob2 (evEs T [] es A B1) fun ys B2 => eMM m x ys B2)
  | .get2 o a b => fun A B => ob2 (evE T 0 o A B) fun x B1 => ob (dictOf B1 x) fun _ => ob2 (evE T 0 a A B1) fun y B2 => ob2 (evE T 0 b A B2) fun z B3 => eGet2 x y z B3
  | .tup es => fun A B => ob2 (evEs T [] es A B) fun ws B1 => ob (dsO ws) fun xs => gu (xs.length ≤ sizeLine) (some (.d (.tuple xs), B1))
  | .lst es => fun A B => ob2 (evEs T [] es A B) fun ws B1 => ob (dsO ws) fun xs => gu (xs.length ≤ sizeLine) (some (newO (c != 0) xs B1))
  | .dnew => fun _ B => some (.m B.length, B ++ [if c = 3 then .dT [] else .dK []])
  | .lc it g t e vs => fun A B => if (c == 4) = true then ob2 (evI T it A B) fun xs B1 => gu (xs.length ≤ sizeLine) (ob2 (acL (mtStep (evG g) (evT T t) (evE T 1 e) (wipeA A vs) B1.length) xs [] B1) fun rows Bb => some (.m B1.length, Bb ++ [.mat rows])) else ob2 (evI T it A B) fun xs B1 => gu (xs.length ≤ sizeLine) (ob2 (lcL (lcStep (evG g) (evT T t) (evE T 0 e) (wipeA A vs)) xs B1) fun ds B2 => some (newO (c != 0) ds B2))
  | .lcD i g t e vs => fun A B => ob2 (lcDO i A B) fun j kvs => gu (kvs.length ≤ sizeLine) (ob2 (lcL (lcStep (evG g) (evT T t) (evE T 0 e) (wipeA (A.map (hideJ j)) vs)) (kvs.map fun p => keyPy p.1) (B.set j .gone)) fun ds B2 => ob B2[j]? fun cl => gu (isGone cl = true) (some (newO (c != 0) ds (B2.set j (.dK kvs)))))
  | .dne0 i => fun A B => ob2 (lcDO i A B) fun j kvs => some (.d (.bool (!kvs.isEmpty)), B)
  | .rev a => fun A B => ob2 (evE T 0 a A B) fun x B1 => eD1 (c != 0) oRev x B1
  | .lset a => fun A B => ob2 (evE T 0 a A B) fun x B1 => eD1 (c != 0) oLenSet x B1
  | .idx o a => fun A B => ob2 (evE T 0 o A B) fun x B1 => ob (tupA x) fun xs => ob (toStrs xs) fun ss => ob2 (evE T 0 a A B1) fun y B2 => ob (idxO ss y) fun j => some (.d (.int (j : Int)), B2)
  | .lrg a => fun A B => ob2 (evE T 0 a A B) fun x B1 => ob (lrgO x) fun j => some (newO (c != 0) (rangeD 0 (j - 0).toNat) B1)
  | .trg a => fun A B => ob2 (evE T 0 a A B) fun x B1 => ob (lrgO x) fun j => some (.d (.tuple (rangeD 0 (j - 0).toNat)), B1)
  | .reprL es => fun A B => ob2 (evEs T [] es A B) fun ws B1 => ob (rdL B1 ws) fun ds => gu (ds.length ≤ sizeLine ∧ Shown (.list ds)) (some (.d (.str (PyData.shown (.list ds))), B1))
  | .upd o a => fun A B => ob2 (evE T 0 o A B) fun x B1 => ob2 (dkO x B1) fun j _ => ob2 (evE T 2 a A B1) fun y B2 => ob2 (dkO x B2) fun _ kvs => ob2 (dkO y B2) fun j2 more => gu (j ≠ j2 ∧ kvs.length + more.length ≤ sizeLine) (some (.d .none, B2.set j (.dK (mergeD kvs more))))
  | .lsc it g t e vs => fun A B => ob2 (evI T it A B) fun xs B1 => gu (xs.length < 63) (ob2 (acL (scStep (evG g) (evT T t) (evE T 0 e) (wipeA A vs)) xs [] B1) fun acc B2 => some (.d (.int (acc.length : Int)), B2))
  | .dcm it g t e v vs => fun A B => ob2 (evI T it A B) fun xs B1 => gu (xs.length < sizeLine) (ob2 (acL (dmStep (evG g) (evT T t) (evE T 0 e) (evE T 0 v) (wipeA A vs)) xs [] B1) fun acc B2 => some (.m B2.length, B2 ++ [.dK acc]))
def evT (T : Nat → DT) : AE → Env → Mem → Option (Bool × Mem)
  | .omit => fun _ B => some (true, B)
  | .and a b => fun A B => ob2 (evT T a A B) fun q B1 => if q = true then evT T b A B1 else some (false, B1)
  | .or a b => fun A B => ob2 (evT T a A B) fun q B1 => if q = true then some (true, B1) else evT T b A B1
  | .not a => fun A B => ob2 (evT T a A B) fun q B1 => some (!q, B1)
  | .op2 o a b => fun A B => ob2 (ob2 (evE T 0 a A B) fun x B1 => ob2 (evE T 0 b A B1) fun y B2 => e2 false o x y B2) fun z B3 => ob (if isCmp o = true then oBool z else oTru z B3) fun q => some (q, B3)
  | .chain o o' a b d => fun A B => ob2 (ob2 (evE T 0 a A B) fun x B1 => ob2 (evE T 0 b A B1) fun y B2 => chainE false o o' x y B2 fun B3 => evE T 0 d A B3) fun z B3 => ob (oBool z) fun q => some (q, B3)
  | .dne0 i => fun A B => ob2 (lcDO i A B) fun j kvs => some (!kvs.isEmpty, B)
  | .var i => fun A B => ob2 (oVar i A B) fun z B1 => ob (oTru z B1) fun q => some (q, B1)
  | .c x => fun A B => ob (oTru (.d x) B) fun q => some (q, B)
  | .call f es => fun A B => ob2 (ob2 (evEs T [] es A B) fun ws B1 => eCall (T f) 0 ws B1) fun z B1 => ob (oTru z B1) fun q => some (q, B1)
  | .bi b es => fun A B => ob2 (ob2 (evEs T [] es A B) fun ws B1 => eBi false b ws B1) fun z B1 => ob (oTru z B1) fun q => some (q, B1)
  | .isi ts a => fun A B => ob2 (evE T 0 a A B) fun x B1 => ob (rd B1 x) fun d => some (dIsi ts d, B1)
  | .lc it g t e vs => fun A B => ob2 (ob2 (evI T it A B) fun xs B1 => gu (xs.length ≤ sizeLine) (ob2 (lcL (lcStep (evG g) (evT T t) (evE T 0 e) (wipeA A vs)) xs B1) fun ds B2 => some (newO false ds B2))) fun z B1 => ob (oTru z B1) fun q => some (q, B1)
  | _ => fun _ _ => none
def evO (T : Nat → DT) : AE → Env → Mem → Option (Option Int × Mem)
  | .omit => fun _ B => some (none, B)
  | .var i => fun A B => ob2 (oVar i A B) fun z B1 => ob (oK z) fun d => ob (oInt d) fun n => some (some n, B1)
  | .c x => fun A B => ob (oInt x) fun n => some (some n, B)
  | .op2 o a b => fun A B => ob2 (ob2 (evE T 0 a A B) fun x B1 => ob2 (evE T 0 b A B1) fun y B2 => e2 false o x y B2) fun z B1 => ob (oK z) fun d => ob (oInt d) fun n => some (some n, B1)
  | .neg a => fun A B => ob2 (ob2 (evE T 0 a A B) fun x B1 => eD1 false oNeg x B1) fun z B1 => ob (oK z) fun d => ob (oInt d) fun n => some (some n, B1)
  | .call f es => fun A B => ob2 (ob2 (evEs T [] es A B) fun ws B1 => eCall (T f) 0 ws B1) fun z B1 => ob (oK z) fun d => ob (oInt d) fun n => some (some n, B1)
  | .bi b es => fun A B => ob2 (ob2 (evEs T [] es A B) fun ws B1 => eBi false b ws B1) fun z B1 => ob (oK z) fun d => ob (oInt d) fun n => some (some n, B1)
  | _ => fun _ _ => none
def evEs (T : Nat → DT) (ks : List Nat) : AEs → Env → Mem → Option (List AV × Mem)
  | .nil => fun _ B => some ([], B)
  | .cons a es => fun A B => ob2 (evE T (hd0 ks) a A B) fun x B1 => ob2 (evEs T ks.tail es A B1) fun xs B2 => some (x :: xs, B2)
def evI (T : Nat → DT) : AI → Env → Mem → Option (List PyData × Mem)
  | .seq a => fun A B => ob2 (evE T 0 a A B) fun x B1 => ob (seqO x) fun xs => some (xs, B1)
  | .r1 es => fun A B => ob2 (evEs T [] es A B) fun ws B1 => ob (r1O ws) fun xs => some (xs, B1)
  | .r2 es => fun A B => ob2 (evEs T [] es A B) fun ws B1 => ob (r2O ws) fun xs => some (xs, B1)
  | .r3 es => fun A B => ob2 (evEs T [] es A B) fun ws B1 => ob (r3O ws) fun xs => some (xs, B1)
  | .zip es => fun A B => ob2 (evEs T [] es A B) fun ws B1 => ob (zipO ws) fun xs => some (xs, B1)
  | .enum es => fun A B => ob2 (evEs T [] es A B) fun ws B1 => ob (enumO ws) fun xs => some (xs, B1)
end
abbrev TF (T : Nat → DT) : Nat → FT := fun f => ftOf (T f)
mutual
theorem evG_ok : ∀ {g : AG} {w : AV} {A A' : Env} {B B' : Mem} {k : Env → Mem → Prop}, evG g w A B = some (A', B') → k A' B' → wpG g w A B k
  | .nm i, _, _, _, _, _, _, h, hk => by cases h; exact hk
  | .tp gs, w, _, _, _, _, _, h, hk => by
    rw [evG] at h
    obtain ⟨ds, h1, h2⟩ := ob_of h
    obtain ⟨q, h3⟩ := gu_of h2
    unfold tupO at h1
    split at h1
    · cases h1; exact ⟨rfl, q, evGs_ok (gs := gs) h3 hk⟩
    · cases h1
theorem evGs_ok : ∀ {gs : AGs} {ds : List PyData} {A A' : Env} {B B' : Mem} {k : Env → Mem → Prop}, evGs gs ds A B = some (A', B') → k A' B' → wpGs gs ds A B k
  | .nil, [], _, _, _, _, _, h, hk => by cases h; exact ⟨rfl, hk⟩
  | .nil, _ :: _, _, _, _, _, _, h, hk => by cases h
  | .cons g gs, [], _, _, _, _, _, h, hk => by cases h
  | .cons g gs, d :: r, A, _, B, _, _, h, hk => by
    rw [evGs] at h
    obtain ⟨A1, B1, h1, h⟩ := ob2_of h
    exact ⟨d, r, rfl, evG_ok h1 (evGs_ok h hk)⟩
end
theorem bIf {b : Bool} {P Q : Prop} (h1 : b = true → P) (h2 : b = false → Q) : (b = true → P) ∧ (b = false → Q) := ⟨h1, h2⟩
theorem chainE_ok {o o' : O2} {x y w : AV} {B B' : Mem} {c : Mem → Option (AV × Mem)} {fc : Mem → Kt → Prop} {k : Kt} (h : chainE false o o' x y B c = some (w, B')) (hk : k w B') (hc : ∀ {B3 B4 : Mem} {w : AV} {k : Kt}, c B3 = some (w, B4) → k w B4 → fc B3 k) :
    a2 o x y B fun z B3 => boolK z fun b => (b = true → fc B3 fun w B4 => a2 o' y w B4 k) ∧ (b = false → k (.d (.bool false)) B3) := by
  obtain ⟨z, B3, h1, h⟩ := ob2_of h
  obtain ⟨b, h2, h⟩ := ob_of h
  refine e2_ok h1 (oBool_ok h2 ?_)
  cases b with
  | true =>
    rw [if_pos rfl] at h
    obtain ⟨u, B4, h3, h⟩ := ob2_of h
    exact ⟨fun _ => hc h3 (e2_ok h hk), fun z => by cases z⟩
  | false =>
    rw [if_neg (by decide)] at h
    cases h
    exact ⟨fun z => (by cases z), fun _ => hk⟩
theorem lcL_ok {gt : FG} {t : FTt} {f : FE} {A : Env} {g : AV → Env → Mem → Option (Env × Mem)} {tt : Env → Mem → Option (Bool × Mem)} {ff : Env → Mem → Option (AV × Mem)}
    (hg : ∀ {w : AV} {A A' : Env} {B B' : Mem} {k : Env → Mem → Prop}, g w A B = some (A', B') → k A' B' → gt w A B k)
    (ht : ∀ {A : Env} {B B' : Mem} {b : Bool} {k : Bool → Mem → Prop}, tt A B = some (b, B') → k b B' → t A B k)
    (hf : ∀ {A : Env} {B B' : Mem} {w : AV} {k : Kt}, ff A B = some (w, B') → k w B' → f A B k)
    {xs : List PyData} {B1 B2 : Mem} {ds : List PyData} {vs : List Nat} (h : lcL (lcStep g tt ff (wipeA A vs)) xs B1 = some (ds, B2)) (hl : xs.length ≤ sizeLine) :
    ∃ Iv : Nat → List PyData → Mem → Prop, Iv 0 [] B1 ∧
  (∀ i x acc B2, xs[i]? = some x → Iv i acc B2 → gt (.d x) (wipeA A vs) B2 fun A2 B3 => t A2 B3 fun b B4 => (b = true → f A2 B4 fun y B5 => wK y fun d => acc.length < sizeLine ∧ Iv (i + 1) (acc ++ [d]) B5) ∧ (b = false → Iv (i + 1) acc B4)) ∧
  ∀ acc B3, Iv xs.length acc B3 → acc = ds ∧ B3 = B2 := by
  refine ⟨fun i acc B => i ≤ xs.length ∧ acc.length ≤ i ∧ ∃ rest, lcL (lcStep g tt ff (wipeA A vs)) (xs.drop i) B = some (rest, B2) ∧ acc ++ rest = ds, ⟨Nat.zero_le _, Nat.le_refl _, ds, h, rfl⟩, fun i x acc B hx hI => ?_, fun acc B3 hI => ?_⟩
  · obtain ⟨hi, ha, rest, h1, e⟩ := hI
    have hil := (List.getElem?_eq_some_iff.mp hx).1
    have hd : xs.drop i = x :: xs.drop (i + 1) := by
      obtain ⟨l, e⟩ := List.getElem?_eq_some_iff.mp hx
      rw [List.drop_eq_getElem_cons l, e]
    rw [hd] at h1
    rw [lcL] at h1
    obtain ⟨o, B3, h2, h1⟩ := ob2_of h1
    obtain ⟨ds2, B4, h3, h1⟩ := ob2_of h1
    cases h1
    obtain ⟨A2, B5, h4, h2⟩ := ob2_of h2
    obtain ⟨b, B6, h5, h2⟩ := ob2_of h2
    refine hg h4 (ht h5 ?_)
    cases b with
    | true =>
      rw [if_pos rfl] at h2
      obtain ⟨y, B7, h6, h2⟩ := ob2_of h2
      obtain ⟨d, h7, h2⟩ := ob_of h2
      cases h2
      refine ⟨fun _ => hf h6 (oK_ok h7 ⟨by omega, hil, by rw [List.length_append]; simp; exact ha, ds2, h3, ?_⟩), fun z => by cases z⟩
      rw [← e]
      simp
    | false =>
      rw [if_neg (by decide)] at h2
      cases h2
      refine ⟨fun z => (by cases z), fun _ => ⟨hil, by omega, ds2, h3, ?_⟩⟩
      rw [← e]
      simp
  · obtain ⟨_, _, rest, h1, e⟩ := hI
    rw [List.drop_length] at h1
    cases h1
    exact ⟨by rw [← e]; simp, rfl⟩
theorem lcDO_of {i : Nat} {A : Env} {B : Mem} {j : Nat} {kvs : List (L2.Key × PyData)} (h : lcDO i A B = some (j, kvs)) : A[i]? = some (some (.m j)) ∧ B[j]? = some (.dK kvs) := by
  unfold lcDO at h
  split at h
  · rename_i e
    split at h
    · rename_i e2
      cases h
      exact ⟨e, e2⟩
    · cases h
  · cases h
theorem oVar_ok {i : Nat} {A : Env} {B B' : Mem} {w : AV} {k : Kt} (h : oVar i A B = some (w, B')) (hk : k w B') : fVar i A B k := by
  unfold oVar at h
  unfold fVar
  split at h
  · rename_i e; (try rw [e]); cases h; exact hk
  · cases h
theorem goneB {c : MC} (h : isGone c = true) : c = .gone := by
  cases c <;> first | rfl | cases h
theorem flc_ok {T : Nat → DT} {it : AI} {g : AG} {t e : AE} {vs : List Nat} {A : Env} {B B' : Mem} {w : AV} {k : Kt} {cw : Bool} {fi : FI}
    (hg : ∀ {w : AV} {A A' : Env} {B B' : Mem} {k : Env → Mem → Prop}, evG g w A B = some (A', B') → k A' B' → wpG g w A B k)
    (ht : ∀ {A : Env} {B B' : Mem} {b : Bool} {k : Bool → Mem → Prop}, evT T t A B = some (b, B') → k b B' → wpT (TF T) t A B k)
    (hf : ∀ {A : Env} {B B' : Mem} {w : AV} {k : Kt}, evE T 0 e A B = some (w, B') → k w B' → wpE (TF T) e A B k)
    (hi : ∀ {A : Env} {B B' : Mem} {xs : List PyData} {k : List PyData → Mem → Prop}, evI T it A B = some (xs, B') → k xs B' → fi A B k)
    (h : (ob2 (evI T it A B) fun xs B1 => gu (xs.length ≤ sizeLine) (ob2 (lcL (lcStep (evG g) (evT T t) (evE T 0 e) (wipeA A vs)) xs B1) fun ds B2 => some (newO cw ds B2))) = some (w, B')) (hk : k w B') : fLc fi (wpG g) (wpT (TF T) t) (wpE (TF T) e) vs A B k := by
  obtain ⟨xs, B1, h1, h⟩ := ob2_of h
  obtain ⟨hl, h⟩ := gu_of h
  obtain ⟨ds, B2, h2, h⟩ := ob2_of h
  refine hi h1 ?_
  obtain ⟨Iv, i0, i1, i2⟩ := lcL_ok hg ht hf h2 hl
  refine ⟨Iv, i0, i1, fun acc B3 hI => ?_⟩
  obtain ⟨rfl, rfl⟩ := i2 acc B3 hI
  exact newO_ok h hk
mutual
theorem evE_ok {T : Nat → DT} : ∀ {c : Nat} {e : AE} {A : Env} {B B' : Mem} {w : AV} {k : Kt}, evE T c e A B = some (w, B') → k w B' → wpE (TF T) e A B k
  | c, .var i, A, B, _, _, _, h, hk => oVar_ok (show oVar i A B = _ from h) hk
  | c, .c x, _, _, _, _, _, h, hk => by cases h; exact hk
  | c, .kt xs, _, _, _, _, _, h, hk => by cases h; exact hk
  | c, .op2 o a b, A, B, _, _, _, h, hk => by
    rw [evE] at h
    obtain ⟨x, B1, h1, h⟩ := ob2_of h
    obtain ⟨y, B2, h2, h⟩ := ob2_of h
    exact evE_ok (e := a) h1 (evE_ok (e := b) h2 (e2_ok h hk))
  | c, .neg a, A, B, _, _, _, h, hk => by
    rw [evE] at h
    obtain ⟨x, B1, h1, h⟩ := ob2_of h
    exact evE_ok (e := a) h1 (eD1_ok oNeg_ok h hk)
  | c, .chain o o' a b d, A, B, _, _, _, h, hk => by
    rw [evE] at h
    obtain ⟨x, B1, h1, h⟩ := ob2_of h
    obtain ⟨y, B2, h2, h⟩ := ob2_of h
    exact evE_ok (e := a) h1 (evE_ok (e := b) h2 (chainE_ok h hk fun q z => evE_ok (e := d) q z))
  | c, .and a b, A, B, _, _, _, h, hk => by
    rw [evE] at h
    obtain ⟨x, B1, h1, h⟩ := ob2_of h
    obtain ⟨t, h2, h⟩ := ob_of h
    refine evE_ok (e := a) h1 (oTru_ok h2 ?_)
    cases t with
    | true => rw [if_pos rfl] at h; exact ⟨fun _ => evE_ok (e := b) h hk, fun z => by cases z⟩
    | false => rw [if_neg (by decide)] at h; cases h; exact ⟨fun z => (by cases z), fun _ => hk⟩
  | c, .or a b, A, B, _, _, _, h, hk => by
    rw [evE] at h
    obtain ⟨x, B1, h1, h⟩ := ob2_of h
    obtain ⟨t, h2, h⟩ := ob_of h
    refine evE_ok (e := a) h1 (oTru_ok h2 ?_)
    cases t with
    | true => rw [if_pos rfl] at h; cases h; exact ⟨fun _ => hk, fun z => by cases z⟩
    | false => rw [if_neg (by decide)] at h; exact ⟨fun z => (by cases z), fun _ => evE_ok (e := b) h hk⟩
  | c, .not a, A, B, _, _, _, h, hk => by
    rw [evE] at h
    obtain ⟨x, B1, h1, h⟩ := ob2_of h
    obtain ⟨t, h2, h⟩ := ob_of h
    cases h
    exact evE_ok (e := a) h1 (oTru_ok h2 hk)
  | c, .ife t a b, A, B, _, _, _, h, hk => by
    rw [evE] at h
    obtain ⟨q, B1, h1, h⟩ := ob2_of h
    refine evT_ok (e := t) h1 ?_
    cases q with
    | true => rw [if_pos rfl] at h; exact ⟨fun _ => evE_ok (e := a) h hk, fun z => by cases z⟩
    | false => rw [if_neg (by decide)] at h; exact ⟨fun z => (by cases z), fun _ => evE_ok (e := b) h hk⟩
  | c, .sl a lo hi, A, B, _, _, _, h, hk => by
    rw [evE] at h
    obtain ⟨x, B1, h1, h⟩ := ob2_of h
    obtain ⟨l, B2, h2, h⟩ := ob2_of h
    obtain ⟨u, B3, h3, h⟩ := ob2_of h
    exact evE_ok (e := a) h1 (evO_ok (e := lo) h2 (evO_ok (e := hi) h3 (eSl_ok h hk)))
  | c, .omit, _, _, _, _, _, h, hk => by cases h
  | c, .call f es, A, B, _, _, _, h, hk => by
    rw [evE] at h
    obtain ⟨ws, B1, h1, h⟩ := ob2_of h
    exact evEs_ok (es := es) h1 (eCall_ok h hk)
  | c, .callK f ix es, A, B, _, _, _, h, hk => by
    rw [evE] at h
    obtain ⟨ws, B1, h1, h⟩ := ob2_of h
    obtain ⟨q, h⟩ := gu_of h
    exact evEs_ok (es := es) h1 ⟨q, eCall_ok h hk⟩
  | c, .bi b es, A, B, _, _, _, h, hk => by
    rw [evE] at h
    obtain ⟨ws, B1, h1, h⟩ := ob2_of h
    exact evEs_ok (es := es) h1 (eBi_ok h hk)
  | c, .isi ts a, A, B, _, _, _, h, hk => by
    rw [evE] at h
    obtain ⟨x, B1, h1, h⟩ := ob2_of h
    obtain ⟨d, h2, h⟩ := ob_of h
    cases h
    exact evE_ok (e := a) h1 (wD_ok h2 hk)
  | c, .mm m o es, A, B, _, _, _, h, hk => by
    rw [evE] at h
    obtain ⟨x, B1, h1, h⟩ := ob2_of h
    obtain ⟨q, h⟩ := gu_of h
    obtain ⟨ys, B2, h2, h⟩ := ob2_of h
    exact evE_ok (e := o) h1 ⟨isL_ok q, evEs_ok (es := es) h2 (eMM_ok h hk)⟩
  | c, .get2 o a b, A, B, _, _, _, h, hk => by
    rw [evE] at h
    obtain ⟨x, B1, h1, h⟩ := ob2_of h
    obtain ⟨dc, h2, h⟩ := ob_of h
    obtain ⟨y, B2, h3, h⟩ := ob2_of h
    obtain ⟨z, B3, h4, h⟩ := ob2_of h
    refine evE_ok (e := o) h1 ⟨⟨dc, h2⟩, evE_ok (e := a) h3 (evE_ok (e := b) h4 ?_)⟩
    obtain ⟨c2, h5, h⟩ := ob_of h
    obtain ⟨d, h6, h⟩ := ob_of h
    obtain ⟨r, h7, h⟩ := ob_of h
    refine ⟨c2, h5, oK_ok h6 (oLook_ok h7 ?_)⟩
    cases r with
    | some u => cases h; exact hk
    | none => cases h; exact hk
  | c, .tup es, A, B, _, _, _, h, hk => by
    rw [evE] at h
    obtain ⟨ws, B1, h1, h⟩ := ob2_of h
    obtain ⟨xs, h2, h⟩ := ob_of h
    obtain ⟨q, h⟩ := gu_of h
    cases h
    exact evEs_ok (es := es) h1 (dsO_ok h2 ⟨q, hk⟩)
  | c, .lst es, A, B, _, _, _, h, hk => by
    rw [evE] at h
    obtain ⟨ws, B1, h1, h⟩ := ob2_of h
    obtain ⟨xs, h2, h⟩ := ob_of h
    obtain ⟨q, h⟩ := gu_of h
    exact evEs_ok (es := es) h1 (dsO_ok h2 ⟨q, newO_ok h hk⟩)
  | c, .dnew, A, B, _, _, _, h, hk => by
    cases (show some (AV.m B.length, B ++ [if c = 3 then MC.dT [] else MC.dK []]) = _ from h)
    by_cases e : c = 3
    · rw [if_pos e] at hk; exact .inr hk
    · rw [if_neg e] at hk; exact .inl hk
  | c, .lc it g t e vs, A, B, _, _, _, h, hk => by
    rw [evE] at h
    replace h : (if (c == 4) = true then _ else _) = _ := h
    by_cases ec : (c == 4) = true
    · rw [if_pos ec] at h
      obtain ⟨xs, B1, h1, h⟩ := ob2_of h
      obtain ⟨q, h⟩ := gu_of h
      obtain ⟨accF, BF, h2, h⟩ := ob2_of h
      cases h
      refine .inr (evI_ok (it := it) h1 ⟨q, fun i rows Bb => Bb.length = B1.length ∧ acL (mtStep (evG g) (evT T t) (evE T 1 e) (wipeA A vs) B1.length) (xs.drop i) rows Bb = some (accF, BF), ⟨rfl, h2⟩, fun i x rows Bb hx hl hI => ?_, fun rows Bb hI => ?_⟩)
      · replace hI : acL (mtStep (evG g) (evT T t) (evE T 1 e) (wipeA A vs) B1.length) (xs.drop i) rows Bb = some (accF, BF) := hI.2
        rw [drop_at hx, acL] at hI
        obtain ⟨acc1, B3, h3, h4⟩ := ob2_of hI
        obtain ⟨A2, B4, h5, h3⟩ := ob2_of h3
        obtain ⟨b, B5, h6, h3⟩ := ob2_of h3
        obtain ⟨hb, h3⟩ := gu_of h3
        obtain ⟨y, B6, h7, h3⟩ := ob2_of h3
        obtain ⟨ds, h8, h3⟩ := ob_of h3
        cases h3
        obtain ⟨e1, e2, e3⟩ := mtO_of h8
        exact evG_ok h5 (evT_ok (e := t) h6 ⟨hb, evE_ok (e := e) h7 ⟨_, ds, e1, e2, e3, e3, h4⟩⟩)
      · replace hI : acL (mtStep (evG g) (evT T t) (evE T 1 e) (wipeA A vs) B1.length) (xs.drop xs.length) rows Bb = some (accF, BF) := hI.2
        rw [List.drop_length, acL] at hI
        cases hI
        exact hk
    · rw [if_neg ec] at h
      exact .inl (flc_ok (it := it) evG_ok (fun q z => evT_ok (e := t) q z) (fun q z => evE_ok (e := e) q z) (fun q z => evI_ok (it := it) q z) h hk)
  | c, .lcD i g t e vs, A, B, _, _, _, h, hk => by
    rw [evE] at h
    obtain ⟨j, kvs, h1, h⟩ := ob2_of h
    obtain ⟨hl, h⟩ := gu_of h
    obtain ⟨ds, B2, h2, h⟩ := ob2_of h
    obtain ⟨cl, h3, h⟩ := ob_of h
    obtain ⟨hg, h⟩ := gu_of h
    obtain ⟨e1, e2⟩ := lcDO_of h1
    refine ⟨j, kvs, e1, e2, ?_⟩
    obtain ⟨Iv, i0, i1, i2⟩ := lcL_ok (gt := wpG g) (t := wpT (TF T) t) (f := wpE (TF T) e) evG_ok (fun q z => evT_ok (e := t) q z) (fun q z => evE_ok (e := e) q z) h2 (by rw [List.length_map]; exact hl)
    refine ⟨Iv, i0, i1, fun acc B3 hI => ?_⟩
    obtain ⟨rfl, rfl⟩ := i2 acc B3 hI
    cases c with
    | zero =>
      cases h
      refine .inl ?_
      exact ⟨by rw [h3, goneB hg], hk⟩
    | succ n =>
      cases h
      refine .inr ?_
      have hj := (List.getElem?_eq_some_iff.mp h3).1
      refine ⟨by rw [List.getElem?_append_left hj, h3, goneB hg], ?_⟩
      rw [List.length_set] at hk
      rw [List.set_append_left _ _ hj]
      exact hk
  | c, .dne0 i, A, B, _, _, _, h, hk => by
    rw [evE] at h
    obtain ⟨j, kvs, h1, h⟩ := ob2_of h
    cases h
    obtain ⟨e1, e2⟩ := lcDO_of h1
    exact ⟨j, kvs, e1, e2, hk⟩
  | c, .rev a, A, B, _, _, _, h, hk => by
    rw [evE] at h
    obtain ⟨x, B1, h1, h⟩ := ob2_of h
    exact evE_ok (e := a) h1 (eD1_ok oRev_ok h hk)
  | c, .lset a, A, B, _, _, _, h, hk => by
    rw [evE] at h
    obtain ⟨x, B1, h1, h⟩ := ob2_of h
    exact evE_ok (e := a) h1 (eD1_ok oLenSet_ok h hk)
  | c, .idx o a, A, B, _, _, _, h, hk => by
    rw [evE] at h
    obtain ⟨x, B1, h1, h⟩ := ob2_of h
    obtain ⟨xs, h2, h⟩ := ob_of h
    obtain ⟨ss, h3, h⟩ := ob_of h
    obtain ⟨y, B2, h4, h⟩ := ob2_of h
    obtain ⟨j, h5, h⟩ := ob_of h
    cases h
    obtain ⟨z, e1, e2, e3⟩ := idxO_of h5
    exact evE_ok (e := o) h1 ⟨ss, by rw [h2, toStrs_of h3], evE_ok (e := a) h4 ⟨z, j, e1, e2, e3, hk⟩⟩
  | c, .lrg a, A, B, _, _, _, h, hk => by
    rw [evE] at h
    obtain ⟨x, B1, h1, h⟩ := ob2_of h
    obtain ⟨j, h2, h⟩ := ob_of h
    obtain ⟨e1, e2⟩ := lrgO_of h2
    exact evE_ok (e := a) h1 ⟨j, e1, e2, newO_ok h hk⟩
  | c, .trg a, A, B, _, _, _, h, hk => by
    rw [evE] at h
    obtain ⟨x, B1, h1, h⟩ := ob2_of h
    obtain ⟨j, h2, h⟩ := ob_of h
    cases h
    obtain ⟨e1, e2⟩ := lrgO_of h2
    exact evE_ok (e := a) h1 ⟨j, e1, e2, hk⟩
  | c, .reprL es, A, B, _, _, _, h, hk => by
    rw [evE] at h
    obtain ⟨ws, B1, h1, h⟩ := ob2_of h
    obtain ⟨ds, h2, h⟩ := ob_of h
    obtain ⟨q, h⟩ := gu_of h
    cases h
    exact evEs_ok (es := es) h1 (rdL_ok h2 ⟨q.1, q.2, hk⟩)
  | c, .upd o a, A, B, _, _, _, h, hk => by
    rw [evE] at h
    obtain ⟨x, B1, h1, h⟩ := ob2_of h
    obtain ⟨j, kv0, h2, h⟩ := ob2_of h
    obtain ⟨y, B2, h3, h⟩ := ob2_of h
    obtain ⟨j', kvs, h4, h⟩ := ob2_of h
    obtain ⟨j2, more, h5, h⟩ := ob2_of h
    obtain ⟨q, h⟩ := gu_of h
    cases h
    obtain ⟨rfl, e2⟩ := dkO_of h2
    obtain ⟨e3, e4⟩ := dkO_of h4
    cases e3
    obtain ⟨rfl, e6⟩ := dkO_of h5
    exact evE_ok (e := o) h1 ⟨j, kv0, rfl, e2, evE_ok (e := a) h3 ⟨j2, kvs, more, rfl, q.1, e4, e6, q.2, hk⟩⟩
  | c, .lsc it g t e vs, A, B, BF, _, _, h, hk => by
    rw [evE] at h
    obtain ⟨xs, B1, h1, h⟩ := ob2_of h
    obtain ⟨q, h⟩ := gu_of h
    obtain ⟨accF, B2, h2, h⟩ := ob2_of h
    cases h
    refine evI_ok (it := it) h1 ⟨q, fun i acc B => acL (scStep (evG g) (evT T t) (evE T 0 e) (wipeA A vs)) (xs.drop i) acc B = some (accF, BF), h2, fun i x acc Bx hx hI => ?_, fun acc Bx hI => ?_⟩
    · replace hI : acL (scStep (evG g) (evT T t) (evE T 0 e) (wipeA A vs)) (xs.drop i) acc Bx = some (accF, BF) := hI
      rw [drop_at hx, acL] at hI
      obtain ⟨acc1, B3, h3, h4⟩ := ob2_of hI
      obtain ⟨A2, B4, h5, h3⟩ := ob2_of h3
      obtain ⟨b, B5, h6, h3⟩ := ob2_of h3
      refine evG_ok h5 (evT_ok (e := t) h6 ?_)
      cases b with
      | true =>
        rw [if_pos rfl] at h3
        obtain ⟨y, B6, h7, h3⟩ := ob2_of h3
        obtain ⟨ks, h8, h3⟩ := ob_of h3
        cases h3
        exact ⟨fun _ => evE_ok (e := e) h7 ⟨ks, oKs_of h8, h4⟩, fun z => by cases z⟩
      | false =>
        rw [if_neg (by decide)] at h3
        cases h3
        exact ⟨fun z => (by cases z), fun _ => h4⟩
    · replace hI : acL (scStep (evG g) (evT T t) (evE T 0 e) (wipeA A vs)) (xs.drop xs.length) acc Bx = some (accF, BF) := hI
      rw [List.drop_length, acL] at hI
      cases hI
      exact hk
  | c, .dcm it g t e v vs, A, B, _, _, _, h, hk => by
    rw [evE] at h
    obtain ⟨xs, B1, h1, h⟩ := ob2_of h
    obtain ⟨q, h⟩ := gu_of h
    obtain ⟨accF, BF, h2, h⟩ := ob2_of h
    cases h
    refine evI_ok (it := it) h1 ⟨q, fun i acc B => acL (dmStep (evG g) (evT T t) (evE T 0 e) (evE T 0 v) (wipeA A vs)) (xs.drop i) acc B = some (accF, BF), h2, fun i x acc Bx hx hI => ?_, fun acc Bx hI => ?_⟩
    · replace hI : acL (dmStep (evG g) (evT T t) (evE T 0 e) (evE T 0 v) (wipeA A vs)) (xs.drop i) acc Bx = some (accF, BF) := hI
      rw [drop_at hx, acL] at hI
      obtain ⟨acc1, B3, h3, h4⟩ := ob2_of hI
      obtain ⟨A2, B4, h5, h3⟩ := ob2_of h3
      obtain ⟨b, B5, h6, h3⟩ := ob2_of h3
      refine evG_ok h5 (evT_ok (e := t) h6 ?_)
      cases b with
      | true =>
        rw [if_pos rfl] at h3
        obtain ⟨y, B6, h7, h3⟩ := ob2_of h3
        obtain ⟨key, h8, h3⟩ := ob_of h3
        obtain ⟨z, B7, h9, h3⟩ := ob2_of h3
        obtain ⟨d, h10, h3⟩ := ob_of h3
        cases h3
        obtain ⟨kd, e1, e2⟩ := oKd_of h8
        exact ⟨fun _ => evE_ok (e := e) h7 ⟨kd, key, e1, e2, evE_ok (e := v) h9 (oK_ok h10 h4)⟩, fun z => by cases z⟩
      | false =>
        rw [if_neg (by decide)] at h3
        cases h3
        exact ⟨fun z => (by cases z), fun _ => h4⟩
    · replace hI : acL (dmStep (evG g) (evT T t) (evE T 0 e) (evE T 0 v) (wipeA A vs)) (xs.drop xs.length) acc Bx = some (accF, BF) := hI
      rw [List.drop_length, acL] at hI
      cases hI
      exact hk
theorem evT_ok {T : Nat → DT} : ∀ {e : AE} {A : Env} {B B' : Mem} {w : Bool} {k : Bool → Mem → Prop}, evT T e A B = some (w, B') → k w B' → wpT (TF T) e A B k
  | .omit, _, _, _, _, _, h, hk => by cases h; exact hk
  | .and a b, A, B, _, _, _, h, hk => by
    rw [evT] at h
    obtain ⟨q, B1, h1, h⟩ := ob2_of h
    refine evT_ok (e := a) h1 ?_
    cases q with
    | true => rw [if_pos rfl] at h; exact ⟨fun _ => evT_ok (e := b) h hk, fun z => by cases z⟩
    | false => rw [if_neg (by decide)] at h; cases h; exact ⟨fun z => (by cases z), fun _ => hk⟩
  | .or a b, A, B, _, _, _, h, hk => by
    rw [evT] at h
    obtain ⟨q, B1, h1, h⟩ := ob2_of h
    refine evT_ok (e := a) h1 ?_
    cases q with
    | true => rw [if_pos rfl] at h; cases h; exact ⟨fun _ => hk, fun z => by cases z⟩
    | false => rw [if_neg (by decide)] at h; exact ⟨fun z => (by cases z), fun _ => evT_ok (e := b) h hk⟩
  | .not a, A, B, _, _, _, h, hk => by
    rw [evT] at h
    obtain ⟨q, B1, h1, h⟩ := ob2_of h
    cases h
    exact evT_ok (e := a) h1 hk
  | .op2 o a b, A, B, _, _, k, h, hk => by
    rw [evT] at h
    obtain ⟨z, B3, h0, h⟩ := ob2_of h
    obtain ⟨x, B1, h1, h0⟩ := ob2_of h0
    obtain ⟨y, B2, h2, h0⟩ := ob2_of h0
    obtain ⟨q, h3, h⟩ := ob_of h
    cases h
    show (if isCmp o then fBool (fOp (a2 o) (wpE (TF T) a) (wpE (TF T) b)) else fTru (fOp (a2 o) (wpE (TF T) a) (wpE (TF T) b))) A B k
    by_cases ec : isCmp o = true
    · rw [if_pos ec] at h3 ⊢
      exact evE_ok (e := a) h1 (evE_ok (e := b) h2 (e2_ok h0 (oBool_ok h3 hk)))
    · rw [if_neg ec] at h3 ⊢
      exact evE_ok (e := a) h1 (evE_ok (e := b) h2 (e2_ok h0 (oTru_ok h3 hk)))
  | .chain o o' a b d, A, B, _, _, k, h, hk => by
    rw [evT] at h
    obtain ⟨z, B3, h0, h⟩ := ob2_of h
    obtain ⟨x, B1, h1, h0⟩ := ob2_of h0
    obtain ⟨y, B2, h2, h0⟩ := ob2_of h0
    obtain ⟨q, h3, h⟩ := ob_of h
    cases h
    exact evE_ok (e := a) h1 (evE_ok (e := b) h2 (chainE_ok (k := fun x B1 => boolK x fun b => k b B1) h0 (oBool_ok h3 hk) fun q z => evE_ok (e := d) q z))
  | .dne0 i, A, B, _, _, _, h, hk => by
    rw [evT] at h
    obtain ⟨j, kvs, h1, h⟩ := ob2_of h
    cases h
    obtain ⟨e1, e2⟩ := lcDO_of h1
    exact ⟨j, kvs, e1, e2, hk⟩
  | .var i, A, B, _, _, k, h, hk => by
    rw [evT] at h
    obtain ⟨z, B1, h1, h⟩ := ob2_of h
    obtain ⟨q, h2, h⟩ := ob_of h
    cases h
    exact oVar_ok (k := fun x B1 => aTru x B1 fun b => k b B1) h1 (oTru_ok h2 hk)
  | .c x, A, B, _, _, k, h, hk => by
    rw [evT] at h
    obtain ⟨q, h2, h⟩ := ob_of h
    cases h
    exact oTru_ok (x := .d x) (k := fun b => k b B) h2 hk
  | .call f es, A, B, _, _, _, h, hk => by
    rw [evT] at h
    obtain ⟨z, B1, h0, h⟩ := ob2_of h
    obtain ⟨ws, B2, h1, h0⟩ := ob2_of h0
    obtain ⟨q, h2, h⟩ := ob_of h
    cases h
    exact evEs_ok (es := es) h1 (eCall_ok h0 (oTru_ok h2 hk))
  | .bi b es, A, B, _, _, _, h, hk => by
    rw [evT] at h
    obtain ⟨z, B1, h0, h⟩ := ob2_of h
    obtain ⟨ws, B2, h1, h0⟩ := ob2_of h0
    obtain ⟨q, h2, h⟩ := ob_of h
    cases h
    exact evEs_ok (es := es) h1 (eBi_ok h0 (oTru_ok h2 hk))
  | .isi ts a, A, B, _, _, _, h, hk => by
    rw [evT] at h
    obtain ⟨x, B1, h1, h⟩ := ob2_of h
    obtain ⟨d, h2, h⟩ := ob_of h
    cases h
    exact evE_ok (e := a) h1 (wD_ok h2 hk)
  | .lc it g t e vs, A, B, _, _, k, h, hk => by
    rw [evT] at h
    obtain ⟨z, B1, h0, h⟩ := ob2_of h
    obtain ⟨q, h2, h⟩ := ob_of h
    cases h
    exact .inl (flc_ok (it := it) (cw := false) (k := fun x B1 => aTru x B1 fun b => k b B1) evG_ok (fun q z => evT_ok (e := t) q z) (fun q z => evE_ok (e := e) q z) (fun q z => evI_ok (it := it) q z) h0 (oTru_ok h2 hk))
  | .kt _, _, _, _, _, _, h, _ => by cases h
  | .neg _, _, _, _, _, _, h, _ => by cases h
  | .ife _ _ _, _, _, _, _, _, h, _ => by cases h
  | .sl _ _ _, _, _, _, _, _, h, _ => by cases h
  | .callK _ _ _, _, _, _, _, _, h, _ => by cases h
  | .mm _ _ _, _, _, _, _, _, h, _ => by cases h
  | .get2 _ _ _, _, _, _, _, _, h, _ => by cases h
  | .tup _, _, _, _, _, _, h, _ => by cases h
  | .lst _, _, _, _, _, _, h, _ => by cases h
  | .dnew, _, _, _, _, _, h, _ => by cases h
  | .lcD _ _ _ _ _, _, _, _, _, _, h, _ => by cases h
  | .rev _, _, _, _, _, _, h, _ => by cases h
  | .lset _, _, _, _, _, _, h, _ => by cases h
  | .idx _ _, _, _, _, _, _, h, _ => by cases h
  | .lrg _, _, _, _, _, _, h, _ => by cases h
  | .reprL _, _, _, _, _, _, h, _ => by cases h
  | .trg _, _, _, _, _, _, h, _ => by cases h
  | .upd _ _, _, _, _, _, _, h, _ => by cases h
  | .lsc _ _ _ _ _, _, _, _, _, _, h, _ => by cases h
  | .dcm _ _ _ _ _ _, _, _, _, _, _, h, _ => by cases h
theorem evO_ok {T : Nat → DT} : ∀ {e : AE} {A : Env} {B B' : Mem} {w : Option Int} {k : Option Int → Mem → Prop}, evO T e A B = some (w, B') → k w B' → wpO (TF T) e A B k
  | .omit, _, _, _, _, _, h, hk => by cases h; exact hk
  | .var i, A, B, _, _, k, h, hk => by
    rw [evO] at h
    obtain ⟨z, B1, h1, h⟩ := ob2_of h
    obtain ⟨d, h2, h⟩ := ob_of h
    obtain ⟨n, h3, h⟩ := ob_of h
    cases h
    exact oVar_ok (k := fun x B1 => wK x fun d => ∃ i, d = .int i ∧ k (some i) B1) h1 (oK_ok h2 ⟨n, oInt_of h3, hk⟩)
  | .c x, A, B, _, _, _, h, hk => by
    rw [evO] at h
    obtain ⟨n, h3, h⟩ := ob_of h
    cases h
    exact ⟨n, oInt_of h3, hk⟩
  | .op2 o a b, A, B, _, _, _, h, hk => by
    rw [evO] at h
    obtain ⟨z, B3, h0, h⟩ := ob2_of h
    obtain ⟨x, B1, h1, h0⟩ := ob2_of h0
    obtain ⟨y, B2, h2, h0⟩ := ob2_of h0
    obtain ⟨d, h4, h⟩ := ob_of h
    obtain ⟨n, h3, h⟩ := ob_of h
    cases h
    exact evE_ok (e := a) h1 (evE_ok (e := b) h2 (e2_ok h0 (oK_ok h4 ⟨n, oInt_of h3, hk⟩)))
  | .neg a, A, B, _, _, _, h, hk => by
    rw [evO] at h
    obtain ⟨z, B3, h0, h⟩ := ob2_of h
    obtain ⟨x, B1, h1, h0⟩ := ob2_of h0
    obtain ⟨d, h4, h⟩ := ob_of h
    obtain ⟨n, h3, h⟩ := ob_of h
    cases h
    exact evE_ok (e := a) h1 (eD1_ok oNeg_ok h0 (oK_ok h4 ⟨n, oInt_of h3, hk⟩))
  | .call f es, A, B, _, _, _, h, hk => by
    rw [evO] at h
    obtain ⟨z, B1, h0, h⟩ := ob2_of h
    obtain ⟨ws, B2, h1, h0⟩ := ob2_of h0
    obtain ⟨d, h4, h⟩ := ob_of h
    obtain ⟨n, h3, h⟩ := ob_of h
    cases h
    exact evEs_ok (es := es) h1 (eCall_ok h0 (oK_ok h4 ⟨n, oInt_of h3, hk⟩))
  | .bi b es, A, B, _, _, _, h, hk => by
    rw [evO] at h
    obtain ⟨z, B1, h0, h⟩ := ob2_of h
    obtain ⟨ws, B2, h1, h0⟩ := ob2_of h0
    obtain ⟨d, h4, h⟩ := ob_of h
    obtain ⟨n, h3, h⟩ := ob_of h
    cases h
    exact evEs_ok (es := es) h1 (eBi_ok h0 (oK_ok h4 ⟨n, oInt_of h3, hk⟩))
  | .kt _, _, _, _, _, _, h, _ => by cases h
  | .chain _ _ _ _ _, _, _, _, _, _, h, _ => by cases h
  | .and _ _, _, _, _, _, _, h, _ => by cases h
  | .or _ _, _, _, _, _, _, h, _ => by cases h
  | .not _, _, _, _, _, _, h, _ => by cases h
  | .ife _ _ _, _, _, _, _, _, h, _ => by cases h
  | .sl _ _ _, _, _, _, _, _, h, _ => by cases h
  | .callK _ _ _, _, _, _, _, _, h, _ => by cases h
  | .isi _ _, _, _, _, _, _, h, _ => by cases h
  | .mm _ _ _, _, _, _, _, _, h, _ => by cases h
  | .get2 _ _ _, _, _, _, _, _, h, _ => by cases h
  | .tup _, _, _, _, _, _, h, _ => by cases h
  | .lst _, _, _, _, _, _, h, _ => by cases h
  | .dnew, _, _, _, _, _, h, _ => by cases h
  | .lc _ _ _ _ _, _, _, _, _, _, h, _ => by cases h
  | .lcD _ _ _ _ _, _, _, _, _, _, h, _ => by cases h
  | .dne0 _, _, _, _, _, _, h, _ => by cases h
  | .rev _, _, _, _, _, _, h, _ => by cases h
  | .lset _, _, _, _, _, _, h, _ => by cases h
  | .idx _ _, _, _, _, _, _, h, _ => by cases h
  | .lrg _, _, _, _, _, _, h, _ => by cases h
  | .reprL _, _, _, _, _, _, h, _ => by cases h
  | .trg _, _, _, _, _, _, h, _ => by cases h
  | .upd _ _, _, _, _, _, _, h, _ => by cases h
  | .lsc _ _ _ _ _, _, _, _, _, _, h, _ => by cases h
  | .dcm _ _ _ _ _ _, _, _, _, _, _, h, _ => by cases h
theorem evEs_ok {T : Nat → DT} : ∀ {ks : List Nat} {es : AEs} {A : Env} {B B' : Mem} {ws : List AV} {k : List AV → Mem → Prop}, evEs T ks es A B = some (ws, B') → k ws B' → wpEs (TF T) es A B k
  | _, .nil, _, _, _, _, _, h, hk => by cases h; exact hk
  | ks, .cons a es, A, B, _, _, _, h, hk => by
    rw [evEs] at h
    obtain ⟨x, B1, h1, h⟩ := ob2_of h
    obtain ⟨xs, B2, h2, h⟩ := ob2_of h
    cases h
    exact evE_ok (e := a) h1 (evEs_ok (es := es) h2 hk)
theorem evI_ok {T : Nat → DT} : ∀ {it : AI} {A : Env} {B B' : Mem} {xs : List PyData} {k : List PyData → Mem → Prop}, evI T it A B = some (xs, B') → k xs B' → wpI (TF T) it A B k
  | .seq a, A, B, _, _, _, h, hk => by
    rw [evI] at h
    obtain ⟨x, B1, h1, h⟩ := ob2_of h
    obtain ⟨ys, h2, h⟩ := ob_of h
    cases h
    unfold seqO at h2
    split at h2
    · cases h2; exact .inl (evE_ok (e := a) h1 hk)
    · cases h2; exact .inr (.inl (evE_ok (e := a) h1 hk))
    · cases h2; exact .inr (.inl (evE_ok (e := a) h1 hk))
    · cases h2; exact .inr (.inr (evE_ok (e := a) h1 hk))
    · cases h2
  | .r1 es, A, B, _, _, _, h, hk => by
    rw [evI] at h
    obtain ⟨ws, B1, h1, h⟩ := ob2_of h
    obtain ⟨ys, h2, h⟩ := ob_of h
    cases h
    unfold r1O at h2
    split at h2
    · obtain ⟨q, h2⟩ := gu_of h2
      cases h2
      exact evEs_ok (es := es) h1 ⟨_, rfl, (show _ ∧ _ from q).1, (show _ ∧ _ from q).2, hk⟩
    · cases h2
  | .r2 es, A, B, _, _, _, h, hk => by
    rw [evI] at h
    obtain ⟨ws, B1, h1, h⟩ := ob2_of h
    obtain ⟨ys, h2, h⟩ := ob_of h
    cases h
    unfold r2O at h2
    split at h2
    · obtain ⟨q, h2⟩ := gu_of h2
      cases h2
      exact evEs_ok (es := es) h1 ⟨_, _, rfl, ⟨(show _ ∧ _ from q.1).1, (show _ ∧ _ from q.1).2, q.2⟩, hk⟩
    · cases h2
  | .r3 es, A, B, _, _, _, h, hk => by
    rw [evI] at h
    obtain ⟨ws, B1, h1, h⟩ := ob2_of h
    obtain ⟨ys, h2, h⟩ := ob_of h
    cases h
    unfold r3O at h2
    split at h2
    · obtain ⟨q, h2⟩ := gu_of h2
      cases h2
      exact evEs_ok (es := es) h1 ⟨_, _, _, _, rfl, ⟨q.1, q.2.1, q.2.2.1, (Int.toNat_of_nonneg q.2.2.2).symm⟩, hk⟩
    · cases h2
  | .zip es, A, B, _, _, _, h, hk => by
    rw [evI] at h
    obtain ⟨ws, B1, h1, h⟩ := ob2_of h
    obtain ⟨ys, h2, h⟩ := ob_of h
    cases h
    unfold zipO at h2
    split at h2
    · cases h2; exact evEs_ok (es := es) h1 hk
    · cases h2; exact evEs_ok (es := es) h1 hk
    · cases h2
  | .enum es, A, B, _, _, _, h, hk => by
    rw [evI] at h
    obtain ⟨ws, B1, h1, h⟩ := ob2_of h
    obtain ⟨ys, h2, h⟩ := ob_of h
    cases h
    unfold enumO at h2
    split at h2
    · cases h2; exact evEs_ok (es := es) h1 ⟨_, .inl rfl, hk⟩
    · cases h2; exact evEs_ok (es := es) h1 ⟨_, .inr rfl, hk⟩
    · cases h2
end
end
end Dl

namespace Dl
open L2 PySem PyProof.Rows PySem.Spec
theorem law_g {P : Program} {w : World} {K : PySem.W.Frag} {mg mb : Str → Option Value} {k : Nat} {fa a : Addr} {fd : FuncData} {x : Str} {sp : Sp} {t : Shared} {vs : List Value} {ns : List Int}
    (kin : K.In t.heap) (hns : t.heap.Ns mainGlobals mg) (hb : t.heap.Ns builtinsNs mb) (hbb : ∀ x : Str, x ≠ "__name__" → mb x = bootBuiltins x) (nolim : t.heap.NoLimit) (gens : t.gens = #[])
    (ha : t.heap.get? a = some { cls := .type "list", data := .seq vs.toArray }) (areInts : IntsAre vs ns) (short : ns.length ≤ sizeLine) (room : Room k callerA)
    (F : ∀ base : Heap, K.In base → base.Ns mainGlobals mg → FnG P w K mg base k fa fd [x] sp) (bind : ∀ (s : Shared) (u : Value), BindsTo s fd ⟨[u], []⟩ [(x, u)])
    (hsp : ∀ H : Hp, Only H → SqL K H a (ns.map V.int) → sp [.ref a] H (fun v _ => v = .bl true) E0) :
    codeAny (model P w) callerA (.call (.ref fa) ⟨[.ref a], []⟩) (fun r s' => r = .ok (.ret (.bool true)) ∧ OldK t.heap s'.heap ∧ s'.os = t.os ∧ AllBare s'.gens) t := by
  have vals := vals_ints areInts
  have len := areInts.length
  have main : ∀ H : Hp, Only H → SqL K H a (ns.map V.int) → HOk P w H t.heap → (∀ b, H b ≠ none → b = a) → (H a ≠ none → K.lookup a = none) →
      codeAny (model P w) callerA (.call (.ref fa) ⟨[.ref a], []⟩) (fun r s' => r = .ok (.ret (.bool true)) ∧ OldK t.heap s'.heap ∧ s'.os = t.os ∧ AllBare s'.gens) t := by
    intro H only seq hok alone notK
    have there : ∀ {b : Addr} {o : Obj}, t.heap.get? b = some o → H b = none → (hidT t.heap H).get? b = some o := fun e n => hidT_get e n
    have dicts : ∀ {b : Addr} {o : Obj} {es : Array DictEntry} {ep : Nat}, t.heap.get? b = some o → o.data = .dict es ep → H b = none := fun {b o es ep} e d => by
      cases z : H b with
      | none => rfl
      | some u =>
        have eb : b = a := alone b (by rw [z]; simp)
        subst eb
        rw [ha] at e
        cases e
        exact nomatch (show Data.seq vs.toArray _ = Data.dict es ep from d)
    have nss : ∀ {b : Addr} {m : Str → Option Value}, t.heap.Ns b m → (hidT t.heap H).Ns b m := fun {b m} ⟨o, es, ep, e, d, r⟩ => ⟨o, es, ep, there e (dicts e d), d, r⟩
    have kinB : K.In (hidT t.heap H) := fun b o e => there (kin b o e) (by
      cases z : H b with
      | none => rfl
      | some u =>
        have eb : b = a := alone b (by rw [z]; simp)
        subst eb
        rw [notK (by rw [z]; simp)] at e
        cases e)
    have md : Mod K mg (hidT t.heap H) := ⟨kinB, nss hns, ⟨mb, nss hb, hbb⟩, let ⟨mc, h1, h2⟩ := nolim; ⟨mc, nss h1, h2⟩⟩
    have e0 : Env0 P w K mg (hidT t.heap H) callerA [] t H := ⟨rfl, md, fun b o e => of_hidT e, Nat.le_of_eq (hidT_size _ _), trivial, fun b hb => absurd (show b ∈ ([] : List Addr) from hb) (by simp), hok, .of_eq gens⟩
    refine codeAny_mono ((F _ kinB (nss hns)).run callerA [] t H ⟨[.ref a], []⟩ [.ref a] [.ref a] _ room rfl e0 (bind t (.ref a)) (.cons rfl .nil) (hsp H only seq)) fun r s' h => ?_
    cases r with
    | error e => exact (show False from h).elim
    | ok fl =>
      cases fl with
      | next => exact (show False from h).elim
      | brk => exact (show False from h).elim
      | cont => exact (show False from h).elim
      | ret u =>
        obtain ⟨v, H', os, bare, un, hok', rv, q⟩ := h
        obtain rfl : v = .bl true := q
        obtain rfl : u = Value.bool true := rv
        refine ⟨rfl, OldK.of_keep fun b o e => ?_, os, bare⟩
        cases z : H b with
        | none => exact un.keep b o e z (by intro y; exact absurd (show b ∈ ([] : List Addr) from y) (by simp)) (by simp)
        | some u =>
          rcases only b with y | ⟨ob, xs, y⟩
          · rw [z] at y
            cases y
          · obtain ⟨g1, _⟩ := hok b _ y
            obtain ⟨g2, _⟩ := hok' b _ (un.frzs b ob _ y)
            rw [e] at g1
            cases g1
            exact g2
  cases known : K.lookup a with
  | some o =>
    have e := kin a o known
    rw [ha] at e
    cases e
    exact main (fun _ => none) (fun _ => .inl rfl) (.inr ⟨_, vs.toArray, _, known, rfl, rfl, rfl, by rw [List.size_toArray, len]; exact short, by simpa using vals⟩) (fun b u z => by cases (show (none : Option HO) = some u from z)) (fun b z => absurd rfl z) fun z => absurd rfl z
  | none =>
    refine main (fun b => if b = a then some (.frz { cls := .type "list", data := .seq vs.toArray } (.lst (ns.map V.int))) else none) (fun b => ?_) (.inl (.inr ⟨{ cls := .type "list", data := .seq vs.toArray }, if_pos rfl⟩)) (fun b u z => ?_) (fun b z => ?_) fun _ => known
    · by_cases eb : b = a
      · exact .inr ⟨_, _, if_pos eb⟩
      · exact .inl (if_neg eb)
    · by_cases eb : b = a
      · have y := (if_pos eb).symm.trans z
        cases y
        subst eb
        exact ⟨ha, by rw [List.length_map]; exact short, vs, _, vals, ha⟩
      · have y := (if_neg eb).symm.trans z
        cases y
    · by_cases eb : b = a
      · exact eb
      · exact absurd (if_neg eb) z
theorem walk_g {l : PySem.W.OpenLaw} {n k : Nat} {q : Program} {loose : List Str} {XP : (Str → Option Value) → Heap → Prop} {YP : World → Heap → Prop} {d : DefRec} {K : Params → PySem.W.Frag} {sp : World → Sp} {x : Str}
    (hn : l.most = some n) (hn2 : n ≤ sizeLine) (hdf : d.params.defaults = []) (hr : Room k callerA) (hY : ∀ (w : World) (h : Heap), YP w h → (K w.params).In h)
    (F : ∀ (w : World) (mg : Str → Option Value) (fa : Addr) (h : Heap), (K w.params).In h → h.Ns mainGlobals mg → mg d.name = some (.ref fa) →
      ∃ fd : FuncData, (∀ (s : Shared) (u : Value), BindsTo s fd ⟨[u], []⟩ [(x, u)]) ∧ ∀ base : Heap, (K w.params).In base → base.Ns mainGlobals mg → FnG l.prog w (K w.params) mg base k fa fd [x] (sp w))
    (hsp : ∀ (w : World) (H : Hp) (a : Addr) (ns : List Int), ns.length ≤ n → Only H → SqL (K w.params) H a (ns.map V.int) → sp w [.ref a] H (fun v _ => v = .bl true) E0) :
    PySem.W.WalkO q loose XP YP l.row.toRowW d [] (fun f vs => PySem.call f vs) := by
  refine Att.attach_call hn hdf fun w s₀ t mg mb fa o pm cd doc a vs ns G Y ho hd hcd hmg hobj hints hlen hg => ?_
  have kin := hY w _ Y
  obtain ⟨fd, hb, hF⟩ := F w mg fa _ kin G.T.g hmg
  exact law_g kin G.T.g G.T.b G.T.builtins G.T.nolimit hg hobj hints (Nat.le_trans hlen hn2) hr hF hb fun H hO hS => hsp w H a ns hlen hO hS
end Dl

namespace Dl
noncomputable section
open L2 PySem PyProof.Rows PySem.Spec
def ePut (o i v : AV) (B : Mem) : Option Mem := ob (oK v) fun d => ob (oK i) fun ix => match o with
  | .m j => match B[j]? with
    | some (.lst ds) => ob (oInt ix) fun n => ob (ixN ds.length n) fun m => some (B.set j (.lst (ds.set m d)))
    | some (.dK kvs) => ob (keyD ix) fun key => gu (kvs.length < sizeLine) (some (B.set j (.dK (putD kvs key d))))
    | some (.dT kvs) => ob (keyT ix) fun key => gu (kvs.length < sizeLine) (some (B.set j (.dT (putD kvs key d))))
    | _ => none
  | .r j r => match B[j]? with
    | some (.mat rows) => ob (oInt ix) fun n => ob rows[r]? fun row => ob (ixN row.length n) fun m => some (B.set j (.mat (rows.set r (row.set m d))))
    | _ => none
  | _ => none
theorem ePut_ok {o i v : AV} {B B' : Mem} {k : Mem → Prop} (h : ePut o i v B = some B') (hk : k B') : aPut o i v B k := by
  obtain ⟨d, h1, h⟩ := ob_of h
  obtain ⟨ix, h2, h⟩ := ob_of h
  refine oK_ok h1 (oK_ok h2 ?_)
  split at h
  · rename_i j
    split at h
    · rename_i ds e
      try simp only [e]
      obtain ⟨n, h3, h⟩ := ob_of h
      obtain ⟨m, h4, h⟩ := ob_of h
      cases h
      exact ⟨n, m, oInt_of h3, h4, hk⟩
    · rename_i ds e
      try simp only [e]
      obtain ⟨key, h3, h⟩ := ob_of h
      obtain ⟨q, h⟩ := gu_of h
      cases h
      exact ⟨key, h3, q, hk⟩
    · rename_i ds e
      try simp only [e]
      obtain ⟨key, h3, h⟩ := ob_of h
      obtain ⟨q, h⟩ := gu_of h
      cases h
      exact ⟨key, h3, q, hk⟩
    · cases h
  · rename_i j r
    split at h
    · rename_i rows e
      try simp only [e]
      obtain ⟨n, h3, h⟩ := ob_of h
      obtain ⟨row, h4, h⟩ := ob_of h
      obtain ⟨m, h5, h⟩ := ob_of h
      cases h
      exact ⟨n, m, row, oInt_of h3, h4, h5, hk⟩
    · cases h
  · cases h
def augO (i : Nat) (A : Env) : Option Int := match A[i]? with
  | some (some (.d (.int n))) => some n
  | _ => none
theorem augO_of {i : Nat} {A : Env} {n : Int} (h : augO i A = some n) : A[i]? = some (some (.d (.int n))) := by
  unfold augO at h
  split at h
  · rename_i e; cases h; exact e
  · cases h
def oI (w : AV) : Option Int := match w with
  | .d (.int n) => some n
  | _ => none
theorem oI_of {w : AV} {n : Int} (h : oI w = some n) : w = .d (.int n) := by
  unfold oI at h
  split at h
  · cases h; rfl
  · cases h
def thenO (o : Out) (f : Env → Mem → Option Out) : Option Out := match o with
  | .nx A B => f A B
  | o => some o
def par2 (i j : Nat) (ws : List AV) (A : Env) (B : Mem) : Option Out := match ws with
  | [v, w] => some (.nx ((A.set i (some v)).set j (some w)) B)
  | _ => none
def par3 (i j l : Nat) (ws : List AV) (A : Env) (B : Mem) : Option Out := match ws with
  | [u, v, w] => some (.nx (((A.set i (some u)).set j (some v)).set l (some w)) B)
  | _ => none
def parTO (ix : List Nat) (ws : List AV) (A : Env) (B : Mem) : Option Out := ob (setAll ix ws A) fun A' => some (.nx A' B)
def forS (g : AV → Env → Mem → Option (Env × Mem)) (b : Env → Mem → Option Out) (A0 : Env) (n0 : Nat) (x : PyData) (A : Env) (B : Mem) : Option Out :=
  ob2 (g (.d x) A B) fun A2 B2 => ob (b A2 B2) (fin A0 n0)
def whileS (t : Env → Mem → Option (Bool × Mem)) (b : Env → Mem → Option Out) (A0 : Env) (n0 : Nat) (A : Env) (B : Mem) : Option Out :=
  ob2 (t A B) fun q B2 => if q = true then ob (b A B2) (fin A0 n0) else some (.bk A B2)
def keepA : List (Nat × Nat) → Env → Env
  | [], A => A
  | p :: r, A => if p.2 = 9 then (keepA r A).set (p.1 - 1000) (some (.d .none)) else keepA r A
mutual
def evS (T : Nat → DT) (np : Nat) (mu : List (Nat × Nat)) : AS → Env → Mem → Option Out
  | .pass => fun A B => some (.nx A B)
  | .brk => fun A B => some (.bk A B)
  | .cont => fun A B => some (.ct A B)
  | .never => fun _ _ => none
  | .retN => fun _ B => some (.rt (.d .none) B)
  | .drop e => fun A B => ob2 (evE T 0 e A B) fun _ B1 => some (.nx A B1)
  | .asg g e => fun A B => ob2 (evE T (kdG mu g) e A B) fun w B1 => ob2 (evG g w A B1) fun A2 B2 => some (.nx A2 B2)
  | .par i j es => fun A B => ob2 (evEs T [kd mu i, kd mu j] es A B) fun ws B1 => par2 i j ws A B1
  | .par3 i j l es => fun A B => ob2 (evEs T [kd mu i, kd mu j, kd mu l] es A B) fun ws B1 => par3 i j l ws A B1
  | .parT ix es => fun A B => ob2 (evEs T (ix.map fun i => kd mu i) es A B) fun ws B1 => parTO ix ws A B1
  | .put v o i => fun A B => ob2 (evE T 0 v A B) fun v B1 => ob2 (evE T 0 o A B1) fun o B2 => ob2 (evE T 0 i A B2) fun i B3 => ob (ePut o i v B3) fun B4 => some (.nx A B4)
  | .aug i plus e => fun A B => ob (augO i A) fun n => ob2 (evE T 0 e A B) fun w B1 => ob (oI w) fun m => some (.nx (A.set i (some (.d (.int (if plus = true then n + m else n - m))))) B1)
  | .ife t a b => fun A B => ob2 (evT T t A B) fun q B1 => if q = true then evSs T np mu a A B1 else evSs T np mu b A B1
  | .for_ it g b => fun A B => ob2 (evI T it A B) fun xs B1 => gu (np ≤ B1.length) (forL (forS (evG g) (evSs T np mu b) (keepA mu A) B1.length) xs A B1)
  | .while_ t b => fun A B => gu (np ≤ B.length) (whileL (whileS (evT T t) (evSs T np mu b) (keepA mu A) B.length) rounds A B)
  | .ret e => fun A B => ob2 (evE T 1 e A B) fun w B1 => some (.rt w B1)
  | .sh s => fun A B => evS T np mu s (frzs np (dpS mu s) A B).1 (frzs np (dpS mu s) A B).2
def evSs (T : Nat → DT) (np : Nat) (mu : List (Nat × Nat)) : ASs → Env → Mem → Option Out
  | .nil => fun A B => some (.nx A B)
  | .cons s ss => fun A B => ob (evS T np mu s A B) fun o => thenO o (evSs T np mu ss)
end
def outK (E : EndsA) : Out → Prop
  | .nx A B => E.nx A B
  | .rt v B => E.rt v B
  | .bk A B => E.bk A B
  | .ct A B => E.ct A B
theorem thenO_of {o o' : Out} {f : Env → Mem → Option Out} {E : EndsA} {g : FS} (h : thenO o f = some o') (hk : outK E o') (hf : ∀ A B, f A B = some o' → g E A B) : outK { E with nx := g E } o := by
  cases o with
  | nx A B => exact hf A B h
  | rt v B => cases h; exact hk
  | bk A B => cases h; exact hk
  | ct A B => cases h; exact hk
theorem fin_ok {np n0 : Nat} {A0 : Env} {o o' : Out} {E : EndsA} {P : Env → Mem → Prop} (hn : np ≤ n0) (h : fin A0 n0 o = some o')
    (hnx : ∀ A B, o' = .nx A B → P A B) (hrt : ∀ v B, o' = .rt v B → E.rt v B) (hbk : ∀ A B, o' = .bk A B → E.nx A B) :
    outK { nx := shiftTo np P, ct := shiftTo np P, bk := shiftTo np E.nx, rt := E.rt } o := by
  cases o with
  | nx A B => cases h; exact sh_kill hn (hnx _ _ rfl)
  | ct A B => cases h; exact sh_kill hn (hnx _ _ rfl)
  | bk A B => cases h; exact sh0 (hbk _ _ rfl)
  | rt v B => cases h; exact hrt _ _ rfl
theorem for_okE {np n0 : Nat} {A A0 : Env} {B1 : Mem} {g : AG} {b : Env → Mem → Option Out} {f : FS} {xs : List PyData} {o : Out} {E : EndsA} (hn : np ≤ n0)
    (h : forL (forS (evG g) b A0 n0) xs A B1 = some o) (hk : outK E o)
    (hb : ∀ {A B o E}, b A B = some o → outK E o → f E A B) :
    ∃ Iv : Nat → Env → Mem → Prop, shiftTo np (Iv 0) A B1 ∧
      (∀ i x A' B', xs[i]? = some x → Iv i A' B' → wpG g (.d x) A' B' fun A2 B2 => f { nx := shiftTo np (Iv (i + 1)), ct := shiftTo np (Iv (i + 1)), bk := shiftTo np E.nx, rt := E.rt } A2 B2) ∧ ∀ A' B', Iv xs.length A' B' → shiftTo np E.nx A' B' := by
  refine ⟨fun i A B => forL (forS (evG g) b A0 n0) (xs.drop i) A B = some o, sh0 h, fun i x A' B' hx hI => ?_, fun A' B' hI => ?_⟩
  · have hd : xs.drop i = x :: xs.drop (i + 1) := by
      obtain ⟨l, e⟩ := List.getElem?_eq_some_iff.mp hx
      rw [List.drop_eq_getElem_cons l, e]
    replace hI : forL (forS (evG g) b A0 n0) (xs.drop i) A' B' = some o := hI
    rw [hd, forL] at hI
    obtain ⟨o1, h1, h2⟩ := ob_of hI
    obtain ⟨A2, B2, h3, h4⟩ := ob2_of h1
    obtain ⟨o2, h5, h6⟩ := ob_of h4
    refine evG_ok h3 (hb h5 (fin_ok hn h6 (fun A B e => ?_) (fun v B e => ?_) fun A B e => ?_))
    · subst e; exact h2
    · subst e; cases h2; exact hk
    · subst e; cases h2; exact hk
  · replace hI : forL (forS (evG g) b A0 n0) (xs.drop xs.length) A' B' = some o := hI
    rw [List.drop_length, forL] at hI
    cases hI
    exact sh0 hk
theorem while_okE {T : Nat → DT} {np n0 m : Nat} {A A0 : Env} {B1 : Mem} {t : AE} {b : Env → Mem → Option Out} {f : FS} {o : Out} {E : EndsA} (hn : np ≤ n0)
    (h : whileL (whileS (evT T t) b A0 n0) m A B1 = some o) (hk : outK E o)
    (hb : ∀ {A B o E}, b A B = some o → outK E o → f E A B) : sWhile np (wpT (TF T) t) f E A B1 := by
  refine ⟨fun m A B => whileL (whileS (evT T t) b A0 n0) m A B = some o, ⟨m, sh0 h⟩, fun m A' B' hI => ?_⟩
  cases m with
  | zero => cases hI
  | succ m =>
    replace hI : whileL (whileS (evT T t) b A0 n0) (m + 1) A' B' = some o := hI
    rw [whileL] at hI
    obtain ⟨o1, h1, h2⟩ := ob_of hI
    obtain ⟨q, B2, h3, h4⟩ := ob2_of h1
    refine evT_ok h3 ?_
    cases q with
    | true =>
      rw [if_pos rfl] at h4
      obtain ⟨o2, h5, h6⟩ := ob_of h4
      refine ⟨fun _ => hb h5 (fin_ok hn h6 (fun A B e => ?_) (fun v B e => ?_) fun A B e => ?_), fun z => by cases z⟩
      · subst e; exact ⟨m, Nat.lt_succ_self _, h2⟩
      · subst e; cases h2; exact hk
      · subst e; cases h2; exact hk
    | false =>
      rw [if_neg (by decide)] at h4
      cases h4
      cases h2
      exact ⟨fun z => (by cases z), fun _ => sh0 hk⟩
mutual
theorem evS_ok {T : Nat → DT} {np : Nat} {mu : List (Nat × Nat)} : ∀ {s : AS} {A : Env} {B : Mem} {o : Out} {E : EndsA}, evS T np mu s A B = some o → outK E o → wpS (TF T) np s E A B
  | .pass, _, _, _, _, h, hk => by cases h; exact hk
  | .brk, _, _, _, _, h, hk => by cases h; exact hk
  | .cont, _, _, _, _, h, hk => by cases h; exact hk
  | .never, _, _, _, _, h, hk => by cases h
  | .retN, _, _, _, _, h, hk => by cases h; exact hk
  | .drop e, _, _, _, E, h, hk => by
    rw [evS] at h
    obtain ⟨w, B1, h1, h2⟩ := ob2_of h
    cases h2
    exact evE_ok (k := fun _ B1 => E.nx _ B1) h1 hk
  | .asg g e, _, _, _, E, h, hk => by
    rw [evS] at h
    obtain ⟨w, B1, h1, h2⟩ := ob2_of h
    obtain ⟨A2, B2, h3, h4⟩ := ob2_of h2
    cases h4
    exact evE_ok h1 (evG_ok h3 hk)
  | .par i j es, _, _, _, E, h, hk => by
    rw [evS] at h
    obtain ⟨ws, B1, h1, h2⟩ := ob2_of h
    unfold par2 at h2
    split at h2
    · cases h2; exact evEs_ok (es := es) h1 hk
    · cases h2
  | .par3 i j l es, _, _, _, E, h, hk => by
    rw [evS] at h
    obtain ⟨ws, B1, h1, h2⟩ := ob2_of h
    unfold par3 at h2
    split at h2
    · cases h2; exact evEs_ok (es := es) h1 hk
    · cases h2
  | .parT ix es, _, _, _, E, h, hk => by
    rw [evS] at h
    obtain ⟨ws, B1, h1, h2⟩ := ob2_of h
    obtain ⟨A', h3, h4⟩ := ob_of h2
    cases h4
    exact evEs_ok (es := es) h1 ⟨A', h3, hk⟩
  | .put v o i, _, _, _, E, h, hk => by
    rw [evS] at h
    obtain ⟨w1, B1, h1, h2⟩ := ob2_of h
    obtain ⟨w2, B2, h3, h4⟩ := ob2_of h2
    obtain ⟨w3, B3, h5, h6⟩ := ob2_of h4
    obtain ⟨B4, h7, h8⟩ := ob_of h6
    cases h8
    exact evE_ok (e := v) h1 (evE_ok (e := o) h3 (evE_ok (e := i) h5 (ePut_ok (k := fun B4 => E.nx _ B4) h7 hk)))
  | .aug i plus e, A, _, _, E, h, hk => by
    rw [evS] at h
    obtain ⟨n, h1, h2⟩ := ob_of h
    obtain ⟨w, B1, h3, h4⟩ := ob2_of h2
    obtain ⟨m, h5, h6⟩ := ob_of h4
    cases h6
    exact ⟨n, augO_of h1, evE_ok (k := fun w B1 => ∃ m, w = .d (.int m) ∧ E.nx (A.set i (some (.d (.int (if plus = true then n + m else n - m))))) B1) h3 ⟨m, oI_of h5, hk⟩⟩
  | .ife t a b, _, _, _, E, h, hk => by
    rw [evS] at h
    obtain ⟨q, B1, h1, h2⟩ := ob2_of h
    refine evT_ok (e := t) h1 ?_
    cases q with
    | true => rw [if_pos rfl] at h2; exact ⟨fun _ => evSs_ok (ss := a) h2 hk, fun z => by cases z⟩
    | false => rw [if_neg (by decide)] at h2; exact ⟨fun z => (by cases z), fun _ => evSs_ok (ss := b) h2 hk⟩
  | .for_ it g b, _, _, _, E, h, hk => by
    rw [evS] at h
    obtain ⟨xs, B1, h1, h2⟩ := ob2_of h
    obtain ⟨hn, h3⟩ := gu_of h2
    exact evI_ok (it := it) h1 (for_okE hn h3 hk fun q z => evSs_ok (ss := b) q z)
  | .while_ t b, _, _, _, E, h, hk => by
    rw [evS] at h
    obtain ⟨hn, h3⟩ := gu_of h
    exact while_okE hn h3 hk fun q z => evSs_ok (ss := b) q z
  | .ret e, _, _, _, E, h, hk => by
    rw [evS] at h
    obtain ⟨w, B1, h1, h2⟩ := ob2_of h
    cases h2
    exact evE_ok (k := fun w B1 => E.rt w B1) h1 hk
  | .sh s, A, B, _, E, h, hk => by
    rw [evS] at h
    have : shiftTo np (fun A' B' => wpS (TF T) np s E A' B') A B := frzs_ok (sh0 (evS_ok (s := s) h hk))
    exact this
theorem evSs_ok {T : Nat → DT} {np : Nat} {mu : List (Nat × Nat)} : ∀ {ss : ASs} {A : Env} {B : Mem} {o : Out} {E : EndsA}, evSs T np mu ss A B = some o → outK E o → wpSs (TF T) np ss E A B
  | .nil, _, _, _, _, h, hk => by cases h; exact hk
  | .cons s .nil, _, _, _, E, h, hk => by
    rw [evSs] at h
    obtain ⟨o, h1, h2⟩ := ob_of h
    have := thenO_of (E := E) (g := sNext) h2 hk fun A B q => by
      rw [evSs] at q; cases q; exact hk
    exact evS_ok (s := s) h1 this
  | .cons s (.cons s2 ss), _, _, _, E, h, hk => by
    rw [evSs] at h
    obtain ⟨o, h1, h2⟩ := ob_of h
    have := thenO_of (E := E) (g := wpSs (TF T) np (.cons s2 ss)) h2 hk fun A B q => evSs_ok (ss := .cons s2 ss) q hk
    exact evS_ok (s := s) h1 this
end
structure DR where
  body : ASs
  ar : Nat
  n : Nat
  mu : List (Nat × Nat)
abbrev Tab := Nat → Option DR
def retO (c : Option MC) (v : AV) (B : Mem) : Option (RV × Option MC) := match c, B with
  | none, B => match v with
    | .d x => some (.data x, none)
    | .m j => ob B[j]? fun cl => gu (isGone cl = false) (some (.cell cl, none))
    | _ => none
  | some _, c' :: B => match v with
    | .d x => some (.data x, some c')
    | .m (j + 1) => ob B[j]? fun cl => gu (isGone cl = false) (some (.cell cl, some c'))
    | _ => none
  | _, _ => none
def outR (c : Option MC) : Out → Option (RV × Option MC)
  | .nx _ B => retO c (.d .none) B
  | .rt v B => retO c v B
  | _ => none
def evF (D : Tab) : Nat → Nat → DT
  | 0, _ => fun _ _ => none
  | k + 1, f => fun ws c => ob (D f) fun r => gu (ws.length = r.ar) (ob (evSs (evF D k) c.toList.length r.mu r.body (ws.map some ++ List.replicate (r.n - ws.length) none) c.toList) (outR c))
theorem retO_ok {c : Option MC} {v : AV} {B : Mem} {r : RV} {o : Option MC} {k : Kt} (h : retO c v B = some (r, o)) (hk : okRet r k o.toList) (ho : o.isSome = c.isSome) : retK c.toList.length k v B := by
  cases c with
  | none =>
    cases o with
    | some _ => cases ho
    | none =>
      unfold retO at h
      simp only at h
      split at h
      · cases h; exact hk
      · obtain ⟨cl, h1, h2⟩ := ob_of h
        obtain ⟨g, h3⟩ := gu_of h2
        cases h3
        exact ⟨Nat.zero_le _, cl, h1, notGone g, hk⟩
      · cases h
  | some c0 =>
    cases B with
    | nil => cases h
    | cons c' B =>
      unfold retO at h
      simp only at h
      split at h
      · cases h; exact hk
      · rename_i j
        obtain ⟨cl, h1, h2⟩ := ob_of h
        obtain ⟨g, h3⟩ := gu_of h2
        cases h3
        exact ⟨Nat.succ_le_succ (Nat.zero_le _), cl, by simpa using h1, notGone g, hk⟩
      · cases h
theorem retO_some {c : Option MC} {v : AV} {B : Mem} {r : RV} {o : Option MC} (h : retO c v B = some (r, o)) : o.isSome = c.isSome := by
  unfold retO at h
  split at h
  · split at h
    · cases h; rfl
    · obtain ⟨cl, h1, h2⟩ := ob_of h
      obtain ⟨g, h3⟩ := gu_of h2
      cases h3; rfl
    · cases h
  · split at h
    · cases h; rfl
    · obtain ⟨cl, h1, h2⟩ := ob_of h
      obtain ⟨g, h3⟩ := gu_of h2
      cases h3; rfl
    · cases h
  · cases h
theorem outR_ok {c : Option MC} {out : Out} {r : RV} {o : Option MC} {k : Kt} (h : outR c out = some (r, o)) (hk : okRet r k o.toList) :
    outK { nx := fun _ B' => retK c.toList.length k (.d .none) B', rt := retK c.toList.length k, bk := fun _ _ => False, ct := fun _ _ => False } out := by
  cases out with
  | nx A B => exact retO_ok (show retO c (.d .none) B = _ from h) hk (retO_some (show retO c (.d .none) B = _ from h))
  | rt v B => exact retO_ok (show retO c v B = _ from h) hk (retO_some (show retO c v B = _ from h))
  | bk _ _ => cases h
  | ct _ _ => cases h
theorem ftOf_mk {F : DT} {ws : List AV} {B : Mem} {k : Kt} (h : ftOf F ws B k) : ∃ c r o, B = c.toList ∧ F ws c = some (r, o) ∧ okRet r k o.toList := by
  match B, h with
  | [], ⟨r, h1, h2⟩ => exact ⟨none, r, none, rfl, h1, h2⟩
  | [c], ⟨r, c', h1, h2⟩ => exact ⟨some c, r, some c', rfl, h1, h2⟩
theorem body_ok {D : Tab} {k f : Nat} {r : DR} (hD : D f = some r) {ws : List AV} {B : Mem} {kk : Kt} (h : ftOf (evF D (k + 1) f) ws B kk) : ws.length = r.ar ∧
    wpSs (TF (evF D k)) B.length r.body { nx := fun _ B' => retK B.length kk (.d .none) B', rt := retK B.length kk, bk := fun _ _ => False, ct := fun _ _ => False } (ws.map some ++ List.replicate (r.n - ws.length) none) B := by
  obtain ⟨c, rr, o, rfl, h1, h2⟩ := ftOf_mk h
  rw [evF] at h1
  rw [hD] at h1
  obtain ⟨ha, h1⟩ := gu_of (show gu _ (ob (evSs _ _ _ _ _ _) (outR c)) = _ from h1)
  obtain ⟨out, h3, h4⟩ := ob_of h1
  exact ⟨ha, evSs_ok h3 (outR_ok h4 h2)⟩
end
end Dl

namespace Dl
open L2 PySem PyProof.Rows PySem.Spec
section
variable {P : Program} {w : World} {K : PySem.W.Frag} {mg : Str → Option Value} {base : Heap} {k : Nat} {T : Nat → FT}
def Good (P : Program) (w : World) (K : PySem.W.Frag) (mg : Str → Option Value) (base : Heap) (k : Nat) (T : Nat → FT) (x : Str) : GK → Prop
  | .fn i ps pats => FnAtG P w K mg base k x ps pats (T i)
  | .cst d => ∃ v u, mg x = some u ∧ RelV v u ∧ Dq K (fun _ => none) v d
  | .kt xs => ∃ a vs, mg x = some (.ref a) ∧ SqT K (fun _ => none) a vs ∧ DqAll K (fun _ => none) vs xs
  | .blt => mg x = none
def GoodAll (P : Program) (w : World) (K : PySem.W.Frag) (mg : Str → Option Value) (base : Heap) (k : Nat) (T : Nat → FT) : List (Str × GK) → Prop
  | [] => True
  | p :: r => Good P w K mg base k T p.1 p.2 ∧ GoodAll P w K mg base k T r
theorem good_of : ∀ {tab : List (Str × GK)} {x : Str} {g : GK}, GoodAll P w K mg base k T tab → glOf tab x = some g → Good P w K mg base k T x g
  | [], _, _, _, e => by cases e
  | (y, h) :: r, x, g, ⟨h1, h2⟩, e => by
    unfold glOf at e
    rw [List.lookup_cons] at e
    split at e
    · rename_i q
      cases e
      have : x = y := by simpa using q
      subst this
      exact h1
    · exact good_of h2 e
theorem glOk {tab : List (Str × GK)} (h : GoodAll P w K mg base k T tab) : GlOk P w K mg base k (glOf tab) T :=
  ⟨fun x i ps pats e => good_of h e, fun x d e => good_of h e, fun x xs e => good_of h e, fun x e => good_of h e⟩
theorem Fun.kbinds {x qual : Str} {st : Stmt} {f : Addr} {fd : FuncData} {ps ks : List Str} (F : Fun K x qual st f fd) (hp : ps ≠ [])
    (h : ∀ (kV doc pm : Value) (an : Option Addr) (cdv ct : Value) (ws : List Value), ws.length = ks.length → bindArgs (PySem.W.fnOf x qual (defArgs st) (defBody st) (defScope st) .none kV doc pm an cdv ct) ⟨[], ks.zip ws⟩ = pure (ps.zip ((kidx ps ks).map fun i => ws.getD i .none))) : KBinds K fd ps ks (kg ps ks) (kgV ps ks) := by
  obtain ⟨oc, od, kV, doc, pm, an, cdv, ct, osl, rfl, lk, hcd⟩ := F.ex
  exact kbinds_of hp (h kV doc pm an cdv ct)
theorem at_mk {x qual : Str} {st : Stmt} {f : Addr} {fd : FuncData} {ps : List Str} {pats : List (List Str)} {F : FT} {j : Nat} (Fu : Fun K x qual st f fd) (h : FnG P w K mg base j f fd ps (spOf K F)) (hj : j ≤ k) {y : Str} (hm : mg y = some (.ref f)) (hb : Binds K fd ps []) (hk : ∀ ks ∈ pats, KBinds K fd ps ks (kg ps ks) (kgV ps ks)) : FnAtG P w K mg base k y ps pats F :=
  ⟨f, fd, h.mono hj, hm, Fu.kp, hb, hk⟩
theorem no_pats {fd : FuncData} {ps : List Str} : ∀ ks ∈ ([] : List (List Str)), KBinds K fd ps ks (kg ps ks) (kgV ps ks) := fun _ h => by cases h
theorem int_cst {x : Str} {i : Int} {t : Tok} (h : mg x = some (.int i t)) : ∃ v u, mg x = some u ∧ RelV v u ∧ Dq K (fun _ => none) v (.int i) := ⟨.int i, _, h, ⟨t, rfl⟩, .int i⟩
theorem int_cst2 {x : Str} {i : Int} {u : Value} (h : mg x = some u ∧ RelV (.int i) u) : ∃ v u, mg x = some u ∧ RelV v u ∧ Dq K (fun _ => none) v (.int i) := ⟨.int i, u, h.1, h.2, .int i⟩
theorem str_cst2 {x y : Str} {u : Value} (h : mg x = some u ∧ RelV (.str y) u) : ∃ v u, mg x = some u ∧ RelV v u ∧ Dq K (fun _ => none) v (.str y) := ⟨.str y, u, h.1, h.2, .str y⟩
theorem non_cst2 {x : Str} {u : Value} (h : mg x = some u ∧ RelV .non u) : ∃ v u, mg x = some u ∧ RelV v u ∧ Dq K (fun _ => none) v .none := ⟨.non, u, h.1, h.2, .non⟩
theorem bl_cst2 {x : Str} {b : Bool} {u : Value} (h : mg x = some u ∧ RelV (.bl b) u) : ∃ v u, mg x = some u ∧ RelV v u ∧ Dq K (fun _ => none) v (.bool b) := ⟨.bl b, u, h.1, h.2, .bl b⟩
theorem sc_sp {F : FT} {vs : List V} {H : Hp} {Q : VK} {E : XK} {a : Addr} {ns : List Int} (hv : vs = [.ref a]) (ho : ∀ b, H b = none ∨ ∃ o xs, H b = some (.frz o (.lst xs))) (hs : SqL K H a (ns.map V.int)) (hf : ∀ k : Kt, (∀ w B, k w B → w = .d (.bool true)) → k (.d (.bool true)) [] → F [.sc ns] [] k) (hq : ∀ H', Q (.bl true) H') : spOf K F vs H Q E := by
  subst hv
  refine ⟨[], H, [], [.sc ns], fun w B => w = .d (.bool true), ⟨Ext.refl H, .nil, by simp, fun a ha => by simp at ha⟩, .cons (.sc hs) .nil, hf _ (fun w B h => h) rfl, fun θ' B' G' H' v w g m hv hw => ?_⟩
  subst hw
  cases hv with
  | d h => cases h; exact hq H'
end
end Dl

namespace Dl
noncomputable section
open L2 PySem PyProof.Rows PySem.Spec
structure DI where
  i : Nat
  x : Str
  ps : List Str
  pats : List (List Str)
  N : List Str
  tab : List (Str × GK)
  st : Stmt
  r : DR
instance : DecidableEq GK := fun a b => match a, b with
  | .fn i ps pats, .fn j qs pbts => if h : i = j ∧ ps = qs ∧ pats = pbts then .isTrue (by obtain ⟨rfl, rfl, rfl⟩ := h; rfl) else .isFalse (fun e => h (by cases e; exact ⟨rfl, rfl, rfl⟩))
  | .cst x, .cst y => if h : x = y then .isTrue (by rw [h]) else .isFalse (fun e => h (by cases e; rfl))
  | .kt x, .kt y => if h : x = y then .isTrue (by rw [h]) else .isFalse (fun e => h (by cases e; rfl))
  | .blt, .blt => .isTrue rfl
  | .fn _ _ _, .cst _ => .isFalse (fun h => by cases h)
  | .fn _ _ _, .kt _ => .isFalse (fun h => by cases h)
  | .fn _ _ _, .blt => .isFalse (fun h => by cases h)
  | .cst _, .fn _ _ _ => .isFalse (fun h => by cases h)
  | .cst _, .kt _ => .isFalse (fun h => by cases h)
  | .cst _, .blt => .isFalse (fun h => by cases h)
  | .kt _, .fn _ _ _ => .isFalse (fun h => by cases h)
  | .kt _, .cst _ => .isFalse (fun h => by cases h)
  | .kt _, .blt => .isFalse (fun h => by cases h)
  | .blt, .fn _ _ _ => .isFalse (fun h => by cases h)
  | .blt, .cst _ => .isFalse (fun h => by cases h)
  | .blt, .kt _ => .isFalse (fun h => by cases h)
def tabOf (L : List DI) : Tab := fun i => (L.find? fun d => d.i == i).map (·.r)
def chk1 (L : List DI) (C : List (Str × GK)) (p : Str × GK) : Bool := match p.2 with
  | .fn j ps pats => L.any fun e => e.i == j && decide (e.x = p.1) && decide (e.ps = ps) && decide (e.pats = pats)
  | _ => C.any fun q => decide (q = p)
def nodupN : List Nat → Bool
  | [] => true
  | x :: xs => !(xs.contains x) && nodupN xs
def chk (L : List DI) (C : List (Str × GK)) : Bool := nodupN (L.map (·.i)) && L.all fun d => decide (d.N.length = d.r.n ∧ d.ps.length = d.r.ar) && d.tab.all (chk1 L C)
section
variable {P : Program} {w : World} {K : PySem.W.Frag} {mg : Str → Option Value} {base : Heap}
structure DOk (K : PySem.W.Frag) (mg : Str → Option Value) (d : DI) : Prop where
  at_ : ∃ f fd, Fun K d.x d.x d.st f fd ∧ mg d.x = some (.ref f) ∧ Binds K fd d.ps [] ∧ ∀ ks ∈ d.pats, KBinds K fd d.ps ks (kg d.ps ks) (kgV d.ps ks)
  sc : FnScope d.N d.ps (defScope d.st)
  comp : ∃ gh dl, compileDef d.N d.st (glOf d.tab) gh dl = some d.r.body
def CstOk (K : PySem.W.Frag) (mg : Str → Option Value) (x : Str) : GK → Prop
  | .fn _ _ _ => True
  | .cst d => ∃ v u, mg x = some u ∧ RelV v u ∧ Dq K (fun _ => none) v d
  | .kt xs => ∃ a vs, mg x = some (.ref a) ∧ SqT K (fun _ => none) a vs ∧ DqAll K (fun _ => none) vs xs
  | .blt => mg x = none
def All {α : Type} (p : α → Prop) : List α → Prop
  | [] => True
  | x :: xs => p x ∧ All p xs
theorem all_mem {α : Type} {p : α → Prop} : ∀ {xs : List α}, All p xs → ∀ x ∈ xs, p x
  | [], _, x, h => by cases h
  | y :: xs, ⟨h1, h2⟩, x, h => by
    rcases List.mem_cons.mp h with e | e
    · subst e; exact h1
    · exact all_mem h2 x e
theorem find_nd {L : List DI} {d : DI} (nd : nodupN (L.map (·.i)) = true) (h : d ∈ L) : tabOf L d.i = some d.r := by
  unfold tabOf
  induction L with
  | nil => cases h
  | cons e L ih =>
    rw [List.map_cons, nodupN, Bool.and_eq_true] at nd
    rw [List.find?_cons]
    rcases List.mem_cons.mp h with q | q
    · subst q; simp
    · have ne : (e.i == d.i) = false := by
        have h1 := nd.1
        simp only [Bool.not_eq_true', List.contains_eq_mem, decide_eq_false_iff_not] at h1
        have : d.i ∈ L.map (·.i) := List.mem_map.mpr ⟨d, q, rfl⟩
        simp only [beq_eq_false_iff_ne, ne_eq]
        intro z
        rw [z] at h1
        exact h1 this
      rw [ne]
      exact ih nd.2 q
theorem fn_none {k : Nat} {f : Addr} {fd : FuncData} {ps : List Str} {F : FT} (h : ∀ ws B k, ¬ F ws B k) : FnG P w K mg base k f fd ps (spOf K F) :=
  ⟨fun vs H Q E z => by
    obtain ⟨θ, G, B, ws, kk, m, hv, hf, q⟩ := z
    exact absurd hf (h _ _ _),
   fun A outer s H args us vs Q hr hc e0 hb r z => by
    obtain ⟨θ, G, B, ws, kk, m, hv, hf, q⟩ := z
    exact absurd hf (h _ _ _)⟩
theorem prog_at {L : List DI} {C : List (Str × GK)} (hc : chk L C = true) (hd : All (DOk K mg) L) (hC : All (fun p => CstOk K mg p.1 p.2) C) {k : Nat}
    (ih : ∀ d ∈ L, FnAtG P w K mg base k d.x d.ps d.pats (ftOf (evF (tabOf L) k d.i))) {d : DI} (hm : d ∈ L) {f : Addr} {fd : FuncData} (Fu : Fun K d.x d.x d.st f fd) :
    FnG P w K mg base (k + 1) f fd d.ps (spOf K (ftOf (evF (tabOf L) (k + 1) d.i))) := by
  obtain ⟨_, sc, ⟨gh, dl, comp⟩⟩ := all_mem hd d hm
  have hc' := hc
  unfold chk at hc'
  rw [Bool.and_eq_true] at hc'
  obtain ⟨nd, hall⟩ := hc'
  have hdm := List.all_eq_true.mp hall d hm
  rw [Bool.and_eq_true, decide_eq_true_eq] at hdm
  obtain ⟨⟨hN, hA⟩, htab⟩ := hdm
  have key : ∀ x g, glOf d.tab x = some g → chk1 L C (x, g) = true := fun x g e => by
    have : ∀ {tab : List (Str × GK)}, tab.all (chk1 L C) = true → glOf tab x = some g → chk1 L C (x, g) = true := fun {tab} => by
      induction tab with
      | nil => intro _ e; cases e
      | cons p r ihh =>
        intro ha e
        rw [List.all_cons, Bool.and_eq_true] at ha
        unfold glOf at e
        rw [List.lookup_cons] at e
        split at e
        · rename_i q
          cases e
          have : x = p.1 := by simpa using q
          subst this
          exact ha.1
        · exact ihh ha.2 e
    exact this htab e
  have cst : ∀ x g, glOf d.tab x = some g → (∀ i ps pats, g ≠ .fn i ps pats) → CstOk K mg x g := fun x g e hn => by
    have q := key x g e
    have q2 : C.any (fun q => decide (q = (x, g))) = true := by
      cases g with
      | fn i ps pats => exact absurd rfl (hn i ps pats)
      | cst _ => exact q
      | kt _ => exact q
      | blt => exact q
    obtain ⟨z, hz, ez⟩ := List.any_eq_true.mp q2
    have : z = (x, g) := by simpa using ez
    subst this
    exact all_mem hC _ hz
  have gl : GlOk P w K mg base k (glOf d.tab) (TF (evF (tabOf L) k)) := by
    refine ⟨fun x i ps pats e => ?_, fun x v e => cst x _ e (fun _ _ _ z => by cases z), fun x v e => cst x _ e (fun _ _ _ z => by cases z), fun x e => cst x _ e (fun _ _ _ z => by cases z)⟩
    obtain ⟨z, hz, ez⟩ := List.any_eq_true.mp (key x _ e)
    simp only [Bool.and_eq_true, decide_eq_true_eq, beq_iff_eq] at ez
    obtain ⟨⟨⟨e1, e2⟩, e3⟩, e4⟩ := ez
    have at1 := ih z hz
    rw [e2, e3, e4, e1] at at1
    exact at1
  refine def_ok Fu sc gl comp (fun ws B q z => ?_) fun ws B q z => ?_
  · rw [hA]; exact (body_ok (find_nd nd hm) z).1
  · rw [hN]
    exact (body_ok (find_nd nd hm) z).2
theorem prog_ok {L : List DI} {C : List (Str × GK)} (hc : chk L C = true) (hd : All (DOk K mg) L) (hC : All (fun p => CstOk K mg p.1 p.2) C) :
    ∀ k, ∀ d ∈ L, FnAtG P w K mg base k d.x d.ps d.pats (ftOf (evF (tabOf L) k d.i)) := by
  intro k
  induction k with
  | zero =>
    intro d hm
    obtain ⟨⟨f, fd, Fu, hm', hb, hk⟩, sc, comp⟩ := all_mem hd d hm
    refine ⟨f, fd, fn_none fun ws B q z => ?_, hm', Fu.kp, hb, hk⟩
    obtain ⟨c, r, o, _, h1, _⟩ := ftOf_mk z
    cases h1
  | succ k ih =>
    intro d hm
    obtain ⟨⟨f, fd, Fu, hm', hb, hk⟩, _, _⟩ := all_mem hd d hm
    exact ⟨f, fd, prog_at hc hd hC ih hm Fu, hm', Fu.kp, hb, hk⟩
theorem prog_law {L : List DI} {C : List (Str × GK)} (hc : chk L C = true) (hd : All (DOk K mg) L) (hC : All (fun p => CstOk K mg p.1 p.2) C) {d : DI} (hm : d ∈ L) {fa : Addr} (hfa : mg d.x = some (.ref fa)) (k : Nat) :
    ∃ fd : FuncData, Fun K d.x d.x d.st fa fd ∧ ∀ (P : Program) (w : World) (base : Heap), FnG P w K mg base (k + 1) fa fd d.ps (spOf K (ftOf (evF (tabOf L) (k + 1) d.i))) := by
  obtain ⟨⟨f, fd, Fu, hm', hb, hk⟩, _, _⟩ := all_mem hd d hm
  have e := hm'.symm.trans hfa
  cases e
  exact ⟨fd, Fu, fun P w base => prog_at hc hd hC (prog_ok hc hd hC k) hm Fu⟩
theorem law_sp {L : List DI} {k i : Nat} {vs : List V} {H : Hp} {Q : VK} {E : XK} {a : Addr} {ns : List Int} (hv : vs = [.ref a]) (ho : ∀ b, H b = none ∨ ∃ o xs, H b = some (.frz o (.lst xs))) (hs : SqL K H a (ns.map V.int))
    (h : evF (tabOf L) k i [.sc ns] none = some (.data (.bool true), none)) (hq : ∀ H', Q (.bl true) H') : spOf K (ftOf (evF (tabOf L) k i)) vs H Q E :=
  sc_sp hv ho hs (fun q _ hk => ⟨_, h, hk⟩) hq
end
end
end Dl

namespace Hs
open L2 Dl PySem PyProof.Rows PySem.Spec
def n6 : List Str := ["thing"]
def g6 : List (Str × GK) := [("isinstance", .blt), ("int", .blt), ("bool", .blt)]
def a6 : ASs := (.cons (.ret (.and (.isi [.int] (.var 0)) (.not (.isi [.bool] (.var 0))))) .nil)
def r6 : DR := ⟨a6, 1, 1, []⟩

def n7 : List Str := ["thing", "least", "most"]
def g7 : List (Str × GK) := [("is_integer", .fn 6 ["thing"] [])]
def a7 : ASs := (.cons (.ret (.and (.call 6 (.cons (.var 0) .nil)) (.chain .le .le (.var 1) (.var 0) (.var 2)))) .nil)
def r7 : DR := ⟨a7, 3, 3, []⟩

def n8 : List Str := ["thing"]
def g8 : List (Str × GK) := [("is_within", .fn 7 ["thing", "least", "most"] []), ("FAR", .cst (.int (100000)))]
def a8 : ASs := (.cons (.ret (.call 7 (.cons (.var 0) (.cons (.neg (.c (.int (100000)))) (.cons (.c (.int (100000))) .nil))))) .nil)
def r8 : DR := ⟨a8, 1, 1, []⟩

def n9 : List Str := ["thing", "least", "most"]
def g9 : List (Str × GK) := [("isinstance", .blt), ("tuple", .blt), ("len", .blt)]
def a9 : ASs := (.cons (.ret (.and (.isi [.tuple] (.var 0)) (.chain .le .le (.var 1) (.bi .len (.cons (.var 0) .nil)) (.var 2)))) .nil)
def r9 : DR := ⟨a9, 3, 3, []⟩

def n10 : List Str := ["things", "one", "other"]
def g10 : List (Str × GK) := [("all", .blt), ("zip", .blt)]
def a10 : ASs := (.cons (.sh (.ret (.bi .all (.cons (.lc (.zip (.cons (.var 0) (.cons (.sl (.var 0) (.c (.int (1))) .omit) .nil))) (.tp (.cons (.nm 1) (.cons (.nm 2) .nil))) .omit (.op2 .lt (.var 1) (.var 2)) [1, 2]) .nil)))) .nil)
def r10 : DR := ⟨a10, 1, 3, []⟩

def n11 : List Str := ["number", "least", "most"]
def g11 : List (Str × GK) := [("is_within", .fn 7 ["thing", "least", "most"] [])]
def a11 : ASs := (.cons (.sh (.ife (.not (.call 7 (.cons (.var 0) (.cons (.var 1) (.cons (.var 2) .nil))))) (.cons .never .nil) .nil)) .nil)
def r11 : DR := ⟨a11, 3, 3, []⟩

def n12 : List Str := ["log", "other", "slack", "shift", "found", "at", "spot", "far"]
def g12 : List (Str × GK) := [("len", .blt), ("abs", .blt)]
def a12 : ASs := (.cons (.par3 4 5 6 (.cons (.lst .nil) (.cons (.c (.int (0))) (.cons (.c (.int (0))) .nil)))) (.cons (.while_ (.and (.op2 .lt (.var 5) (.bi .len (.cons (.var 0) .nil))) (.op2 .lt (.var 6) (.bi .len (.cons (.var 1) .nil)))) (.cons (.asg (.nm 7) (.op2 .sub (.op2 .add (.op2 .ix (.var 0) (.var 5)) (.var 3)) (.op2 .ix (.var 1) (.var 6)))) (.cons (.ife (.op2 .le (.bi .abs (.cons (.var 7) .nil)) (.var 2)) (.cons (.sh (.drop (.mm .append (.var 4) (.cons (.tup (.cons (.var 5) (.cons (.var 6) .nil))) .nil)))) (.cons (.par 5 6 (.cons (.op2 .add (.var 5) (.c (.int (1)))) (.cons (.op2 .add (.var 6) (.c (.int (1)))) .nil))) .nil)) (.cons (.ife (.op2 .gt (.var 7) (.c (.int (0)))) (.cons (.aug 6 true (.c (.int (1)))) .nil) (.cons (.aug 5 true (.c (.int (1)))) .nil)) .nil)) .nil))) (.cons (.ret (.var 4)) .nil)))
def r12 : DR := ⟨a12, 4, 8, [(4, 1)]⟩

def n13 : List Str := ["log", "other", "slack", "shift", "thing"]
def g13 : List (Str × GK) := [("is_row", .fn 9 ["thing", "least", "most"] []), ("is_within", .fn 7 ["thing", "least", "most"] []), ("len", .blt), ("abs", .blt)]
def a13 : ASs := (.cons (.ife (.or (.not (.call 9 (.cons (.var 4) (.cons (.c (.int (2))) (.cons (.c (.int (2))) .nil))))) (.not (.call 7 (.cons (.op2 .ix (.var 4) (.c (.int (0)))) (.cons (.c (.int (0))) (.cons (.op2 .sub (.bi .len (.cons (.var 0) .nil)) (.c (.int (1)))) .nil)))))) (.cons (.ret (.c (.bool false))) .nil) .nil) (.cons (.ife (.not (.call 7 (.cons (.op2 .ix (.var 4) (.c (.int (1)))) (.cons (.c (.int (0))) (.cons (.op2 .sub (.bi .len (.cons (.var 1) .nil)) (.c (.int (1)))) .nil))))) (.cons (.ret (.c (.bool false))) .nil) .nil) (.cons (.ret (.op2 .le (.bi .abs (.cons (.op2 .sub (.op2 .add (.op2 .ix (.var 0) (.op2 .ix (.var 4) (.c (.int (0))))) (.var 3)) (.op2 .ix (.var 1) (.op2 .ix (.var 4) (.c (.int (1)))))) .nil)) (.var 2))) .nil)))
def r13 : DR := ⟨a13, 5, 5, []⟩

def n14 : List Str := ["log", "other", "slack", "shift", "thing", "pair", "one", "later"]
def g14 : List (Str × GK) := [("isinstance", .blt), ("tuple", .blt), ("all", .blt), ("is_near_pair", .fn 13 ["log", "other", "slack", "shift", "thing"] []), ("zip", .blt)]
def a14 : ASs := (.cons (.sh (.ife (.or (.not (.isi [.tuple] (.var 4))) (.not (.bi .all (.cons (.lc (.seq (.var 4)) (.nm 5) .omit (.call 13 (.cons (.var 0) (.cons (.var 1) (.cons (.var 2) (.cons (.var 3) (.cons (.var 5) .nil)))))) [5]) .nil)))) (.cons (.ret (.c (.bool false))) .nil) .nil)) (.cons (.sh (.ret (.bi .all (.cons (.lc (.zip (.cons (.var 4) (.cons (.sl (.var 4) (.c (.int (1))) .omit) .nil))) (.tp (.cons (.nm 6) (.cons (.nm 7) .nil))) .omit (.and (.op2 .lt (.op2 .ix (.var 6) (.c (.int (0)))) (.op2 .ix (.var 7) (.c (.int (0))))) (.op2 .lt (.op2 .ix (.var 6) (.c (.int (1)))) (.op2 .ix (.var 7) (.c (.int (1)))))) [6, 7]) .nil)))) .nil))
def r14 : DR := ⟨a14, 5, 8, []⟩

def n15 : List Str := ["log", "one"]
def g15 : List (Str × GK) := [("is_row", .fn 9 ["thing", "least", "most"] []), ("MOST_ENTRIES", .cst (.int (40))), ("all", .blt), ("is_minute", .fn 8 ["thing"] []), ("is_ascending", .fn 10 ["things"] [])]
def a15 : ASs := (.cons (.sh (.ife (.or (.not (.call 9 (.cons (.var 0) (.cons (.c (.int (1))) (.cons (.c (.int (40))) .nil))))) (.or (.not (.bi .all (.cons (.lc (.seq (.var 0)) (.nm 1) .omit (.call 8 (.cons (.var 1) .nil)) [1]) .nil))) (.not (.call 10 (.cons (.var 0) .nil))))) (.cons .never .nil) .nil)) .nil)
def r15 : DR := ⟨a15, 1, 2, []⟩

def n16 : List Str := ["log", "other", "slack"]
def g16 : List (Str × GK) := [("need_log", .fn 15 ["log"] []), ("need_number", .fn 11 ["number", "least", "most"] []), ("MOST_SLACK", .cst (.int (100)))]
def a16 : ASs := (.cons (.drop (.call 15 (.cons (.var 0) .nil))) (.cons (.drop (.call 15 (.cons (.var 1) .nil))) (.cons (.drop (.call 11 (.cons (.var 2) (.cons (.c (.int (0))) (.cons (.c (.int (100))) .nil))))) .nil)))
def r16 : DR := ⟨a16, 3, 3, []⟩

def n17 : List Str := ["log", "other", "slack", "shift", "pairs"]
def g17 : List (Str × GK) := [("need_two_logs", .fn 16 ["log", "other", "slack"] []), ("need_number", .fn 11 ["number", "least", "most"] []), ("FAR", .cst (.int (100000))), ("tuple", .blt), ("pairs_near", .fn 12 ["log", "other", "slack", "shift"] []), ("len", .blt)]
def a17 : ASs := (.cons (.sh (.drop (.call 16 (.cons (.var 0) (.cons (.var 1) (.cons (.var 2) .nil)))))) (.cons (.drop (.call 11 (.cons (.var 3) (.cons (.op2 .mul (.neg (.c (.int (2)))) (.c (.int (100000)))) (.cons (.op2 .mul (.c (.int (2))) (.c (.int (100000)))) .nil))))) (.cons (.sh (.asg (.nm 4) (.bi .tuple (.cons (.call 12 (.cons (.var 0) (.cons (.var 1) (.cons (.var 2) (.cons (.var 3) .nil))))) .nil)))) (.cons (.sh (.ret (.tup (.cons (.bi .len (.cons (.var 4) .nil)) (.cons (.var 4) .nil))))) .nil))))
def r17 : DR := ⟨a17, 4, 5, []⟩

def n18 : List Str := ["log", "other", "slack", "shift", "thing"]
def g18 : List (Str × GK) := [("need_two_logs", .fn 16 ["log", "other", "slack"] []), ("need_number", .fn 11 ["number", "least", "most"] []), ("FAR", .cst (.int (100000))), ("is_row", .fn 9 ["thing", "least", "most"] []), ("is_within", .fn 7 ["thing", "least", "most"] []), ("MOST_ENTRIES", .cst (.int (40))), ("len", .blt), ("pairs_near", .fn 12 ["log", "other", "slack", "shift"] []), ("are_near_pairs", .fn 14 ["log", "other", "slack", "shift", "thing"] [])]
def a18 : ASs := (.cons (.sh (.drop (.call 16 (.cons (.var 0) (.cons (.var 1) (.cons (.var 2) .nil)))))) (.cons (.drop (.call 11 (.cons (.var 3) (.cons (.op2 .mul (.neg (.c (.int (2)))) (.c (.int (100000)))) (.cons (.op2 .mul (.c (.int (2))) (.c (.int (100000)))) .nil))))) (.cons (.ife (.or (.not (.call 9 (.cons (.var 4) (.cons (.c (.int (2))) (.cons (.c (.int (2))) .nil))))) (.not (.call 7 (.cons (.op2 .ix (.var 4) (.c (.int (0)))) (.cons (.c (.int (0))) (.cons (.c (.int (40))) .nil)))))) (.cons (.ret (.c (.bool false))) .nil) .nil) (.cons (.sh (.ife (.or (.op2 .ne (.op2 .ix (.var 4) (.c (.int (0)))) (.bi .len (.cons (.call 12 (.cons (.var 0) (.cons (.var 1) (.cons (.var 2) (.cons (.var 3) .nil))))) .nil))) (.not (.call 14 (.cons (.var 0) (.cons (.var 1) (.cons (.var 2) (.cons (.var 3) (.cons (.op2 .ix (.var 4) (.c (.int (1)))) .nil)))))))) (.cons (.ret (.c (.bool false))) .nil) .nil)) (.cons (.ret (.op2 .eq (.bi .len (.cons (.op2 .ix (.var 4) (.c (.int (1)))) .nil)) (.op2 .ix (.var 4) (.c (.int (0)))))) .nil)))))
def r18 : DR := ⟨a18, 5, 5, []⟩

def n19 : List Str := ["script", "k", "cell"]
def g19 : List (Str × GK) := [("sum", .blt), ("len", .blt), ("max", .blt), ("int", .blt)]
def a19 : ASs := (.cons (.asg (.nm 2) (.op2 .add (.op2 .mul (.c (.int (977))) (.var 1)) (.bi .sum (.cons (.sl (.var 0) .omit (.c (.int (1)))) .nil)))) (.cons (.ife (.op2 .lt (.var 1) (.bi .len (.cons (.var 0) .nil))) (.cons (.asg (.nm 2) (.op2 .ix (.var 0) (.var 1))) .nil) .nil) (.cons (.ret (.lst (.cons (.bi .max (.cons (.c (.int (0))) (.cons (.op2 .sub (.var 2) (.op2 .pow (.c (.int (10))) (.c (.int (18))))) .nil))) (.cons (.op2 .mod (.bi .int (.cons (.op2 .add (.op2 .mul (.var 2) (.c (.int (19)))) (.op2 .mul (.c (.int (7))) (.var 1))) .nil)) (.op2 .add (.op2 .pow (.c (.int (10))) (.c (.int (39)))) (.c (.int (23))))) (.cons (.c (.int (0))) .nil))))) .nil)))
def r19 : DR := ⟨a19, 2, 3, []⟩

def n20 : List Str := ["feed", "many", "rest", "got", "stir"]
def g20 : List (Str × GK) := [("int", .blt)]
def a20 : ASs := (.cons (.ife (.op2 .gt (.op2 .ix (.var 0) (.c (.int (0)))) (.c (.int (0)))) (.cons (.asg (.nm 2) (.op2 .div (.op2 .ix (.var 0) (.c (.int (0)))) (.var 1))) (.cons (.asg (.nm 3) (.op2 .sub (.op2 .ix (.var 0) (.c (.int (0)))) (.op2 .mul (.var 2) (.var 1)))) (.cons (.sh (.put (.var 2) (.var 0) (.c (.int (0))))) (.cons (.ret (.var 3)) .nil)))) .nil) (.cons (.put (.op2 .add (.op2 .ix (.var 0) (.c (.int (2)))) (.c (.int (1)))) (.var 0) (.c (.int (2)))) (.cons (.asg (.nm 4) (.op2 .add (.op2 .ix (.var 0) (.c (.int (1)))) (.op2 .mul (.c (.int (6700417))) (.op2 .ix (.var 0) (.c (.int (2))))))) (.cons (.asg (.nm 4) (.op2 .mod (.bi .int (.cons (.op2 .add (.op2 .mul (.op2 .mul (.var 4) (.var 4)) (.var 4)) (.op2 .mul (.c (.int (15485863))) (.op2 .ix (.var 0) (.c (.int (2)))))) .nil)) (.op2 .add (.op2 .pow (.c (.int (10))) (.c (.int (43)))) (.c (.int (57)))))) (.cons (.asg (.nm 4) (.op2 .mod (.bi .int (.cons (.op2 .add (.op2 .mul (.var 4) (.var 4)) (.c (.int (32452843)))) .nil)) (.op2 .add (.op2 .pow (.c (.int (10))) (.c (.int (38)))) (.c (.int (133)))))) (.cons (.ret (.op2 .mod (.bi .int (.cons (.op2 .div (.var 4) (.op2 .pow (.c (.int (10))) (.c (.int (9))))) .nil)) (.var 1))) .nil))))))
def r20 : DR := ⟨a20, 2, 5, [(0, 1)]⟩

def n21 : List Str := ["feed", "things"]
def g21 : List (Str × GK) := [("_law_draw", .fn 20 ["feed", "many"] []), ("len", .blt)]
def a21 : ASs := (.cons (.ret (.op2 .ix (.var 1) (.call 20 (.cons (.var 0) (.cons (.bi .len (.cons (.var 1) .nil)) .nil))))) .nil)
def r21 : DR := ⟨a21, 2, 2, []⟩

def n22 : List Str := ["told", "due", "alike", "one", "two"]
def g22 : List (Str × GK) := [("isinstance", .blt), ("list", .blt), ("tuple", .blt), ("len", .blt), ("_law_same", .fn 22 ["told", "due"] []), ("zip", .blt), ("bool", .blt), ("str", .blt), ("int", .blt)]
def a22 : ASs := (.cons (.ife (.isi [.list, .tuple] (.var 1)) (.cons (.asg (.nm 2) (.ife (.isi [.list] (.var 1)) (.isi [.list] (.var 0)) (.isi [.tuple] (.var 0)))) (.cons (.sh (.ret (.and (.var 2) (.and (.op2 .eq (.bi .len (.cons (.var 0) .nil)) (.bi .len (.cons (.var 1) .nil))) (.op2 .nin (.c (.bool false)) (.lc (.zip (.cons (.var 0) (.cons (.var 1) .nil))) (.tp (.cons (.nm 3) (.cons (.nm 4) .nil))) .omit (.call 22 (.cons (.var 3) (.cons (.var 4) .nil))) [3, 4])))))) .nil)) .nil) (.cons (.ife (.op2 .is_ (.var 1) (.c .none)) (.cons (.ret (.op2 .is_ (.var 0) (.c .none))) .nil) .nil) (.cons (.ife (.or (.op2 .ne (.isi [.bool] (.var 1)) (.isi [.bool] (.var 0))) (.op2 .ne (.isi [.str] (.var 1)) (.isi [.str] (.var 0)))) (.cons (.ret (.c (.bool false))) .nil) .nil) (.cons (.ret (.and (.isi [.int, .str] (.var 0)) (.op2 .eq (.var 0) (.var 1)))) .nil))))
def r22 : DR := ⟨a22, 2, 5, []⟩

def n23 : List Str := ["thing", "least", "most"]
def g23 : List (Str × GK) := [("isinstance", .blt), ("int", .blt), ("bool", .blt)]
def a23 : ASs := (.cons (.ret (.and (.isi [.int] (.var 0)) (.and (.not (.isi [.bool] (.var 0))) (.chain .le .le (.var 1) (.var 0) (.var 2))))) .nil)
def r23 : DR := ⟨a23, 3, 3, []⟩

def n24 : List Str := ["feed", "many", "near", "got", "step", "minute", "turn", "one"]
def g24 : List (Str × GK) := [("_law_one", .fn 21 ["feed", "things"] []), ("range", .blt), ("_law_draw", .fn 20 ["feed", "many"] []), ("tuple", .blt), ("sorted", .blt)]
def a24 : ASs := (.cons (.par 3 4 (.cons .dnew (.cons (.call 21 (.cons (.var 0) (.cons (.lst (.cons (.c (.int (1))) (.cons (.c (.int (3))) (.cons (.c (.int (10))) (.cons (.c (.int (40))) .nil))))) .nil))) .nil))) (.cons (.sh (.asg (.nm 5) (.var 2))) (.cons (.sh (.for_ (.r1 (.cons (.op2 .add (.c (.int (1))) (.call 20 (.cons (.var 0) (.cons (.var 1) .nil)))) .nil)) (.nm 6) (.cons (.put (.c (.bool true)) (.var 3) (.var 5)) (.cons (.sh (.asg (.nm 5) (.op2 .add (.op2 .add (.var 5) (.c (.int (1)))) (.call 20 (.cons (.var 0) (.cons (.var 4) .nil)))))) .nil)))) (.cons (.ret (.bi .tuple (.cons (.bi .sorted (.cons (.lcD 3 (.nm 7) .omit (.var 7) [7]) .nil)) .nil))) .nil))))
def r24 : DR := ⟨a24, 3, 8, [(3, 2)]⟩

def n25 : List Str := ["feed", "one", "way", "moved", "got", "minute", "turn"]
def g25 : List (Str × GK) := [("_law_log", .fn 24 ["feed", "many", "near"] []), ("_law_one", .fn 21 ["feed", "things"] []), ("_law_draw", .fn 20 ["feed", "many"] []), ("range", .blt), ("tuple", .blt), ("sorted", .blt)]
def a25 : ASs := (.cons (.par 1 2 (.cons (.call 24 (.cons (.var 0) (.cons (.call 21 (.cons (.var 0) (.cons (.lst (.cons (.c (.int (2))) (.cons (.c (.int (5))) (.cons (.c (.int (12))) (.cons (.c (.int (40))) .nil))))) .nil))) (.cons (.op2 .sub (.call 20 (.cons (.var 0) (.cons (.c (.int (400))) .nil))) (.c (.int (200)))) .nil)))) (.cons (.call 20 (.cons (.var 0) (.cons (.c (.int (3))) .nil))) .nil))) (.cons (.ife (.op2 .eq (.var 2) (.c (.int (0)))) (.cons (.sh (.ret (.tup (.cons (.var 1) (.cons (.call 24 (.cons (.var 0) (.cons (.call 21 (.cons (.var 0) (.cons (.lst (.cons (.c (.int (2))) (.cons (.c (.int (5))) (.cons (.c (.int (12))) (.cons (.c (.int (40))) .nil))))) .nil))) (.cons (.op2 .sub (.call 20 (.cons (.var 0) (.cons (.c (.int (400))) .nil))) (.c (.int (200)))) .nil)))) .nil))))) .nil) .nil) (.cons (.par 3 4 (.cons (.op2 .sub (.call 20 (.cons (.var 0) (.cons (.c (.int (2000))) .nil))) (.c (.int (1000)))) (.cons .dnew .nil))) (.cons (.sh (.for_ (.seq (.var 1)) (.nm 5) (.cons (.ife (.or (.op2 .eq (.var 2) (.c (.int (1)))) (.op2 .gt (.call 20 (.cons (.var 0) (.cons (.c (.int (4))) .nil))) (.c (.int (0))))) (.cons (.put (.c (.bool true)) (.var 4) (.op2 .add (.op2 .add (.var 5) (.var 3)) (.call 21 (.cons (.var 0) (.cons (.lst (.cons (.c (.int (0))) (.cons (.c (.int (0))) (.cons (.c (.int (1))) (.cons (.op2 .sub (.call 20 (.cons (.var 0) (.cons (.c (.int (7))) .nil))) (.c (.int (3)))) .nil))))) .nil))))) .nil) .nil) .nil))) (.cons (.for_ (.r1 (.cons (.call 20 (.cons (.var 0) (.cons (.c (.int (3))) .nil))) .nil)) (.nm 6) (.cons (.put (.c (.bool true)) (.var 4) (.op2 .add (.op2 .add (.op2 .ix (.var 1) (.c (.int (0)))) (.var 3)) (.call 20 (.cons (.var 0) (.cons (.c (.int (60))) .nil))))) .nil)) (.cons (.sh (.ret (.tup (.cons (.var 1) (.cons (.ife (.dne0 4) (.bi .tuple (.cons (.sl (.bi .sorted (.cons (.lcD 4 (.nm 5) .omit (.var 5) [5]) .nil)) .omit (.c (.int (40)))) .nil)) (.var 1)) .nil))))) .nil))))))
def r25 : DR := ⟨a25, 1, 7, [(4, 2)]⟩

def n26 : List Str := ["one", "other", "slack", "shift", "many", "at", "minute"]
def g26 : List (Str × GK) := [("len", .blt)]
def a26 : ASs := (.cons (.parT [4, 5] (.cons (.c (.int (0))) (.cons (.c (.int (0))) .nil))) (.cons (.sh (.for_ (.seq (.var 0)) (.nm 6) (.cons (.while_ (.and (.op2 .lt (.var 5) (.bi .len (.cons (.var 1) .nil))) (.op2 .lt (.op2 .ix (.var 1) (.var 5)) (.op2 .sub (.op2 .add (.var 6) (.var 3)) (.var 2)))) (.cons (.asg (.nm 5) (.op2 .add (.var 5) (.c (.int (1))))) .nil)) (.cons (.ife (.and (.op2 .lt (.var 5) (.bi .len (.cons (.var 1) .nil))) (.op2 .le (.op2 .ix (.var 1) (.var 5)) (.op2 .add (.op2 .add (.var 6) (.var 3)) (.var 2)))) (.cons (.par 4 5 (.cons (.op2 .add (.var 4) (.c (.int (1)))) (.cons (.op2 .add (.var 5) (.c (.int (1)))) .nil))) .nil) .nil) .nil)))) (.cons (.ret (.var 4)) .nil)))
def r26 : DR := ⟨a26, 4, 7, []⟩

def n27 : List Str := ["one", "other", "slack", "shift", "thing", "due", "pair", "first", "last", "at", "spot"]
def g27 : List (Str × GK) := [("_law_most_pairs", .fn 26 ["one", "other", "slack", "shift"] []), ("isinstance", .blt), ("tuple", .blt), ("len", .blt), ("_law_is_number", .fn 23 ["thing", "least", "most"] []), ("zip", .blt), ("abs", .blt)]
def a27 : ASs := (.cons (.sh (.asg (.nm 5) (.call 26 (.cons (.var 0) (.cons (.var 1) (.cons (.var 2) (.cons (.var 3) .nil))))))) (.cons (.ife (.or (.not (.isi [.tuple] (.var 4))) (.or (.op2 .ne (.bi .len (.cons (.var 4) .nil)) (.c (.int (2)))) (.or (.not (.call 23 (.cons (.op2 .ix (.var 4) (.c (.int (0)))) (.cons (.var 5) (.cons (.var 5) .nil))))) (.or (.not (.isi [.tuple] (.op2 .ix (.var 4) (.c (.int (1)))))) (.op2 .ne (.bi .len (.cons (.op2 .ix (.var 4) (.c (.int (1)))) .nil)) (.var 5)))))) (.cons (.ret (.c (.bool false))) .nil) .nil) (.cons (.for_ (.seq (.op2 .ix (.var 4) (.c (.int (1))))) (.nm 6) (.cons (.ife (.or (.not (.isi [.tuple] (.var 6))) (.or (.op2 .ne (.bi .len (.cons (.var 6) .nil)) (.c (.int (2)))) (.or (.not (.call 23 (.cons (.op2 .ix (.var 6) (.c (.int (0)))) (.cons (.c (.int (0))) (.cons (.op2 .sub (.bi .len (.cons (.var 0) .nil)) (.c (.int (1)))) .nil))))) (.not (.call 23 (.cons (.op2 .ix (.var 6) (.c (.int (1)))) (.cons (.c (.int (0))) (.cons (.op2 .sub (.bi .len (.cons (.var 1) .nil)) (.c (.int (1)))) .nil)))))))) (.cons (.ret (.c (.bool false))) .nil) .nil) .nil)) (.cons (.ife (.op2 .ne (.lc (.zip (.cons (.op2 .ix (.var 4) (.c (.int (1)))) (.cons (.sl (.op2 .ix (.var 4) (.c (.int (1)))) (.c (.int (1))) .omit) .nil))) (.tp (.cons (.nm 7) (.cons (.nm 8) .nil))) (.or (.op2 .ge (.op2 .ix (.var 7) (.c (.int (0)))) (.op2 .ix (.var 8) (.c (.int (0))))) (.op2 .ge (.op2 .ix (.var 7) (.c (.int (1)))) (.op2 .ix (.var 8) (.c (.int (1)))))) (.c (.int (1))) [7, 8]) (.lst .nil)) (.cons (.ret (.c (.bool false))) .nil) .nil) (.cons (.ret (.op2 .eq (.lc (.seq (.op2 .ix (.var 4) (.c (.int (1))))) (.tp (.cons (.nm 9) (.cons (.nm 10) .nil))) (.op2 .gt (.bi .abs (.cons (.op2 .sub (.op2 .add (.op2 .ix (.var 0) (.var 9)) (.var 3)) (.op2 .ix (.var 1) (.var 10))) .nil)) (.var 2)) (.c (.int (1))) [9, 10]) (.lst .nil))) .nil)))))
def r27 : DR := ⟨a27, 5, 11, []⟩

def n28 : List Str := ["one", "other", "slack", "shift", "row", "minute", "more", "at", "with_both"]
def g28 : List (Str × GK) := [("len", .blt), ("range", .blt), ("int", .blt), ("abs", .blt), ("max", .blt)]
def a28 : ASs := (.cons (.asg (.nm 4) (.op2 .mul (.lst (.cons (.c (.int (0))) .nil)) (.op2 .add (.bi .len (.cons (.var 1) .nil)) (.c (.int (1)))))) (.cons (.sh (.for_ (.seq (.var 0)) (.nm 5) (.cons (.asg (.nm 6) (.lst (.cons (.c (.int (0))) .nil))) (.cons (.for_ (.r1 (.cons (.bi .len (.cons (.var 1) .nil)) .nil)) (.nm 7) (.cons (.asg (.nm 8) (.op2 .add (.op2 .ix (.var 4) (.var 7)) (.bi .int (.cons (.op2 .le (.bi .abs (.cons (.op2 .sub (.op2 .add (.var 5) (.var 3)) (.op2 .ix (.var 1) (.var 7))) .nil)) (.var 2)) .nil)))) (.cons (.drop (.mm .append (.var 6) (.cons (.bi .max (.cons (.op2 .ix (.var 4) (.op2 .add (.var 7) (.c (.int (1))))) (.cons (.op2 .ix (.var 6) (.var 7)) (.cons (.var 8) .nil)))) .nil))) .nil))) (.cons (.sh (.asg (.nm 4) (.var 6))) .nil))))) (.cons (.ret (.op2 .ix (.var 4) (.neg (.c (.int (1)))))) .nil)))
def r28 : DR := ⟨a28, 4, 9, [(6, 1)]⟩

def n29 : List Str := ["one", "other", "slack", "shift", "got", "spot", "at"]
def g29 : List (Str × GK) := [("len", .blt), ("range", .blt), ("tuple", .blt)]
def a29 : ASs := (.cons (.par 4 5 (.cons (.lst .nil) (.cons (.op2 .sub (.bi .len (.cons (.var 1) .nil)) (.c (.int (1)))) .nil))) (.cons (.for_ (.r3 (.cons (.op2 .sub (.bi .len (.cons (.var 0) .nil)) (.c (.int (1)))) (.cons (.neg (.c (.int (1)))) (.cons (.neg (.c (.int (1)))) .nil)))) (.nm 6) (.cons (.while_ (.and (.op2 .ge (.var 5) (.c (.int (0)))) (.op2 .gt (.op2 .ix (.var 1) (.var 5)) (.op2 .add (.op2 .add (.op2 .ix (.var 0) (.var 6)) (.var 3)) (.var 2)))) (.cons (.asg (.nm 5) (.op2 .sub (.var 5) (.c (.int (1))))) .nil)) (.cons (.ife (.and (.op2 .ge (.var 5) (.c (.int (0)))) (.op2 .ge (.op2 .ix (.var 1) (.var 5)) (.op2 .sub (.op2 .add (.op2 .ix (.var 0) (.var 6)) (.var 3)) (.var 2)))) (.cons (.sh (.drop (.mm .append (.var 4) (.cons (.tup (.cons (.var 6) (.cons (.var 5) .nil))) .nil)))) (.cons (.asg (.nm 5) (.op2 .sub (.var 5) (.c (.int (1))))) .nil)) .nil) .nil))) (.cons (.ret (.tup (.cons (.bi .len (.cons (.var 4) .nil)) (.cons (.bi .tuple (.cons (.rev (.var 4)) .nil)) .nil)))) .nil)))
def r29 : DR := ⟨a29, 4, 7, [(4, 1)]⟩

def n30 : List Str := ["feed", "one", "other", "told", "many", "pairs", "at", "same", "turn", "pair", "rows", "odd", "things", "a", "b", "row"]
def g30 : List (Str × GK) := [("_law_draw", .fn 20 ["feed", "many"] []), ("len", .blt), ("range", .blt), ("tuple", .blt), ("list", .blt), ("str", .blt), ("_law_one", .fn 21 ["feed", "things"] []), ("bool", .blt)]
def a30 : ASs := (.cons (.sh (.asg (.tp (.cons (.nm 4) (.cons (.nm 5) .nil))) (.var 3))) (.cons (.par 6 7 (.cons (.call 20 (.cons (.var 0) (.cons (.op2 .add (.bi .len (.cons (.var 5) .nil)) (.c (.int (1)))) .nil))) (.cons (.tup .nil) .nil))) (.cons (.for_ (.r1 (.cons (.c (.int (40))) .nil)) (.nm 8) (.cons (.sh (.asg (.nm 7) (.tup (.cons (.var 7) (.cons (.var 7) .nil))))) .nil)) (.cons (.asg (.nm 9) (.tup (.cons (.call 20 (.cons (.var 0) (.cons (.bi .len (.cons (.var 1) .nil)) .nil))) (.cons (.call 20 (.cons (.var 0) (.cons (.bi .len (.cons (.var 2) .nil)) .nil))) .nil)))) (.cons (.sh (.asg (.nm 10) (.lst (.cons (.op2 .add (.sl (.var 5) .omit (.var 6)) (.sl (.var 5) (.op2 .add (.var 6) (.c (.int (1)))) .omit)) (.cons (.op2 .add (.op2 .add (.sl (.var 5) .omit (.var 6)) (.tup (.cons (.var 9) .nil))) (.sl (.var 5) (.op2 .add (.var 6) (.c (.int (1)))) .omit)) (.cons (.rev (.var 5)) (.cons (.bi .tuple (.cons (.lc (.seq (.var 5)) (.tp (.cons (.nm 13) (.cons (.nm 14) .nil))) .omit (.tup (.cons (.var 14) (.cons (.var 13) .nil))) [13, 14]) .nil)) (.cons (.op2 .add (.op2 .add (.sl (.var 5) .omit (.var 6)) (.sl (.sl (.var 5) .omit (.var 6)) (.neg (.c (.int (1)))) .omit)) (.sl (.var 5) (.var 6) .omit)) .nil)))))))) (.cons (.sh (.asg (.nm 11) (.lst (.cons (.bi .list (.cons (.var 9) .nil)) (.cons (.op2 .add (.var 9) (.tup (.cons (.c (.int (0))) .nil))) (.cons (.tup (.cons (.c (.bool true)) (.cons (.op2 .ix (.var 9) (.c (.int (1)))) .nil))) (.cons (.tup (.cons (.op2 .ix (.var 9) (.c (.int (0)))) (.cons (.bi .len (.cons (.var 2) .nil)) .nil))) (.cons (.tup (.cons (.neg (.c (.int (1)))) (.cons (.op2 .ix (.var 9) (.c (.int (1)))) .nil))) (.cons (.c .none) (.cons (.tup (.cons (.bi .str (.cons (.op2 .ix (.var 9) (.c (.int (0)))) .nil)) (.cons (.c (.int (0))) .nil))) (.cons (.var 7) .nil))))))))))) (.cons (.sh (.asg (.nm 12) (.op2 .add (.op2 .add (.lc (.seq (.var 10)) (.nm 15) .omit (.tup (.cons (.var 4) (.cons (.var 15) .nil))) [15]) (.lc (.seq (.var 10)) (.nm 15) .omit (.tup (.cons (.bi .len (.cons (.var 15) .nil)) (.cons (.var 15) .nil))) [15])) (.lst (.cons (.tup (.cons (.var 4) (.cons (.op2 .add (.op2 .add (.sl (.var 5) .omit (.var 6)) (.tup (.cons (.call 21 (.cons (.var 0) (.cons (.var 11) .nil))) .nil))) (.sl (.var 5) (.op2 .add (.var 6) (.c (.int (1)))) .omit)) .nil))) .nil))))) (.cons (.sh (.asg (.nm 12) (.op2 .add (.var 12) (.lst (.cons (.tup (.cons (.op2 .add (.var 4) (.c (.int (1)))) (.cons (.var 5) .nil))) (.cons (.tup (.cons (.op2 .sub (.var 4) (.c (.int (1)))) (.cons (.var 5) .nil))) (.cons (.tup (.cons (.var 4) (.cons (.bi .list (.cons (.var 5) .nil)) .nil))) (.cons (.lst (.cons (.var 4) (.cons (.var 5) .nil))) (.cons (.tup (.cons (.var 4) (.cons (.var 5) (.cons (.c (.int (0))) .nil)))) (.cons (.tup (.cons (.var 4) .nil)) .nil)))))))))) (.cons (.sh (.ret (.op2 .add (.var 12) (.lst (.cons (.call 21 (.cons (.var 0) (.cons (.lst (.cons (.c .none) (.cons (.tup .nil) (.cons (.var 7) (.cons (.c (.bool true)) (.cons (.tup (.cons (.c .none) (.cons (.var 5) .nil))) (.cons (.tup (.cons (.bi .str (.cons (.var 4) .nil)) (.cons (.var 5) .nil))) (.cons (.tup (.cons (.var 4) (.cons (.var 7) .nil))) (.cons (.tup (.cons (.bi .bool (.cons (.var 4) .nil)) (.cons (.var 5) .nil))) .nil))))))))) .nil))) .nil))))) .nil)))))))))
def r30 : DR := ⟨a30, 4, 16, []⟩

def n31 : List Str := ["feed", "one", "other", "slack", "turn", "shift", "told", "again", "own", "thing", "due", "named"]
def g31 : List (Str × GK) := [("_law_two_logs", .fn 25 ["feed"] []), ("_law_one", .fn 21 ["feed", "things"] []), ("_law_draw", .fn 20 ["feed", "many"] []), ("range", .blt), ("paired", .fn 17 ["log", "other", "slack", "shift"] [["shift", "slack", "other", "log"]]), ("_law_is_paired", .fn 27 ["one", "other", "slack", "shift", "thing"] []), ("repr", .blt), ("_law_by_all", .fn 28 ["one", "other", "slack", "shift"] []), ("_law_own_pairs", .fn 29 ["one", "other", "slack", "shift"] []), ("_law_bent", .fn 30 ["feed", "one", "other", "told"] []), ("paired_holds", .fn 18 ["log", "other", "slack", "shift", "thing"] [["thing", "shift", "slack", "other", "log"]]), ("_law_same", .fn 22 ["told", "due"] [])]
def a31 : ASs := (.cons (.asg (.tp (.cons (.nm 1) (.cons (.nm 2) .nil))) (.call 25 (.cons (.var 0) .nil))) (.cons (.asg (.nm 3) (.call 21 (.cons (.var 0) (.cons (.lst (.cons (.c (.int (0))) (.cons (.c (.int (1))) (.cons (.c (.int (2))) (.cons (.c (.int (5))) (.cons (.c (.int (5))) (.cons (.call 20 (.cons (.var 0) (.cons (.c (.int (101))) .nil))) .nil))))))) .nil)))) (.cons (.for_ (.r1 (.cons (.c (.int (3))) .nil)) (.nm 4) (.cons (.sh (.asg (.nm 5) (.op2 .add (.op2 .sub (.call 21 (.cons (.var 0) (.cons (.var 2) .nil))) (.call 21 (.cons (.var 0) (.cons (.var 1) .nil)))) (.call 21 (.cons (.var 0) (.cons (.lst (.cons (.c (.int (0))) (.cons (.c (.int (0))) (.cons (.op2 .sub (.op2 .sub (.call 20 (.cons (.var 0) (.cons (.op2 .add (.op2 .mul (.c (.int (2))) (.var 3)) (.c (.int (3)))) .nil))) (.var 3)) (.c (.int (1)))) .nil)))) .nil)))))) (.cons (.sh (.par 6 7 (.cons (.call 17 (.cons (.var 1) (.cons (.var 2) (.cons (.var 3) (.cons (.var 5) .nil))))) (.cons (.callK 17 [3, 2, 1, 0] (.cons (.var 5) (.cons (.var 3) (.cons (.var 2) (.cons (.var 1) .nil))))) .nil)))) (.cons (.sh (.ife (.or (.not (.call 27 (.cons (.var 1) (.cons (.var 2) (.cons (.var 3) (.cons (.var 5) (.cons (.var 6) .nil))))))) (.op2 .ne (.bi .repr (.cons (.var 7) .nil)) (.bi .repr (.cons (.var 6) .nil)))) (.cons (.ret (.c (.bool false))) .nil) .nil)) (.cons (.sh (.ife (.or (.op2 .ne (.op2 .ix (.var 6) (.c (.int (0)))) (.call 28 (.cons (.var 1) (.cons (.var 2) (.cons (.var 3) (.cons (.var 5) .nil)))))) (.op2 .ne (.op2 .ix (.call 17 (.cons (.var 2) (.cons (.var 1) (.cons (.var 3) (.cons (.op2 .sub (.c (.int (0))) (.var 5)) .nil))))) (.c (.int (0)))) (.op2 .ix (.var 6) (.c (.int (0)))))) (.cons (.ret (.c (.bool false))) .nil) .nil)) (.cons (.sh (.asg (.nm 8) (.call 29 (.cons (.var 1) (.cons (.var 2) (.cons (.var 3) (.cons (.var 5) .nil))))))) (.cons (.sh (.for_ (.seq (.op2 .add (.lst (.cons (.var 6) (.cons (.var 8) .nil))) (.call 30 (.cons (.var 0) (.cons (.var 1) (.cons (.var 2) (.cons (.var 6) .nil))))))) (.nm 9) (.cons (.sh (.asg (.nm 10) (.call 27 (.cons (.var 1) (.cons (.var 2) (.cons (.var 3) (.cons (.var 5) (.cons (.var 9) .nil)))))))) (.cons (.sh (.asg (.nm 11) (.callK 18 [4, 3, 2, 1, 0] (.cons (.var 9) (.cons (.var 5) (.cons (.var 3) (.cons (.var 2) (.cons (.var 1) .nil)))))))) (.cons (.sh (.ife (.not (.call 22 (.cons (.lst (.cons (.call 18 (.cons (.var 1) (.cons (.var 2) (.cons (.var 3) (.cons (.var 5) (.cons (.var 9) .nil)))))) (.cons (.var 11) .nil))) (.cons (.lst (.cons (.var 10) (.cons (.var 10) .nil))) .nil)))) (.cons (.ret (.c (.bool false))) .nil) .nil)) .nil))))) .nil))))))) (.cons (.sh (.ret (.call 22 (.cons (.call 18 (.cons (.var 1) (.cons (.var 2) (.cons (.var 3) (.cons (.var 5) (.cons (.var 8) .nil)))))) (.cons (.c (.bool true)) .nil))))) .nil))))
def r31 : DR := ⟨a31, 1, 12, [(1005, 9), (1008, 9)]⟩

def n32 : List Str := ["script", "k", "feed"]
def g32 : List (Str × GK) := [("range", .blt), ("max", .blt), ("min", .blt), ("len", .blt), ("_law_feed", .fn 19 ["script", "k"] []), ("_law_right", .fn 31 ["feed"] [])]
def a32 : ASs := (.cons (.for_ (.r1 (.cons (.bi .max (.cons (.c (.int (2))) (.cons (.bi .min (.cons (.bi .len (.cons (.var 0) .nil)) (.cons (.c (.int (6))) .nil))) .nil))) .nil)) (.nm 1) (.cons (.sh (.asg (.nm 2) (.call 19 (.cons (.var 0) (.cons (.var 1) .nil))))) (.cons (.ife (.not (.call 31 (.cons (.var 2) .nil))) (.cons (.ret (.c (.bool false))) .nil) .nil) .nil))) (.cons (.ret (.c (.bool true))) .nil))
def r32 : DR := ⟨a32, 1, 3, [(2, 1)]⟩end Hs

namespace Dl
open L2 PySem PyProof.Rows PySem.Spec
class Hd (D : Tab) (i : Nat) (r : outParam DR) : Prop where
  eq : D i = some r
theorem ob_some {α β : Type} {a : α} {f : α → Option β} : ob (some a) f = f a := rfl
theorem ob2_some {α β γ : Type} {a : α} {b : β} {f : α → β → Option γ} : ob2 (some (a, b)) f = f a b := rfl
class Kl (α : Type) (β : Type) where
  run : α → Option β
class Kl2 (α β γ : Type) where
  run : α → β → Option γ
class Vl (α : Type) where
  v : Option α
def obi {α β : Type} (x : Option α) [k : Kl α β] : Option β := ob x k.run
def ob2i {α β γ : Type} (x : Option (α × β)) [k : Kl2 α β γ] : Option γ := ob2 x k.run
noncomputable def gui {α : Type} (p : Prop) [x : Vl α] : Option α := gu p x.v
def csi {α : Type} (q : Bool) [x : Vl α] [y : Vl α] : Option α := if q = true then x.v else y.v
theorem ob_i {α β : Type} {x : Option α} {f : α → Option β} : ob x f = @obi α β x ⟨f⟩ := rfl
theorem ob2_i {α β γ : Type} {x : Option (α × β)} {f : α → β → Option γ} : ob2 x f = @ob2i α β γ x ⟨f⟩ := rfl
theorem gu_i {α : Type} {p : Prop} {x : Option α} : gu p x = @gui α p ⟨x⟩ := rfl
theorem cs_i {α : Type} {q : Bool} {x y : Option α} : (if q = true then x else y) = @csi α q ⟨x⟩ ⟨y⟩ := rfl
theorem obi_some {α β : Type} {a : α} {f : α → Option β} : @obi α β (some a) ⟨f⟩ = f a := rfl
theorem ob2i_some {α β γ : Type} {a : α} {b : β} {f : α → β → Option γ} : @ob2i α β γ (some (a, b)) ⟨f⟩ = f a b := rfl
theorem obi_none {α β : Type} {k : Kl α β} : @obi α β none k = none := rfl
theorem ob2i_none {α β γ : Type} {k : Kl2 α β γ} : @ob2i α β γ none k = none := rfl
theorem obi_obi {α β γ : Type} {x : Option α} {f : α → Option β} {g : β → Option γ} : @obi β γ (@obi α β x ⟨f⟩) ⟨g⟩ = @obi α γ x ⟨fun a => ob (f a) g⟩ := by cases x <;> rfl
theorem obi_ob2i {α β γ δ : Type} {x : Option (α × β)} {f : α → β → Option γ} {g : γ → Option δ} : @obi γ δ (@ob2i α β γ x ⟨f⟩) ⟨g⟩ = @ob2i α β δ x ⟨fun a b => ob (f a b) g⟩ := by cases x <;> rfl
theorem ob2i_obi {α β γ δ : Type} {x : Option α} {f : α → Option (β × γ)} {g : β → γ → Option δ} : @ob2i β γ δ (@obi α (β × γ) x ⟨f⟩) ⟨g⟩ = @obi α δ x ⟨fun a => ob2 (f a) g⟩ := by cases x <;> rfl
theorem ob2i_ob2i {α β γ δ ε : Type} {x : Option (α × β)} {f : α → β → Option (γ × δ)} {g : γ → δ → Option ε} : @ob2i γ δ ε (@ob2i α β (γ × δ) x ⟨f⟩) ⟨g⟩ = @ob2i α β ε x ⟨fun a b => ob2 (f a b) g⟩ := by cases x <;> rfl
theorem obi_gui {α β : Type} {p : Prop} {x : Option α} {f : α → Option β} : @obi α β (@gui α p ⟨x⟩) ⟨f⟩ = @gui β p ⟨ob x f⟩ := by unfold gui gu obi; split <;> rfl
theorem ob2i_gui {α β γ : Type} {p : Prop} {x : Option (α × β)} {f : α → β → Option γ} : @ob2i α β γ (@gui (α × β) p ⟨x⟩) ⟨f⟩ = @gui γ p ⟨ob2 x f⟩ := by unfold gui gu ob2i; split <;> rfl
theorem obi_csi {α β : Type} {q : Bool} {x y : Option α} {f : α → Option β} : @obi α β (@csi α q ⟨x⟩ ⟨y⟩) ⟨f⟩ = @csi β q ⟨ob x f⟩ ⟨ob y f⟩ := by cases q <;> rfl
theorem ob2i_csi {α β γ : Type} {q : Bool} {x y : Option (α × β)} {f : α → β → Option γ} : @ob2i α β γ (@csi (α × β) q ⟨x⟩ ⟨y⟩) ⟨f⟩ = @csi γ q ⟨ob2 x f⟩ ⟨ob2 y f⟩ := by cases q <;> rfl
theorem csi_t {α : Type} {x y : Option α} : @csi α true ⟨x⟩ ⟨y⟩ = x := rfl
theorem csi_f {α : Type} {x y : Option α} : @csi α false ⟨x⟩ ⟨y⟩ = y := rfl
theorem csi_back {α : Type} {q : Bool} {x y : Option α} : @csi α q ⟨x⟩ ⟨y⟩ = if q = true then x else y := rfl
theorem csi_dT {α : Type} {p : Prop} [Decidable p] {x y : Option α} (h : p) : @csi α (decide p) ⟨x⟩ ⟨y⟩ = x := if_pos (decide_eq_true h)
theorem csi_dF {α : Type} {p : Prop} [Decidable p] {x y : Option α} (h : ¬ p) : @csi α (decide p) ⟨x⟩ ⟨y⟩ = y := if_neg (by simpa using h)
theorem csi_nT {α : Type} {p : Prop} [Decidable p] {x y : Option α} (h : p) : @csi α (!decide p) ⟨x⟩ ⟨y⟩ = y := by rw [decide_eq_true h]; rfl
theorem csi_nF {α : Type} {p : Prop} [Decidable p] {x y : Option α} (h : ¬ p) : @csi α (!decide p) ⟨x⟩ ⟨y⟩ = x := by rw [decide_eq_false h]; rfl
theorem csi_ca {α : Type} {q : Bool} {x y r : Option α} (h1 : q = true → x = r) (h2 : q = false → y = r) : @csi α q ⟨x⟩ ⟨y⟩ = r := by cases q <;> first | exact h1 rfl | exact h2 rfl
theorem csi_caD {α : Type} {p : Prop} [Decidable p] {x y r : Option α} (h1 : p → x = r) (h2 : ¬ p → y = r) : @csi α (decide p) ⟨x⟩ ⟨y⟩ = r := csi_ca (fun e => h1 (of_decide_eq_true e)) fun e => h2 (of_decide_eq_false e)
theorem csi_exD {α : Type} {p : Prop} [Decidable p] {x y : Option α} {P : Option α → Prop} (h1 : p → P x) (h2 : ¬ p → P y) : P (@csi α (decide p) ⟨x⟩ ⟨y⟩) := by
  by_cases e : p
  · rw [csi_dT e]; exact h1 e
  · rw [csi_dF e]; exact h2 e
theorem csi_ex {α : Type} {q : Bool} {x y : Option α} {P : Option α → Prop} (h1 : q = true → P x) (h2 : q = false → P y) : P (@csi α q ⟨x⟩ ⟨y⟩) := by
  cases q
  · exact h2 rfl
  · exact h1 rfl
theorem gui_true {α : Type} {x : Option α} : @gui α True ⟨x⟩ = x := if_pos trivial
theorem gu_pos {α : Type} {p : Prop} {x : Option α} (h : p) : @gui α p ⟨x⟩ = x := if_pos h
theorem gu_le {α : Type} {n : Nat} {x : Option α} (h : n ≤ 1000000) : @gui α (n ≤ sizeLine) ⟨x⟩ = x := if_pos (Nat.le_trans h (by decide))
theorem gu_lt {α : Type} {n : Nat} {x : Option α} (h : n < 1000000) : @gui α (n < sizeLine) ⟨x⟩ = x := if_pos (Nat.lt_of_lt_of_le h (by decide))
theorem ev_eq {D : Tab} {k f : Nat} {r : DR} [h : Hd D f r] {ws : List AV} {c : Option MC} : evF D (k + 1) f ws c = gu (ws.length = r.ar) (ob (evSs (evF D k) c.toList.length r.mu r.body (ws.map some ++ List.replicate (r.n - ws.length) none) c.toList) (outR c)) := by
  rw [evF, h.eq]
  rfl
theorem bne0 : ((0 : Nat) != 0) = false := rfl
theorem bne1 : ((1 : Nat) != 0) = true := rfl
theorem headD_nil {a : Nat} : ([] : List Nat).headD a = a := rfl
theorem tail_nil : ([] : List Nat).tail = [] := rfl
theorem evE_var {T : Nat → DT} {c : Nat} {i : Nat} {A : Env} {B : Mem} : evE T c (.var i) A B = oVar i A B := rfl
theorem evE_c {T : Nat → DT} {c : Nat} {x : PyData} {A : Env} {B : Mem} : evE T c (.c x) A B = some (.d x, B) := rfl
theorem evE_kt {T : Nat → DT} {c : Nat} {xs : List PyData} {A : Env} {B : Mem} : evE T c (.kt xs) A B = some (.kt xs, B) := rfl
theorem evE_op2 {T : Nat → DT} {c : Nat} {o : O2} {a : AE} {b : AE} {A : Env} {B : Mem} : evE T c (.op2 o a b) A B = ob2 (evE T 0 a A B) fun x B1 => ob2 (evE T 0 b A B1) fun y B2 => e2 (c != 0) o x y B2 := rfl
theorem evE_neg {T : Nat → DT} {c : Nat} {a : AE} {A : Env} {B : Mem} : evE T c (.neg a) A B = ob2 (evE T 0 a A B) fun x B1 => eD1 false oNeg x B1 := rfl
theorem evE_chain {T : Nat → DT} {c : Nat} {o : O2} {o' : O2} {a : AE} {b : AE} {d : AE} {A : Env} {B : Mem} : evE T c (.chain o o' a b d) A B = ob2 (evE T 0 a A B) fun x B1 => ob2 (evE T 0 b A B1) fun y B2 => chainE false o o' x y B2 fun B3 => evE T 0 d A B3 := rfl
theorem evE_and {T : Nat → DT} {c : Nat} {a : AE} {b : AE} {A : Env} {B : Mem} : evE T c (.and a b) A B = ob2 (evE T 0 a A B) fun x B1 => ob (oTru x B1) fun t => if t = true then evE T c b A B1 else some (x, B1) := rfl
theorem evE_or {T : Nat → DT} {c : Nat} {a : AE} {b : AE} {A : Env} {B : Mem} : evE T c (.or a b) A B = ob2 (evE T 0 a A B) fun x B1 => ob (oTru x B1) fun t => if t = true then some (x, B1) else evE T c b A B1 := rfl
theorem evE_not {T : Nat → DT} {c : Nat} {a : AE} {A : Env} {B : Mem} : evE T c (.not a) A B = ob2 (evE T 0 a A B) fun x B1 => ob (oTru x B1) fun t => some (.d (.bool (!t)), B1) := rfl
theorem evE_ife {T : Nat → DT} {c : Nat} {t : AE} {a : AE} {b : AE} {A : Env} {B : Mem} : evE T c (.ife t a b) A B = ob2 (evT T t A B) fun q B1 => if q = true then evE T c a A B1 else evE T c b A B1 := rfl
theorem evE_sl {T : Nat → DT} {c : Nat} {a : AE} {lo : AE} {hi : AE} {A : Env} {B : Mem} : evE T c (.sl a lo hi) A B = ob2 (evE T 0 a A B) fun x B1 => ob2 (evO T lo A B1) fun l B2 => ob2 (evO T hi A B2) fun h B3 => eSl (c != 0) x l h B3 := rfl
theorem evE_omit {T : Nat → DT} {c : Nat}  {A : Env} {B : Mem} : evE T c (.omit) A B = none := rfl
theorem evE_call {T : Nat → DT} {c : Nat} {f : Nat} {es : AEs} {A : Env} {B : Mem} : evE T c (.call f es) A B = ob2 (evEs T [] es A B) fun ws B1 => eCall (T f) c ws B1 := rfl
theorem evE_callK {T : Nat → DT} {c : Nat} {f : Nat} {ix : List Nat} {es : AEs} {A : Env} {B : Mem} : evE T c (.callK f ix es) A B = ob2 (evEs T [] es A B) fun ws B1 => gu (ws.length = ix.length) (eCall (T f) c (pick ix ws) B1) := rfl
theorem evE_bi {T : Nat → DT} {c : Nat} {b : BI} {es : AEs} {A : Env} {B : Mem} : evE T c (.bi b es) A B = ob2 (evEs T [] es A B) fun ws B1 => eBi (c != 0) b ws B1 := rfl
theorem evE_isi {T : Nat → DT} {c : Nat} {ts : List TN} {a : AE} {A : Env} {B : Mem} : evE T c (.isi ts a) A B = ob2 (evE T 0 a A B) fun x B1 => ob (rd B1 x) fun d => some (.d (.bool (dIsi ts d)), B1) := rfl
theorem evE_mm {T : Nat → DT} {c : Nat} {m : MM} {o : AE} {es : AEs} {A : Env} {B : Mem} : evE T c (.mm m o es) A B = ob2 (evE T 0 o A B) fun x B1 => gu (isL B1 x = true) (ob2 (evEs T [] es A B1) fun ys B2 => eMM m x ys B2) := rfl
theorem evE_get2 {T : Nat → DT} {c : Nat} {o : AE} {a : AE} {b : AE} {A : Env} {B : Mem} : evE T c (.get2 o a b) A B = ob2 (evE T 0 o A B) fun x B1 => ob (dictOf B1 x) fun _ => ob2 (evE T 0 a A B1) fun y B2 => ob2 (evE T 0 b A B2) fun z B3 => eGet2 x y z B3 := rfl
theorem evE_tup {T : Nat → DT} {c : Nat} {es : AEs} {A : Env} {B : Mem} : evE T c (.tup es) A B = ob2 (evEs T [] es A B) fun ws B1 => ob (dsO ws) fun xs => gu (xs.length ≤ sizeLine) (some (.d (.tuple xs), B1)) := rfl
theorem evE_lst {T : Nat → DT} {c : Nat} {es : AEs} {A : Env} {B : Mem} : evE T c (.lst es) A B = ob2 (evEs T [] es A B) fun ws B1 => ob (dsO ws) fun xs => gu (xs.length ≤ sizeLine) (some (newO (c != 0) xs B1)) := rfl
theorem evE_dnew {T : Nat → DT} {c : Nat}  {A : Env} {B : Mem} : evE T c (.dnew) A B = some (.m B.length, B ++ [if c = 3 then .dT [] else .dK []]) := rfl
theorem evE_lc {T : Nat → DT} {c : Nat} {it : AI} {g : AG} {t : AE} {e : AE} {vs : List Nat} {A : Env} {B : Mem} : evE T c (.lc it g t e vs) A B = if (c == 4) = true then ob2 (evI T it A B) fun xs B1 => gu (xs.length ≤ sizeLine) (ob2 (acL (mtStep (evG g) (evT T t) (evE T 1 e) (wipeA A vs) B1.length) xs [] B1) fun rows Bb => some (.m B1.length, Bb ++ [.mat rows])) else ob2 (evI T it A B) fun xs B1 => gu (xs.length ≤ sizeLine) (ob2 (lcL (lcStep (evG g) (evT T t) (evE T 0 e) (wipeA A vs)) xs B1) fun ds B2 => some (newO (c != 0) ds B2)) := rfl
theorem evE_lcD {T : Nat → DT} {c : Nat} {i : Nat} {g : AG} {t : AE} {e : AE} {vs : List Nat} {A : Env} {B : Mem} : evE T c (.lcD i g t e vs) A B = ob2 (lcDO i A B) fun j kvs => gu (kvs.length ≤ sizeLine) (ob2 (lcL (lcStep (evG g) (evT T t) (evE T 0 e) (wipeA (A.map (hideJ j)) vs)) (kvs.map fun p => keyPy p.1) (B.set j .gone)) fun ds B2 => ob B2[j]? fun cl => gu (isGone cl = true) (some (newO (c != 0) ds (B2.set j (.dK kvs))))) := rfl
theorem evE_dne0 {T : Nat → DT} {c : Nat} {i : Nat} {A : Env} {B : Mem} : evE T c (.dne0 i) A B = ob2 (lcDO i A B) fun j kvs => some (.d (.bool (!kvs.isEmpty)), B) := rfl
theorem evE_rev {T : Nat → DT} {c : Nat} {a : AE} {A : Env} {B : Mem} : evE T c (.rev a) A B = ob2 (evE T 0 a A B) fun x B1 => eD1 (c != 0) oRev x B1 := rfl
theorem evE_lset {T : Nat → DT} {c : Nat} {a : AE} {A : Env} {B : Mem} : evE T c (.lset a) A B = ob2 (evE T 0 a A B) fun x B1 => eD1 (c != 0) oLenSet x B1 := rfl
theorem evE_idx {T : Nat → DT} {c : Nat} {o a : AE} {A : Env} {B : Mem} : evE T c (.idx o a) A B = ob2 (evE T 0 o A B) fun x B1 => ob (tupA x) fun xs => ob (toStrs xs) fun ss => ob2 (evE T 0 a A B1) fun y B2 => ob (idxO ss y) fun j => some (.d (.int (j : Int)), B2) := rfl
theorem evE_lrg {T : Nat → DT} {c : Nat} {a : AE} {A : Env} {B : Mem} : evE T c (.lrg a) A B = ob2 (evE T 0 a A B) fun x B1 => ob (lrgO x) fun j => some (newO (c != 0) (rangeD 0 (j - 0).toNat) B1) := rfl
theorem evE_trg {T : Nat → DT} {c : Nat} {a : AE} {A : Env} {B : Mem} : evE T c (.trg a) A B = ob2 (evE T 0 a A B) fun x B1 => ob (lrgO x) fun j => some (.d (.tuple (rangeD 0 (j - 0).toNat)), B1) := rfl
theorem evE_reprL {T : Nat → DT} {c : Nat} {es : AEs} {A : Env} {B : Mem} : evE T c (.reprL es) A B = ob2 (evEs T [] es A B) fun ws B1 => ob (rdL B1 ws) fun ds => gu (ds.length ≤ sizeLine ∧ Shown (.list ds)) (some (.d (.str (PyData.shown (.list ds))), B1)) := rfl
theorem evE_upd {T : Nat → DT} {c : Nat} {o a : AE} {A : Env} {B : Mem} : evE T c (.upd o a) A B = ob2 (evE T 0 o A B) fun x B1 => ob2 (dkO x B1) fun j _ => ob2 (evE T 2 a A B1) fun y B2 => ob2 (dkO x B2) fun _ kvs => ob2 (dkO y B2) fun j2 more => gu (j ≠ j2 ∧ kvs.length + more.length ≤ sizeLine) (some (.d .none, B2.set j (.dK (mergeD kvs more)))) := rfl
theorem evE_lsc {T : Nat → DT} {c : Nat} {it : AI} {g : AG} {t e : AE} {vs : List Nat} {A : Env} {B : Mem} : evE T c (.lsc it g t e vs) A B = ob2 (evI T it A B) fun xs B1 => gu (xs.length < 63) (ob2 (acL (scStep (evG g) (evT T t) (evE T 0 e) (wipeA A vs)) xs [] B1) fun acc B2 => some (.d (.int (acc.length : Int)), B2)) := rfl
theorem evE_dcm {T : Nat → DT} {c : Nat} {it : AI} {g : AG} {t e v : AE} {vs : List Nat} {A : Env} {B : Mem} : evE T c (.dcm it g t e v vs) A B = ob2 (evI T it A B) fun xs B1 => gu (xs.length < sizeLine) (ob2 (acL (dmStep (evG g) (evT T t) (evE T 0 e) (evE T 0 v) (wipeA A vs)) xs [] B1) fun acc B2 => some (.m B2.length, B2 ++ [.dK acc])) := rfl
theorem dmS_eq {g : AV → Env → Mem → Option (Env × Mem)} {t : Env → Mem → Option (Bool × Mem)} {fk fv : Env → Mem → Option (AV × Mem)} {A : Env} {x : PyData} {acc : List (L2.Key × PyData)} {B : Mem} : dmStep g t fk fv A x acc B =
  ob2 (g (.d x) A B) fun A2 B3 => ob2 (t A2 B3) fun b B4 => if b = true then ob2 (fk A2 B4) fun y B5 => ob (oKd y) fun key => ob2 (fv A2 B5) fun z B6 => ob (oK z) fun d => some (putD acc key d, B6) else some (acc, B4) := rfl
theorem scS_eq {g : AV → Env → Mem → Option (Env × Mem)} {t : Env → Mem → Option (Bool × Mem)} {f : Env → Mem → Option (AV × Mem)} {A : Env} {x : PyData} {acc : List (List Str)} {B : Mem} : scStep g t f A x acc B =
  ob2 (g (.d x) A B) fun A2 B3 => ob2 (t A2 B3) fun b B4 => if b = true then ob2 (f A2 B4) fun y B5 => ob (oKs y) fun ks => some (insK acc ks, B5) else some (acc, B4) := rfl
theorem mtS_eq {g : AV → Env → Mem → Option (Env × Mem)} {t : Env → Mem → Option (Bool × Mem)} {f : Env → Mem → Option (AV × Mem)} {A : Env} {n0 : Nat} {x : PyData} {rows : List (List PyData)} {Bb : Mem} : mtStep g t f A n0 x rows Bb =
  ob2 (g (.d x) A (Bb ++ rows.map .lst)) fun A2 B3 => ob2 (t A2 B3) fun b B4 => gu (b = true) (ob2 (f A2 B4) fun y B5 => ob (mtO n0 rows y B5) fun ds => some (rows ++ [ds], B5.take n0)) := rfl
theorem evT_omit {T : Nat → DT}  {A : Env} {B : Mem} : evT T (.omit) A B = some (true, B) := rfl
theorem evT_and {T : Nat → DT} {a : AE} {b : AE} {A : Env} {B : Mem} : evT T (.and a b) A B = ob2 (evT T a A B) fun q B1 => if q = true then evT T b A B1 else some (false, B1) := rfl
theorem evT_or {T : Nat → DT} {a : AE} {b : AE} {A : Env} {B : Mem} : evT T (.or a b) A B = ob2 (evT T a A B) fun q B1 => if q = true then some (true, B1) else evT T b A B1 := rfl
theorem evT_not {T : Nat → DT} {a : AE} {A : Env} {B : Mem} : evT T (.not a) A B = ob2 (evT T a A B) fun q B1 => some (!q, B1) := rfl
theorem evT_op2 {T : Nat → DT} {o : O2} {a : AE} {b : AE} {A : Env} {B : Mem} : evT T (.op2 o a b) A B = ob2 (ob2 (evE T 0 a A B) fun x B1 => ob2 (evE T 0 b A B1) fun y B2 => e2 false o x y B2) fun z B3 => ob (if isCmp o = true then oBool z else oTru z B3) fun q => some (q, B3) := rfl
theorem evT_chain {T : Nat → DT} {o : O2} {o' : O2} {a : AE} {b : AE} {d : AE} {A : Env} {B : Mem} : evT T (.chain o o' a b d) A B = ob2 (ob2 (evE T 0 a A B) fun x B1 => ob2 (evE T 0 b A B1) fun y B2 => chainE false o o' x y B2 fun B3 => evE T 0 d A B3) fun z B3 => ob (oBool z) fun q => some (q, B3) := rfl
theorem evT_dne0 {T : Nat → DT} {i : Nat} {A : Env} {B : Mem} : evT T (.dne0 i) A B = ob2 (lcDO i A B) fun j kvs => some (!kvs.isEmpty, B) := rfl
theorem evT_var {T : Nat → DT} {i : Nat} {A : Env} {B : Mem} : evT T (.var i) A B = ob2 (oVar i A B) fun z B1 => ob (oTru z B1) fun q => some (q, B1) := rfl
theorem evT_c {T : Nat → DT} {x : PyData} {A : Env} {B : Mem} : evT T (.c x) A B = ob (oTru (.d x) B) fun q => some (q, B) := rfl
theorem evT_call {T : Nat → DT} {f : Nat} {es : AEs} {A : Env} {B : Mem} : evT T (.call f es) A B = ob2 (ob2 (evEs T [] es A B) fun ws B1 => eCall (T f) 0 ws B1) fun z B1 => ob (oTru z B1) fun q => some (q, B1) := rfl
theorem evT_bi {T : Nat → DT} {b : BI} {es : AEs} {A : Env} {B : Mem} : evT T (.bi b es) A B = ob2 (ob2 (evEs T [] es A B) fun ws B1 => eBi false b ws B1) fun z B1 => ob (oTru z B1) fun q => some (q, B1) := rfl
theorem evT_isi {T : Nat → DT} {ts : List TN} {a : AE} {A : Env} {B : Mem} : evT T (.isi ts a) A B = ob2 (evE T 0 a A B) fun x B1 => ob (rd B1 x) fun d => some (dIsi ts d, B1) := rfl
theorem evT_lc {T : Nat → DT} {it : AI} {g : AG} {t : AE} {e : AE} {vs : List Nat} {A : Env} {B : Mem} : evT T (.lc it g t e vs) A B = ob2 (ob2 (evI T it A B) fun xs B1 => gu (xs.length ≤ sizeLine) (ob2 (lcL (lcStep (evG g) (evT T t) (evE T 0 e) (wipeA A vs)) xs B1) fun ds B2 => some (newO false ds B2))) fun z B1 => ob (oTru z B1) fun q => some (q, B1) := rfl
theorem evO_omit {T : Nat → DT}  {A : Env} {B : Mem} : evO T (.omit) A B = some (none, B) := rfl
theorem evO_var {T : Nat → DT} {i : Nat} {A : Env} {B : Mem} : evO T (.var i) A B = ob2 (oVar i A B) fun z B1 => ob (oK z) fun d => ob (oInt d) fun n => some (some n, B1) := rfl
theorem evO_c {T : Nat → DT} {x : PyData} {A : Env} {B : Mem} : evO T (.c x) A B = ob (oInt x) fun n => some (some n, B) := rfl
theorem evO_op2 {T : Nat → DT} {o : O2} {a : AE} {b : AE} {A : Env} {B : Mem} : evO T (.op2 o a b) A B = ob2 (ob2 (evE T 0 a A B) fun x B1 => ob2 (evE T 0 b A B1) fun y B2 => e2 false o x y B2) fun z B1 => ob (oK z) fun d => ob (oInt d) fun n => some (some n, B1) := rfl
theorem evO_neg {T : Nat → DT} {a : AE} {A : Env} {B : Mem} : evO T (.neg a) A B = ob2 (ob2 (evE T 0 a A B) fun x B1 => eD1 false oNeg x B1) fun z B1 => ob (oK z) fun d => ob (oInt d) fun n => some (some n, B1) := rfl
theorem evO_call {T : Nat → DT} {f : Nat} {es : AEs} {A : Env} {B : Mem} : evO T (.call f es) A B = ob2 (ob2 (evEs T [] es A B) fun ws B1 => eCall (T f) 0 ws B1) fun z B1 => ob (oK z) fun d => ob (oInt d) fun n => some (some n, B1) := rfl
theorem evO_bi {T : Nat → DT} {b : BI} {es : AEs} {A : Env} {B : Mem} : evO T (.bi b es) A B = ob2 (ob2 (evEs T [] es A B) fun ws B1 => eBi false b ws B1) fun z B1 => ob (oK z) fun d => ob (oInt d) fun n => some (some n, B1) := rfl
theorem evEs_nil {T : Nat → DT} {ks : List Nat}  {A : Env} {B : Mem} : evEs T ks (.nil) A B = some ([], B) := rfl
theorem evEs_cons {T : Nat → DT} {ks : List Nat} {a : AE} {es : AEs} {A : Env} {B : Mem} : evEs T ks (.cons a es) A B = ob2 (evE T (hd0 ks) a A B) fun x B1 => ob2 (evEs T ks.tail es A B1) fun xs B2 => some (x :: xs, B2) := rfl
theorem evI_seq {T : Nat → DT} {a : AE} {A : Env} {B : Mem} : evI T (.seq a) A B = ob2 (evE T 0 a A B) fun x B1 => ob (seqO x) fun xs => some (xs, B1) := rfl
theorem evI_r1 {T : Nat → DT} {es : AEs} {A : Env} {B : Mem} : evI T (.r1 es) A B = ob2 (evEs T [] es A B) fun ws B1 => ob (r1O ws) fun xs => some (xs, B1) := rfl
theorem evI_r2 {T : Nat → DT} {es : AEs} {A : Env} {B : Mem} : evI T (.r2 es) A B = ob2 (evEs T [] es A B) fun ws B1 => ob (r2O ws) fun xs => some (xs, B1) := rfl
theorem evI_r3 {T : Nat → DT} {es : AEs} {A : Env} {B : Mem} : evI T (.r3 es) A B = ob2 (evEs T [] es A B) fun ws B1 => ob (r3O ws) fun xs => some (xs, B1) := rfl
theorem evI_zip {T : Nat → DT} {es : AEs} {A : Env} {B : Mem} : evI T (.zip es) A B = ob2 (evEs T [] es A B) fun ws B1 => ob (zipO ws) fun xs => some (xs, B1) := rfl
theorem evI_enum {T : Nat → DT} {es : AEs} {A : Env} {B : Mem} : evI T (.enum es) A B = ob2 (evEs T [] es A B) fun ws B1 => ob (enumO ws) fun xs => some (xs, B1) := rfl
theorem evG_nm  {i : Nat} {w : AV} {A : Env} {B : Mem} : evG  (.nm i) w A B = some (A.set i (some w), B) := rfl
theorem evG_tp  {gs : AGs} {w : AV} {A : Env} {B : Mem} : evG  (.tp gs) w A B = ob (tupO w) fun ds => gu (ds.length = lenG gs) (evGs gs ds A B) := rfl
theorem evS_pass {T : Nat → DT} {np : Nat} {mu : List (Nat × Nat)}  {A : Env} {B : Mem} : evS T np mu (.pass) A B = some (.nx A B) := rfl
theorem evS_brk {T : Nat → DT} {np : Nat} {mu : List (Nat × Nat)}  {A : Env} {B : Mem} : evS T np mu (.brk) A B = some (.bk A B) := rfl
theorem evS_cont {T : Nat → DT} {np : Nat} {mu : List (Nat × Nat)}  {A : Env} {B : Mem} : evS T np mu (.cont) A B = some (.ct A B) := rfl
theorem evS_never {T : Nat → DT} {np : Nat} {mu : List (Nat × Nat)}  {A : Env} {B : Mem} : evS T np mu (.never) A B = none := rfl
theorem evS_retN {T : Nat → DT} {np : Nat} {mu : List (Nat × Nat)}  {A : Env} {B : Mem} : evS T np mu (.retN) A B = some (.rt (.d .none) B) := rfl
theorem evS_drop {T : Nat → DT} {np : Nat} {mu : List (Nat × Nat)} {e : AE} {A : Env} {B : Mem} : evS T np mu (.drop e) A B = ob2 (evE T 0 e A B) fun _ B1 => some (.nx A B1) := rfl
theorem evS_asg {T : Nat → DT} {np : Nat} {mu : List (Nat × Nat)} {g : AG} {e : AE} {A : Env} {B : Mem} : evS T np mu (.asg g e) A B = ob2 (evE T (kdG mu g) e A B) fun w B1 => ob2 (evG g w A B1) fun A2 B2 => some (.nx A2 B2) := rfl
theorem evS_par {T : Nat → DT} {np : Nat} {mu : List (Nat × Nat)} {i : Nat} {j : Nat} {es : AEs} {A : Env} {B : Mem} : evS T np mu (.par i j es) A B = ob2 (evEs T [kd mu i, kd mu j] es A B) fun ws B1 => par2 i j ws A B1 := rfl
theorem evS_par3 {T : Nat → DT} {np : Nat} {mu : List (Nat × Nat)} {i : Nat} {j : Nat} {l : Nat} {es : AEs} {A : Env} {B : Mem} : evS T np mu (.par3 i j l es) A B = ob2 (evEs T [kd mu i, kd mu j, kd mu l] es A B) fun ws B1 => par3 i j l ws A B1 := rfl
theorem evS_parT {T : Nat → DT} {np : Nat} {mu : List (Nat × Nat)} {ix : List Nat} {es : AEs} {A : Env} {B : Mem} : evS T np mu (.parT ix es) A B = ob2 (evEs T (ix.map fun i => kd mu i) es A B) fun ws B1 => parTO ix ws A B1 := rfl
theorem evS_put {T : Nat → DT} {np : Nat} {mu : List (Nat × Nat)} {v : AE} {o : AE} {i : AE} {A : Env} {B : Mem} : evS T np mu (.put v o i) A B = ob2 (evE T 0 v A B) fun v B1 => ob2 (evE T 0 o A B1) fun o B2 => ob2 (evE T 0 i A B2) fun i B3 => ob (ePut o i v B3) fun B4 => some (.nx A B4) := rfl
theorem evS_aug {T : Nat → DT} {np : Nat} {mu : List (Nat × Nat)} {i : Nat} {plus : Bool} {e : AE} {A : Env} {B : Mem} : evS T np mu (.aug i plus e) A B = ob (augO i A) fun n => ob2 (evE T 0 e A B) fun w B1 => ob (oI w) fun m => some (.nx (A.set i (some (.d (.int (if plus = true then n + m else n - m))))) B1) := rfl
theorem evS_ife {T : Nat → DT} {np : Nat} {mu : List (Nat × Nat)} {t : AE} {a : ASs} {b : ASs} {A : Env} {B : Mem} : evS T np mu (.ife t a b) A B = ob2 (evT T t A B) fun q B1 => if q = true then evSs T np mu a A B1 else evSs T np mu b A B1 := rfl
theorem evS_for_ {T : Nat → DT} {np : Nat} {mu : List (Nat × Nat)} {it : AI} {g : AG} {b : ASs} {A : Env} {B : Mem} : evS T np mu (.for_ it g b) A B = ob2 (evI T it A B) fun xs B1 => gu (np ≤ B1.length) (forL (forS (evG g) (evSs T np mu b) (keepA mu A) B1.length) xs A B1) := rfl
theorem evS_while_ {T : Nat → DT} {np : Nat} {mu : List (Nat × Nat)} {t : AE} {b : ASs} {A : Env} {B : Mem} : evS T np mu (.while_ t b) A B = gu (np ≤ B.length) (whileL (whileS (evT T t) (evSs T np mu b) (keepA mu A) B.length) rounds A B) := rfl
theorem evS_ret {T : Nat → DT} {np : Nat} {mu : List (Nat × Nat)} {e : AE} {A : Env} {B : Mem} : evS T np mu (.ret e) A B = ob2 (evE T 1 e A B) fun w B1 => some (.rt w B1) := rfl
theorem evS_sh {T : Nat → DT} {np : Nat} {mu : List (Nat × Nat)} {s : AS} {A : Env} {B : Mem} : evS T np mu (.sh s) A B = evS T np mu s (frzs np (dpS mu s) A B).1 (frzs np (dpS mu s) A B).2 := rfl
theorem evSs_nil {T : Nat → DT} {np : Nat} {mu : List (Nat × Nat)}  {A : Env} {B : Mem} : evSs T np mu (.nil) A B = some (.nx A B) := rfl
theorem evSs_cons {T : Nat → DT} {np : Nat} {mu : List (Nat × Nat)} {s : AS} {ss : ASs} {A : Env} {B : Mem} : evSs T np mu (.cons s ss) A B = ob (evS T np mu s A B) fun o => thenO o (evSs T np mu ss) := rfl
theorem evGs_nil {A : Env} {B : Mem} : evGs .nil [] A B = some (A, B) := rfl
theorem evGs_cons {g : AG} {gs : AGs} {d : PyData} {r : List PyData} {A : Env} {B : Mem} : evGs (.cons g gs) (d :: r) A B = ob2 (evG g (.d d) A B) fun A1 B1 => evGs gs r A1 B1 := rfl
def isI : PyData → Bool
  | .int _ => true
  | _ => false
def isIB : PyData → Bool
  | .int _ => true
  | .bool _ => true
  | _ => false
def isBo : PyData → Bool
  | .bool _ => true
  | _ => false
def isSt : PyData → Bool
  | .str _ => true
  | _ => false
def isLi : PyData → Bool
  | .list _ => true
  | _ => false
def isTu : PyData → Bool
  | .tuple _ => true
  | _ => false
theorem isi_i (d : PyData) : dIsi [.int] d = isIB d := by cases d <;> rfl
theorem isi_b (d : PyData) : dIsi [.bool] d = isBo d := by cases d <;> rfl
theorem isi_s (d : PyData) : dIsi [.str] d = isSt d := by cases d <;> rfl
theorem isi_l (d : PyData) : dIsi [.list] d = isLi d := by cases d <;> rfl
theorem isi_t (d : PyData) : dIsi [.tuple] d = isTu d := by cases d <;> rfl
theorem isi_lt' (d : PyData) : dIsi [.list, .tuple] d = (isLi d || isTu d) := by cases d <;> rfl
theorem isi_is' (d : PyData) : dIsi [.int, .str] d = (isIB d || isSt d) := by cases d <;> rfl
theorem not_int {d : PyData} (h : isI d = true) : ∃ i, d = .int i := by cases d <;> first | exact ⟨_, rfl⟩ | cases h
theorem is_tup {d : PyData} (h : isTu d = true) : ∃ i, d = .tuple i := by cases d <;> first | exact ⟨_, rfl⟩ | cases h
theorem is_lst {d : PyData} (h : isLi d = true) : ∃ i, d = .list i := by cases d <;> first | exact ⟨_, rfl⟩ | cases h
theorem is_str {d : PyData} (h : isSt d = true) : ∃ i, d = .str i := by cases d <;> first | exact ⟨_, rfl⟩ | cases h
theorem lcL_map {α β : Type} {step : β → Mem → Option (Option PyData × Mem)} {f : α → β} : ∀ {xs : List α} {B : Mem}, lcL step (xs.map f) B = lcL (fun x => step (f x)) xs B
  | [], _ => rfl
  | x :: xs, B => by
    rw [List.map_cons, lcL, lcL]
    congr 1
    funext o B1
    rw [lcL_map]
theorem acL_map {α β γ : Type} {step : β → γ → Mem → Option (γ × Mem)} {f : α → β} : ∀ {xs : List α} {acc : γ} {B : Mem}, acL step (xs.map f) acc B = acL (fun x => step (f x)) xs acc B
  | [], _, _ => rfl
  | x :: xs, acc, B => by
    rw [List.map_cons, acL, acL]
    congr 1
    funext o B1
    rw [acL_map]
theorem acL_pure {α γ : Type} {step : α → γ → Mem → Option (γ × Mem)} {f : γ → α → γ} {B : Mem} : ∀ {xs : List α} {acc : γ}, (∀ x ∈ xs, ∀ acc, step x acc B = some (f acc x, B)) → acL step xs acc B = some (xs.foldl f acc, B)
  | [], _, _ => rfl
  | x :: xs, acc, h => by
    rw [acL, h x List.mem_cons_self, ob2_some, acL_pure fun y hy => h y (List.mem_cons_of_mem _ hy)]
    rfl
theorem mtL_pure {α : Type} {step : α → List (List PyData) → Mem → Option (List (List PyData) × Mem)} {g : α → List PyData} {B : Mem} : ∀ {xs : List α} {rows : List (List PyData)}, (∀ x ∈ xs, ∀ rows, step x rows B = some (rows ++ [g x], B)) → acL step xs rows B = some (rows ++ xs.map g, B)
  | [], rows, _ => by rw [acL, List.map_nil, List.append_nil]
  | x :: xs, rows, h => by
    rw [acL, h x List.mem_cons_self, ob2_some, mtL_pure fun y hy => h y (List.mem_cons_of_mem _ hy), List.append_assoc]
    rfl
theorem mtO_new {B : Mem} {rows : List (List PyData)} {ds : List PyData} : mtO B.length rows (.m (B ++ rows.map MC.lst).length) ((B ++ rows.map MC.lst) ++ [MC.lst ds]) = some ds := by
  unfold mtO
  have e : (B ++ rows.map MC.lst).length = B.length + rows.length := by simp
  rw [← e, List.drop_left]
  show gu _ _ = _
  unfold gu
  refine if_pos ⟨rfl, ?_, by simp⟩
  rw [List.take_left, List.drop_left]
theorem mtO_new0 {rows : List (List PyData)} {ds : List PyData} : mtO 0 rows (.m rows.length) (rows.map MC.lst ++ [MC.lst ds]) = some ds := by
  have := mtO_new (B := []) (rows := rows) (ds := ds)
  simpa using this
theorem mtO_new1 {c : MC} {rows : List (List PyData)} {ds : List PyData} : mtO 1 rows (.m (rows.length + 1)) (c :: (rows.map MC.lst ++ [MC.lst ds])) = some ds := by
  have := mtO_new (B := [c]) (rows := rows) (ds := ds)
  simpa using this
theorem mt_take {B : Mem} {rows : List (List PyData)} {ds : List PyData} : ((B ++ rows.map MC.lst) ++ [MC.lst ds]).take B.length = B := by rw [List.append_assoc, List.take_left]
theorem lcL_pure {α : Type} {step : α → Mem → Option (Option PyData × Mem)} {g : α → PyData} {B : Mem} : ∀ {xs : List α}, (∀ x ∈ xs, step x B = some (some (g x), B)) → lcL step xs B = some (xs.map g, B)
  | [], _ => rfl
  | x :: xs, h => by
    rw [lcL, h x List.mem_cons_self, ob2_some, lcL_pure fun y hy => h y (List.mem_cons_of_mem _ hy)]
    rfl
theorem lcL_filter {α : Type} {step : α → Mem → Option (Option PyData × Mem)} {p : α → Bool} {g : α → PyData} {B : Mem} : ∀ {xs : List α}, (∀ x ∈ xs, step x B = some (if p x = true then some (g x) else none, B)) → lcL step xs B = some ((xs.filter p).map g, B)
  | [], _ => rfl
  | x :: xs, h => by
    rw [lcL, h x List.mem_cons_self, ob2_some, lcL_filter fun y hy => h y (List.mem_cons_of_mem _ hy)]
    rw [List.filter_cons]
    split <;> rfl
theorem forL_map {α β : Type} {step : β → Env → Mem → Option Out} {f : α → β} : ∀ {xs : List α} {A : Env} {B : Mem}, forL step (xs.map f) A B = forL (fun x => step (f x)) xs A B
  | [], _, _ => rfl
  | x :: xs, A, B => by
    rw [List.map_cons, forL, forL]
    congr 1
    funext o
    cases o <;> first | rfl | exact forL_map
theorem forL_fold {α σ : Type} {step : α → Env → Mem → Option Out} (E : σ → Env) (M : σ → Mem) (f : σ → α → σ) (I : List α → σ → Prop) : ∀ {done : List α} (xs : List α) (s : σ), I done s →
    (∀ (d : List α) (x : α) (r : List α) (s : σ), done ++ xs = d ++ x :: r → I d s → step x (E s) (M s) = some (.nx (E (f s x)) (M (f s x))) ∧ I (d ++ [x]) (f s x)) →
    forL step xs (E s) (M s) = some (.nx (E (xs.foldl f s)) (M (xs.foldl f s))) ∧ I (done ++ xs) (xs.foldl f s)
  | done, [], s, hI, _ => ⟨rfl, by rw [List.append_nil]; exact hI⟩
  | done, x :: xs, s, hI, h => by
    obtain ⟨h1, h2⟩ := h done x xs s rfl hI
    rw [forL, h1, ob_some]
    have := forL_fold E M f I (done := done ++ [x]) xs (f s x) h2 (fun d y r t e hd => h d y r t (by rw [← e, List.append_assoc]; rfl) hd)
    rw [List.append_assoc] at this
    exact this
theorem forL_foldU {α σ : Type} {step : α → Env → Mem → Option Out} (E : σ → Env) (M : σ → Mem) (f : σ → α → σ) (xs : List α) (s : σ) (h : ∀ x ∈ xs, ∀ s, step x (E s) (M s) = some (.nx (E (f s x)) (M (f s x)))) :
    forL step xs (E s) (M s) = some (.nx (E (xs.foldl f s)) (M (xs.foldl f s))) := by
  refine (forL_fold E M f (fun _ _ => True) (done := []) xs s trivial fun d x r s e _ => ⟨h x ?_ s, trivial⟩).1
  have : x ∈ ([] ++ xs : List α) := by rw [e]; simp
  simpa using this
theorem forL_inv {α : Type} {step : α → Env → Mem → Option Out} (I : List α → Env → Mem → Prop) : ∀ {done : List α} (xs : List α) {A : Env} {B : Mem}, I done A B →
    (∀ (d : List α) (x : α) (r : List α) (A : Env) (B : Mem), done ++ xs = d ++ x :: r → I d A B → ∃ A' B', step x A B = some (.nx A' B') ∧ I (d ++ [x]) A' B') →
    ∃ A' B', forL step xs A B = some (.nx A' B') ∧ I (done ++ xs) A' B'
  | done, [], A, B, hI, _ => ⟨A, B, rfl, by rw [List.append_nil]; exact hI⟩
  | done, x :: xs, A, B, hI, h => by
    obtain ⟨A1, B1, h1, h2⟩ := h done x xs A B rfl hI
    rw [forL, h1, ob_some]
    have := forL_inv I (done := done ++ [x]) xs h2 (fun d y r t u e hd => h d y r t u (by rw [← e, List.append_assoc]; rfl) hd)
    rw [List.append_assoc] at this
    exact this
theorem forL_find {α : Type} {step : α → Env → Mem → Option Out} {A : Env} {B : Mem} {p : α → Bool} {v : AV} : ∀ (xs : List α), (∀ x ∈ xs, step x A B = if p x = true then some (.rt v B) else some (.nx A B)) →
    forL step xs A B = if xs.any p = true then some (.rt v B) else some (.nx A B)
  | [], _ => rfl
  | x :: xs, h => by
    rw [forL, h x List.mem_cons_self, List.any_cons]
    by_cases e : p x = true
    · rw [if_pos e, e]; rfl
    · rw [if_neg e, ob_some]
      simp only [e, Bool.false_or]
      exact forL_find xs fun y hy => h y (List.mem_cons_of_mem _ hy)
theorem whileL_inv {step : Env → Mem → Option Out} (I : Nat → Env → Mem → Prop) (R : Env → Mem → Prop) (h : ∀ m A B, I m A B → (∃ A' B' m', step A B = some (.nx A' B') ∧ m' < m ∧ I m' A' B') ∨ ∃ A' B', step A B = some (.bk A' B') ∧ R A' B') :
    ∀ (n m : Nat) {A : Env} {B : Mem}, m < n → I m A B → ∃ A' B', whileL step n A B = some (.nx A' B') ∧ R A' B'
  | 0, m, _, _, hm, _ => absurd hm (Nat.not_lt_zero _)
  | n + 1, m, A, B, hm, hI => by
    rw [whileL]
    rcases h m A B hI with ⟨A', B', m', h1, h2, h3⟩ | ⟨A', B', h1, h2⟩
    · rw [h1, ob_some]
      exact whileL_inv I R h n m' (by omega) h3
    · rw [h1, ob_some]
      exact ⟨A', B', rfl, h2⟩
theorem rounds_big {m : Nat} (h : m < 1000000000) : m < rounds := Nat.lt_trans h (by decide)
theorem lg2 {n a : Nat} (h : n < 2 ^ a) : n.log2 ≤ a := by
  by_cases z : n = 0
  · subst z; simp
  · exact Nat.le_of_lt ((Nat.log2_lt z).mpr h)
theorem mulW {i j : Int} (h1 : i.natAbs < 2 ^ 400) (h2 : j.natAbs < 2 ^ 400) : MulOk i j := .inr (by
  have a := lg2 h1
  have b := lg2 h2
  show i.natAbs.log2 + j.natAbs.log2 < 1000000
  omega)
theorem divW {i j : Int} (h1 : 0 < j) (h2 : j < 2 ^ 64) : CDivW i j := ⟨h1, by
  have : j.natAbs < 2 ^ 64 := by omega
  have := lg2 this
  omega⟩
theorem gu_mulL {α : Type} {i j : Int} {x : Option α} (h : -18446744073709551616 < i ∧ i < 18446744073709551616) : @gui α (MulOk i j) ⟨x⟩ = x := if_pos (.inl (.inl ⟨by omega, by omega⟩))
theorem gu_mulR {α : Type} {i j : Int} {x : Option α} (h : -18446744073709551616 < j ∧ j < 18446744073709551616) : @gui α (MulOk i j) ⟨x⟩ = x := if_pos (.inl (.inr ⟨by omega, by omega⟩))
theorem gu_div {α : Type} {i j : Int} {x : Option α} (h : 0 < j ∧ j < 18446744073709551616) : @gui α (CDivW i j) ⟨x⟩ = x := if_pos (divW h.1 (by omega))
theorem gu_pow10 {α : Type} {j : Int} {x : Option α} (h : 0 ≤ j ∧ j ≤ 1000000) : @gui α (CPow 10 j) ⟨x⟩ = x := if_pos ⟨h.1, h.2, by decide⟩
theorem gu_ix {α : Type} {j : Int} {x : Option α} (h : -9223372036854775808 ≤ j ∧ j < 9223372036854775808) : @gui α (-9223372036854775808 ≤ j ∧ j < 9223372036854775808) ⟨x⟩ = x := if_pos h
theorem gu_rgk {α : Type} {j : Int} {x : Option α} (h : 0 ≤ j ∧ j ≤ 1000000) : @gui α (RgOk 0 j) ⟨x⟩ = x := if_pos (RgOk.of_le (by omega) (by omega) (by omega) (by omega))
theorem gu_posI {α : Type} {j : Int} {x : Option α} (h : 0 < j) : @gui α (0 < j) ⟨x⟩ = x := if_pos h
theorem gu_rg {α : Type} {j : Int} {x : Option α} (h : -4611686018427387904 ≤ j ∧ j < 4611686018427387904) : @gui α (RgB j) ⟨x⟩ = x := if_pos ⟨by omega, by omega⟩
theorem gu_rg2 {α : Type} {i j : Int} {x : Option α} (h : (-4611686018427387904 ≤ i ∧ i < 4611686018427387904) ∧ -4611686018427387904 ≤ j ∧ j < 4611686018427387904) : @gui α (RgB i ∧ RgB j) ⟨x⟩ = x := if_pos ⟨⟨by omega, by omega⟩, by omega, by omega⟩
theorem atI_0 {α : Type} {x : α} {xs : List α} : atI (x :: xs) 0 = some x := atI_nat (j := 0) rfl
theorem atI_1 {α : Type} {x y : α} {xs : List α} : atI (x :: y :: xs) 1 = some y := atI_nat (j := 1) rfl
theorem atI_2 {α : Type} {x y z : α} {xs : List α} : atI (x :: y :: z :: xs) 2 = some z := atI_nat (j := 2) rfl
theorem atI_3 {α : Type} {x y z u : α} {xs : List α} : atI (x :: y :: z :: u :: xs) 3 = some u := atI_nat (j := 3) rfl
theorem atI_4 {α : Type} {x y z u v : α} {xs : List α} : atI (x :: y :: z :: u :: v :: xs) 4 = some v := atI_nat (j := 4) rfl
theorem atI_i {α : Type} {xs : List α} {j : Nat} {x : α} (h : xs[j]? = some x) : atI xs (j : Int) = some x := atI_nat h
theorem ixN_0 {n : Nat} (h : 0 < n) : ixN n 0 = some 0 := by unfold ixN; rw [if_pos (by decide), if_pos (by omega)]; rfl
theorem ixN_c {n j : Nat} (h : j < n) : ixN n (j : Int) = some j := by unfold ixN; rw [if_pos (by omega), if_pos (by omega)]; simp
theorem ixN_lit {n : Nat} {i : Int} (h : 0 ≤ i ∧ i < n) : ixN n i = some i.toNat := by unfold ixN; rw [if_pos h.1, if_pos h.2]
theorem ixN_neg {n : Nat} {i : Int} (h : i < 0 ∧ -(n : Int) ≤ i) : ixN n i = some (i + n).toNat := by unfold ixN; rw [if_neg (by omega), if_pos h.2]
theorem atI_ge {α : Type} {xs : List α} {i : Int} (h : 0 ≤ i) : atI xs i = xs[i.toNat]? := by
  unfold atI ixN
  rw [if_pos h]
  by_cases e : i < xs.length
  · rw [if_pos e]; rfl
  · rw [if_neg e, List.getElem?_eq_none (by omega)]; rfl
theorem atI_lst {α : Type} (xs : List α) (x : α) : atI (xs ++ [x]) (-1) = some x := atI_last xs x
theorem lcL_nil {α : Type} {step : α → Mem → Option (Option PyData × Mem)} {B : Mem} : lcL step [] B = some ([], B) := rfl
theorem lcL_cons {α : Type} {step : α → Mem → Option (Option PyData × Mem)} {x : α} {xs : List α} {B : Mem} : lcL step (x :: xs) B = ob2 (step x B) fun o B1 => ob2 (lcL step xs B1) fun ds B2 => some (o.toList ++ ds, B2) := rfl
theorem lcS_eq {g : AV → Env → Mem → Option (Env × Mem)} {t : Env → Mem → Option (Bool × Mem)} {f : Env → Mem → Option (AV × Mem)} {A : Env} {x : PyData} {B : Mem} : lcStep g t f A x B =
  ob2 (g (.d x) A B) fun A2 B3 => ob2 (t A2 B3) fun b B4 => if b = true then ob2 (f A2 B4) fun y B5 => ob (oK y) fun d => some (some d, B5) else some (none, B4) := rfl
theorem forS_eq {g : AV → Env → Mem → Option (Env × Mem)} {b : Env → Mem → Option Out} {A0 : Env} {n0 : Nat} {x : PyData} {A : Env} {B : Mem} : forS g b A0 n0 x A B = ob2 (g (.d x) A B) fun A2 B2 => ob (b A2 B2) (fin A0 n0) := rfl
theorem whileS_eq {t : Env → Mem → Option (Bool × Mem)} {b : Env → Mem → Option Out} {A0 : Env} {n0 : Nat} {A : Env} {B : Mem} : whileS t b A0 n0 A B = ob2 (t A B) fun q B2 => if q = true then ob (b A B2) (fin A0 n0) else some (.bk A B2) := rfl
theorem forL_nil {α : Type} {step : α → Env → Mem → Option Out} {A : Env} {B : Mem} : forL step [] A B = some (.nx A B) := rfl
theorem forL_cons {α : Type} {step : α → Env → Mem → Option Out} {x : α} {xs : List α} {A : Env} {B : Mem} : forL step (x :: xs) A B = ob (step x A B) fun o => match o with
    | .nx A' B' => forL step xs A' B'
    | .ct A' B' => forL step xs A' B'
    | .bk A' B' => some (.nx A' B')
    | .rt v B' => some (.rt v B') := rfl
theorem zipD_nil {ys : List PyData} : zipD [] ys = [] := rfl
theorem zipD_cons {x y : PyData} {xs ys : List PyData} : zipD (x :: xs) (y :: ys) = .tuple [x, y] :: zipD xs ys := rfl
theorem zipD_map {α β : Type} {f : α → PyData} {g : β → PyData} (xs : List α) (ys : List β) : zipD (xs.map f) (ys.map g) = (xs.zip ys).map fun p => .tuple [f p.1, g p.2] := by
  unfold zipD
  induction xs generalizing ys with
  | nil => rfl
  | cons x xs ih =>
    cases ys with
    | nil => rfl
    | cons y ys => rw [List.map_cons, List.map_cons, List.zipWith_cons_cons, ih, List.zip_cons_cons, List.map_cons]
theorem for_inv {α : Type} {step : α → Env → Mem → Option Out} {xs : List α} {A : Env} {B : Mem} {q : Option Out} (hq : forL step xs A B = q) (I : List α → Env → Mem → Prop) (h0 : I [] A B)
    (h : ∀ (d : List α) (x : α) (r : List α) (A : Env) (B : Mem), xs = d ++ x :: r → I d A B → ∃ A' B', step x A B = some (.nx A' B') ∧ I (d ++ [x]) A' B') : ∃ A' B', q = some (.nx A' B') ∧ I xs A' B' := by
  obtain ⟨A', B', h1, h2⟩ := forL_inv I (done := []) xs h0 h
  exact ⟨A', B', hq ▸ h1, h2⟩
theorem for_invN {α : Type} {step : α → Env → Mem → Option Out} {xs : List α} {A : Env} {B : Mem} {q : Option Out} (hq : forL step xs A B = q) (I : Nat → Env → Mem → Prop) (h0 : I 0 A B)
    (h : ∀ (i : Nat) (x : α) (A : Env) (B : Mem), xs[i]? = some x → I i A B → ∃ A' B', step x A B = some (.nx A' B') ∧ I (i + 1) A' B') : ∃ A' B', q = some (.nx A' B') ∧ I xs.length A' B' := by
  refine for_inv hq (fun d A B => I d.length A B) h0 fun d x r A B e hI => ?_
  obtain ⟨A', B', h1, h2⟩ := h d.length x A B (by rw [e]; simp) hI
  exact ⟨A', B', h1, by simpa using h2⟩
theorem while_inv {step : Env → Mem → Option Out} {A : Env} {B : Mem} {q : Option Out} (hq : whileL step rounds A B = q) (I : Nat → Env → Mem → Prop) (R : Env → Mem → Prop) (m : Nat) (hm : m < 1000000000) (h0 : I m A B)
    (h : ∀ m A B, I m A B → (∃ A' B' m', step A B = some (.nx A' B') ∧ m' < m ∧ I m' A' B') ∨ ∃ A' B', step A B = some (.bk A' B') ∧ R A' B') : ∃ A' B', q = some (.nx A' B') ∧ R A' B' := by
  obtain ⟨A', B', h1, h2⟩ := whileL_inv I R h rounds m (rounds_big hm) h0
  exact ⟨A', B', hq ▸ h1, h2⟩
theorem all_tt {α : Type} (xs : List α) : (xs.all fun _ => true) = true := by simp
theorem toBools_f {α : Type} {g : α → Bool} (xs : List α) : toBools (xs.map fun p => .bool (g p)) = some (xs.map g) := by
  have := toBools_map (xs.map g)
  rw [List.map_map] at this
  exact this
theorem toInts_f {α : Type} {g : α → Int} (xs : List α) : toInts (xs.map fun p => .int (g p)) = some (xs.map g) := by
  have := toInts_map (xs.map g)
  rw [List.map_map] at this
  exact this
theorem cut_from (xs : List PyData) (n : Nat) : Dl.cutD xs (some (n : Int)) none = xs.drop n := by
  unfold Dl.cutD
  rw [show HT.sIx xs.length 0 (some (n : Int)) = min n xs.length from HT.sIx_nat xs.length 0 n, HT.sIx_none]
  by_cases h : n ≤ xs.length
  · rw [Nat.min_eq_left h]
    exact List.take_of_length_le (by rw [List.length_drop]; omega)
  · rw [Nat.min_eq_right (by omega), List.drop_length, List.drop_eq_nil_of_le (by omega)]
    simp
theorem cut_i (xs : List PyData) {i : Int} (h : 0 ≤ i) : Dl.cutD xs none (some i) = xs.take i.toNat := by
  have := cut_to xs i.toNat
  rw [Int.toNat_of_nonneg h] at this
  exact this
theorem cut_f (xs : List PyData) {i : Int} (h : 0 ≤ i) : Dl.cutD xs (some i) none = xs.drop i.toNat := by
  have := cut_from xs i.toNat
  rw [Int.toNat_of_nonneg h] at this
  exact this
theorem lt_ints {ns : List Int} {i : Int} (h0 : 0 ≤ i) (h1 : i < ns.length) : atI (ns.map PyData.int) i = some (.int (ns.getD i.toNat 0)) := by
  rw [atI_ge h0, List.getElem?_map, List.getD_eq_getElem?_getD, List.getElem?_eq_getElem (by omega)]
  rfl
theorem r3_down {i j : Int} (ha : -(2 ^ 62) ≤ i) (ha' : i < 2 ^ 62) (hb : -(2 ^ 62) ≤ j) (hb' : j < 2 ^ 62) : r3O [.d (.int i), .d (.int j), .d (.int (-1))] = some (rangeC i (-1) (i - j).toNat) := by
  obtain ⟨h1, h2, h3, h4⟩ := RgC.neg ha ha' hb hb'
  show gu _ _ = _
  unfold gu
  rw [if_pos ⟨h1, h2, h3, by rw [h4]; omega⟩, h4, Int.toNat_natCast]
theorem isRow_len {x : PyData} {lo hi : Int} (h : True) : True := h
theorem keepA_nil {A : Env} : keepA [] A = A := rfl
theorem keepA_cons {i j : Nat} {r : List (Nat × Nat)} {A : Env} : keepA ((i, j) :: r) A = if j = 9 then (keepA r A).set (i - 1000) (some (.d .none)) else keepA r A := rfl
theorem sh_nil : SeqAt.shaped (.list []) = true := shaped_list (xs := []) rfl (by decide)
theorem sh_nilT : SeqAt.shaped (.tuple []) = true := shaped_tuple (xs := []) rfl (by decide)
theorem sh_ones {α : Type} (xs : List α) (c : Int) : SeqAt.shaped (.list (xs.map fun _ => .int c)) = true := by
  have e : (xs.map fun _ => PyData.int c) = (xs.map fun _ => (c : Int)).map .int := by rw [List.map_map]; rfl
  rw [e]
  exact shaped_list (lay_ints _) (by rw [dep_ints]; omega)
theorem sh_ints (ns : List Int) : SeqAt.shaped (.list (ns.map .int)) = true := shaped_list (lay_ints _) (by rw [dep_ints]; omega)
theorem sh_intsT (ns : List Int) : SeqAt.shaped (.tuple (ns.map .int)) = true := shaped_tuple (lay_ints _) (by rw [dep_ints]; omega)
theorem oMul_rep {xs : List PyData} {n : Int} (h0 : 0 ≤ n) (h : xs.length * n.toNat ≤ 1000000) (hn : n < 2 ^ 63) : oMul (.list xs) (.int n) = some (.l (List.replicate n.toNat xs).flatten) := by
  have h1 := sz h
  show gu _ _ = _
  unfold gu
  exact if_pos ⟨by omega, hn, h1⟩
theorem hideF_d {n : Nat} {x : PyData} : hideF n (some (.d x)) = some (.d x) := rfl
theorem hideF_k {n : Nat} {x : List PyData} : hideF n (some (.kt x)) = some (.kt x) := rfl
theorem hideF_s {n : Nat} {x : List Int} : hideF n (some (.sc x)) = some (.sc x) := rfl
theorem hideF_n {n : Nat} : hideF n none = none := rfl
theorem hideF_m {n j : Nat} (h : j < n) : hideF n (some (.m j)) = some (.m j) := if_pos h
theorem hideF_g {n j : Nat} (h : n ≤ j) : hideF n (some (.m j)) = none := if_neg (by omega)
theorem hideF_r {n j i : Nat} (h : j < n) : hideF n (some (.r j i)) = some (.r j i) := if_pos h
theorem hideF_rg {n j i : Nat} (h : n ≤ j) : hideF n (some (.r j i)) = none := if_neg (by omega)
theorem gu_str {α : Type} {i : Int} {x : Option α} (h : -1000000000000 < i ∧ i < 1000000000000) : @gui α (i.natAbs.log2 < 1920) ⟨x⟩ = x := if_pos (by
  have : i.natAbs < 2 ^ 64 := by omega
  have := lg2 this
  omega)
theorem cutD_len (xs : List PyData) (lo hi : Option Int) : (Dl.cutD xs lo hi).length ≤ xs.length := by
  unfold Dl.cutD
  rw [List.length_take, List.length_drop]
  omega
end Dl

namespace Hs
open L2 Dl PySem PyProof.Rows PySem.Spec
local macro_rules
  | `(tactic| simp_arith [$ls,*]) => `(tactic| simp -implicitDefEqProofs (disch := omega) only [↓ob_i, ↓ob2_i, ↓gu_i, ↓cs_i, obi_some, ob2i_some, obi_none, ob2i_none, obi_obi, obi_ob2i, ob2i_obi, ob2i_ob2i, obi_gui, ob2i_gui, obi_csi, ob2i_csi, csi_t, csi_f, gui_true, headD_nil, tail_nil, oPow, evE_var, evE_c, evE_kt, evE_op2, evE_neg, evE_chain, evE_and, evE_or, evE_not, evE_ife, evE_sl, evE_omit, evE_call, evE_callK, evE_bi, evE_isi, evE_mm, evE_get2, evE_tup, evE_lst, evE_dnew, evE_lc, evE_lcD, evE_dne0, evE_rev, evT_omit, evT_and, evT_or, evT_not, evT_op2, evT_chain, evT_dne0, evT_var, evT_c, evT_call, evT_bi, evT_isi, evT_lc, evO_omit, evO_var, evO_c, evO_op2, evO_neg, evO_call, evO_bi, evEs_nil, evEs_cons, evI_seq, evI_r1, evI_r2, evI_r3, evI_zip, evI_enum, evG_nm, evG_tp, evS_pass, evS_brk, evS_cont, evS_never, evS_retN, evS_drop, evS_asg, evS_par, evS_par3, evS_put, evS_aug, evS_ife, evS_for_, evS_while_, evS_ret, evS_sh, evSs_nil, evSs_cons, evGs_nil, evGs_cons, thenO, Dl.fin, outR, retO, oVar, Dl.e2, eD2, eD1, eAdd, eIs, eIn, eIx, eBi, eBiL, rdL, eCall, eRet, frz_if, Dl.refs, Dl.ren, Dl.rd, Dl.oK, oInt, Dl.oI, resO, newO, oAdd, oSub, oMul, oDiv, oMod, oNeg, oEq, oNe, oEqB, Dl.rB, oLt, oLe, oGt, oGe, oBool, oTru, oBi, oLen, oTup, oIx, isKt, kdOf, dictOf, isN, isi_i, isi_b, isi_s, isi_l, isi_t, isi_lt', isi_is', chainE, dsO, Dl.kd, kdG, dpS, dpE, dpA, dpT, dpV, dpI, vOf, Dl.hd0, par2, par3, frzs, frz1, eMM, isL, lstO, eSl, oSl, isCmp, lenG, tupO, seqO, r1O, r2O, zipO, enumO, bne0, bne1, List.map_cons, List.map_nil, List.length_cons, List.length_nil, List.cons_append, List.nil_append, List.append_nil, List.replicate, List.getElem?_cons_zero, List.getElem?_cons_succ, List.set_cons_zero, List.set_cons_succ, Nat.reduceAdd, Nat.reduceSub, Option.toList, List.headD_cons, List.tail_cons, Bool.or_false, Bool.false_or, Bool.not_true, Bool.not_false, List.lookup, List.all_nil, List.take, Nat.zero_add, ePut, augO, lcS_eq, forS_eq, whileS_eq, wipeA, killA, dropN, hideF_d, hideF_k, hideF_s, hideF_n, hideF_m, hideF_g, hideF_r, hideF_rg, toBools, toInts, intsO, boolsO, isGone, decide_true, decide_false, eq_self, if_true, if_false, Nat.reduceBEq, Nat.reduceBNe, Nat.reduceEqDiff, Nat.reduceLeDiff, Int.reduceLT, Int.reduceLE, Int.reduceEq, Int.reduceNe, Int.reduceBEq, Int.reduceBNe, Int.reduceNeg, reduceIte, reduceCtorEq, Option.getD_none, Option.getD_some, List.lookup_nil, ne_eq, List.length_map, List.length_zip, List.length_drop, List.length_append, Int.cast_ofNat_Int, sh_nil, sh_nilT, sh_ones, eqv_nil, List.isEmpty_map, and_self, and_true, true_and, lcDO, hideJ, List.length_take, keepA_nil, keepA_cons, Nat.reduceSub, pick, List.getD_cons_zero, List.getD_cons_succ, evE_lset, oLenSet, evE_idx, evE_lrg, evE_reprL, evE_upd, evE_lsc, evE_dcm, dmS_eq, scS_eq, mtS_eq, tupA, lrgO, dkO, oKd, keyD, mtO_new, mt_take, evS_parT, parTO, setAll, not_false_eq_true, not_true_eq_false, mtO_new0, mtO_new1, List.take_zero, oLook, Option.isSome_some, Option.isSome_none, List.length_range, subF, frzC, Option.map_some, evE_trg, gu_le, gu_lt, gu_mulL, gu_mulR, gu_div, gu_pow10, gu_posI, gu_rg, gu_rg2, atI_0, atI_1, atI_2, atI_3, atI_4, ixN_lit, ixN_neg, atI_lst, Int.reduceToNat, Int.reduceNeg, Int.reduceAdd, Int.reduceSub, Int.reduceMul, Int.reducePow, Nat.reducePow, Int.toNat_natCast, gu_str, gu_ix, gu_rgk, $ls,*])
  | `(tactic| simp_arith only [$ls,*]) => `(tactic| simp only [↓ob_i, ↓ob2_i, ↓gu_i, ↓cs_i, obi_some, ob2i_some, obi_none, ob2i_none, obi_obi, obi_ob2i, ob2i_obi, ob2i_ob2i, obi_gui, ob2i_gui, obi_csi, ob2i_csi, csi_t, csi_f, gui_true, headD_nil, tail_nil, oPow, evE_var, evE_c, evE_kt, evE_op2, evE_neg, evE_chain, evE_and, evE_or, evE_not, evE_ife, evE_sl, evE_omit, evE_call, evE_callK, evE_bi, evE_isi, evE_mm, evE_get2, evE_tup, evE_lst, evE_dnew, evE_lc, evE_lcD, evE_dne0, evE_rev, evT_omit, evT_and, evT_or, evT_not, evT_op2, evT_chain, evT_dne0, evT_var, evT_c, evT_call, evT_bi, evT_isi, evT_lc, evO_omit, evO_var, evO_c, evO_op2, evO_neg, evO_call, evO_bi, evEs_nil, evEs_cons, evI_seq, evI_r1, evI_r2, evI_r3, evI_zip, evI_enum, evG_nm, evG_tp, evS_pass, evS_brk, evS_cont, evS_never, evS_retN, evS_drop, evS_asg, evS_par, evS_par3, evS_put, evS_aug, evS_ife, evS_for_, evS_while_, evS_ret, evS_sh, evSs_nil, evSs_cons, evGs_nil, evGs_cons, thenO, Dl.fin, outR, retO, oVar, Dl.e2, eD2, eD1, eAdd, eIs, eIn, eIx, eBi, eBiL, rdL, eCall, eRet, frz_if, Dl.refs, Dl.ren, Dl.rd, Dl.oK, oInt, Dl.oI, resO, newO, oAdd, oSub, oMul, oDiv, oMod, oNeg, oEq, oNe, oEqB, Dl.rB, oLt, oLe, oGt, oGe, oBool, oTru, oBi, oLen, oTup, oIx, isKt, kdOf, dictOf, isN, isi_i, isi_b, isi_s, isi_l, isi_t, isi_lt', isi_is', chainE, dsO, Dl.kd, kdG, dpS, dpE, dpA, dpT, dpV, dpI, vOf, Dl.hd0, par2, par3, frzs, frz1, eMM, isL, lstO, eSl, oSl, isCmp, lenG, tupO, seqO, r1O, r2O, zipO, enumO, bne0, bne1, List.map_cons, List.map_nil, List.length_cons, List.length_nil, List.cons_append, List.nil_append, List.append_nil, List.replicate, List.getElem?_cons_zero, List.getElem?_cons_succ, List.set_cons_zero, List.set_cons_succ, Nat.reduceAdd, Nat.reduceSub, Option.toList, List.headD_cons, List.tail_cons, Bool.or_false, Bool.false_or, Bool.not_true, Bool.not_false, List.lookup, List.all_nil, List.take, Nat.zero_add, ePut, augO, lcS_eq, forS_eq, whileS_eq, wipeA, killA, dropN, hideF_d, hideF_k, hideF_s, hideF_n, hideF_m, hideF_g, hideF_r, hideF_rg, toBools, toInts, intsO, boolsO, isGone, decide_true, decide_false, eq_self, if_true, if_false, Nat.reduceBEq, Nat.reduceBNe, Nat.reduceEqDiff, Nat.reduceLeDiff, Int.reduceLT, Int.reduceLE, Int.reduceEq, Int.reduceNe, Int.reduceBEq, Int.reduceBNe, Int.reduceNeg, reduceIte, reduceCtorEq, Option.getD_none, Option.getD_some, List.lookup_nil, ne_eq, List.length_map, List.length_zip, List.length_drop, List.length_append, Int.cast_ofNat_Int, sh_nil, sh_nilT, sh_ones, eqv_nil, List.isEmpty_map, and_self, and_true, true_and, lcDO, hideJ, List.length_take, keepA_nil, keepA_cons, Nat.reduceSub, pick, List.getD_cons_zero, List.getD_cons_succ, evE_lset, oLenSet, evE_idx, evE_lrg, evE_reprL, evE_upd, evE_lsc, evE_dcm, dmS_eq, scS_eq, mtS_eq, tupA, lrgO, dkO, oKd, keyD, mtO_new, mt_take, evS_parT, parTO, setAll, not_false_eq_true, not_true_eq_false, mtO_new0, mtO_new1, List.take_zero, oLook, Option.isSome_some, Option.isSome_none, List.length_range, subF, frzC, Option.map_some, evE_trg, $ls,*])
  | `(tactic| simp_arith! [$ls,*]) => `(tactic| simp [↓ob_i, ↓ob2_i, ↓gu_i, ↓cs_i, obi_some, ob2i_some, obi_none, ob2i_none, obi_obi, obi_ob2i, ob2i_obi, ob2i_ob2i, obi_gui, ob2i_gui, obi_csi, ob2i_csi, csi_t, csi_f, gui_true, headD_nil, tail_nil, oPow, evE_var, evE_c, evE_kt, evE_op2, evE_neg, evE_chain, evE_and, evE_or, evE_not, evE_ife, evE_sl, evE_omit, evE_call, evE_callK, evE_bi, evE_isi, evE_mm, evE_get2, evE_tup, evE_lst, evE_dnew, evE_lc, evE_lcD, evE_dne0, evE_rev, evT_omit, evT_and, evT_or, evT_not, evT_op2, evT_chain, evT_dne0, evT_var, evT_c, evT_call, evT_bi, evT_isi, evT_lc, evO_omit, evO_var, evO_c, evO_op2, evO_neg, evO_call, evO_bi, evEs_nil, evEs_cons, evI_seq, evI_r1, evI_r2, evI_r3, evI_zip, evI_enum, evG_nm, evG_tp, evS_pass, evS_brk, evS_cont, evS_never, evS_retN, evS_drop, evS_asg, evS_par, evS_par3, evS_put, evS_aug, evS_ife, evS_for_, evS_while_, evS_ret, evS_sh, evSs_nil, evSs_cons, evGs_nil, evGs_cons, thenO, Dl.fin, outR, retO, oVar, Dl.e2, eD2, eD1, eAdd, eIs, eIn, eIx, eBi, eBiL, rdL, eCall, eRet, frz_if, Dl.refs, Dl.ren, Dl.rd, Dl.oK, oInt, Dl.oI, resO, newO, oAdd, oSub, oMul, oDiv, oMod, oNeg, oEq, oNe, oEqB, Dl.rB, oLt, oLe, oGt, oGe, oBool, oTru, oBi, oLen, oTup, oIx, isKt, kdOf, dictOf, isN, isi_i, isi_b, isi_s, isi_l, isi_t, isi_lt', isi_is', chainE, dsO, Dl.kd, kdG, dpS, dpE, dpA, dpT, dpV, dpI, vOf, Dl.hd0, par2, par3, frzs, frz1, eMM, isL, lstO, eSl, oSl, isCmp, lenG, tupO, seqO, r1O, r2O, zipO, enumO, bne0, bne1, List.map_cons, List.map_nil, List.length_cons, List.length_nil, List.cons_append, List.nil_append, List.append_nil, List.replicate, List.getElem?_cons_zero, List.getElem?_cons_succ, List.set_cons_zero, List.set_cons_succ, Nat.reduceAdd, Nat.reduceSub, Option.toList, List.headD_cons, List.tail_cons, Bool.or_false, Bool.false_or, Bool.not_true, Bool.not_false, List.lookup, List.all_nil, List.take, Nat.zero_add, ePut, augO, lcS_eq, forS_eq, whileS_eq, wipeA, killA, dropN, hideF_d, hideF_k, hideF_s, hideF_n, hideF_m, hideF_g, hideF_r, hideF_rg, toBools, toInts, intsO, boolsO, isGone, decide_true, decide_false, eq_self, if_true, if_false, Nat.reduceBEq, Nat.reduceBNe, Nat.reduceEqDiff, Nat.reduceLeDiff, Int.reduceLT, Int.reduceLE, Int.reduceEq, Int.reduceNe, Int.reduceBEq, Int.reduceBNe, Int.reduceNeg, reduceIte, reduceCtorEq, Option.getD_none, Option.getD_some, List.lookup_nil, ne_eq, List.length_map, List.length_zip, List.length_drop, List.length_append, Int.cast_ofNat_Int, sh_nil, sh_nilT, sh_ones, eqv_nil, List.isEmpty_map, and_self, and_true, true_and, lcDO, hideJ, List.length_take, keepA_nil, keepA_cons, Nat.reduceSub, pick, List.getD_cons_zero, List.getD_cons_succ, evE_lset, oLenSet, evE_idx, evE_lrg, evE_reprL, evE_upd, evE_lsc, evE_dcm, dmS_eq, scS_eq, mtS_eq, tupA, lrgO, dkO, oKd, keyD, mtO_new, mt_take, evS_parT, parTO, setAll, not_false_eq_true, not_true_eq_false, mtO_new0, mtO_new1, List.take_zero, oLook, Option.isSome_some, Option.isSome_none, List.length_range, subF, frzC, Option.map_some, evE_trg, $ls,*])
variable {D : Tab} {k : Nat}
theorem is_integer_ev [Hd D 6 r6] (x : PyData) : evF D (k + 1) 6 [.d x] none = some (.data (.bool (isI x)), none) := by
  rw [ev_eq]
  simp_arith only [r6, a6]
  cases x <;> simp_arith! [isI, isIB, isBo]
def isWithin (x : PyData) (lo hi : Int) : Bool := match x with
  | .int i => decide (lo ≤ i) && decide (i ≤ hi)
  | _ => false
theorem is_within_ev [Hd D 6 r6] [Hd D 7 r7] (x : PyData) (lo hi : Int) : evF D (k + 2) 7 [.d x, .d (.int lo), .d (.int hi)] none = some (.data (.bool (isWithin x lo hi)), none) := by
  rw [ev_eq]
  simp_arith only [r7, a7, is_integer_ev]
  cases x <;> simp_arith! [isI, isWithin]
  refine csi_caD (fun e => ?_) fun e => ?_ <;> simp_arith! [e]
theorem is_minute_ev [Hd D 6 r6] [Hd D 7 r7] [Hd D 8 r8] (x : PyData) : evF D (k + 3) 8 [.d x] none = some (.data (.bool (isWithin x (-100000) 100000)), none) := by
  rw [ev_eq]
  simp_arith only [r8, a8, is_within_ev]
def isRow (x : PyData) (lo hi : Int) : Bool := match x with
  | .tuple xs => decide (lo ≤ xs.length) && decide ((xs.length : Int) ≤ hi)
  | _ => false
theorem is_row_ev [Hd D 9 r9] (x : PyData) (lo hi : Int) : evF D (k + 1) 9 [.d x, .d (.int lo), .d (.int hi)] none = some (.data (.bool (isRow x lo hi)), none) := by
  rw [ev_eq]
  simp_arith only [r9, a9]
  cases x <;> simp_arith! [isTu, isRow]
  refine csi_caD (fun e => ?_) fun e => ?_ <;> simp_arith! [e]
theorem need_number_ev [Hd D 6 r6] [Hd D 7 r7] [Hd D 11 r11] (x : PyData) (lo hi : Int) (h : isWithin x lo hi = true) : evF D (k + 3) 11 [.d x, .d (.int lo), .d (.int hi)] none = some (.data .none, none) := by
  rw [ev_eq]
  simp_arith only [r11, a11, is_within_ev, h]
theorem isRow2 {x : PyData} (h : isRow x 2 2 = true) : ∃ u v, x = .tuple [u, v] := by
  unfold isRow at h
  split at h
  · rename_i xs
    simp only [Bool.and_eq_true, decide_eq_true_eq] at h
    match xs, h with
    | [u, v], _ => exact ⟨u, v, rfl⟩
    | [], h => simp at h
    | [_], h => simp at h
    | _ :: _ :: _ :: _, h => simp at h; omega
  · cases h
theorem isWithin_int {x : PyData} {lo hi : Int} (h : isWithin x lo hi = true) : ∃ i, x = .int i ∧ lo ≤ i ∧ i ≤ hi := by
  unfold isWithin at h
  split at h
  · simp only [Bool.and_eq_true, decide_eq_true_eq] at h
    exact ⟨_, rfl, h⟩
  · cases h
theorem within_of {i lo hi : Int} (h : lo ≤ i ∧ i ≤ hi) : isWithin (.int i) lo hi = true := by simp [isWithin, h]
end Hs

namespace Hs
open L2 Dl PySem PyProof.Rows PySem.Spec
local macro_rules
  | `(tactic| simp_arith [$ls,*]) => `(tactic| simp -implicitDefEqProofs (disch := omega) only [↓ob_i, ↓ob2_i, ↓gu_i, ↓cs_i, obi_some, ob2i_some, obi_none, ob2i_none, obi_obi, obi_ob2i, ob2i_obi, ob2i_ob2i, obi_gui, ob2i_gui, obi_csi, ob2i_csi, csi_t, csi_f, gui_true, headD_nil, tail_nil, oPow, evE_var, evE_c, evE_kt, evE_op2, evE_neg, evE_chain, evE_and, evE_or, evE_not, evE_ife, evE_sl, evE_omit, evE_call, evE_callK, evE_bi, evE_isi, evE_mm, evE_get2, evE_tup, evE_lst, evE_dnew, evE_lc, evE_lcD, evE_dne0, evE_rev, evT_omit, evT_and, evT_or, evT_not, evT_op2, evT_chain, evT_dne0, evT_var, evT_c, evT_call, evT_bi, evT_isi, evT_lc, evO_omit, evO_var, evO_c, evO_op2, evO_neg, evO_call, evO_bi, evEs_nil, evEs_cons, evI_seq, evI_r1, evI_r2, evI_r3, evI_zip, evI_enum, evG_nm, evG_tp, evS_pass, evS_brk, evS_cont, evS_never, evS_retN, evS_drop, evS_asg, evS_par, evS_par3, evS_put, evS_aug, evS_ife, evS_for_, evS_while_, evS_ret, evS_sh, evSs_nil, evSs_cons, evGs_nil, evGs_cons, thenO, Dl.fin, outR, retO, oVar, Dl.e2, eD2, eD1, eAdd, eIs, eIn, eIx, eBi, eBiL, rdL, eCall, eRet, frz_if, Dl.refs, Dl.ren, Dl.rd, Dl.oK, oInt, Dl.oI, resO, newO, oAdd, oSub, oMul, oDiv, oMod, oNeg, oEq, oNe, oEqB, Dl.rB, oLt, oLe, oGt, oGe, oBool, oTru, oBi, oLen, oTup, oIx, isKt, kdOf, dictOf, isN, isi_i, isi_b, isi_s, isi_l, isi_t, isi_lt', isi_is', chainE, dsO, Dl.kd, kdG, dpS, dpE, dpA, dpT, dpV, dpI, vOf, Dl.hd0, par2, par3, frzs, frz1, eMM, isL, lstO, eSl, oSl, isCmp, lenG, tupO, seqO, r1O, r2O, zipO, enumO, bne0, bne1, List.map_cons, List.map_nil, List.length_cons, List.length_nil, List.cons_append, List.nil_append, List.append_nil, List.replicate, List.getElem?_cons_zero, List.getElem?_cons_succ, List.set_cons_zero, List.set_cons_succ, Nat.reduceAdd, Nat.reduceSub, Option.toList, List.headD_cons, List.tail_cons, Bool.or_false, Bool.false_or, Bool.not_true, Bool.not_false, List.lookup, List.all_nil, List.take, Nat.zero_add, ePut, augO, lcS_eq, forS_eq, whileS_eq, wipeA, killA, dropN, hideF_d, hideF_k, hideF_s, hideF_n, hideF_m, hideF_g, hideF_r, hideF_rg, toBools, toInts, intsO, boolsO, isGone, decide_true, decide_false, eq_self, if_true, if_false, Nat.reduceBEq, Nat.reduceBNe, Nat.reduceEqDiff, Nat.reduceLeDiff, Int.reduceLT, Int.reduceLE, Int.reduceEq, Int.reduceNe, Int.reduceBEq, Int.reduceBNe, Int.reduceNeg, reduceIte, reduceCtorEq, Option.getD_none, Option.getD_some, List.lookup_nil, ne_eq, List.length_map, List.length_zip, List.length_drop, List.length_append, Int.cast_ofNat_Int, sh_nil, sh_nilT, sh_ones, eqv_nil, List.isEmpty_map, and_self, and_true, true_and, lcDO, hideJ, List.length_take, keepA_nil, keepA_cons, Nat.reduceSub, pick, List.getD_cons_zero, List.getD_cons_succ, evE_lset, oLenSet, evE_idx, evE_lrg, evE_reprL, evE_upd, evE_lsc, evE_dcm, dmS_eq, scS_eq, mtS_eq, tupA, lrgO, dkO, oKd, keyD, mtO_new, mt_take, evS_parT, parTO, setAll, not_false_eq_true, not_true_eq_false, mtO_new0, mtO_new1, List.take_zero, oLook, Option.isSome_some, Option.isSome_none, List.length_range, subF, frzC, Option.map_some, evE_trg, gu_le, gu_lt, gu_mulL, gu_mulR, gu_div, gu_pow10, gu_posI, gu_rg, gu_rg2, atI_0, atI_1, atI_2, atI_3, atI_4, ixN_lit, ixN_neg, atI_lst, Int.reduceToNat, Int.reduceNeg, Int.reduceAdd, Int.reduceSub, Int.reduceMul, Int.reducePow, Nat.reducePow, Int.toNat_natCast, gu_str, gu_ix, gu_rgk, $ls,*])
  | `(tactic| simp_arith only [$ls,*]) => `(tactic| simp only [↓ob_i, ↓ob2_i, ↓gu_i, ↓cs_i, obi_some, ob2i_some, obi_none, ob2i_none, obi_obi, obi_ob2i, ob2i_obi, ob2i_ob2i, obi_gui, ob2i_gui, obi_csi, ob2i_csi, csi_t, csi_f, gui_true, headD_nil, tail_nil, oPow, evE_var, evE_c, evE_kt, evE_op2, evE_neg, evE_chain, evE_and, evE_or, evE_not, evE_ife, evE_sl, evE_omit, evE_call, evE_callK, evE_bi, evE_isi, evE_mm, evE_get2, evE_tup, evE_lst, evE_dnew, evE_lc, evE_lcD, evE_dne0, evE_rev, evT_omit, evT_and, evT_or, evT_not, evT_op2, evT_chain, evT_dne0, evT_var, evT_c, evT_call, evT_bi, evT_isi, evT_lc, evO_omit, evO_var, evO_c, evO_op2, evO_neg, evO_call, evO_bi, evEs_nil, evEs_cons, evI_seq, evI_r1, evI_r2, evI_r3, evI_zip, evI_enum, evG_nm, evG_tp, evS_pass, evS_brk, evS_cont, evS_never, evS_retN, evS_drop, evS_asg, evS_par, evS_par3, evS_put, evS_aug, evS_ife, evS_for_, evS_while_, evS_ret, evS_sh, evSs_nil, evSs_cons, evGs_nil, evGs_cons, thenO, Dl.fin, outR, retO, oVar, Dl.e2, eD2, eD1, eAdd, eIs, eIn, eIx, eBi, eBiL, rdL, eCall, eRet, frz_if, Dl.refs, Dl.ren, Dl.rd, Dl.oK, oInt, Dl.oI, resO, newO, oAdd, oSub, oMul, oDiv, oMod, oNeg, oEq, oNe, oEqB, Dl.rB, oLt, oLe, oGt, oGe, oBool, oTru, oBi, oLen, oTup, oIx, isKt, kdOf, dictOf, isN, isi_i, isi_b, isi_s, isi_l, isi_t, isi_lt', isi_is', chainE, dsO, Dl.kd, kdG, dpS, dpE, dpA, dpT, dpV, dpI, vOf, Dl.hd0, par2, par3, frzs, frz1, eMM, isL, lstO, eSl, oSl, isCmp, lenG, tupO, seqO, r1O, r2O, zipO, enumO, bne0, bne1, List.map_cons, List.map_nil, List.length_cons, List.length_nil, List.cons_append, List.nil_append, List.append_nil, List.replicate, List.getElem?_cons_zero, List.getElem?_cons_succ, List.set_cons_zero, List.set_cons_succ, Nat.reduceAdd, Nat.reduceSub, Option.toList, List.headD_cons, List.tail_cons, Bool.or_false, Bool.false_or, Bool.not_true, Bool.not_false, List.lookup, List.all_nil, List.take, Nat.zero_add, ePut, augO, lcS_eq, forS_eq, whileS_eq, wipeA, killA, dropN, hideF_d, hideF_k, hideF_s, hideF_n, hideF_m, hideF_g, hideF_r, hideF_rg, toBools, toInts, intsO, boolsO, isGone, decide_true, decide_false, eq_self, if_true, if_false, Nat.reduceBEq, Nat.reduceBNe, Nat.reduceEqDiff, Nat.reduceLeDiff, Int.reduceLT, Int.reduceLE, Int.reduceEq, Int.reduceNe, Int.reduceBEq, Int.reduceBNe, Int.reduceNeg, reduceIte, reduceCtorEq, Option.getD_none, Option.getD_some, List.lookup_nil, ne_eq, List.length_map, List.length_zip, List.length_drop, List.length_append, Int.cast_ofNat_Int, sh_nil, sh_nilT, sh_ones, eqv_nil, List.isEmpty_map, and_self, and_true, true_and, lcDO, hideJ, List.length_take, keepA_nil, keepA_cons, Nat.reduceSub, pick, List.getD_cons_zero, List.getD_cons_succ, evE_lset, oLenSet, evE_idx, evE_lrg, evE_reprL, evE_upd, evE_lsc, evE_dcm, dmS_eq, scS_eq, mtS_eq, tupA, lrgO, dkO, oKd, keyD, mtO_new, mt_take, evS_parT, parTO, setAll, not_false_eq_true, not_true_eq_false, mtO_new0, mtO_new1, List.take_zero, oLook, Option.isSome_some, Option.isSome_none, List.length_range, subF, frzC, Option.map_some, evE_trg, $ls,*])
  | `(tactic| simp_arith! [$ls,*]) => `(tactic| simp [↓ob_i, ↓ob2_i, ↓gu_i, ↓cs_i, obi_some, ob2i_some, obi_none, ob2i_none, obi_obi, obi_ob2i, ob2i_obi, ob2i_ob2i, obi_gui, ob2i_gui, obi_csi, ob2i_csi, csi_t, csi_f, gui_true, headD_nil, tail_nil, oPow, evE_var, evE_c, evE_kt, evE_op2, evE_neg, evE_chain, evE_and, evE_or, evE_not, evE_ife, evE_sl, evE_omit, evE_call, evE_callK, evE_bi, evE_isi, evE_mm, evE_get2, evE_tup, evE_lst, evE_dnew, evE_lc, evE_lcD, evE_dne0, evE_rev, evT_omit, evT_and, evT_or, evT_not, evT_op2, evT_chain, evT_dne0, evT_var, evT_c, evT_call, evT_bi, evT_isi, evT_lc, evO_omit, evO_var, evO_c, evO_op2, evO_neg, evO_call, evO_bi, evEs_nil, evEs_cons, evI_seq, evI_r1, evI_r2, evI_r3, evI_zip, evI_enum, evG_nm, evG_tp, evS_pass, evS_brk, evS_cont, evS_never, evS_retN, evS_drop, evS_asg, evS_par, evS_par3, evS_put, evS_aug, evS_ife, evS_for_, evS_while_, evS_ret, evS_sh, evSs_nil, evSs_cons, evGs_nil, evGs_cons, thenO, Dl.fin, outR, retO, oVar, Dl.e2, eD2, eD1, eAdd, eIs, eIn, eIx, eBi, eBiL, rdL, eCall, eRet, frz_if, Dl.refs, Dl.ren, Dl.rd, Dl.oK, oInt, Dl.oI, resO, newO, oAdd, oSub, oMul, oDiv, oMod, oNeg, oEq, oNe, oEqB, Dl.rB, oLt, oLe, oGt, oGe, oBool, oTru, oBi, oLen, oTup, oIx, isKt, kdOf, dictOf, isN, isi_i, isi_b, isi_s, isi_l, isi_t, isi_lt', isi_is', chainE, dsO, Dl.kd, kdG, dpS, dpE, dpA, dpT, dpV, dpI, vOf, Dl.hd0, par2, par3, frzs, frz1, eMM, isL, lstO, eSl, oSl, isCmp, lenG, tupO, seqO, r1O, r2O, zipO, enumO, bne0, bne1, List.map_cons, List.map_nil, List.length_cons, List.length_nil, List.cons_append, List.nil_append, List.append_nil, List.replicate, List.getElem?_cons_zero, List.getElem?_cons_succ, List.set_cons_zero, List.set_cons_succ, Nat.reduceAdd, Nat.reduceSub, Option.toList, List.headD_cons, List.tail_cons, Bool.or_false, Bool.false_or, Bool.not_true, Bool.not_false, List.lookup, List.all_nil, List.take, Nat.zero_add, ePut, augO, lcS_eq, forS_eq, whileS_eq, wipeA, killA, dropN, hideF_d, hideF_k, hideF_s, hideF_n, hideF_m, hideF_g, hideF_r, hideF_rg, toBools, toInts, intsO, boolsO, isGone, decide_true, decide_false, eq_self, if_true, if_false, Nat.reduceBEq, Nat.reduceBNe, Nat.reduceEqDiff, Nat.reduceLeDiff, Int.reduceLT, Int.reduceLE, Int.reduceEq, Int.reduceNe, Int.reduceBEq, Int.reduceBNe, Int.reduceNeg, reduceIte, reduceCtorEq, Option.getD_none, Option.getD_some, List.lookup_nil, ne_eq, List.length_map, List.length_zip, List.length_drop, List.length_append, Int.cast_ofNat_Int, sh_nil, sh_nilT, sh_ones, eqv_nil, List.isEmpty_map, and_self, and_true, true_and, lcDO, hideJ, List.length_take, keepA_nil, keepA_cons, Nat.reduceSub, pick, List.getD_cons_zero, List.getD_cons_succ, evE_lset, oLenSet, evE_idx, evE_lrg, evE_reprL, evE_upd, evE_lsc, evE_dcm, dmS_eq, scS_eq, mtS_eq, tupA, lrgO, dkO, oKd, keyD, mtO_new, mt_take, evS_parT, parTO, setAll, not_false_eq_true, not_true_eq_false, mtO_new0, mtO_new1, List.take_zero, oLook, Option.isSome_some, Option.isSome_none, List.length_range, subF, frzC, Option.map_some, evE_trg, $ls,*])
variable {D : Tab} {k : Nat}
def FeedOk (b : Int) (ds : List PyData) : Prop := ∃ f0 f1 f2 : Int, ds = [.int f0, .int f1, .int f2] ∧ 0 ≤ f0 ∧ 0 ≤ f1 ∧ f1 < 10 ^ 40 ∧ 0 ≤ f2 ∧ f2 ≤ b
theorem FeedOk.mono {b c : Int} {ds : List PyData} (h : FeedOk b ds) (e : b ≤ c) : FeedOk c ds := by
  obtain ⟨f0, f1, f2, h1, h2, h3, h4, h5, h6⟩ := h
  exact ⟨f0, f1, f2, h1, h2, h3, h4, h5, by omega⟩
theorem feed_new (c m : Int) (h : 0 < m) (hm : m ≤ 10 ^ 40) : ∀ i : Int, FeedOk 0 [.int (if c > 0 then c else 0), .int (i % m), .int 0] := fun i => by
  refine ⟨_, _, _, rfl, ?_, Int.emod_nonneg _ (by omega), ?_, Int.le_refl _, Int.le_refl _⟩
  · split <;> omega
  · have := Int.emod_lt_of_pos i h
    omega
theorem feed_ev [Hd D 19 r19] (ns : List Int) (j : Nat) : ∃ ds, FeedOk 0 ds ∧ evF D (k + 1) 19 [.sc ns, .d (.int j)] none = some (.cell (.lst ds), none) := by
  rw [ev_eq]
  simp_arith [r19, a19]
  have cut1 : Dl.cutD (ns.map .int) none (some 1) = (ns.take 1).map .int := (cut_to _ 1).trans (by rw [List.map_take])
  simp_arith [cut1, intsO, toInts_map]
  by_cases hc : (j : Int) < ns.length
  · have : ns[j]? = some (ns[j]'(by omega)) := List.getElem?_eq_getElem (by omega)
    have h2 := atI_nat this
    simp_arith [csi_dT hc, h2]
    exact ⟨_, feed_new _ _ (by decide) (by decide) _, rfl⟩
  · simp_arith [csi_dF hc]
    exact ⟨_, feed_new _ _ (by decide) (by decide) _, rfl⟩
theorem draw_ev [Hd D 20 r20] {b : Int} {ds : List PyData} {many : Int} (F : FeedOk b ds) (hb : b ≤ 1000000) (h1 : 0 < many) (h2 : many < 2 ^ 60) :
    ∃ r ds', evF D (k + 1) 20 [.m 0, .d (.int many)] (some (.lst ds)) = some (.data (.int r), some (.lst ds')) ∧ 0 ≤ r ∧ r < many ∧ FeedOk (b + 1) ds' := by
  obtain ⟨f0, f1, f2, rfl, q0, q1, q2, q3, q4⟩ := F
  rw [ev_eq]
  simp_arith [r20, a20]
  by_cases hc : 0 < f0
  · simp_arith [csi_dT hc]
    have e : f0 - f0 / many * many = f0 % many := by
      have := Int.emod_add_mul_ediv f0 many
      rw [Int.mul_comm (f0 / many)]
      omega
    refine ⟨_, _, rfl, ?_, ?_, ⟨_, _, _, rfl, Int.ediv_nonneg q0 (by omega), q1, q2, q3, by omega⟩⟩
    · rw [e]; exact Int.emod_nonneg _ (by omega)
    · rw [e]; exact Int.emod_lt_of_pos _ h1
  · simp_arith [csi_dF hc]
    have b1 : (f1 + 6700417 * (f2 + 1)).natAbs < 2 ^ 140 := by omega
    generalize f1 + 6700417 * (f2 + 1) = st at b1
    have b2 : (st * st).natAbs < 2 ^ 280 := by
      rw [Int.natAbs_mul, show (2 : Nat) ^ 280 = 2 ^ 140 * 2 ^ 140 by decide]
      exact Nat.mul_lt_mul'' b1 b1
    simp_arith [gu_pos (mulW (i := st) (j := st) (by omega) (by omega)), gu_pos (mulW (i := st * st) (j := st) (by omega) (by omega))]
    have c1 := Int.emod_nonneg (st * st * st + 15485863 * (f2 + 1)) (show (10000000000000000000000000000000000000000057 : Int) ≠ 0 by decide)
    have c2 := Int.emod_lt_of_pos (st * st * st + 15485863 * (f2 + 1)) (show (0 : Int) < 10000000000000000000000000000000000000000057 by decide)
    generalize (st * st * st + 15485863 * (f2 + 1)) % 10000000000000000000000000000000000000000057 = s2 at c1 c2
    simp_arith [gu_pos (mulW (i := s2) (j := s2) (by omega) (by omega))]
    exact ⟨_, _, rfl, Int.emod_nonneg _ (by omega), Int.emod_lt_of_pos _ h1, _, _, _, rfl, q0, q1, q2, by omega, by omega⟩
theorem one_ev [Hd D 20 r20] [Hd D 21 r21] {b : Int} {ds xs : List PyData} (F : FeedOk b ds) (hb : b ≤ 1000000) (h1 : 0 < xs.length) (h2 : xs.length ≤ 1000000) :
    ∃ x ds', evF D (k + 2) 21 [.m 0, .d (.list xs)] (some (.lst ds)) = some (.data x, some (.lst ds')) ∧ x ∈ xs ∧ FeedOk (b + 1) ds' := by
  obtain ⟨r, ds', e, r1, r2, F'⟩ := draw_ev (D := D) (k := k) (many := (xs.length : Int)) F hb (by omega) (by omega)
  have hx : xs[r.toNat]? = some (xs[r.toNat]'(by omega)) := List.getElem?_eq_getElem (by omega)
  rw [ev_eq]
  simp_arith [r21, a21, e, isGone, atI_ge r1, hx]
  exact ⟨_, _, rfl, List.getElem_mem _, F'⟩
theorem one_evT [Hd D 20 r20] [Hd D 21 r21] {b : Int} {ds xs : List PyData} (F : FeedOk b ds) (hb : b ≤ 1000000) (h1 : 0 < xs.length) (h2 : xs.length ≤ 1000000) :
    ∃ x ds', evF D (k + 2) 21 [.m 0, .d (.tuple xs)] (some (.lst ds)) = some (.data x, some (.lst ds')) ∧ x ∈ xs ∧ FeedOk (b + 1) ds' := by
  obtain ⟨r, ds', e, r1, r2, F'⟩ := draw_ev (D := D) (k := k) (many := (xs.length : Int)) F hb (by omega) (by omega)
  have hx : xs[r.toNat]? = some (xs[r.toNat]'(by omega)) := List.getElem?_eq_getElem (by omega)
  rw [ev_eq]
  simp_arith [r21, a21, e, isGone, atI_ge r1, hx]
  exact ⟨_, _, rfl, List.getElem_mem _, F'⟩
end Hs

namespace Fw
abbrev Mx := Nat → Nat → Option Int
abbrev Wy := Nat × Nat × Int
def minO : Option Int → Option Int → Option Int
  | none, y => y
  | some a, none => some a
  | some a, some b => some (if b < a then b else a)
def addO : Option Int → Option Int → Option Int
  | some a, some b => some (a + b)
  | _, _ => none
def leO : Option Int → Option Int → Prop
  | _, none => True
  | some a, some b => a ≤ b
  | none, some _ => False
def round (m : Nat) (f : Mx) : Mx := fun i j => minO (f i j) (addO (f i m) (f m j))
structure Good (f : Mx) : Prop where
  nn : ∀ i j x, f i j = some x → 0 ≤ x
  dg : ∀ i, f i i = some 0
  sy : ∀ i j, f i j = f j i
theorem leO_refl (a : Option Int) : leO a a := by cases a <;> simp [leO]
theorem leO_trans {a b c : Option Int} (h : leO a b) (g : leO b c) : leO a c := by
  cases a <;> cases b <;> cases c <;> simp [leO] at * <;> omega
theorem leO_anti {a b : Option Int} (h : leO a b) (g : leO b a) : a = b := by
  cases a <;> cases b <;> simp [leO] at * <;> omega
theorem min_l (a b : Option Int) : leO (minO a b) a := by
  cases a <;> cases b <;> simp [leO, minO]; split <;> omega
theorem min_r (a b : Option Int) : leO (minO a b) b := by
  cases a <;> cases b <;> simp [leO, minO]; split <;> omega
theorem min_or (a b : Option Int) : minO a b = a ∨ minO a b = b := by
  cases a <;> cases b <;> simp [minO]; omega
theorem add_mono {a b c d : Option Int} (h : leO a b) (g : leO c d) : leO (addO a c) (addO b d) := by
  cases a <;> cases b <;> cases c <;> cases d <;> simp [leO, addO] at * <;> omega
theorem add_assoc (a b c : Option Int) : addO (addO a b) c = addO a (addO b c) := by
  cases a <;> cases b <;> cases c <;> simp [addO]; omega
theorem add_comm (a b : Option Int) : addO a b = addO b a := by
  cases a <;> cases b <;> simp [addO]; omega
theorem add_nn {a b : Option Int} (h : ∀ x, b = some x → 0 ≤ x) : leO a (addO a b) := by
  cases a <;> cases b <;> simp [leO, addO] at * <;> omega
theorem add_zero (a : Option Int) : addO a (some 0) = a := by cases a <;> simp [addO]
theorem zero_add (a : Option Int) : addO (some 0) a = a := by cases a <;> simp [addO]
theorem min_self (a : Option Int) : minO a a = a := by cases a <;> simp [minO]
theorem round_r {f : Mx} (G : Good f) (m i : Nat) : round m f i m = f i m := by unfold round; rw [G.dg, add_zero, min_self]
theorem round_l {f : Mx} (G : Good f) (m j : Nat) : round m f m j = f m j := by unfold round; rw [G.dg, zero_add, min_self]
theorem good_round {f : Mx} (G : Good f) (m : Nat) : Good (round m f) := by
  refine ⟨fun i j x h => ?_, fun i => ?_, fun i j => ?_⟩
  · unfold round at h
    rcases min_or (f i j) (addO (f i m) (f m j)) with e | e
    · rw [e] at h; exact G.nn _ _ _ h
    · rw [e] at h
      cases h1 : f i m with
      | none => rw [h1] at h; cases h
      | some a =>
        cases h2 : f m j with
        | none => rw [h1, h2] at h; cases h
        | some b =>
          rw [h1, h2] at h
          cases h
          have := G.nn _ _ _ h1
          have := G.nn _ _ _ h2
          omega
  · have h0 := min_l (f i i) (addO (f i m) (f m i))
    unfold round
    rw [G.dg] at h0 ⊢
    cases h1 : f i m with
    | none => simp [addO, minO]
    | some a =>
      cases h2 : f m i with
      | none => simp [addO, minO]
      | some b =>
        have := G.nn _ _ _ h1
        have := G.nn _ _ _ h2
        simp [addO, minO]
        omega
  · unfold round
    rw [G.sy i j, G.sy i m, G.sy m j, add_comm]
def Tri (f : Mx) (m : Nat) : Prop := ∀ k, k < m → ∀ i j, leO (f i j) (addO (f i k) (f k j))
theorem tri_round {f : Mx} {m : Nat} (G : Good f) (T : Tri f m) : Tri (round m f) (m + 1) := by
  intro k hk i j
  have nn : ∀ i j, ∀ x, f i j = some x → 0 ≤ x := fun i j x h => G.nn i j x h
  by_cases e : k = m
  · subst e
    rw [round_r G, round_l G]
    exact min_r _ _
  · have hk : k < m := by omega
    have nw : leO (round m f i j) (addO (f i m) (f m j)) := min_r _ _
    have ol : leO (round m f i j) (f i j) := min_l _ _
    have A : round m f i k = f i k ∨ round m f i k = addO (f i m) (f m k) := min_or _ _
    have B : round m f k j = f k j ∨ round m f k j = addO (f k m) (f m j) := min_or _ _
    rcases A with a | a <;> rcases B with b | b <;> rw [a, b]
    · exact leO_trans ol (T k hk i j)
    · rw [← add_assoc]
      exact leO_trans nw (add_mono (T k hk i m) (leO_refl _))
    · rw [add_assoc]
      exact leO_trans nw (add_mono (leO_refl _) (T k hk m j))
    · refine leO_trans nw ?_
      have h1 : leO (f i m) (addO (f i m) (f m k)) := add_nn (nn m k)
      have h2 : leO (f m j) (addO (f k m) (f m j)) := by rw [add_comm]; exact add_nn (nn k m)
      exact add_mono h1 h2
def ini : Mx := fun i j => if i = j then some 0 else none
def putW (f : Mx) (w : Wy) : Mx := fun i j => if (i = w.1 ∧ j = w.2.1) ∨ (i = w.2.1 ∧ j = w.1) then some w.2.2 else f i j
def wayF (ws : List Wy) : Mx := ws.foldl putW ini
def rounds (n : Nat) (f : Mx) : Mx := (List.range n).foldl (fun f m => round m f) f
def times (n : Nat) (ws : List Wy) : Mx := rounds n (wayF ws)
theorem rounds_succ (n : Nat) (f : Mx) : rounds (n + 1) f = round n (rounds n f) := by
  unfold rounds
  rw [List.range_succ, List.foldl_append]
  rfl
theorem good_rounds {f : Mx} (G : Good f) : ∀ n, Good (rounds n f)
  | 0 => G
  | n + 1 => by rw [rounds_succ]; exact good_round (good_rounds G n) n
theorem tri_rounds {f : Mx} (G : Good f) : ∀ n, Tri (rounds n f) n
  | 0 => fun k h => absurd h (Nat.not_lt_zero _)
  | n + 1 => by rw [rounds_succ]; exact tri_round (good_rounds G n) (tri_rounds G n)
theorem le_rounds (f : Mx) (i j : Nat) : ∀ n, leO (rounds n f i j) (f i j)
  | 0 => leO_refl _
  | n + 1 => by rw [rounds_succ]; exact leO_trans (min_l _ _) (le_rounds f i j n)
structure WaysOk (n : Nat) (ws : List Wy) : Prop where
  lt : ∀ w ∈ ws, w.1 < w.2.1 ∧ w.2.1 < n ∧ 1 ≤ w.2.2
  nd : (ws.map fun w => (w.1, w.2.1)).Nodup
theorem good_ini : Good ini := by
  refine ⟨fun i j x h => ?_, fun i => if_pos rfl, fun i j => ?_⟩
  · unfold ini at h
    split at h
    · cases h; exact Int.le_refl _
    · cases h
  · unfold ini
    by_cases e : i = j
    · subst e; rfl
    · rw [if_neg e, if_neg (Ne.symm e)]
theorem good_put {f : Mx} {w : Wy} (G : Good f) (h : w.1 < w.2.1 ∧ 1 ≤ w.2.2) : Good (putW f w) := by
  refine ⟨fun i j x e => ?_, fun i => ?_, fun i j => ?_⟩
  · unfold putW at e
    split at e
    · cases e; omega
    · exact G.nn _ _ _ e
  · unfold putW
    rw [if_neg (by omega)]
    exact G.dg i
  · unfold putW
    by_cases c : (i = w.1 ∧ j = w.2.1) ∨ (i = w.2.1 ∧ j = w.1)
    · rw [if_pos c, if_pos (by omega)]
    · rw [if_neg c, if_neg (by omega)]
      exact G.sy i j
theorem good_way {n : Nat} : ∀ {ws : List Wy} {f : Mx}, Good f → (∀ w ∈ ws, w.1 < w.2.1 ∧ w.2.1 < n ∧ 1 ≤ w.2.2) → Good (ws.foldl putW f)
  | [], f, G, _ => G
  | w :: ws, f, G, h => good_way (ws := ws) (f := putW f w) (good_put G ⟨(h w List.mem_cons_self).1, (h w List.mem_cons_self).2.2⟩) fun v hv => h v (List.mem_cons_of_mem _ hv)
theorem WaysOk.good {n : Nat} {ws : List Wy} (W : WaysOk n ws) : Good (wayF ws) := good_way good_ini W.lt
theorem put_miss {f : Mx} {i j : Nat} : ∀ {ws : List Wy}, (∀ w ∈ ws, ¬ ((i = w.1 ∧ j = w.2.1) ∨ (i = w.2.1 ∧ j = w.1))) → ws.foldl putW f i j = f i j := by
  intro ws
  induction ws generalizing f with
  | nil => intro _; rfl
  | cons w ws ih =>
    intro h
    rw [List.foldl_cons, ih fun v hv => h v (List.mem_cons_of_mem _ hv)]
    exact if_neg (h w List.mem_cons_self)
theorem way_at {n : Nat} {ws : List Wy} (W : WaysOk n ws) {w : Wy} (hw : w ∈ ws) : wayF ws w.1 w.2.1 = some w.2.2 := by
  have key : ∀ {ws : List Wy} {f : Mx}, (∀ w ∈ ws, w.1 < w.2.1 ∧ w.2.1 < n ∧ 1 ≤ w.2.2) → (ws.map fun w => (w.1, w.2.1)).Nodup → w ∈ ws → ws.foldl putW f w.1 w.2.1 = some w.2.2 := by
    intro ws
    induction ws with
    | nil => intro f _ _ h; cases h
    | cons v ws ih =>
      intro f hl nd h
      rw [List.map_cons, List.nodup_cons] at nd
      rw [List.foldl_cons]
      rcases List.mem_cons.mp h with e | e
      · subst e
        rw [put_miss]
        · exact if_pos (.inl ⟨rfl, rfl⟩)
        · intro u hu c
          have l1 := hl w List.mem_cons_self
          have l2 := hl u (List.mem_cons_of_mem _ hu)
          rcases c with c | c
          · exact nd.1 (List.mem_map.mpr ⟨u, hu, by rw [c.1, c.2]⟩)
          · omega
      · exact ih (fun u hu => hl u (List.mem_cons_of_mem _ hu)) nd.2 e
  exact key W.lt W.nd hw
def Conn (n : Nat) (E : List (Nat × Nat)) : Prop := ∀ S : Nat → Prop, (∃ i, i < n ∧ S i) → (∀ p ∈ E, S p.1 ↔ S p.2) → ∀ i, i < n → S i
theorem Conn.mono {n : Nat} {E F : List (Nat × Nat)} (h : Conn n E) (s : ∀ p ∈ E, p ∈ F) : Conn n F := fun S h1 h2 => h S h1 fun p hp => h2 p (s p hp)
theorem times_conn {n : Nat} {ws : List Wy} (W : WaysOk n ws) (C : Conn n (ws.map fun w => (w.1, w.2.1))) {i j : Nat} (hi : i < n) (hj : j < n) : ∃ x, times n ws i j = some x ∧ 0 ≤ x := by
  have G := good_rounds W.good n
  have T := tri_rounds W.good n
  have key : ∀ j, j < n → times n ws i j ≠ none := C (fun j => times n ws i j ≠ none) ⟨i, hi, by show rounds n (wayF ws) i i ≠ none; rw [G.dg]; simp⟩ (fun p hp => by
    obtain ⟨w, hw, rfl⟩ := List.mem_map.mp hp
    have l := W.lt w hw
    have e1 : leO (rounds n (wayF ws) w.1 w.2.1) (some w.2.2) := by rw [← way_at W hw]; exact le_rounds _ _ _ n
    have e2 : leO (rounds n (wayF ws) w.2.1 w.1) (some w.2.2) := by rw [G.sy]; exact e1
    show rounds n (wayF ws) i w.1 ≠ none ↔ rounds n (wayF ws) i w.2.1 ≠ none
    constructor
    · intro h z
      have := leO_trans (T w.1 (by omega) i w.2.1) (add_mono (leO_refl _) e1)
      rw [z] at this
      cases q : rounds n (wayF ws) i w.1 with
      | none => exact h q
      | some a => rw [q] at this; exact this
    · intro h z
      have := leO_trans (T w.2.1 (by omega) i w.1) (add_mono (leO_refl _) e2)
      rw [z] at this
      cases q : rounds n (wayF ws) i w.2.1 with
      | none => exact h q
      | some a => rw [q] at this; exact this)
  have := key j hj
  cases q : times n ws i j with
  | none => exact absurd q this
  | some x => exact ⟨x, rfl, G.nn _ _ _ q⟩
theorem min_none (a : Option Int) : minO a none = a := by cases a <;> rfl
theorem add_none (a : Option Int) : addO a none = none := by cases a <;> rfl
theorem round_n1 {f : Mx} {m a b : Nat} (h : f a m = none) : round m f a b = f a b := by unfold round; rw [h]; exact min_none _
theorem round_n2 {f : Mx} {m a b : Nat} (h : f m b = none) : round m f a b = f a b := by unfold round; rw [h, add_none]; exact min_none _

def upM (f : Mx) (a b : Nat) (v : Option Int) : Mx := fun i j => if i = a ∧ j = b then v else f i j
def mid (f : Mx) (m a b : Nat) : Mx := fun i j => if i < a ∨ (i = a ∧ j < b) then round m f i j else f i j
theorem mid_r {f : Mx} (G : Good f) (m a b i : Nat) : mid f m a b i m = f i m := by
  unfold mid
  split
  · exact round_r G m i
  · rfl
theorem mid_l {f : Mx} (G : Good f) (m a b j : Nat) : mid f m a b m j = f m j := by
  unfold mid
  split
  · exact round_l G m j
  · rfl
theorem mid_here (f : Mx) (m a b : Nat) : mid f m a b a b = f a b := if_neg (by omega)
theorem mid_step (f : Mx) (m a b : Nat) : upM (mid f m a b) a b (round m f a b) = mid f m a (b + 1) := by
  funext i j
  unfold upM mid
  by_cases e : i = a ∧ j = b
  · obtain ⟨rfl, rfl⟩ := e
    rw [if_pos ⟨rfl, rfl⟩, if_pos (by omega)]
  · rw [if_neg e]
    by_cases c : i < a ∨ (i = a ∧ j < b)
    · rw [if_pos c, if_pos (by omega)]
    · rw [if_neg c, if_neg (by omega)]
theorem mid_skip {f : Mx} {m a b : Nat} (h : round m f a b = f a b) : mid f m a (b + 1) = mid f m a b := by
  funext i j
  unfold mid
  by_cases e : i = a ∧ j = b
  · obtain ⟨rfl, rfl⟩ := e
    rw [if_pos (by omega), if_neg (by omega), h]
  · by_cases c : i < a ∨ (i = a ∧ j < b)
    · rw [if_pos c, if_pos (by omega)]
    · rw [if_neg c, if_neg (by omega)]
theorem mid_skipRow {f : Mx} {m a : Nat} (h : f a m = none) : mid f m (a + 1) 0 = mid f m a 0 := by
  funext i j
  unfold mid
  by_cases e : i = a
  · subst e
    rw [if_pos (by omega), if_neg (by omega), round_n1 h]
  · by_cases c : i < a ∨ (i = a ∧ j < 0)
    · rw [if_pos c, if_pos (by omega)]
    · rw [if_neg c, if_neg (by omega)]
theorem mid_0 (f : Mx) (m : Nat) : mid f m 0 0 = f := by
  funext i j
  exact if_neg (by omega)
theorem mid_next (f : Mx) (m a n : Nat) {i j : Nat} (hj : j < n) : mid f m a n i j = mid f m (a + 1) 0 i j := by
  unfold mid
  by_cases c : i < a ∨ (i = a ∧ j < n)
  · rw [if_pos c, if_pos (by omega)]
  · rw [if_neg c, if_neg (by omega)]
theorem mid_end (f : Mx) (m n : Nat) {i j : Nat} (hi : i < n) : mid f m n 0 i j = round m f i j := if_pos (by omega)
theorem way_none {n : Nat} {ws : List Wy} (W : WaysOk n ws) {i : Nat} {w : Wy} (hw : ws[i]? = some w) : wayF (ws.take i) w.1 w.2.1 = none ∧ wayF (ws.take i) w.2.1 w.1 = none := by
  have hl := W.lt w (List.mem_of_getElem? hw)
  have key : ∀ v ∈ ws.take i, v.1 < v.2.1 ∧ ¬ (v.1 = w.1 ∧ v.2.1 = w.2.1) := by
    intro v hv
    refine ⟨(W.lt v (List.mem_of_mem_take hv)).1, fun e => ?_⟩
    obtain ⟨j, hj, e2⟩ := List.getElem_of_mem hv
    have hj' : j < i ∧ j < ws.length := by rw [List.length_take] at hj; omega
    have hiw := (List.getElem?_eq_some_iff.mp hw)
    have nd := W.nd
    have : ws[j]? = some v := by
      rw [List.getElem_take] at e2
      rw [List.getElem?_eq_getElem hj'.2, e2]
    have e3 : (ws.map fun w => (w.1, w.2.1))[j]? = (ws.map fun w => (w.1, w.2.1))[i]? := by
      rw [List.getElem?_map, List.getElem?_map, this, hw]
      simp [e.1, e.2]
    have := (List.getElem?_inj (by rw [List.length_map]; exact hj'.2) nd).mp e3
    omega
  have z : ∀ a b : Nat, a ≠ b → ini a b = none := fun a b h => if_neg h
  constructor
  · unfold wayF
    rw [put_miss, z _ _ (by omega)]
    intro v hv c
    obtain ⟨k1, k2⟩ := key v hv
    rcases c with c | c
    · exact k2 ⟨c.1.symm, c.2.symm⟩
    · omega
  · unfold wayF
    rw [put_miss, z _ _ (by omega)]
    intro v hv c
    obtain ⟨k1, k2⟩ := key v hv
    rcases c with c | c
    · omega
    · exact k2 ⟨c.2.symm, c.1.symm⟩
theorem put_up {f : Mx} {w : Wy} : upM (upM f w.1 w.2.1 (some w.2.2)) w.2.1 w.1 (some w.2.2) = putW f w := by
  funext i j
  unfold upM putW
  by_cases c1 : i = w.2.1 ∧ j = w.1
  · rw [if_pos c1, if_pos (.inr c1)]
  · by_cases c2 : i = w.1 ∧ j = w.2.1
    · rw [if_neg c1, if_pos c2, if_pos (.inl c2)]
    · rw [if_neg c1, if_neg c2, if_neg (fun z => z.elim c2 c1)]
theorem take_put {ws : List Wy} {i : Nat} {w : Wy} (hw : ws[i]? = some w) : putW (wayF (ws.take i)) w = wayF (ws.take (i + 1)) := by
  unfold wayF
  rw [List.take_add_one, hw]
  simp
end Fw

namespace Hs
open L2 Dl PySem PyProof.Rows PySem.Spec
def n33 : List Str := ["thing", "sign"]
def g33 : List (Str × GK) := [("isinstance", .blt), ("str", .blt), ("len", .blt), ("MOST_SIGNS", .cst (.int (8))), ("LETTERS", .cst (.str "abcdefghijklmnopqrstuvwxyz")), ("all", .blt), ("DIGITS", .cst (.str "0123456789"))]
def a33 : ASs := (.cons (.ife (.or (.not (.isi [.str] (.var 0))) (.or (.not (.chain .le .le (.c (.int (1))) (.bi .len (.cons (.var 0) .nil)) (.c (.int (8))))) (.op2 .nin (.op2 .ix (.var 0) (.c (.int (0)))) (.c (.str "abcdefghijklmnopqrstuvwxyz"))))) (.cons (.ret (.c (.bool false))) .nil) .nil) (.cons (.sh (.ret (.bi .all (.cons (.lc (.seq (.var 0)) (.nm 1) .omit (.or (.op2 .inn (.var 1) (.c (.str "abcdefghijklmnopqrstuvwxyz"))) (.op2 .inn (.var 1) (.c (.str "0123456789")))) [1]) .nil)))) .nil))
def r33 : DR := ⟨a33, 1, 2, []⟩

def n34 : List Str := ["things"]
def g34 : List (Str × GK) := [("len", .blt), ("set", .blt)]
def a34 : ASs := (.cons (.ret (.op2 .eq (.lset (.var 0)) (.bi .len (.cons (.var 0) .nil)))) .nil)
def r34 : DR := ⟨a34, 1, 1, []⟩

def n35 : List Str := ["things", "one"]
def g35 : List (Str × GK) := [("all", .blt), ("is_name", .fn 33 ["thing"] []), ("are_unlike", .fn 34 ["things"] [])]
def a35 : ASs := (.cons (.sh (.ret (.and (.bi .all (.cons (.lc (.seq (.var 0)) (.nm 1) .omit (.call 33 (.cons (.var 1) .nil)) [1]) .nil)) (.call 34 (.cons (.var 0) .nil))))) .nil)
def r35 : DR := ⟨a35, 1, 2, []⟩

def n36 : List Str := ["things", "names", "one"]
def g36 : List (Str × GK) := [("all", .blt), ("isinstance", .blt), ("str", .blt), ("are_unlike", .fn 34 ["things"] [])]
def a36 : ASs := (.cons (.sh (.ret (.and (.bi .all (.cons (.lc (.seq (.var 0)) (.nm 2) .omit (.and (.isi [.str] (.var 2)) (.op2 .inn (.var 2) (.var 1))) [2]) .nil)) (.call 34 (.cons (.var 0) .nil))))) .nil)
def r36 : DR := ⟨a36, 2, 3, []⟩

def n37 : List Str := ["town", "places", "ways", "one", "other", "minutes"]
def g37 : List (Str × GK) := []
def a37 : ASs := (.cons (.sh (.asg (.tp (.cons (.nm 1) (.cons (.nm 2) .nil))) (.var 0))) (.cons (.sh (.ret (.lc (.seq (.var 2)) (.tp (.cons (.nm 3) (.cons (.nm 4) (.cons (.nm 5) .nil)))) .omit (.tup (.cons (.idx (.var 1) (.var 3)) (.cons (.idx (.var 1) (.var 4)) (.cons (.var 5) .nil)))) [3, 4, 5]))) .nil))
def r37 : DR := ⟨a37, 1, 6, []⟩

def n38 : List Str := ["one", "other"]
def g38 : List (Str × GK) := [("min", .blt)]
def a38 : ASs := (.cons (.ife (.or (.op2 .is_ (.var 0) (.c .none)) (.op2 .is_ (.var 1) (.c .none))) (.cons (.ret (.ife (.op2 .is_ (.var 0) (.c .none)) (.var 1) (.var 0))) .nil) .nil) (.cons (.sh (.ret (.bi .min (.cons (.lst (.cons (.var 0) (.cons (.var 1) .nil))) .nil)))) .nil))
def r38 : DR := ⟨a38, 2, 2, []⟩

def n39 : List Str := ["count", "ways", "one", "other", "found", "minutes", "by"]
def g39 : List (Str × GK) := [("UNJOINED", .cst .none), ("range", .blt), ("lesser", .fn 38 ["one", "other"] [])]
def a39 : ASs := (.cons (.asg (.nm 4) (.lc (.r1 (.cons (.var 0) .nil)) (.nm 2) .omit (.lc (.r1 (.cons (.var 0) .nil)) (.nm 3) .omit (.ife (.op2 .eq (.var 2) (.var 3)) (.c (.int (0))) (.c .none)) [3]) [2])) (.cons (.sh (.for_ (.seq (.var 1)) (.tp (.cons (.nm 2) (.cons (.nm 3) (.cons (.nm 5) .nil)))) (.cons (.put (.call 38 (.cons (.op2 .ix (.op2 .ix (.var 4) (.var 2)) (.var 3)) (.cons (.var 5) .nil))) (.op2 .ix (.var 4) (.var 2)) (.var 3)) (.cons (.put (.op2 .ix (.op2 .ix (.var 4) (.var 2)) (.var 3)) (.op2 .ix (.var 4) (.var 3)) (.var 2)) .nil)))) (.cons (.for_ (.r1 (.cons (.var 0) .nil)) (.nm 6) (.cons (.for_ (.r1 (.cons (.var 0) .nil)) (.nm 2) (.cons (.for_ (.r1 (.cons (.var 0) .nil)) (.nm 3) (.cons (.ife (.and (.op2 .isn (.op2 .ix (.op2 .ix (.var 4) (.var 2)) (.var 6)) (.c .none)) (.op2 .isn (.op2 .ix (.op2 .ix (.var 4) (.var 6)) (.var 3)) (.c .none))) (.cons (.put (.call 38 (.cons (.op2 .ix (.op2 .ix (.var 4) (.var 2)) (.var 3)) (.cons (.op2 .add (.op2 .ix (.op2 .ix (.var 4) (.var 2)) (.var 6)) (.op2 .ix (.op2 .ix (.var 4) (.var 6)) (.var 3))) .nil))) (.op2 .ix (.var 4) (.var 2)) (.var 3)) .nil) .nil) .nil)) .nil)) .nil)) (.cons (.ret (.var 4)) .nil))))
def r39 : DR := ⟨a39, 2, 7, [(4, 4)]⟩

def n40 : List Str := ["town"]
def g40 : List (Str × GK) := [("times_by", .fn 39 ["count", "ways"] []), ("len", .blt), ("numbered_ways", .fn 37 ["town"] [])]
def a40 : ASs := (.cons (.ret (.call 39 (.cons (.bi .len (.cons (.op2 .ix (.var 0) (.c (.int (0)))) .nil)) (.cons (.call 37 (.cons (.var 0) .nil)) .nil)))) .nil)
def r40 : DR := ⟨a40, 1, 1, []⟩

def n41 : List Str := ["ways", "index"]
def g41 : List (Str × GK) := []
def a41 : ASs := (.cons (.ret (.op2 .add (.sl (.var 0) .omit (.var 1)) (.sl (.var 0) (.op2 .add (.var 1) (.c (.int (1)))) .omit))) .nil)
def r41 : DR := ⟨a41, 2, 2, []⟩

def n42 : List Str := ["count", "ways", "times", "found", "met", "one", "piece", "other"]
def g42 : List (Str × GK) := [("times_by", .fn 39 ["count", "ways"] []), ("range", .blt)]
def a42 : ASs := (.cons (.sh (.parT [2, 3, 4] (.cons (.call 39 (.cons (.var 0) (.cons (.var 1) .nil))) (.cons (.lst .nil) (.cons .dnew .nil))))) (.cons (.for_ (.r1 (.cons (.var 0) .nil)) (.nm 5) (.cons (.ife (.op2 .nin (.var 5) (.var 4)) (.cons (.asg (.nm 6) (.lc (.r1 (.cons (.var 0) .nil)) (.nm 7) (.op2 .isn (.op2 .ix (.op2 .ix (.var 2) (.var 5)) (.var 7)) (.c .none)) (.var 7) [7])) (.cons (.sh (.drop (.upd (.var 4) (.dcm (.seq (.var 6)) (.nm 7) .omit (.var 7) (.c (.bool true)) [7])))) (.cons (.sh (.drop (.mm .append (.var 3) (.cons (.var 6) .nil)))) .nil))) .nil) .nil)) (.cons (.ret (.var 3)) .nil)))
def r42 : DR := ⟨a42, 2, 8, [(3, 1), (4, 2)]⟩

def n43 : List Str := ["places", "thing"]
def g43 : List (Str × GK) := [("is_row", .fn 9 ["thing", "least", "most"] []), ("are_some_of", .fn 36 ["things", "names"] []), ("is_within", .fn 7 ["thing", "least", "most"] []), ("MOST_MINUTES", .cst (.int (10000)))]
def a43 : ASs := (.cons (.ife (.or (.not (.call 9 (.cons (.var 1) (.cons (.c (.int (3))) (.cons (.c (.int (3))) .nil))))) (.or (.not (.call 36 (.cons (.sl (.var 1) .omit (.c (.int (2)))) (.cons (.var 0) .nil)))) (.not (.call 7 (.cons (.op2 .ix (.var 1) (.c (.int (2)))) (.cons (.c (.int (1))) (.cons (.c (.int (10000))) .nil))))))) (.cons (.ret (.c (.bool false))) .nil) .nil) (.cons (.ret (.op2 .lt (.idx (.var 0) (.op2 .ix (.var 1) (.c (.int (0))))) (.idx (.var 0) (.op2 .ix (.var 1) (.c (.int (1))))))) .nil))
def r43 : DR := ⟨a43, 2, 2, []⟩

def n44 : List Str := ["places", "thing", "way"]
def g44 : List (Str × GK) := [("is_row", .fn 9 ["thing", "least", "most"] []), ("MOST_WAYS", .cst (.int (40))), ("all", .blt), ("is_way", .fn 43 ["places", "thing"] []), ("len", .blt)]
def a44 : ASs := (.cons (.sh (.ife (.or (.not (.call 9 (.cons (.var 1) (.cons (.c (.int (0))) (.cons (.c (.int (40))) .nil))))) (.not (.bi .all (.cons (.lc (.seq (.var 1)) (.nm 2) .omit (.call 43 (.cons (.var 0) (.cons (.var 2) .nil))) [2]) .nil)))) (.cons (.ret (.c (.bool false))) .nil) .nil)) (.cons (.sh (.ret (.op2 .eq (.lsc (.seq (.var 1)) (.nm 2) .omit (.sl (.var 2) .omit (.c (.int (2)))) [2]) (.bi .len (.cons (.var 1) .nil))))) .nil))
def r44 : DR := ⟨a44, 2, 3, []⟩

def n45 : List Str := ["thing"]
def g45 : List (Str × GK) := [("is_row", .fn 9 ["thing", "least", "most"] []), ("MOST_PLACES", .cst (.int (12))), ("are_names", .fn 35 ["things"] []), ("are_ways", .fn 44 ["places", "thing"] []), ("len", .blt), ("pieces_by", .fn 42 ["count", "ways"] []), ("numbered_ways", .fn 37 ["town"] [])]
def a45 : ASs := (.cons (.ife (.or (.not (.call 9 (.cons (.var 0) (.cons (.c (.int (2))) (.cons (.c (.int (2))) .nil))))) (.or (.not (.call 9 (.cons (.op2 .ix (.var 0) (.c (.int (0)))) (.cons (.c (.int (1))) (.cons (.c (.int (12))) .nil))))) (.not (.call 35 (.cons (.op2 .ix (.var 0) (.c (.int (0)))) .nil))))) (.cons (.ret (.c (.bool false))) .nil) .nil) (.cons (.ife (.not (.call 44 (.cons (.op2 .ix (.var 0) (.c (.int (0)))) (.cons (.op2 .ix (.var 0) (.c (.int (1)))) .nil)))) (.cons (.ret (.c (.bool false))) .nil) .nil) (.cons (.ret (.op2 .eq (.bi .len (.cons (.call 42 (.cons (.bi .len (.cons (.op2 .ix (.var 0) (.c (.int (0)))) .nil)) (.cons (.call 37 (.cons (.var 0) .nil)) .nil))) .nil)) (.c (.int (1))))) .nil)))
def r45 : DR := ⟨a45, 1, 1, []⟩

def n46 : List Str := ["town"]
def g46 : List (Str × GK) := [("is_map_form", .fn 45 ["thing"] [])]
def a46 : ASs := (.cons (.ife (.not (.call 45 (.cons (.var 0) .nil))) (.cons .never .nil) .nil) .nil)
def r46 : DR := ⟨a46, 1, 1, []⟩

def n47 : List Str := ["town", "thing"]
def g47 : List (Str × GK) := [("isinstance", .blt), ("str", .blt)]
def a47 : ASs := (.cons (.ret (.and (.isi [.str] (.var 1)) (.op2 .inn (.var 1) (.op2 .ix (.var 0) (.c (.int (0))))))) .nil)
def r47 : DR := ⟨a47, 2, 2, []⟩

def n48 : List Str := ["town", "place"]
def g48 : List (Str × GK) := [("is_place", .fn 47 ["town", "thing"] [])]
def a48 : ASs := (.cons (.sh (.ife (.not (.call 47 (.cons (.var 0) (.cons (.var 1) .nil)))) (.cons .never .nil) .nil)) .nil)
def r48 : DR := ⟨a48, 2, 2, []⟩

def n49 : List Str := ["town", "place", "other"]
def g49 : List (Str × GK) := [("need_place", .fn 48 ["town", "place"] [])]
def a49 : ASs := (.cons (.sh (.drop (.call 48 (.cons (.var 0) (.cons (.var 1) .nil))))) (.cons (.sh (.drop (.call 48 (.cons (.var 0) (.cons (.var 2) .nil))))) (.cons (.ife (.op2 .eq (.var 1) (.var 2)) (.cons .never .nil) .nil) .nil)))
def r49 : DR := ⟨a49, 3, 3, []⟩

def n50 : List Str := ["town", "count", "ways", "all_times", "index"]
def g50 : List (Str × GK) := [("need_map", .fn 46 ["town"] []), ("len", .blt), ("numbered_ways", .fn 37 ["town"] []), ("town_times", .fn 40 ["town"] []), ("range", .blt), ("times_by", .fn 39 ["count", "ways"] []), ("ways_without", .fn 41 ["ways", "index"] [])]
def a50 : ASs := (.cons (.drop (.call 46 (.cons (.var 0) .nil))) (.cons (.parT [1, 2, 3] (.cons (.bi .len (.cons (.op2 .ix (.var 0) (.c (.int (0)))) .nil)) (.cons (.call 37 (.cons (.var 0) .nil)) (.cons (.call 40 (.cons (.var 0) .nil)) .nil)))) (.cons (.ret (.lc (.r1 (.cons (.bi .len (.cons (.var 2) .nil)) .nil)) (.nm 4) (.op2 .eq (.call 39 (.cons (.var 1) (.cons (.call 41 (.cons (.var 2) (.cons (.var 4) .nil))) .nil))) (.var 3)) (.var 4) [4])) .nil)))
def r50 : DR := ⟨a50, 1, 5, []⟩

def n51 : List Str := ["town", "place", "other", "count", "ways", "one", "two", "least", "index"]
def g51 : List (Str × GK) := [("need_map", .fn 46 ["town"] []), ("need_two_places", .fn 49 ["town", "place", "other"] []), ("len", .blt), ("numbered_ways", .fn 37 ["town"] []), ("times_by", .fn 39 ["count", "ways"] []), ("tuple", .blt), ("range", .blt), ("ways_without", .fn 41 ["ways", "index"] [])]
def a51 : ASs := (.cons (.drop (.call 46 (.cons (.var 0) .nil))) (.cons (.sh (.drop (.call 49 (.cons (.var 0) (.cons (.var 1) (.cons (.var 2) .nil)))))) (.cons (.parT [3, 4] (.cons (.bi .len (.cons (.op2 .ix (.var 0) (.c (.int (0)))) .nil)) (.cons (.call 37 (.cons (.var 0) .nil)) .nil))) (.cons (.parT [5, 6] (.cons (.idx (.op2 .ix (.var 0) (.c (.int (0)))) (.var 1)) (.cons (.idx (.op2 .ix (.var 0) (.c (.int (0)))) (.var 2)) .nil))) (.cons (.sh (.asg (.nm 7) (.op2 .ix (.op2 .ix (.call 39 (.cons (.var 3) (.cons (.var 4) .nil))) (.var 5)) (.var 6)))) (.cons (.ret (.bi .tuple (.cons (.lc (.r1 (.cons (.bi .len (.cons (.var 4) .nil)) .nil)) (.nm 8) (.op2 .ne (.op2 .ix (.op2 .ix (.call 39 (.cons (.var 3) (.cons (.call 41 (.cons (.var 4) (.cons (.var 8) .nil))) .nil))) (.var 5)) (.var 6)) (.var 7)) (.var 8) [8]) .nil))) .nil))))))
def r51 : DR := ⟨a51, 3, 9, []⟩

def n52 : List Str := ["feed", "things", "pool", "got", "turn"]
def g52 : List (Str × GK) := [("list", .blt), ("range", .blt), ("len", .blt), ("_law_draw", .fn 20 ["feed", "many"] [])]
def a52 : ASs := (.cons (.par 2 3 (.cons (.bi .list (.cons (.var 1) .nil)) (.cons (.lst .nil) .nil))) (.cons (.for_ (.r1 (.cons (.bi .len (.cons (.var 1) .nil)) .nil)) (.nm 4) (.cons (.drop (.mm .append (.var 3) (.cons (.mm .pop (.var 2) (.cons (.call 20 (.cons (.var 0) (.cons (.bi .len (.cons (.var 2) .nil)) .nil))) .nil)) .nil))) .nil)) (.cons (.ret (.var 3)) .nil)))
def r52 : DR := ⟨a52, 2, 5, [(3, 1), (2, 1)]⟩

def n53 : List Str := ["feed", "many", "way", "start", "letters", "stem", "pool", "at"]
def g53 : List (Str × GK) := [("_law_draw", .fn 20 ["feed", "many"] []), ("_law_mixed", .fn 52 ["feed", "things"] []), ("int", .blt), ("range", .blt)]
def a53 : ASs := (.cons (.parT [2, 3, 4] (.cons (.call 20 (.cons (.var 0) (.cons (.c (.int (4))) .nil))) (.cons (.call 20 (.cons (.var 0) (.cons (.c (.int (26))) .nil))) (.cons (.c (.str "abcdefghijklmnopqrstuvwxyz")) .nil)))) (.cons (.ife (.op2 .eq (.var 2) (.c (.int (0)))) (.cons (.asg (.nm 5) (.sl (.c (.str "q7x0abc")) .omit (.op2 .add (.c (.int (1))) (.call 20 (.cons (.var 0) (.cons (.c (.int (7))) .nil)))))) (.cons (.ret (.call 52 (.cons (.var 0) (.cons (.lc (.r1 (.cons (.var 1) .nil)) (.nm 7) .omit (.op2 .add (.var 5) (.op2 .ix (.var 4) (.op2 .mod (.bi .int (.cons (.op2 .add (.var 3) (.var 7)) .nil)) (.c (.int (26)))))) [7]) .nil)))) .nil)) .nil) (.cons (.ife (.op2 .eq (.var 2) (.c (.int (1)))) (.cons (.ret (.call 52 (.cons (.var 0) (.cons (.lc (.r1 (.cons (.var 1) .nil)) (.nm 7) .omit (.op2 .add (.op2 .ix (.var 4) (.op2 .mod (.bi .int (.cons (.op2 .add (.var 3) (.op2 .mul (.c (.int (3))) (.var 7))) .nil)) (.c (.int (26))))) (.sl (.c (.str "z9a0b1c")) .omit (.call 20 (.cons (.var 0) (.cons (.c (.int (8))) .nil))))) [7]) .nil)))) .nil) .nil) (.cons (.asg (.nm 6) (.lst (.cons (.c (.str "b10")) (.cons (.c (.str "b")) (.cons (.c (.str "zz")) (.cons (.c (.str "a1")) (.cons (.c (.str "q1w2e3r4")) (.cons (.c (.str "b9")) (.cons (.c (.str "x")) (.cons (.c (.str "m0")) (.cons (.c (.str "known")) (.cons (.c (.str "k")) (.cons (.c (.str "a1b")) (.cons (.c (.str "way")) (.cons (.c (.str "place")) (.cons (.c (.str "stay")) (.cons (.c (.str "says")) .nil))))))))))))))))) (.cons (.ret (.sl (.call 52 (.cons (.var 0) (.cons (.op2 .add (.var 6) (.lst (.cons (.c (.str "hour")) (.cons (.c (.str "device")) (.cons (.c (.str "person")) (.cons (.c (.str "first")) (.cons (.c (.str "last")) (.cons (.c (.str "c7")) (.cons (.c (.str "ann")) (.cons (.c (.str "z")) (.cons (.c (.str "a")) .nil))))))))))) .nil))) .omit (.var 1))) .nil)))))
def r53 : DR := ⟨a53, 2, 8, []⟩

def n54 : List Str := ["feed", "most", "more", "many", "places", "top", "turned", "pairs", "rest", "at", "back", "one", "to"]
def g54 : List (Str × GK) := [("_law_draw", .fn 20 ["feed", "many"] []), ("tuple", .blt), ("_law_names", .fn 53 ["feed", "many"] []), ("_law_one", .fn 21 ["feed", "things"] []), ("_law_mixed", .fn 52 ["feed", "things"] []), ("list", .blt), ("range", .blt), ("min", .blt), ("max", .blt), ("len", .blt)]
def a54 : ASs := (.cons (.sh (.asg (.nm 3) (.op2 .add (.c (.int (1))) (.call 20 (.cons (.var 0) (.cons (.var 1) .nil)))))) (.cons (.sh (.parT [4, 5, 6] (.cons (.bi .tuple (.cons (.call 53 (.cons (.var 0) (.cons (.var 3) .nil))) .nil)) (.cons (.call 21 (.cons (.var 0) (.cons (.lst (.cons (.c (.int (2))) (.cons (.c (.int (5))) (.cons (.c (.int (30))) (.cons (.c (.int (10000))) .nil))))) .nil))) (.cons (.call 52 (.cons (.var 0) (.cons (.lrg (.var 3)) .nil))) .nil))))) (.cons (.parT [7, 8] (.cons (.lst .nil) (.cons (.lst .nil) .nil))) (.cons (.for_ (.r2 (.cons (.c (.int (1))) (.cons (.var 3) .nil))) (.nm 9) (.cons (.sh (.asg (.nm 10) (.call 20 (.cons (.var 0) (.cons (.var 9) .nil))))) (.cons (.drop (.mm .append (.var 7) (.cons (.tup (.cons (.bi .min (.cons (.op2 .ix (.var 6) (.var 9)) (.cons (.op2 .ix (.var 6) (.var 10)) .nil))) (.cons (.bi .max (.cons (.op2 .ix (.var 6) (.var 9)) (.cons (.op2 .ix (.var 6) (.var 10)) .nil))) .nil))) .nil))) .nil))) (.cons (.for_ (.r1 (.cons (.var 3) .nil)) (.nm 9) (.cons (.sh (.drop (.mm .extend (.var 8) (.cons (.lc (.r1 (.cons (.var 9) .nil)) (.nm 10) (.op2 .nin (.tup (.cons (.var 10) (.cons (.var 9) .nil))) (.var 7)) (.tup (.cons (.var 10) (.cons (.var 9) .nil))) [10]) .nil)))) .nil)) (.cons (.sh (.asg (.nm 7) (.op2 .add (.var 7) (.sl (.call 52 (.cons (.var 0) (.cons (.var 8) .nil))) .omit (.bi .min (.cons (.call 20 (.cons (.var 0) (.cons (.op2 .add (.var 2) (.c (.int (1)))) .nil))) (.cons (.op2 .sub (.c (.int (40))) (.bi .len (.cons (.var 7) .nil))) .nil))))))) (.cons (.sh (.ret (.tup (.cons (.var 4) (.cons (.bi .tuple (.cons (.lc (.seq (.call 52 (.cons (.var 0) (.cons (.var 7) .nil)))) (.tp (.cons (.nm 11) (.cons (.nm 12) .nil))) .omit (.tup (.cons (.op2 .ix (.var 4) (.var 11)) (.cons (.op2 .ix (.var 4) (.var 12)) (.cons (.op2 .add (.c (.int (1))) (.call 20 (.cons (.var 0) (.cons (.var 5) .nil)))) .nil)))) [11, 12]) .nil)) .nil))))) .nil)))))))
def r54 : DR := ⟨a54, 3, 13, [(7, 1), (8, 1)]⟩

def n55 : List Str := ["town", "many", "at", "to", "rows", "one", "minutes", "a", "b", "mid", "got"]
def g55 : List (Str × GK) := [("len", .blt), ("range", .blt)]
def a55 : ASs := (.cons (.asg (.nm 1) (.bi .len (.cons (.op2 .ix (.var 0) (.c (.int (0)))) .nil))) (.cons (.asg (.nm 4) (.lc (.r1 (.cons (.var 1) .nil)) (.nm 2) .omit (.lc (.r1 (.cons (.var 1) .nil)) (.nm 3) .omit (.ife (.op2 .eq (.var 2) (.var 3)) (.c (.int (0))) (.c .none)) [3]) [2])) (.cons (.for_ (.seq (.op2 .ix (.var 0) (.c (.int (1))))) (.tp (.cons (.nm 5) (.cons (.nm 3) (.cons (.nm 6) .nil)))) (.cons (.par 7 8 (.cons (.idx (.op2 .ix (.var 0) (.c (.int (0)))) (.var 5)) (.cons (.idx (.op2 .ix (.var 0) (.c (.int (0)))) (.var 3)) .nil))) (.cons (.sh (.put (.var 6) (.op2 .ix (.var 4) (.var 7)) (.var 8))) (.cons (.sh (.put (.var 6) (.op2 .ix (.var 4) (.var 8)) (.var 7))) .nil)))) (.cons (.for_ (.r1 (.cons (.var 1) .nil)) (.nm 9) (.cons (.for_ (.r1 (.cons (.var 1) .nil)) (.nm 2) (.cons (.ife (.op2 .isn (.op2 .ix (.op2 .ix (.var 4) (.var 2)) (.var 9)) (.c .none)) (.cons (.for_ (.r1 (.cons (.var 1) .nil)) (.nm 3) (.cons (.asg (.nm 10) (.op2 .ix (.op2 .ix (.var 4) (.var 9)) (.var 3))) (.cons (.ife (.and (.op2 .isn (.var 10) (.c .none)) (.or (.op2 .is_ (.op2 .ix (.op2 .ix (.var 4) (.var 2)) (.var 3)) (.c .none)) (.op2 .lt (.op2 .add (.op2 .ix (.op2 .ix (.var 4) (.var 2)) (.var 9)) (.var 10)) (.op2 .ix (.op2 .ix (.var 4) (.var 2)) (.var 3))))) (.cons (.put (.op2 .add (.op2 .ix (.op2 .ix (.var 4) (.var 2)) (.var 9)) (.var 10)) (.op2 .ix (.var 4) (.var 2)) (.var 3)) .nil) .nil) .nil))) .nil) .nil) .nil)) .nil)) (.cons (.ret (.var 4)) .nil)))))
def r55 : DR := ⟨a55, 1, 11, [(4, 4)]⟩

def n56 : List Str := ["town", "at"]
def g56 : List (Str × GK) := [("_law_times", .fn 55 ["town"] []), ("range", .blt), ("len", .blt)]
def a56 : ASs := (.cons (.ret (.lc (.r1 (.cons (.bi .len (.cons (.op2 .ix (.var 0) (.c (.int (1)))) .nil)) .nil)) (.nm 1) .omit (.call 55 (.cons (.tup (.cons (.op2 .ix (.var 0) (.c (.int (0)))) (.cons (.op2 .add (.sl (.op2 .ix (.var 0) (.c (.int (1)))) .omit (.var 1)) (.sl (.op2 .ix (.var 0) (.c (.int (1)))) (.op2 .add (.var 1) (.c (.int (1)))) .omit)) .nil))) .nil)) [1])) .nil)
def r56 : DR := ⟨a56, 1, 2, []⟩

def n57 : List Str := ["town", "pairs", "whole", "less", "at", "due", "held", "told", "to", "one", "other", "far", "way"]
def g57 : List (Str × GK) := [("_law_times", .fn 55 ["town"] []), ("_law_without", .fn 56 ["town"] []), ("enumerate", .blt), ("repr", .blt), ("needless_ways", .fn 50 ["town"] [["town"]]), ("tuple", .blt), ("needed_way", .fn 51 ["town", "place", "other"] [["other", "town", "place"], ["other", "place", "town"]])]
def a57 : ASs := (.cons (.parT [2, 3] (.cons (.call 55 (.cons (.var 0) .nil)) (.cons (.call 56 (.cons (.var 0) .nil)) .nil))) (.cons (.sh (.par 5 6 (.cons (.lc (.enum (.cons (.var 3) .nil)) (.tp (.cons (.nm 4) (.cons (.nm 11) .nil))) (.op2 .eq (.var 11) (.var 2)) (.var 4) [4, 11]) (.cons (.bi .repr (.cons (.var 0) .nil)) .nil)))) (.cons (.asg (.nm 7) (.call 50 (.cons (.var 0) .nil))) (.cons (.ife (.op2 .ne (.reprL (.cons (.var 7) (.cons (.callK 50 [0] (.cons (.var 0) .nil)) .nil))) (.reprL (.cons (.var 5) (.cons (.var 5) .nil)))) (.cons (.ret (.c (.bool false))) .nil) .nil) (.cons (.drop (.mm .append (.var 7) (.cons (.c (.int (0))) .nil))) (.cons (.ife (.op2 .ne (.bi .repr (.cons (.call 50 (.cons (.var 0) .nil)) .nil)) (.bi .repr (.cons (.var 5) .nil))) (.cons (.ret (.c (.bool false))) .nil) .nil) (.cons (.sh (.for_ (.seq (.var 1)) (.tp (.cons (.nm 4) (.cons (.nm 8) .nil))) (.cons (.par 9 10 (.cons (.op2 .ix (.op2 .ix (.var 0) (.c (.int (0)))) (.var 4)) (.cons (.op2 .ix (.op2 .ix (.var 0) (.c (.int (0)))) (.var 8)) .nil))) (.cons (.sh (.asg (.nm 5) (.bi .tuple (.cons (.lc (.enum (.cons (.var 3) .nil)) (.tp (.cons (.nm 12) (.cons (.nm 11) .nil))) (.op2 .ne (.op2 .ix (.op2 .ix (.var 11) (.var 4)) (.var 8)) (.op2 .ix (.op2 .ix (.var 2) (.var 4)) (.var 8))) (.var 12) [12, 11]) .nil)))) (.cons (.sh (.ife (.op2 .ne (.reprL (.cons (.call 51 (.cons (.var 0) (.cons (.var 9) (.cons (.var 10) .nil)))) (.cons (.callK 51 [1, 2, 0] (.cons (.var 10) (.cons (.var 0) (.cons (.var 9) .nil)))) .nil))) (.reprL (.cons (.var 5) (.cons (.var 5) .nil)))) (.cons (.ret (.c (.bool false))) .nil) .nil)) .nil))))) (.cons (.ret (.op2 .eq (.bi .repr (.cons (.var 0) .nil)) (.var 6))) .nil))))))))
def r57 : DR := ⟨a57, 2, 13, [(7, 1)]⟩

def n58 : List Str := ["script", "k", "feed", "town", "pairs", "at", "great", "to"]
def g58 : List (Str × GK) := [("range", .blt), ("_law_feed", .fn 19 ["script", "k"] []), ("_law_town", .fn 54 ["feed", "most", "more"] []), ("len", .blt), ("_law_asked", .fn 57 ["town", "pairs"] []), ("_law_draw", .fn 20 ["feed", "many"] [])]
def a58 : ASs := (.cons (.for_ (.r1 (.cons (.c (.int (3))) .nil)) (.nm 1) (.cons (.sh (.asg (.nm 2) (.call 19 (.cons (.var 0) (.cons (.var 1) .nil))))) (.cons (.par 3 4 (.cons (.call 54 (.cons (.var 2) (.cons (.c (.int (6))) (.cons (.c (.int (10))) .nil)))) (.cons (.lst .nil) .nil))) (.cons (.for_ (.r1 (.cons (.bi .len (.cons (.op2 .ix (.var 3) (.c (.int (0)))) .nil)) .nil)) (.nm 5) (.cons (.sh (.drop (.mm .extend (.var 4) (.cons (.lc (.r1 (.cons (.bi .len (.cons (.op2 .ix (.var 3) (.c (.int (0)))) .nil)) .nil)) (.nm 7) (.op2 .ne (.var 7) (.var 5)) (.tup (.cons (.var 5) (.cons (.var 7) .nil))) [7]) .nil)))) .nil)) (.cons (.sh (.ife (.not (.call 57 (.cons (.var 3) (.cons (.var 4) .nil)))) (.cons (.ret (.c (.bool false))) .nil) .nil)) .nil))))) (.cons (.asg (.nm 2) (.call 19 (.cons (.var 0) (.cons (.c (.int (3))) .nil)))) (.cons (.asg (.nm 6) (.call 54 (.cons (.var 2) (.cons (.c (.int (12))) (.cons (.c (.int (40))) .nil))))) (.cons (.asg (.nm 5) (.call 20 (.cons (.var 2) (.cons (.bi .len (.cons (.op2 .ix (.var 6) (.c (.int (0)))) .nil)) .nil)))) (.cons (.sh (.ret (.call 57 (.cons (.var 6) (.cons (.lc (.r1 (.cons (.bi .len (.cons (.op2 .ix (.var 6) (.c (.int (0)))) .nil)) .nil)) (.nm 7) (.op2 .ne (.var 7) (.var 5)) (.tup (.cons (.var 5) (.cons (.var 7) .nil))) [7]) .nil))))) .nil)))))
def r58 : DR := ⟨a58, 1, 8, [(4, 1), (2, 1)]⟩end Hs

namespace Dl
open L2 PySem PyProof.Rows PySem.Spec
structure Bd (c p : Nat) (d : PyData) : Prop where
  sh : d.showable = true
  ly : d.canLay0 = true
  dp : d.depth ≤ p
  sz : d.shown.length ≤ c
theorem Bd.mono {c p c' p' : Nat} {d : PyData} (h : Bd c p d) (h1 : c ≤ c') (h2 : p ≤ p') : Bd c' p' d := ⟨h.sh, h.ly, Nat.le_trans h.dp h2, Nat.le_trans h.sz h1⟩
theorem Bd.none {c p : Nat} (h : 4 ≤ c) : Bd c p .none := ⟨rfl, rfl, Nat.zero_le _, Nat.le_trans (show (PyData.shown .none).length ≤ 4 by decide +kernel) h⟩
theorem Bd.bool {c p : Nat} {b : Bool} (h : 5 ≤ c) : Bd c p (.bool b) := ⟨rfl, rfl, Nat.zero_le _, Nat.le_trans (show (PyData.shown (.bool b)).length ≤ 5 by cases b <;> decide +kernel) h⟩
theorem Bd.int {c p : Nat} {i : Int} (k : Nat) (hk : 0 < k) (hi : i.natAbs < 10 ^ k) (h : k + 1 ≤ c) (h2 : k ≤ 400) : Bd c p (.int i) := by
  refine ⟨?_, rfl, Nat.zero_le _, ?_⟩
  · show decide (i.natAbs.log2 < 1920) = true
    rw [decide_eq_true_eq]
    have h4 : i.natAbs < 2 ^ (4 * k) := Nat.lt_of_lt_of_le hi (by rw [Nat.pow_mul]; exact Nat.pow_le_pow_left (by decide) k)
    have := lg2 h4
    omega
  · show (Str.ofString (toString i)).length ≤ c
    rw [PySem.ofString_length]
    have := int_text_length_le10 hk hi
    omega
theorem Bd.small {c p : Nat} {i : Int} (hi : -1000000000 < i ∧ i < 1000000000) (h : 10 ≤ c) : Bd c p (.int i) := Bd.int 9 (by decide) (by omega) h (by decide)
theorem Bd.str {c p : Nat} {x : Str} (hx : ∀ a ∈ x.cps.toList, a < 0x110000) (h : 10 * x.length + 2 ≤ c) : Bd c p (.str x) := by
  refine ⟨rfl, ?_, Nat.zero_le _, ?_⟩
  · show x.cps.all (· < 0x110000) = true
    rw [← Array.all_toList, List.all_eq_true]
    exact fun a ha => decide_eq_true (hx a ha)
  · have := StrLaws.reprText_len x fun a ha => Nat.lt_trans (hx a ha) (by decide)
    exact Nat.le_trans this h
theorem sum_le {c : Nat} : ∀ {ls : List Nat}, (∀ l ∈ ls, l ≤ c) → ls.sum ≤ ls.length * c
  | [], _ => by simp
  | l :: ls, h => by
    have := sum_le fun l hl => h l (List.mem_cons_of_mem _ hl)
    have := h l List.mem_cons_self
    rw [List.sum_cons, List.length_cons, Nat.add_mul]
    omega
theorem shownAll_map : ∀ xs : List PyData, PyData.shownAll xs = xs.map PyData.shown
  | [] => rfl
  | x :: xs => by rw [PyData.shownAll, shownAll_map xs]; rfl
theorem bdAll {c p : Nat} : ∀ {xs : List PyData}, (∀ x ∈ xs, Bd c p x) → PyData.showableAll xs = true ∧ PyData.canLayAll0 xs = true ∧ PyData.depthAll xs ≤ p ∧ ((PyData.shownAll xs).map (·.length)).sum ≤ xs.length * c
  | [], _ => ⟨rfl, rfl, Nat.zero_le _, Nat.zero_le _⟩
  | x :: xs, h => by
    obtain ⟨h1, h2, h3, h4⟩ := bdAll fun y hy => h y (List.mem_cons_of_mem _ hy)
    have hx := h x List.mem_cons_self
    refine ⟨?_, ?_, ?_, ?_⟩
    · rw [PyData.showableAll, hx.sh, h1]; rfl
    · rw [PyData.canLayAll0, hx.ly, h2]; rfl
    · rw [PyData.depthAll]; have := hx.dp; omega
    · rw [PyData.shownAll, List.map_cons, List.sum_cons, List.length_cons, Nat.add_mul]
      have := hx.sz
      omega
theorem Bd.list {c p : Nat} {xs : List PyData} (n : Nat) (h : ∀ x ∈ xs, Bd c p x) (hn : xs.length ≤ n) : Bd (n * (c + 2) + 3) (p + 1) (.list xs) := by
  obtain ⟨h1, h2, h3, h4⟩ := bdAll h
  refine ⟨h1, h2, by rw [PyData.depth]; omega, ?_⟩
  have e := listText_len_le (PyData.shownAll xs)
  have l : (PyData.shownAll xs).length = xs.length := by rw [shownAll_map, List.length_map]
  have m := Nat.mul_le_mul_right (c + 2) hn
  rw [Nat.mul_add] at m
  show (listText (PyData.shownAll xs)).length ≤ _
  rw [Nat.mul_add] at *
  omega
theorem Bd.tuple {c p : Nat} {xs : List PyData} (n : Nat) (h : ∀ x ∈ xs, Bd c p x) (hn : xs.length ≤ n) : Bd (n * (c + 2) + 3) (p + 1) (.tuple xs) := by
  obtain ⟨h1, h2, h3, h4⟩ := bdAll h
  refine ⟨h1, h2, by rw [PyData.depth]; omega, ?_⟩
  have e := tupleText_len_le (PyData.shownAll xs)
  have l : (PyData.shownAll xs).length = xs.length := by rw [shownAll_map, List.length_map]
  have m := Nat.mul_le_mul_right (c + 2) hn
  rw [Nat.mul_add] at m
  show (tupleText (PyData.shownAll xs)).length ≤ _
  rw [Nat.mul_add] at *
  omega
theorem lyAll {p : Nat} : ∀ {xs : List PyData}, (∀ x ∈ xs, x.canLay0 = true ∧ x.depth ≤ p) → PyData.canLayAll0 xs = true ∧ PyData.depthAll xs ≤ p
  | [], _ => ⟨rfl, Nat.zero_le _⟩
  | x :: xs, h => by
    obtain ⟨h1, h2⟩ := lyAll fun y hy => h y (List.mem_cons_of_mem _ hy)
    have hx := h x List.mem_cons_self
    refine ⟨?_, ?_⟩
    · rw [PyData.canLayAll0, hx.1, h1]; rfl
    · rw [PyData.depthAll]; omega
theorem ly_list {p : Nat} {xs : List PyData} (h : ∀ x ∈ xs, x.canLay0 = true ∧ x.depth ≤ p) : (PyData.list xs).canLay0 = true ∧ (PyData.list xs).depth ≤ p + 1 := by
  obtain ⟨h1, h2⟩ := lyAll h
  exact ⟨h1, by rw [PyData.depth]; omega⟩
theorem ly_tuple {p : Nat} {xs : List PyData} (h : ∀ x ∈ xs, x.canLay0 = true ∧ x.depth ≤ p) : (PyData.tuple xs).canLay0 = true ∧ (PyData.tuple xs).depth ≤ p + 1 := by
  obtain ⟨h1, h2⟩ := lyAll h
  exact ⟨h1, by rw [PyData.depth]; omega⟩
theorem ly_shaped {p : Nat} {x : PyData} (h : x.canLay0 = true ∧ x.depth ≤ p) (hp : p ≤ 60) : SeqAt.shaped x = true := by
  show (x.canLay0 && decide (x.depth ≤ 64)) = true
  rw [h.1, Bool.true_and, decide_eq_true_eq]
  omega
theorem Bd.shown {c p : Nat} {d : PyData} (h : Bd c p d) (h1 : c ≤ 1000000) (h2 : p ≤ 60) : Shown d := ⟨h.sh, PyData.hasDict_of_canLay d h.ly, Nat.le_trans h.dp h2, Nat.le_trans h.sz (Nat.le_trans h1 (by decide))⟩
theorem Bd.shaped {c p : Nat} {d : PyData} (h : Bd c p d) (h2 : p ≤ 60) : SeqAt.shaped d = true := by
  show (d.canLay0 && decide (d.depth ≤ 64)) = true
  rw [h.ly, Bool.true_and, decide_eq_true_eq]
  have := h.dp
  omega
end Dl

namespace Hs
open L2 Dl PySem PyProof.Rows PySem.Spec Fw
local macro_rules
  | `(tactic| simp_arith [$ls,*]) => `(tactic| simp -implicitDefEqProofs (disch := omega) only [↓ob_i, ↓ob2_i, ↓gu_i, ↓cs_i, obi_some, ob2i_some, obi_none, ob2i_none, obi_obi, obi_ob2i, ob2i_obi, ob2i_ob2i, obi_gui, ob2i_gui, obi_csi, ob2i_csi, csi_t, csi_f, gui_true, headD_nil, tail_nil, oPow, evE_var, evE_c, evE_kt, evE_op2, evE_neg, evE_chain, evE_and, evE_or, evE_not, evE_ife, evE_sl, evE_omit, evE_call, evE_callK, evE_bi, evE_isi, evE_mm, evE_get2, evE_tup, evE_lst, evE_dnew, evE_lc, evE_lcD, evE_dne0, evE_rev, evT_omit, evT_and, evT_or, evT_not, evT_op2, evT_chain, evT_dne0, evT_var, evT_c, evT_call, evT_bi, evT_isi, evT_lc, evO_omit, evO_var, evO_c, evO_op2, evO_neg, evO_call, evO_bi, evEs_nil, evEs_cons, evI_seq, evI_r1, evI_r2, evI_r3, evI_zip, evI_enum, evG_nm, evG_tp, evS_pass, evS_brk, evS_cont, evS_never, evS_retN, evS_drop, evS_asg, evS_par, evS_par3, evS_put, evS_aug, evS_ife, evS_for_, evS_while_, evS_ret, evS_sh, evSs_nil, evSs_cons, evGs_nil, evGs_cons, thenO, Dl.fin, outR, retO, oVar, Dl.e2, eD2, eD1, eAdd, eIs, eIn, eIx, eBi, eBiL, rdL, eCall, eRet, frz_if, Dl.refs, Dl.ren, Dl.rd, Dl.oK, oInt, Dl.oI, resO, newO, oAdd, oSub, oMul, oDiv, oMod, oNeg, oEq, oNe, oEqB, Dl.rB, oLt, oLe, oGt, oGe, oBool, oTru, oBi, oLen, oTup, oIx, isKt, kdOf, dictOf, isN, isi_i, isi_b, isi_s, isi_l, isi_t, isi_lt', isi_is', chainE, dsO, Dl.kd, kdG, dpS, dpE, dpA, dpT, dpV, dpI, vOf, Dl.hd0, par2, par3, frzs, frz1, eMM, isL, lstO, eSl, oSl, isCmp, lenG, tupO, seqO, r1O, r2O, zipO, enumO, bne0, bne1, List.map_cons, List.map_nil, List.length_cons, List.length_nil, List.cons_append, List.nil_append, List.append_nil, List.replicate, List.getElem?_cons_zero, List.getElem?_cons_succ, List.set_cons_zero, List.set_cons_succ, Nat.reduceAdd, Nat.reduceSub, Option.toList, List.headD_cons, List.tail_cons, Bool.or_false, Bool.false_or, Bool.not_true, Bool.not_false, List.lookup, List.all_nil, List.take, Nat.zero_add, ePut, augO, lcS_eq, forS_eq, whileS_eq, wipeA, killA, dropN, hideF_d, hideF_k, hideF_s, hideF_n, hideF_m, hideF_g, hideF_r, hideF_rg, toBools, toInts, intsO, boolsO, isGone, decide_true, decide_false, eq_self, if_true, if_false, Nat.reduceBEq, Nat.reduceBNe, Nat.reduceEqDiff, Nat.reduceLeDiff, Int.reduceLT, Int.reduceLE, Int.reduceEq, Int.reduceNe, Int.reduceBEq, Int.reduceBNe, Int.reduceNeg, reduceIte, reduceCtorEq, Option.getD_none, Option.getD_some, List.lookup_nil, ne_eq, List.length_map, List.length_zip, List.length_drop, List.length_append, Int.cast_ofNat_Int, sh_nil, sh_nilT, sh_ones, eqv_nil, List.isEmpty_map, and_self, and_true, true_and, lcDO, hideJ, List.length_take, keepA_nil, keepA_cons, Nat.reduceSub, pick, List.getD_cons_zero, List.getD_cons_succ, evE_lset, oLenSet, evE_idx, evE_lrg, evE_reprL, evE_upd, evE_lsc, evE_dcm, dmS_eq, scS_eq, mtS_eq, tupA, lrgO, dkO, oKd, keyD, mtO_new, mt_take, evS_parT, parTO, setAll, not_false_eq_true, not_true_eq_false, mtO_new0, mtO_new1, List.take_zero, oLook, Option.isSome_some, Option.isSome_none, List.length_range, subF, frzC, Option.map_some, evE_trg, gu_le, gu_lt, gu_mulL, gu_mulR, gu_div, gu_pow10, gu_posI, gu_rg, gu_rg2, atI_0, atI_1, atI_2, atI_3, atI_4, ixN_lit, ixN_neg, atI_lst, Int.reduceToNat, Int.reduceNeg, Int.reduceAdd, Int.reduceSub, Int.reduceMul, Int.reducePow, Nat.reducePow, Int.toNat_natCast, gu_str, gu_ix, gu_rgk, $ls,*])
  | `(tactic| simp_arith only [$ls,*]) => `(tactic| simp only [↓ob_i, ↓ob2_i, ↓gu_i, ↓cs_i, obi_some, ob2i_some, obi_none, ob2i_none, obi_obi, obi_ob2i, ob2i_obi, ob2i_ob2i, obi_gui, ob2i_gui, obi_csi, ob2i_csi, csi_t, csi_f, gui_true, headD_nil, tail_nil, oPow, evE_var, evE_c, evE_kt, evE_op2, evE_neg, evE_chain, evE_and, evE_or, evE_not, evE_ife, evE_sl, evE_omit, evE_call, evE_callK, evE_bi, evE_isi, evE_mm, evE_get2, evE_tup, evE_lst, evE_dnew, evE_lc, evE_lcD, evE_dne0, evE_rev, evT_omit, evT_and, evT_or, evT_not, evT_op2, evT_chain, evT_dne0, evT_var, evT_c, evT_call, evT_bi, evT_isi, evT_lc, evO_omit, evO_var, evO_c, evO_op2, evO_neg, evO_call, evO_bi, evEs_nil, evEs_cons, evI_seq, evI_r1, evI_r2, evI_r3, evI_zip, evI_enum, evG_nm, evG_tp, evS_pass, evS_brk, evS_cont, evS_never, evS_retN, evS_drop, evS_asg, evS_par, evS_par3, evS_put, evS_aug, evS_ife, evS_for_, evS_while_, evS_ret, evS_sh, evSs_nil, evSs_cons, evGs_nil, evGs_cons, thenO, Dl.fin, outR, retO, oVar, Dl.e2, eD2, eD1, eAdd, eIs, eIn, eIx, eBi, eBiL, rdL, eCall, eRet, frz_if, Dl.refs, Dl.ren, Dl.rd, Dl.oK, oInt, Dl.oI, resO, newO, oAdd, oSub, oMul, oDiv, oMod, oNeg, oEq, oNe, oEqB, Dl.rB, oLt, oLe, oGt, oGe, oBool, oTru, oBi, oLen, oTup, oIx, isKt, kdOf, dictOf, isN, isi_i, isi_b, isi_s, isi_l, isi_t, isi_lt', isi_is', chainE, dsO, Dl.kd, kdG, dpS, dpE, dpA, dpT, dpV, dpI, vOf, Dl.hd0, par2, par3, frzs, frz1, eMM, isL, lstO, eSl, oSl, isCmp, lenG, tupO, seqO, r1O, r2O, zipO, enumO, bne0, bne1, List.map_cons, List.map_nil, List.length_cons, List.length_nil, List.cons_append, List.nil_append, List.append_nil, List.replicate, List.getElem?_cons_zero, List.getElem?_cons_succ, List.set_cons_zero, List.set_cons_succ, Nat.reduceAdd, Nat.reduceSub, Option.toList, List.headD_cons, List.tail_cons, Bool.or_false, Bool.false_or, Bool.not_true, Bool.not_false, List.lookup, List.all_nil, List.take, Nat.zero_add, ePut, augO, lcS_eq, forS_eq, whileS_eq, wipeA, killA, dropN, hideF_d, hideF_k, hideF_s, hideF_n, hideF_m, hideF_g, hideF_r, hideF_rg, toBools, toInts, intsO, boolsO, isGone, decide_true, decide_false, eq_self, if_true, if_false, Nat.reduceBEq, Nat.reduceBNe, Nat.reduceEqDiff, Nat.reduceLeDiff, Int.reduceLT, Int.reduceLE, Int.reduceEq, Int.reduceNe, Int.reduceBEq, Int.reduceBNe, Int.reduceNeg, reduceIte, reduceCtorEq, Option.getD_none, Option.getD_some, List.lookup_nil, ne_eq, List.length_map, List.length_zip, List.length_drop, List.length_append, Int.cast_ofNat_Int, sh_nil, sh_nilT, sh_ones, eqv_nil, List.isEmpty_map, and_self, and_true, true_and, lcDO, hideJ, List.length_take, keepA_nil, keepA_cons, Nat.reduceSub, pick, List.getD_cons_zero, List.getD_cons_succ, evE_lset, oLenSet, evE_idx, evE_lrg, evE_reprL, evE_upd, evE_lsc, evE_dcm, dmS_eq, scS_eq, mtS_eq, tupA, lrgO, dkO, oKd, keyD, mtO_new, mt_take, evS_parT, parTO, setAll, not_false_eq_true, not_true_eq_false, mtO_new0, mtO_new1, List.take_zero, oLook, Option.isSome_some, Option.isSome_none, List.length_range, subF, frzC, Option.map_some, evE_trg, $ls,*])
  | `(tactic| simp_arith! [$ls,*]) => `(tactic| simp [↓ob_i, ↓ob2_i, ↓gu_i, ↓cs_i, obi_some, ob2i_some, obi_none, ob2i_none, obi_obi, obi_ob2i, ob2i_obi, ob2i_ob2i, obi_gui, ob2i_gui, obi_csi, ob2i_csi, csi_t, csi_f, gui_true, headD_nil, tail_nil, oPow, evE_var, evE_c, evE_kt, evE_op2, evE_neg, evE_chain, evE_and, evE_or, evE_not, evE_ife, evE_sl, evE_omit, evE_call, evE_callK, evE_bi, evE_isi, evE_mm, evE_get2, evE_tup, evE_lst, evE_dnew, evE_lc, evE_lcD, evE_dne0, evE_rev, evT_omit, evT_and, evT_or, evT_not, evT_op2, evT_chain, evT_dne0, evT_var, evT_c, evT_call, evT_bi, evT_isi, evT_lc, evO_omit, evO_var, evO_c, evO_op2, evO_neg, evO_call, evO_bi, evEs_nil, evEs_cons, evI_seq, evI_r1, evI_r2, evI_r3, evI_zip, evI_enum, evG_nm, evG_tp, evS_pass, evS_brk, evS_cont, evS_never, evS_retN, evS_drop, evS_asg, evS_par, evS_par3, evS_put, evS_aug, evS_ife, evS_for_, evS_while_, evS_ret, evS_sh, evSs_nil, evSs_cons, evGs_nil, evGs_cons, thenO, Dl.fin, outR, retO, oVar, Dl.e2, eD2, eD1, eAdd, eIs, eIn, eIx, eBi, eBiL, rdL, eCall, eRet, frz_if, Dl.refs, Dl.ren, Dl.rd, Dl.oK, oInt, Dl.oI, resO, newO, oAdd, oSub, oMul, oDiv, oMod, oNeg, oEq, oNe, oEqB, Dl.rB, oLt, oLe, oGt, oGe, oBool, oTru, oBi, oLen, oTup, oIx, isKt, kdOf, dictOf, isN, isi_i, isi_b, isi_s, isi_l, isi_t, isi_lt', isi_is', chainE, dsO, Dl.kd, kdG, dpS, dpE, dpA, dpT, dpV, dpI, vOf, Dl.hd0, par2, par3, frzs, frz1, eMM, isL, lstO, eSl, oSl, isCmp, lenG, tupO, seqO, r1O, r2O, zipO, enumO, bne0, bne1, List.map_cons, List.map_nil, List.length_cons, List.length_nil, List.cons_append, List.nil_append, List.append_nil, List.replicate, List.getElem?_cons_zero, List.getElem?_cons_succ, List.set_cons_zero, List.set_cons_succ, Nat.reduceAdd, Nat.reduceSub, Option.toList, List.headD_cons, List.tail_cons, Bool.or_false, Bool.false_or, Bool.not_true, Bool.not_false, List.lookup, List.all_nil, List.take, Nat.zero_add, ePut, augO, lcS_eq, forS_eq, whileS_eq, wipeA, killA, dropN, hideF_d, hideF_k, hideF_s, hideF_n, hideF_m, hideF_g, hideF_r, hideF_rg, toBools, toInts, intsO, boolsO, isGone, decide_true, decide_false, eq_self, if_true, if_false, Nat.reduceBEq, Nat.reduceBNe, Nat.reduceEqDiff, Nat.reduceLeDiff, Int.reduceLT, Int.reduceLE, Int.reduceEq, Int.reduceNe, Int.reduceBEq, Int.reduceBNe, Int.reduceNeg, reduceIte, reduceCtorEq, Option.getD_none, Option.getD_some, List.lookup_nil, ne_eq, List.length_map, List.length_zip, List.length_drop, List.length_append, Int.cast_ofNat_Int, sh_nil, sh_nilT, sh_ones, eqv_nil, List.isEmpty_map, and_self, and_true, true_and, lcDO, hideJ, List.length_take, keepA_nil, keepA_cons, Nat.reduceSub, pick, List.getD_cons_zero, List.getD_cons_succ, evE_lset, oLenSet, evE_idx, evE_lrg, evE_reprL, evE_upd, evE_lsc, evE_dcm, dmS_eq, scS_eq, mtS_eq, tupA, lrgO, dkO, oKd, keyD, mtO_new, mt_take, evS_parT, parTO, setAll, not_false_eq_true, not_true_eq_false, mtO_new0, mtO_new1, List.take_zero, oLook, Option.isSome_some, Option.isSome_none, List.length_range, subF, frzC, Option.map_some, evE_trg, $ls,*])
variable {D : Tab} {k : Nat}
abbrev letS : Str := "abcdefghijklmnopqrstuvwxyz"
abbrev digS : Str := "0123456789"
def NameOk (s : Str) : Prop := 1 ≤ s.cps.toList.length ∧ s.cps.toList.length ≤ 8 ∧ (∀ c, s.cps.toList[0]? = some c → c ∈ letS.cps.toList) ∧ ∀ c ∈ s.cps.toList, c ∈ letS.cps.toList ∨ c ∈ digS.cps.toList
theorem len_cps (s : Str) : s.length = s.cps.toList.length := by simp [Str.length]
theorem is_name_ev [Hd D 33 r33] {s : Str} (h : NameOk s) : evF D (k + 1) 33 [.d (.str s)] none = some (.data (.bool true), none) := by
  obtain ⟨h1, h2, h3, h4⟩ := h
  have hl := len_cps s
  cases q : s.cps.toList with
  | nil => rw [q] at h1; simp at h1
  | cons c cs =>
    have c1 : c ∈ letS.cps.toList := h3 c (by rw [q]; rfl)
    have h7 : cs.length ≤ 7 := by rw [q] at h2; simp at h2; omega
    rw [ev_eq]
    have hs : Dl.signsD s = s.cps.toList.map fun c => PyData.str ⟨#[c]⟩ := rfl
    rw [q] at hl
    have e1 : ∀ (z : Str) (c : Nat), oIn (.str ⟨#[c]⟩) (.str z) = some (decide (c ∈ z.cps.toList)) := fun z c => rfl
    simp_arith [csi_dT, csi_dF, csi_nT, csi_nF, r33, a33, isSt, hl, q, atI_0, e1, decide_eq_true c1, hs]
    rw [show (PyData.str ⟨#[c]⟩ :: cs.map fun c => PyData.str ⟨#[c]⟩) = (c :: cs).map fun c => PyData.str ⟨#[c]⟩ from rfl, lcL_map, lcL_pure (g := fun _ => .bool true) fun d hd => by
      rcases h4 d (by rw [q]; exact hd) with e | e
      · simp_arith [e1, decide_eq_true e]
      · by_cases e' : d ∈ letS.cps.toList
        · simp_arith [e1, decide_eq_true e']
        · simp_arith [e1, decide_eq_false e', decide_eq_true e]]
    simp_arith [toBools_f, List.all_map, Function.comp_def, id, all_tt]
    simp
theorem dedK_nd {κ : Type} [DecidableEq κ] : ∀ {xs : List κ}, xs.Nodup → (dedK xs).length = xs.length := by
  have go : ∀ (xs acc : List κ), xs.Nodup → (∀ x ∈ xs, x ∉ acc) → (xs.foldl insK acc).length = acc.length + xs.length := fun xs => by
    induction xs with
    | nil => intro acc _ _; rfl
    | cons x xs ih =>
      intro acc nd h
      rw [List.nodup_cons] at nd
      rw [List.foldl_cons]
      have e : insK acc x = x :: acc := if_neg (h x List.mem_cons_self)
      rw [e, ih _ nd.2]
      · simp; omega
      · intro y hy z
        rcases List.mem_cons.mp z with z | z
        · subst z; exact nd.1 hy
        · exact h y (List.mem_cons_of_mem _ hy) z
  intro xs h
  have := go xs [] h (by simp)
  simpa [dedK] using this
theorem toStrs_map (ss : List Str) : toStrs (ss.map .str) = some ss := by
  induction ss with
  | nil => rfl
  | cons s ss ih => show (toStrs (ss.map .str)).map _ = _; rw [ih]; rfl
theorem are_unlike_ev [Hd D 34 r34] {ss : List Str} (nd : ss.Nodup) (hl : ss.length ≤ 1000) : evF D (k + 1) 34 [.d (.tuple (ss.map .str))] none = some (.data (.bool true), none) := by
  rw [ev_eq]
  simp_arith [r34, a34, toStrs_map, gu_pos hl, dedK_nd nd]
theorem are_names_ev [Hd D 33 r33] [Hd D 34 r34] [Hd D 35 r35] {ss : List Str} (nd : ss.Nodup) (hl : ss.length ≤ 1000) (h : ∀ s ∈ ss, NameOk s) : evF D (k + 2) 35 [.d (.tuple (ss.map .str))] none = some (.data (.bool true), none) := by
  rw [ev_eq]
  simp_arith [r35, a35]
  rw [lcL_map, lcL_pure (g := fun _ => .bool true) fun s hs => by simp_arith [is_name_ev (h s hs)]]
  simp_arith [toBools_f, List.all_map, Function.comp_def, id, all_tt, are_unlike_ev nd hl]
theorem oIn_nm {names : List Str} {i : Nat} {s : Str} (h : names[i]? = some s) : oIn (.str s) (.tuple (names.map .str)) = some true := by
  show gu _ _ = _
  unfold gu
  have e1 : (names.map PyData.str).all flatD = true := by simp [flatD]
  rw [if_pos ⟨rfl, e1⟩]
  congr 1
  rw [List.any_map, List.any_eq_true]
  exact ⟨s, List.mem_of_getElem? h, by simp [PyData.eqv]⟩
theorem are_some_of_ev [Hd D 34 r34] [Hd D 36 r36] {names : List Str} {i j : Nat} {s t : Str} (hi : names[i]? = some s) (hj : names[j]? = some t) (ne : s ≠ t) : evF D (k + 2) 36 [.d (.tuple [.str s, .str t]), .d (.tuple (names.map .str))] none = some (.data (.bool true), none) := by
  rw [ev_eq]
  have nd : [s, t].Nodup := by simp [ne]
  have u := are_unlike_ev (D := D) (k := k) nd (by simp)
  simp only [List.map_cons, List.map_nil] at u
  simp_arith [r36, a36, lcL_cons, lcL_nil, isSt, oIn_nm hi, oIn_nm hj, u, List.all_cons, id, Bool.and_true]
def nmA (names : List Str) (i : Nat) : Str := names.getD i ⟨#[]⟩
theorem nmA_get {names : List Str} {i : Nat} (h : i < names.length) : names[i]? = some (nmA names i) := by
  unfold nmA
  rw [List.getD_eq_getElem?_getD, List.getElem?_eq_getElem h]
  rfl
def wayD (names : List Str) (w : Wy) : PyData := .tuple [.str (nmA names w.1), .str (nmA names w.2.1), .int w.2.2]
def nwD (w : Wy) : PyData := .tuple [.int (w.1 : Int), .int (w.2.1 : Int), .int w.2.2]
def townD (names : List Str) (ws : List Wy) : PyData := .tuple [.tuple (names.map .str), .tuple (ws.map (wayD names))]
structure TownOk (names : List Str) (ws : List Wy) : Prop where
  pos : 0 < names.length
  len : names.length ≤ 12
  nd : names.Nodup
  nm : ∀ s ∈ names, NameOk s
  ways : WaysOk names.length ws
  most : ∀ w ∈ ws, w.2.2 ≤ 10000
  wlen : ws.length ≤ 40
  conn : Conn names.length (ws.map fun w => (w.1, w.2.1))
theorem idx_nm {names : List Str} (nd : names.Nodup) {i : Nat} (h : i < names.length) : idxO names (.d (.str (nmA names i))) = some i := by
  unfold idxO
  rw [List.findIdx?_eq_some_iff_getElem]
  have e : names[i] = nmA names i := by
    have := nmA_get h
    rw [List.getElem?_eq_getElem h] at this
    simpa using this
  refine ⟨h, by simpa using e, fun j hj => ?_⟩
  simp only [decide_eq_true_eq]
  intro z
  have hj2 : j < names.length := by omega
  have : names[j]? = names[i]? := by rw [List.getElem?_eq_getElem hj2, z, nmA_get h]
  have := (List.getElem?_inj hj2 nd).mp this
  omega
theorem numbered_ways_ev [Hd D 37 r37] {names : List Str} {ws : List Wy} (nd : names.Nodup) (lt : ∀ w ∈ ws, w.1 < names.length ∧ w.2.1 < names.length) (hl : ws.length ≤ 1000) : evF D (k + 1) 37 [.d (townD names ws)] none = some (.cell (.lst (ws.map nwD)), none) := by
  rw [ev_eq]
  simp_arith [r37, a37, townD]
  rw [lcL_map, lcL_pure (g := nwD) fun w hw => by
    have := lt w hw
    simp_arith [wayD, toStrs_map, idx_nm nd this.1, idx_nm nd this.2, nwD]]
  simp_arith []
def oD : Option Int → PyData
  | none => .none
  | some i => .int i
theorem oD_n : oD none = .none := rfl
theorem oD_s {i : Int} : oD (some i) = .int i := rfl
theorem lesser_ev [Hd D 38 r38] (a b : Option Int) : evF D (k + 1) 38 [.d (oD a), .d (oD b)] none = some (.data (oD (minO a b)), none) := by
  rw [ev_eq]
  cases a <;> cases b <;> (simp_arith [r38, a38, oD, minO, minI]; try rfl)
theorem lesser_evS [Hd D 38 r38] (a : Option Int) (b : Int) : evF D (k + 1) 38 [.d (oD a), .d (.int b)] none = some (.data (oD (minO a (some b))), none) := lesser_ev a (some b)
def rowR (n : Nat) (f : Mx) (i : Nat) : List PyData := (List.range n).map fun j => oD (f i j)
def matR (n : Nat) (f : Mx) : List (List PyData) := (List.range n).map fun i => rowR n f i
theorem rowR_len {n i : Nat} {f : Mx} : (rowR n f i).length = n := by simp [rowR]
theorem matR_len {n : Nat} {f : Mx} : (matR n f).length = n := by simp [matR]
theorem rowR_get {n i j : Nat} {f : Mx} (h : j < n) : (rowR n f i)[j]? = some (oD (f i j)) := by simp [rowR, h]
theorem matR_get {n i : Nat} {f : Mx} (h : i < n) : (matR n f)[i]? = some (rowR n f i) := by simp [matR, h]
theorem atI_row {n i j : Nat} {f : Mx} (h : j < n) : atI (rowR n f i) (j : Int) = some (oD (f i j)) := atI_nat (rowR_get h)
theorem matR_ext {n : Nat} {f g : Mx} (h : ∀ i j, i < n → j < n → f i j = g i j) : matR n f = matR n g := by
  unfold matR rowR
  apply List.map_congr_left
  intro i hi
  apply List.map_congr_left
  intro j hj
  rw [h i j (List.mem_range.mp hi) (List.mem_range.mp hj)]
theorem matR_set {n a b : Nat} {f : Mx} {v : Option Int} (ha : a < n) (hb : b < n) : (matR n f).set a ((rowR n f a).set b (oD v)) = matR n (upM f a b v) := by
  apply List.ext_getElem?
  intro i
  by_cases hi : i < n
  · rw [matR_get hi]
    by_cases e : i = a
    · subst e
      rw [List.getElem?_set_self (by rw [matR_len]; exact hi)]
      congr 1
      apply List.ext_getElem?
      intro j
      by_cases hj : j < n
      · rw [rowR_get hj]
        by_cases e : j = b
        · subst e
          rw [List.getElem?_set_self (by rw [rowR_len]; exact hj)]
          simp [upM]
        · rw [List.getElem?_set_ne (Ne.symm e), rowR_get hj]
          simp [upM, e]
      · rw [List.getElem?_eq_none (by rw [List.length_set, rowR_len]; omega), List.getElem?_eq_none (by rw [rowR_len]; omega)]
    · rw [List.getElem?_set_ne (Ne.symm e), matR_get hi]
      congr 1
      unfold rowR
      apply List.map_congr_left
      intro j _
      simp [upM, e]
  · rw [List.getElem?_eq_none (by rw [List.length_set, matR_len]; omega), List.getElem?_eq_none (by rw [matR_len]; omega)]
theorem ini_mat (n : Nat) : (rangeD 0 n).map (fun x => (rangeD 0 n).map fun y => if PyData.eqv x y = true then PyData.int 0 else .none) = matR n ini := by
  unfold rangeD matR rowR
  rw [List.map_map]
  apply List.map_congr_left
  intro i _
  show List.map _ (List.map _ _) = _
  rw [List.map_map]
  apply List.map_congr_left
  intro j _
  show (if PyData.eqv (.int _) (.int _) = true then _ else _) = _
  by_cases e : i = j
  · subst e; simp [PyData.eqv, ini, oD]
  · have : ¬ ((i : Int) = j) := by omega
    simp [PyData.eqv, ini, e, oD, this]
theorem times_by_ev [Hd D 38 r38] [Hd D 39 r39] {n : Nat} {ws : List Wy} (W : WaysOk n ws) (hn : n ≤ 12) (hl : ws.length ≤ 1000) : evF D (k + 2) 39 [.d (.int (n : Int)), .d (.list (ws.map nwD))] none = some (.cell (.mat (matR n (times n ws))), none) := by
  rw [ev_eq]
  simp_arith [r39, a39, rangeD_len]
  rw [mtL_pure (g := fun x => (rangeD 0 n).map fun y => if PyData.eqv x y = true then PyData.int 0 else .none) fun x hx rows => by
    obtain ⟨i, hi, rfl⟩ : ∃ i, i < n ∧ x = .int (i : Int) := by simpa [rangeD, eq_comm] using hx
    simp_arith [rangeD_len]
    rw [lcL_pure (g := fun y => if PyData.eqv (.int (i : Int)) y = true then PyData.int 0 else .none) fun y hy => by
      obtain ⟨j, hj, rfl⟩ : ∃ i, i < n ∧ y = .int (i : Int) := by simpa [rangeD, eq_comm] using hy
      by_cases e : (i : Int) = j
      · simp_arith [decide_eq_true e]
        simp [PyData.eqv, e]
      · simp_arith [decide_eq_false e]
        simp [PyData.eqv, e]]
    simp_arith []]
  rw [List.nil_append, ini_mat]
  simp_arith []
  rw [forL_map]
  generalize hq : forL _ _ _ _ = q
  obtain ⟨A', B', rfl, rfl, rfl⟩ := for_invN hq (fun i A B => A = [some (.d (.int (n : Int))), some (.d (.list (ws.map nwD))), none, none, some (.m 0), none, none] ∧ B = [.mat (matR n (wayF (ws.take i)))])
    ⟨rfl, rfl⟩ (by
    clear hq
    rintro i w A B hx ⟨rfl, rfl⟩
    have l := W.lt w (List.mem_of_getElem? hx)
    have l1 : w.1 < n := by omega
    have l2 : w.2.1 < n := l.2.1
    obtain ⟨z1, z2⟩ := way_none W hx
    have le1 : evF D (k + 1) 38 [.d .none, .d (.int w.2.2)] none = some (.data (.int w.2.2), none) := lesser_evS none w.2.2
    simp_arith [nwD, matR_len, matR_get, rowR_len, rowR_get, atI_row, Option.map_some, matR_set, z1, z2, oD_n, le1]
    have e1 := matR_set (n := n) (f := wayF (ws.take i)) (v := some w.2.2) l1 l2
    rw [oD_s] at e1
    simp_arith [e1, matR_len, matR_get, rowR_len, rowR_get, atI_row, Option.map_some, matR_set]
    have e2 : upM (wayF (ws.take i)) w.1 w.2.1 (some w.2.2) w.1 w.2.1 = some w.2.2 := if_pos ⟨rfl, rfl⟩
    have e3 := matR_set (n := n) (f := upM (wayF (ws.take i)) w.1 w.2.1 (some w.2.2)) (v := some w.2.2) l2 l1
    rw [oD_s] at e3
    simp_arith [e2, e3, oD_s, matR_len, matR_get, rowR_len, rowR_get, atI_row, Option.map_some, matR_set, put_up, take_put hx]
    exact ⟨_, _, rfl, rfl, rfl⟩)
  rw [List.take_length]
  simp_arith []
  generalize hq : forL _ _ _ _ = q
  obtain ⟨A', B', rfl, rfl, rfl⟩ := for_invN hq (fun i A B => A = [some (.d (.int (n : Int))), some (.d (.list (ws.map nwD))), none, none, some (.m 0), none, none] ∧ B = [.mat (matR n (Fw.rounds i (wayF ws)))])
    ⟨rfl, rfl⟩ (by
    clear hq
    rintro m w A B hx ⟨rfl, rfl⟩
    obtain ⟨hm, rfl⟩ := rangeD0_get hx
    have G := good_rounds W.good m
    simp_arith []
    generalize hq : forL _ _ _ _ = q
    obtain ⟨A', B', rfl, rfl, rfl⟩ := for_invN hq (fun a A B => A = [some (.d (.int (n : Int))), some (.d (.list (ws.map nwD))), none, none, some (.m 0), none, some (.d (.int (m : Int)))] ∧ B = [.mat (matR n (mid (Fw.rounds m (wayF ws)) m a 0))])
      ⟨rfl, by rw [mid_0]⟩ (by
      clear hq
      rintro a w A B hx ⟨rfl, rfl⟩
      obtain ⟨ha, rfl⟩ := rangeD0_get hx
      simp_arith []
      generalize hq : forL _ _ _ _ = q
      obtain ⟨A', B', rfl, rfl, rfl⟩ := for_invN hq (fun b A B => A = [some (.d (.int (n : Int))), some (.d (.list (ws.map nwD))), some (.d (.int (a : Int))), none, some (.m 0), none, some (.d (.int (m : Int)))] ∧ B = [.mat (matR n (mid (Fw.rounds m (wayF ws)) m a b))])
        ⟨rfl, rfl⟩ (by
        clear hq
        rintro b w A B hx ⟨rfl, rfl⟩
        obtain ⟨hb, rfl⟩ := rangeD0_get hx
        have r1 := mid_r G m a b a
        have r2 := mid_l G m a b b
        have r3 := mid_here (Fw.rounds m (wayF ws)) m a b
        cases q1 : Fw.rounds m (wayF ws) a m with
        | none =>
          simp_arith [matR_len, matR_get, rowR_len, rowR_get, atI_row, Option.map_some, matR_set, r1, r2, r3, q1, oD_n]
          exact ⟨_, _, rfl, rfl, by rw [mid_skip (round_n1 q1)]⟩
        | some x =>
          cases q2 : Fw.rounds m (wayF ws) m b with
          | none =>
            simp_arith [matR_len, matR_get, rowR_len, rowR_get, atI_row, Option.map_some, matR_set, r1, r2, r3, q1, q2, oD_n, oD_s]
            exact ⟨_, _, rfl, rfl, by rw [mid_skip (round_n2 q2)]⟩
          | some y =>
            have e : minO (Fw.rounds m (wayF ws) a b) (some (x + y)) = round m (Fw.rounds m (wayF ws)) a b := by unfold round; rw [q1, q2]; rfl
            simp_arith [matR_len, matR_get, rowR_len, rowR_get, atI_row, Option.map_some, matR_set, r1, r2, r3, q1, q2, oD_n, oD_s, lesser_evS, e, mid_step]
            exact ⟨_, _, rfl, rfl, rfl⟩)
      rw [rangeD_len, matR_ext (g := mid (Fw.rounds m (wayF ws)) m (a + 1) 0) fun i j _ hj => mid_next _ _ _ _ hj]
      simp_arith []
      exact ⟨_, _, rfl, rfl, rfl⟩)
    rw [rangeD_len, matR_ext (g := Fw.rounds (m + 1) (wayF ws)) fun i j hi _ => by rw [rounds_succ]; exact mid_end _ _ _ hi]
    simp_arith []
    exact ⟨_, _, rfl, rfl, rfl⟩)
  rw [rangeD_len]
  simp_arith []
  rfl
theorem town_times_ev [Hd D 37 r37] [Hd D 38 r38] [Hd D 39 r39] [Hd D 40 r40] {names : List Str} {ws : List Wy} (W : WaysOk names.length ws) (nd : names.Nodup) (hn : names.length ≤ 12) (hl : ws.length ≤ 1000) : evF D (k + 3) 40 [.d (townD names ws)] none = some (.cell (.mat (matR names.length (times names.length ws))), none) := by
  have u1 := numbered_ways_ev (D := D) (k := k + 1) nd (ws := ws) (fun w hw => by have := W.lt w hw; omega) hl
  have u2 := times_by_ev (D := D) (k := k) W hn hl
  rw [ev_eq]
  unfold townD at u1 ⊢
  simp_arith [r40, a40, u1, frzC, u2]
theorem bk_look (ms : List Int) (m : Int) : lookK (bk ms) (Sum.inl m) = if m ∈ ms then some (.bool true) else none := by
  unfold lookK bk
  rw [List.find?_map]
  by_cases e : m ∈ ms
  · rw [if_pos e]
    have : (ms.find? fun x => decide ((Sum.inl x : L2.Key) = Sum.inl m)).isSome = true := by
      rw [List.find?_isSome]
      exact ⟨m, e, by simp⟩
    obtain ⟨z, hz⟩ := Option.isSome_iff_exists.mp this
    show Option.map _ (Option.map _ (ms.find? fun x => decide ((Sum.inl x : L2.Key) = Sum.inl m))) = _
    rw [hz]
    rfl
  · rw [if_neg e]
    have : (ms.find? fun x => decide ((Sum.inl x : L2.Key) = Sum.inl m)) = none := by
      rw [List.find?_eq_none]
      intro x hx z
      simp at z
      subst z
      exact e hx
    show Option.map _ (Option.map _ (ms.find? fun x => decide ((Sum.inl x : L2.Key) = Sum.inl m))) = _
    rw [this]
    rfl
theorem fold_bk (xs : List Int) (a : List Int) : xs.foldl (fun acc (x : Int) => putD acc (Sum.inl x) (.bool true)) (bk a) = bk (xs.foldl insM a) := by
  induction xs generalizing a with
  | nil => rfl
  | cons x xs ih => rw [List.foldl_cons, List.foldl_cons, bk_put, ih]
theorem merge_bk (a b : List Int) : mergeD (bk a) (bk b) = bk (b.foldl insM a) := by
  rw [← fold_bk]
  unfold mergeD bk
  rw [List.foldl_map]
theorem mem_insAll {a b : List Int} {x : Int} : x ∈ b.foldl insM a ↔ x ∈ a ∨ x ∈ b := by
  induction b generalizing a with
  | nil => simp
  | cons y b ih =>
    rw [List.foldl_cons, ih]
    unfold insM
    split
    · rename_i e
      constructor
      · rintro (h | h)
        · exact .inl h
        · exact .inr (List.mem_cons_of_mem _ h)
      · rintro (h | h)
        · exact .inl h
        · rcases List.mem_cons.mp h with h | h
          · subst h; exact .inl e
          · exact .inr h
    · simp [or_assoc]
theorem len_insAll (a b : List Int) : (b.foldl insM a).length ≤ a.length + b.length := by
  induction b generalizing a with
  | nil => simp
  | cons y b ih =>
    rw [List.foldl_cons]
    have := ih (insM a y)
    have := insM_len a y
    simp
    omega
theorem mem_cast {p : List Nat} {j : Nat} : (j : Int) ∈ (p.map fun (j : Nat) => (j : Int)) ↔ j ∈ p := by
  constructor
  · intro h
    obtain ⟨a, ha, e⟩ := List.mem_map.mp h
    have : a = j := by omega
    subst this
    exact ha
  · intro h
    exact List.mem_map.mpr ⟨j, h, rfl⟩
def pieceOf (n : Nat) (f : Mx) (one : Nat) : List Nat := (List.range n).filter fun o => (f one o).isSome
def pcStep (n : Nat) (f : Mx) (fd : List (List Nat)) (one : Nat) : List (List Nat) := if one ∈ fd.flatten then fd else fd ++ [pieceOf n f one]
def pcs (n : Nat) (f : Mx) : List (List Nat) := (List.range n).foldl (pcStep n f) []
def natsD (p : List Nat) : List PyData := p.map fun (i : Nat) => .int (i : Int)
def pcD (p : List Nat) : PyData := .list (natsD p)
theorem rangeD0 (n : Nat) : rangeD 0 n = (List.range n).map fun i => .int (i : Int) := by simp [rangeD]
theorem atI_matD {n i : Nat} {f : Mx} (h : i < n) : atI ((matR n f).map PyData.list) (i : Int) = some (.list (rowR n f i)) := atI_nat (by rw [List.getElem?_map, matR_get h]; rfl)
theorem pieces_by_ev [Hd D 38 r38] [Hd D 39 r39] [Hd D 42 r42] {n : Nat} {ws : List Wy} (W : WaysOk n ws) (hn : n ≤ 12) (hl : ws.length ≤ 1000) : evF D (k + 3) 42 [.d (.int (n : Int)), .d (.list (ws.map nwD))] none = some (.cell (.lst ((pcs n (times n ws)).map pcD)), none) := by
  have u := times_by_ev (D := D) (k := k) W hn hl
  have dg : ∀ i, times n ws i i = some 0 := (good_rounds W.good n).dg
  generalize times n ws = f at u dg ⊢
  rw [ev_eq]
  simp_arith [r42, a42, u, frzC]
  generalize hq : forL _ _ _ _ = q
  obtain ⟨A', B', rfl, rfl, ms, rfl, q1, q2⟩ := for_invN hq (fun i A B => A = [some (.d (.int (n : Int))), some (.d (.list (ws.map nwD))), some (.d (.list ((matR n f).map .list))), some (.m 0), some (.m 1), none, none, none] ∧ ∃ ms : List Int, B = [.lst (((List.range i).foldl (pcStep n f) []).map pcD), .dK (bk ms)] ∧ (∀ j : Nat, (j : Int) ∈ ms ↔ j ∈ ((List.range i).foldl (pcStep n f) []).flatten) ∧ ms.length ≤ 12 * i ∧ ((List.range i).foldl (pcStep n f) []).length ≤ i)
    ⟨rfl, [], rfl, by simp, by simp, by simp⟩ (by
    clear hq
    rintro i x A B hx ⟨rfl, ms, rfl, q1, q2, q3⟩
    obtain ⟨hi, rfl⟩ := rangeD0_get hx
    rw [List.range_succ, List.foldl_append, List.foldl_cons, List.foldl_nil]
    generalize (List.range i).foldl (pcStep n f) [] = fd at q1 q3 ⊢
    unfold pcStep
    by_cases c : i ∈ fd.flatten
    · have c2 : (i : Int) ∈ ms := (q1 i).mpr c
      simp_arith [bk_look, if_pos c, if_pos c2, Option.isSome_some]
      exact ⟨_, _, rfl, rfl, ms, rfl, q1, by omega, by omega⟩
    · have c2 : ¬ (i : Int) ∈ ms := fun z => c ((q1 i).mp z)
      simp_arith [bk_look, if_neg c, if_neg c2, Option.isSome_none, rangeD_len]
      rw [rangeD0, lcL_map, lcL_filter (p := fun j => (f i j).isSome) (g := fun j => .int (j : Int)) fun j hj => by
        have hj := List.mem_range.mp hj
        cases e : f i j <;> simp_arith [atI_matD, matR_len, matR_get, rowR_len, rowR_get, atI_row, Option.map_some, matR_set, e, oD_n, oD_s] <;> rfl]
      have hp : pieceOf n f i = (List.range n).filter fun j => (f i j).isSome := rfl
      rw [← hp]
      have hpl : (pieceOf n f i).length ≤ n := by
        have := List.length_filter_le (fun j => (f i j).isSome) (List.range n)
        rw [List.length_range] at this
        exact this
      have hpi : i ∈ pieceOf n f i := List.mem_filter.mpr ⟨List.mem_range.mpr hi, by rw [dg i]; rfl⟩
      generalize pieceOf n f i = p at hpl hpi ⊢
      have e1 : p.map (fun (j : Nat) => PyData.int (j : Int)) = (p.map fun (j : Nat) => (j : Int)).map .int := by rw [List.map_map]; rfl
      simp_arith []
      rw [e1, acL_map, acL_pure (f := fun acc (x : Int) => putD acc (Sum.inl x) (.bool true)) fun x _ acc => by simp_arith []]
      have e2 := fold_bk (p.map fun (j : Nat) => (j : Int)) []
      rw [show bk [] = [] from rfl] at e2
      have l1 := len_insAll [] (p.map fun (j : Nat) => (j : Int))
      have l2 := len_insAll ms ((p.map fun (j : Nat) => (j : Int)).foldl insM [])
      simp only [List.length_map, List.length_nil] at l1 l2
      simp_arith [e2, bk_len, merge_bk]
      refine ⟨_, _, rfl, rfl, ((p.map fun (j : Nat) => (j : Int)).foldl insM []).foldl insM ms, by simp [pcD, natsD], fun j => ?_, ?_, by omega⟩
      · rw [mem_insAll, mem_insAll, q1 j, mem_cast, List.flatten_append, List.mem_append]
        simp
      · omega)
  simp_arith []
  rw [rangeD_len]
  rfl
theorem pcs_one {n : Nat} {f : Mx} (hn : 0 < n) (h : ∀ i j, i < n → j < n → ∃ x, f i j = some x) : pcs n f = [List.range n] := by
  have p0 : pieceOf n f 0 = List.range n := List.filter_eq_self.mpr fun j hj => by
    obtain ⟨x, e⟩ := h 0 j hn (List.mem_range.mp hj)
    rw [e]; rfl
  have key : ∀ m, m < n → (List.range (m + 1)).foldl (pcStep n f) [] = [List.range n] := by
    intro m
    induction m with
    | zero =>
      intro _
      show pcStep n f [] 0 = _
      unfold pcStep
      rw [if_neg (by simp), p0]
      rfl
    | succ m ih =>
      intro hm
      rw [List.range_succ, List.foldl_append, ih (by omega)]
      show pcStep n f [List.range n] (m + 1) = _
      unfold pcStep
      rw [if_pos (by simp; omega)]
  have := key (n - 1) (by omega)
  rw [show n - 1 + 1 = n by omega] at this
  exact this
theorem is_way_ev [Hd D 6 r6] [Hd D 7 r7] [Hd D 9 r9] [Hd D 34 r34] [Hd D 36 r36] [Hd D 43 r43] {names : List Str} {w : Wy} (nd : names.Nodup) (hl : names.length ≤ 1000) (h : w.1 < w.2.1 ∧ w.2.1 < names.length ∧ 1 ≤ w.2.2) (hm : w.2.2 ≤ 10000) : evF D (k + 3) 43 [.d (.tuple (names.map .str)), .d (wayD names w)] none = some (.data (.bool true), none) := by
  have l1 : w.1 < names.length := by omega
  have ne : nmA names w.1 ≠ nmA names w.2.1 := fun e => by
    have e1 := nmA_get l1
    rw [e, ← nmA_get h.2.1] at e1
    have := (List.getElem?_inj l1 nd).mp e1
    omega
  have u := are_some_of_ev (D := D) (k := k) (nmA_get l1) (nmA_get h.2.1) ne
  have r : isRow (wayD names w) 3 3 = true := rfl
  have v := within_of (i := w.2.2) (lo := 1) (hi := 10000) ⟨h.2.2, hm⟩
  rw [ev_eq]
  unfold wayD at r ⊢
  have hc : Dl.cutD [PyData.str (nmA names w.1), .str (nmA names w.2.1), .int w.2.2] none (some 2) = [.str (nmA names w.1), .str (nmA names w.2.1)] := rfl
  simp_arith [csi_dT, csi_dF, csi_nT, csi_nF, r43, a43, is_row_ev, r, hc, u, is_within_ev, v, toStrs_map, idx_nm nd l1, idx_nm nd h.2.1]
  rw [decide_eq_true (by omega)]
theorem are_ways_ev [Hd D 6 r6] [Hd D 7 r7] [Hd D 9 r9] [Hd D 34 r34] [Hd D 36 r36] [Hd D 43 r43] [Hd D 44 r44] {names : List Str} {ws : List Wy} (nd : names.Nodup) (hl : names.length ≤ 1000) (W : WaysOk names.length ws) (hm : ∀ w ∈ ws, w.2.2 ≤ 10000) (wl : ws.length ≤ 40) : evF D (k + 4) 44 [.d (.tuple (names.map .str)), .d (.tuple (ws.map (wayD names)))] none = some (.data (.bool true), none) := by
  have r : isRow (.tuple (ws.map (wayD names))) 0 40 = true := by simp [isRow]; omega
  rw [ev_eq]
  simp_arith [r44, a44, is_row_ev, r]
  rw [lcL_map, lcL_pure (g := fun _ => .bool true) fun w hw => by simp_arith [is_way_ev nd hl (W.lt w hw) (hm w hw)]]
  have hc : ∀ w : Wy, Dl.cutD [PyData.str (nmA names w.1), .str (nmA names w.2.1), .int w.2.2] none (some 2) = [.str (nmA names w.1), .str (nmA names w.2.1)] := fun w => rfl
  simp_arith [toBools_f, List.all_map, Function.comp_def, id, all_tt, gu_pos (show ws.length < 63 by omega)]
  rw [acL_map, acL_pure (f := fun acc (w : Wy) => insK acc [nmA names w.1, nmA names w.2.1]) fun w _ acc => by
    simp_arith [wayD, hc, oKs]
    rfl]
  simp_arith []
  have e : (ws.foldl (fun acc (w : Wy) => insK acc [nmA names w.1, nmA names w.2.1]) []).length = ws.length := by
    have := dedK_nd (xs := ws.map fun w => [nmA names w.1, nmA names w.2.1]) (by
      have nd2 := W.nd
      rw [List.nodup_iff_pairwise_ne, List.pairwise_map] at nd2 ⊢
      refine nd2.imp_of_mem fun {a b} ha hb q z => q ?_
      simp only [List.cons.injEq, and_true] at z
      have key : ∀ {i j : Nat}, i < names.length → j < names.length → nmA names i = nmA names j → i = j := fun {i j} hi hj e => (List.getElem?_inj hi nd).mp (by rw [nmA_get hi, nmA_get hj, e])
      have h1 := W.lt a ha
      have h2 := W.lt b hb
      rw [key (by omega) (by omega) z.1, key (by omega) (by omega) z.2])
    unfold dedK at this
    rw [List.foldl_map, List.length_map] at this
    exact this
  rw [e]
  simp_arith []
theorem is_map_form_ev [Hd D 6 r6] [Hd D 7 r7] [Hd D 9 r9] [Hd D 33 r33] [Hd D 34 r34] [Hd D 35 r35] [Hd D 36 r36] [Hd D 37 r37] [Hd D 38 r38] [Hd D 39 r39] [Hd D 42 r42] [Hd D 43 r43] [Hd D 44 r44] [Hd D 45 r45] {names : List Str} {ws : List Wy} (T : TownOk names ws) : evF D (k + 5) 45 [.d (townD names ws)] none = some (.data (.bool true), none) := by
  have h1 := T.pos; have h2 := T.len; have h3 := T.wlen
  have u0 := numbered_ways_ev (D := D) (k := k + 3) T.nd (ws := ws) (fun w hw => by have := T.ways.lt w hw; omega) (by omega)
  have u1 := pieces_by_ev (D := D) (k := k + 1) T.ways (by omega) (by omega)
  rw [pcs_one h1 fun i j hi hj => (times_conn T.ways T.conn hi hj).imp fun _ h => h.1] at u1
  have u2 := are_ways_ev (D := D) (k := k) T.nd (by omega) T.ways T.most T.wlen
  have u3 := are_names_ev (D := D) (k := k + 2) T.nd (by omega) T.nm
  have r0 : isRow (townD names ws) 2 2 = true := rfl
  have r1 : isRow (.tuple (names.map .str)) 1 12 = true := by simp [isRow]; omega
  rw [ev_eq]
  unfold townD at r0 u0 ⊢
  simp_arith [r45, a45, is_row_ev, r0, r1, u3, u2, u0, frzC, u1]
theorem need_map_ev [Hd D 6 r6] [Hd D 7 r7] [Hd D 9 r9] [Hd D 33 r33] [Hd D 34 r34] [Hd D 35 r35] [Hd D 36 r36] [Hd D 37 r37] [Hd D 38 r38] [Hd D 39 r39] [Hd D 42 r42] [Hd D 43 r43] [Hd D 44 r44] [Hd D 45 r45] [Hd D 46 r46] {names : List Str} {ws : List Wy} (T : TownOk names ws) : evF D (k + 6) 46 [.d (townD names ws)] none = some (.data .none, none) := by
  rw [ev_eq]
  simp_arith [r46, a46, is_map_form_ev T]
theorem nmA_inj {names : List Str} (nd : names.Nodup) {i j : Nat} (hi : i < names.length) (hj : j < names.length) (e : nmA names i = nmA names j) : i = j := (List.getElem?_inj hi nd).mp (by rw [nmA_get hi, nmA_get hj, e])
theorem need_place_ev [Hd D 47 r47] [Hd D 48 r48] {names : List Str} {ws : List Wy} {i : Nat} (hi : i < names.length) : evF D (k + 2) 48 [.d (townD names ws), .d (.str (nmA names i))] none = some (.data .none, none) := by
  have u : evF D (k + 1) 47 [.d (townD names ws), .d (.str (nmA names i))] none = some (.data (.bool true), none) := by
    rw [ev_eq]
    simp_arith [r47, a47, townD, isSt, oIn_nm (nmA_get hi)]
  rw [ev_eq]
  simp_arith [r48, a48, u]
theorem need_two_places_ev [Hd D 47 r47] [Hd D 48 r48] [Hd D 49 r49] {names : List Str} {ws : List Wy} {i j : Nat} (nd : names.Nodup) (hi : i < names.length) (hj : j < names.length) (ne : i ≠ j) : evF D (k + 3) 49 [.d (townD names ws), .d (.str (nmA names i)), .d (.str (nmA names j))] none = some (.data .none, none) := by
  have u1 := need_place_ev (D := D) (k := k) (ws := ws) hi
  have u2 := need_place_ev (D := D) (k := k) (ws := ws) hj
  rw [ev_eq]
  simp_arith [r49, a49, u1, u2, decide_eq_false (fun e => ne (nmA_inj nd hi hj e))]
theorem ways_without_ev [Hd D 41 r41] {ws : List Wy} {i : Nat} (hi : i < ws.length) (hl : ws.length ≤ 1000) : evF D (k + 1) 41 [.d (.list (ws.map nwD)), .d (.int (i : Int))] none = some (.cell (.lst ((ws.eraseIdx i).map nwD)), none) := by
  have h1 : Dl.cutD (ws.map nwD) none (some (i : Int)) = (ws.take i).map nwD := by rw [cut_to, List.map_take]
  have h2 : Dl.cutD (ws.map nwD) (some ((i : Int) + 1)) none = (ws.drop (i + 1)).map nwD := by
    rw [show (i : Int) + 1 = ((i + 1 : Nat) : Int) by omega, cut_from, List.map_drop]
  rw [ev_eq]
  simp_arith [r41, a41, h1, h2]
  rw [← List.map_append, List.eraseIdx_eq_take_drop_succ]
theorem _root_.Fw.WaysOk.erase {n : Nat} {ws : List Wy} (W : WaysOk n ws) (i : Nat) : WaysOk n (ws.eraseIdx i) := ⟨fun w hw => W.lt w ((List.eraseIdx_sublist ws i).mem hw), W.nd.sublist ((List.eraseIdx_sublist ws i).map _)⟩
def matD (n : Nat) (f : Mx) : PyData := .list ((matR n f).map PyData.list)
theorem oD_ly (a : Option Int) : (oD a).canLay0 = true ∧ (oD a).depth ≤ 0 := by cases a <;> exact ⟨rfl, Nat.le_refl _⟩
theorem matD_sh (n : Nat) (f : Mx) : SeqAt.shaped (matD n f) = true := ly_shaped (p := 2) (ly_list fun x hx => by
  obtain ⟨r, hr, rfl⟩ := List.mem_map.mp hx
  obtain ⟨i, _, rfl⟩ := List.mem_map.mp hr
  exact ly_list fun y hy => by
    obtain ⟨j, _, rfl⟩ := List.mem_map.mp hy
    exact oD_ly _) (by decide)
theorem matD_eqB (n : Nat) (f g : Mx) : oEqB (matD n f) (matD n g) = some (PyData.eqv (matD n f) (matD n g)) := by
  show gu _ _ = _
  unfold gu
  exact if_pos ⟨matD_sh n f, matD_sh n g⟩
def nless (n : Nat) (ws : List Wy) (i : Nat) : Bool := PyData.eqv (matD n (times n (ws.eraseIdx i))) (matD n (times n ws))
def nlessL (n : Nat) (ws : List Wy) : List Nat := (List.range ws.length).filter (nless n ws)
theorem needless_ev [Hd D 6 r6] [Hd D 7 r7] [Hd D 9 r9] [Hd D 33 r33] [Hd D 34 r34] [Hd D 35 r35] [Hd D 36 r36] [Hd D 37 r37] [Hd D 38 r38] [Hd D 39 r39] [Hd D 40 r40] [Hd D 41 r41] [Hd D 42 r42] [Hd D 43 r43] [Hd D 44 r44] [Hd D 45 r45] [Hd D 46 r46] [Hd D 50 r50] {names : List Str} {ws : List Wy} (T : TownOk names ws) : evF D (k + 7) 50 [.d (townD names ws)] none = some (.cell (.lst (natsD (nlessL names.length ws))), none) := by
  have h1 := T.pos; have h2 := T.len; have h3 := T.wlen
  have u1 := need_map_ev (D := D) (k := k) T
  have u2 := numbered_ways_ev (D := D) (k := k + 5) T.nd (ws := ws) (fun w hw => by have := T.ways.lt w hw; omega) (by omega)
  have u3 := town_times_ev (D := D) (k := k + 3) T.ways T.nd (by omega) (by omega)
  rw [ev_eq]
  simp_arith [r50, a50, u1]
  unfold townD at u2 u3 ⊢
  simp_arith [u2, u3]
  rw [rangeD0, lcL_map, lcL_filter (p := nless names.length ws) (g := fun i => .int (i : Int)) fun i hi => by
    have hi := List.mem_range.mp hi
    have v1 := ways_without_ev (D := D) (k := k + 5) hi (by omega)
    have v2 := times_by_ev (D := D) (k := k + 4) (T.ways.erase i) (by omega) (by have := (List.eraseIdx_sublist ws i).length_le; omega)
    have v3 : SeqAt.shaped (.list ((matR names.length (times names.length (ws.eraseIdx i))).map PyData.list)) = true ∧ SeqAt.shaped (.list ((matR names.length (times names.length ws)).map PyData.list)) = true := ⟨matD_sh _ _, matD_sh _ _⟩
    cases c : nless names.length ws i <;> (
      have c' : PyData.eqv (.list ((matR names.length (times names.length (ws.eraseIdx i))).map PyData.list)) (.list ((matR names.length (times names.length ws)).map PyData.list)) = _ := c
      simp_arith [v1, v2, gu_pos v3, c']
      try rfl)]
  simp_arith []
  rfl
theorem oEqB_oD (a b : Option Int) : oEqB (oD a) (oD b) = some (decide (a = b)) := by
  have s0 : SeqAt.shaped .none = true := rfl
  have s1 : ∀ i : Int, SeqAt.shaped (.int i) = true := fun i => rfl
  cases a <;> cases b
  · show gu _ _ = _
    unfold gu
    rw [if_pos ⟨s0, s0⟩]
    simp [oD, PyData.eqv]
  · show gu _ _ = _
    unfold gu
    rw [if_pos ⟨s0, s1 _⟩]
    simp [oD, PyData.eqv]
  · show gu _ _ = _
    unfold gu
    rw [if_pos ⟨s1 _, s0⟩]
    simp [oD, PyData.eqv]
  · show some _ = _
    simp
def need1 (n : Nat) (ws : List Wy) (a b i : Nat) : Bool := decide (times n (ws.eraseIdx i) a b ≠ times n ws a b)
def needL (n : Nat) (ws : List Wy) (a b : Nat) : List Nat := (List.range ws.length).filter (need1 n ws a b)
theorem needed_ev [Hd D 6 r6] [Hd D 7 r7] [Hd D 9 r9] [Hd D 33 r33] [Hd D 34 r34] [Hd D 35 r35] [Hd D 36 r36] [Hd D 37 r37] [Hd D 38 r38] [Hd D 39 r39] [Hd D 41 r41] [Hd D 42 r42] [Hd D 43 r43] [Hd D 44 r44] [Hd D 45 r45] [Hd D 46 r46] [Hd D 47 r47] [Hd D 48 r48] [Hd D 49 r49] [Hd D 51 r51] {names : List Str} {ws : List Wy} {a b : Nat} (T : TownOk names ws) (ha : a < names.length) (hb : b < names.length) (ne : a ≠ b) : evF D (k + 7) 51 [.d (townD names ws), .d (.str (nmA names a)), .d (.str (nmA names b))] none = some (.data (.tuple (natsD (needL names.length ws a b))), none) := by
  have h1 := T.pos; have h2 := T.len; have h3 := T.wlen
  have u1 := need_map_ev (D := D) (k := k) T
  have u2 := numbered_ways_ev (D := D) (k := k + 5) T.nd (ws := ws) (fun w hw => by have := T.ways.lt w hw; omega) (by omega)
  have u3 := need_two_places_ev (D := D) (k := k + 3) (ws := ws) T.nd ha hb ne
  have u4 := times_by_ev (D := D) (k := k + 4) T.ways (by omega) (by omega)
  have i1 := idx_nm T.nd ha
  have i2 := idx_nm T.nd hb
  rw [ev_eq]
  simp_arith [r51, a51, u1, u3]
  unfold townD at u2 u3 ⊢
  simp_arith [u2, toStrs_map, i1, i2, u4, atI_matD, atI_row]
  rw [rangeD0, lcL_map, lcL_filter (p := need1 names.length ws a b) (g := fun i => .int (i : Int)) fun i hi => by
    have hi := List.mem_range.mp hi
    have v1 := ways_without_ev (D := D) (k := k + 5) hi (by omega)
    have v2 := times_by_ev (D := D) (k := k + 4) (T.ways.erase i) (by omega) (by have := (List.eraseIdx_sublist ws i).length_le; omega)
    by_cases c : times names.length (ws.eraseIdx i) a b = times names.length ws a b
    · have q : need1 names.length ws a b i = false := by simp [need1, c]
      simp_arith [v1, v2, atI_matD, atI_row, ↓oEqB_oD, decide_eq_true c, q]
    · have q : need1 names.length ws a b i = true := by simp [need1, c]
      simp_arith [v1, v2, atI_matD, atI_row, ↓oEqB_oD, decide_eq_false c, q]]
  simp_arith []
  rfl
end Hs

namespace Hs
open L2 Dl PySem PyProof.Rows PySem.Spec Fw
local macro_rules
  | `(tactic| simp_arith [$ls,*]) => `(tactic| simp -implicitDefEqProofs (disch := omega) only [↓ob_i, ↓ob2_i, ↓gu_i, ↓cs_i, obi_some, ob2i_some, obi_none, ob2i_none, obi_obi, obi_ob2i, ob2i_obi, ob2i_ob2i, obi_gui, ob2i_gui, obi_csi, ob2i_csi, csi_t, csi_f, gui_true, headD_nil, tail_nil, oPow, evE_var, evE_c, evE_kt, evE_op2, evE_neg, evE_chain, evE_and, evE_or, evE_not, evE_ife, evE_sl, evE_omit, evE_call, evE_callK, evE_bi, evE_isi, evE_mm, evE_get2, evE_tup, evE_lst, evE_dnew, evE_lc, evE_lcD, evE_dne0, evE_rev, evT_omit, evT_and, evT_or, evT_not, evT_op2, evT_chain, evT_dne0, evT_var, evT_c, evT_call, evT_bi, evT_isi, evT_lc, evO_omit, evO_var, evO_c, evO_op2, evO_neg, evO_call, evO_bi, evEs_nil, evEs_cons, evI_seq, evI_r1, evI_r2, evI_r3, evI_zip, evI_enum, evG_nm, evG_tp, evS_pass, evS_brk, evS_cont, evS_never, evS_retN, evS_drop, evS_asg, evS_par, evS_par3, evS_put, evS_aug, evS_ife, evS_for_, evS_while_, evS_ret, evS_sh, evSs_nil, evSs_cons, evGs_nil, evGs_cons, thenO, Dl.fin, outR, retO, oVar, Dl.e2, eD2, eD1, eAdd, eIs, eIn, eIx, eBi, eBiL, rdL, eCall, eRet, frz_if, Dl.refs, Dl.ren, Dl.rd, Dl.oK, oInt, Dl.oI, resO, newO, oAdd, oSub, oMul, oDiv, oMod, oNeg, oEq, oNe, oEqB, Dl.rB, oLt, oLe, oGt, oGe, oBool, oTru, oBi, oLen, oTup, oIx, isKt, kdOf, dictOf, isN, isi_i, isi_b, isi_s, isi_l, isi_t, isi_lt', isi_is', chainE, dsO, Dl.kd, kdG, dpS, dpE, dpA, dpT, dpV, dpI, vOf, Dl.hd0, par2, par3, frzs, frz1, eMM, isL, lstO, eSl, oSl, isCmp, lenG, tupO, seqO, r1O, r2O, zipO, enumO, bne0, bne1, List.map_cons, List.map_nil, List.length_cons, List.length_nil, List.cons_append, List.nil_append, List.append_nil, List.replicate, List.getElem?_cons_zero, List.getElem?_cons_succ, List.set_cons_zero, List.set_cons_succ, Nat.reduceAdd, Nat.reduceSub, Option.toList, List.headD_cons, List.tail_cons, Bool.or_false, Bool.false_or, Bool.not_true, Bool.not_false, List.lookup, List.all_nil, List.take, Nat.zero_add, ePut, augO, lcS_eq, forS_eq, whileS_eq, wipeA, killA, dropN, hideF_d, hideF_k, hideF_s, hideF_n, hideF_m, hideF_g, hideF_r, hideF_rg, toBools, toInts, intsO, boolsO, isGone, decide_true, decide_false, eq_self, if_true, if_false, Nat.reduceBEq, Nat.reduceBNe, Nat.reduceEqDiff, Nat.reduceLeDiff, Int.reduceLT, Int.reduceLE, Int.reduceEq, Int.reduceNe, Int.reduceBEq, Int.reduceBNe, Int.reduceNeg, reduceIte, reduceCtorEq, Option.getD_none, Option.getD_some, List.lookup_nil, ne_eq, List.length_map, List.length_zip, List.length_drop, List.length_append, Int.cast_ofNat_Int, sh_nil, sh_nilT, sh_ones, eqv_nil, List.isEmpty_map, and_self, and_true, true_and, lcDO, hideJ, List.length_take, keepA_nil, keepA_cons, Nat.reduceSub, pick, List.getD_cons_zero, List.getD_cons_succ, evE_lset, oLenSet, evE_idx, evE_lrg, evE_reprL, evE_upd, evE_lsc, evE_dcm, dmS_eq, scS_eq, mtS_eq, tupA, lrgO, dkO, oKd, keyD, mtO_new, mt_take, evS_parT, parTO, setAll, not_false_eq_true, not_true_eq_false, mtO_new0, mtO_new1, List.take_zero, oLook, Option.isSome_some, Option.isSome_none, List.length_range, subF, frzC, Option.map_some, evE_trg, gu_le, gu_lt, gu_mulL, gu_mulR, gu_div, gu_pow10, gu_posI, gu_rg, gu_rg2, atI_0, atI_1, atI_2, atI_3, atI_4, ixN_lit, ixN_neg, atI_lst, Int.reduceToNat, Int.reduceNeg, Int.reduceAdd, Int.reduceSub, Int.reduceMul, Int.reducePow, Nat.reducePow, Int.toNat_natCast, gu_str, gu_ix, gu_rgk, $ls,*])
  | `(tactic| simp_arith only [$ls,*]) => `(tactic| simp only [↓ob_i, ↓ob2_i, ↓gu_i, ↓cs_i, obi_some, ob2i_some, obi_none, ob2i_none, obi_obi, obi_ob2i, ob2i_obi, ob2i_ob2i, obi_gui, ob2i_gui, obi_csi, ob2i_csi, csi_t, csi_f, gui_true, headD_nil, tail_nil, oPow, evE_var, evE_c, evE_kt, evE_op2, evE_neg, evE_chain, evE_and, evE_or, evE_not, evE_ife, evE_sl, evE_omit, evE_call, evE_callK, evE_bi, evE_isi, evE_mm, evE_get2, evE_tup, evE_lst, evE_dnew, evE_lc, evE_lcD, evE_dne0, evE_rev, evT_omit, evT_and, evT_or, evT_not, evT_op2, evT_chain, evT_dne0, evT_var, evT_c, evT_call, evT_bi, evT_isi, evT_lc, evO_omit, evO_var, evO_c, evO_op2, evO_neg, evO_call, evO_bi, evEs_nil, evEs_cons, evI_seq, evI_r1, evI_r2, evI_r3, evI_zip, evI_enum, evG_nm, evG_tp, evS_pass, evS_brk, evS_cont, evS_never, evS_retN, evS_drop, evS_asg, evS_par, evS_par3, evS_put, evS_aug, evS_ife, evS_for_, evS_while_, evS_ret, evS_sh, evSs_nil, evSs_cons, evGs_nil, evGs_cons, thenO, Dl.fin, outR, retO, oVar, Dl.e2, eD2, eD1, eAdd, eIs, eIn, eIx, eBi, eBiL, rdL, eCall, eRet, frz_if, Dl.refs, Dl.ren, Dl.rd, Dl.oK, oInt, Dl.oI, resO, newO, oAdd, oSub, oMul, oDiv, oMod, oNeg, oEq, oNe, oEqB, Dl.rB, oLt, oLe, oGt, oGe, oBool, oTru, oBi, oLen, oTup, oIx, isKt, kdOf, dictOf, isN, isi_i, isi_b, isi_s, isi_l, isi_t, isi_lt', isi_is', chainE, dsO, Dl.kd, kdG, dpS, dpE, dpA, dpT, dpV, dpI, vOf, Dl.hd0, par2, par3, frzs, frz1, eMM, isL, lstO, eSl, oSl, isCmp, lenG, tupO, seqO, r1O, r2O, zipO, enumO, bne0, bne1, List.map_cons, List.map_nil, List.length_cons, List.length_nil, List.cons_append, List.nil_append, List.append_nil, List.replicate, List.getElem?_cons_zero, List.getElem?_cons_succ, List.set_cons_zero, List.set_cons_succ, Nat.reduceAdd, Nat.reduceSub, Option.toList, List.headD_cons, List.tail_cons, Bool.or_false, Bool.false_or, Bool.not_true, Bool.not_false, List.lookup, List.all_nil, List.take, Nat.zero_add, ePut, augO, lcS_eq, forS_eq, whileS_eq, wipeA, killA, dropN, hideF_d, hideF_k, hideF_s, hideF_n, hideF_m, hideF_g, hideF_r, hideF_rg, toBools, toInts, intsO, boolsO, isGone, decide_true, decide_false, eq_self, if_true, if_false, Nat.reduceBEq, Nat.reduceBNe, Nat.reduceEqDiff, Nat.reduceLeDiff, Int.reduceLT, Int.reduceLE, Int.reduceEq, Int.reduceNe, Int.reduceBEq, Int.reduceBNe, Int.reduceNeg, reduceIte, reduceCtorEq, Option.getD_none, Option.getD_some, List.lookup_nil, ne_eq, List.length_map, List.length_zip, List.length_drop, List.length_append, Int.cast_ofNat_Int, sh_nil, sh_nilT, sh_ones, eqv_nil, List.isEmpty_map, and_self, and_true, true_and, lcDO, hideJ, List.length_take, keepA_nil, keepA_cons, Nat.reduceSub, pick, List.getD_cons_zero, List.getD_cons_succ, evE_lset, oLenSet, evE_idx, evE_lrg, evE_reprL, evE_upd, evE_lsc, evE_dcm, dmS_eq, scS_eq, mtS_eq, tupA, lrgO, dkO, oKd, keyD, mtO_new, mt_take, evS_parT, parTO, setAll, not_false_eq_true, not_true_eq_false, mtO_new0, mtO_new1, List.take_zero, oLook, Option.isSome_some, Option.isSome_none, List.length_range, subF, frzC, Option.map_some, evE_trg, $ls,*])
  | `(tactic| simp_arith! [$ls,*]) => `(tactic| simp [↓ob_i, ↓ob2_i, ↓gu_i, ↓cs_i, obi_some, ob2i_some, obi_none, ob2i_none, obi_obi, obi_ob2i, ob2i_obi, ob2i_ob2i, obi_gui, ob2i_gui, obi_csi, ob2i_csi, csi_t, csi_f, gui_true, headD_nil, tail_nil, oPow, evE_var, evE_c, evE_kt, evE_op2, evE_neg, evE_chain, evE_and, evE_or, evE_not, evE_ife, evE_sl, evE_omit, evE_call, evE_callK, evE_bi, evE_isi, evE_mm, evE_get2, evE_tup, evE_lst, evE_dnew, evE_lc, evE_lcD, evE_dne0, evE_rev, evT_omit, evT_and, evT_or, evT_not, evT_op2, evT_chain, evT_dne0, evT_var, evT_c, evT_call, evT_bi, evT_isi, evT_lc, evO_omit, evO_var, evO_c, evO_op2, evO_neg, evO_call, evO_bi, evEs_nil, evEs_cons, evI_seq, evI_r1, evI_r2, evI_r3, evI_zip, evI_enum, evG_nm, evG_tp, evS_pass, evS_brk, evS_cont, evS_never, evS_retN, evS_drop, evS_asg, evS_par, evS_par3, evS_put, evS_aug, evS_ife, evS_for_, evS_while_, evS_ret, evS_sh, evSs_nil, evSs_cons, evGs_nil, evGs_cons, thenO, Dl.fin, outR, retO, oVar, Dl.e2, eD2, eD1, eAdd, eIs, eIn, eIx, eBi, eBiL, rdL, eCall, eRet, frz_if, Dl.refs, Dl.ren, Dl.rd, Dl.oK, oInt, Dl.oI, resO, newO, oAdd, oSub, oMul, oDiv, oMod, oNeg, oEq, oNe, oEqB, Dl.rB, oLt, oLe, oGt, oGe, oBool, oTru, oBi, oLen, oTup, oIx, isKt, kdOf, dictOf, isN, isi_i, isi_b, isi_s, isi_l, isi_t, isi_lt', isi_is', chainE, dsO, Dl.kd, kdG, dpS, dpE, dpA, dpT, dpV, dpI, vOf, Dl.hd0, par2, par3, frzs, frz1, eMM, isL, lstO, eSl, oSl, isCmp, lenG, tupO, seqO, r1O, r2O, zipO, enumO, bne0, bne1, List.map_cons, List.map_nil, List.length_cons, List.length_nil, List.cons_append, List.nil_append, List.append_nil, List.replicate, List.getElem?_cons_zero, List.getElem?_cons_succ, List.set_cons_zero, List.set_cons_succ, Nat.reduceAdd, Nat.reduceSub, Option.toList, List.headD_cons, List.tail_cons, Bool.or_false, Bool.false_or, Bool.not_true, Bool.not_false, List.lookup, List.all_nil, List.take, Nat.zero_add, ePut, augO, lcS_eq, forS_eq, whileS_eq, wipeA, killA, dropN, hideF_d, hideF_k, hideF_s, hideF_n, hideF_m, hideF_g, hideF_r, hideF_rg, toBools, toInts, intsO, boolsO, isGone, decide_true, decide_false, eq_self, if_true, if_false, Nat.reduceBEq, Nat.reduceBNe, Nat.reduceEqDiff, Nat.reduceLeDiff, Int.reduceLT, Int.reduceLE, Int.reduceEq, Int.reduceNe, Int.reduceBEq, Int.reduceBNe, Int.reduceNeg, reduceIte, reduceCtorEq, Option.getD_none, Option.getD_some, List.lookup_nil, ne_eq, List.length_map, List.length_zip, List.length_drop, List.length_append, Int.cast_ofNat_Int, sh_nil, sh_nilT, sh_ones, eqv_nil, List.isEmpty_map, and_self, and_true, true_and, lcDO, hideJ, List.length_take, keepA_nil, keepA_cons, Nat.reduceSub, pick, List.getD_cons_zero, List.getD_cons_succ, evE_lset, oLenSet, evE_idx, evE_lrg, evE_reprL, evE_upd, evE_lsc, evE_dcm, dmS_eq, scS_eq, mtS_eq, tupA, lrgO, dkO, oKd, keyD, mtO_new, mt_take, evS_parT, parTO, setAll, not_false_eq_true, not_true_eq_false, mtO_new0, mtO_new1, List.take_zero, oLook, Option.isSome_some, Option.isSome_none, List.length_range, subF, frzC, Option.map_some, evE_trg, $ls,*])
variable {D : Tab} {k : Nat}
theorem seqIx {i : Int} {n : Nat} (h : 0 ≤ i ∧ i < n) : seqIndex? i n = some i.toNat := by
  unfold seqIndex?
  have e : (if i < 0 then i + (n : Int) else i) = i := if_neg (by omega)
  simp only [e]
  rw [if_pos (by simp; omega)]
theorem perm_erase {α : Type} : ∀ {l : List α} {i : Nat} {x : α}, l[i]? = some x → (x :: l.eraseIdx i).Perm l
  | [], _, _, h => by simp at h
  | a :: l, 0, x, h => by simp at h; subst h; exact .refl _
  | a :: l, i + 1, x, h => by
    have := perm_erase (l := l) (i := i) (x := x) (by simpa using h)
    exact (List.Perm.swap _ _ _).trans (List.Perm.cons a this)
theorem mixed_ev [Hd D 20 r20] [Hd D 52 r52] {b : Int} {ds xs : List PyData} (F : FeedOk b ds) (hb : b ≤ 900000) (hl : xs.length ≤ 1000) :
    ∃ ys ds', evF D (k + 2) 52 [.m 0, .d (.list xs)] (some (.lst ds)) = some (.cell (.lst ys), some (.lst ds')) ∧ ys.Perm xs ∧ FeedOk (b + xs.length) ds' := by
  rw [ev_eq]
  simp_arith [r52, a52]
  generalize hq : forL _ _ _ _ = q
  obtain ⟨A', B', rfl, rfl, ds', pool, got, rfl, pm, hp, F'⟩ := for_invN hq (fun i A B => A = [some (.m 0), some (.d (.list xs)), some (.m 1), some (.m 2), none] ∧ ∃ ds' pool got, B = [.lst ds', .lst pool, .lst got] ∧ (got ++ pool).Perm xs ∧ pool.length + i = xs.length ∧ FeedOk (b + i) ds')
    ⟨rfl, ds, xs, [], rfl, by simp, by simp, by simpa using F⟩ (by
    clear hq
    rintro i x A B hx ⟨rfl, ds', pool, got, rfl, pm, hp, F'⟩
    obtain ⟨hi, rfl⟩ := rangeD0_get hx
    obtain ⟨r, d2, u, r1, r2, F2⟩ := draw_ev (D := D) (k := k) (many := (pool.length : Int)) F' (by omega) (by omega) (by omega)
    have hg : pool[r.toNat]? = some (pool[r.toNat]'(by omega)) := List.getElem?_eq_getElem (by omega)
    have gl : got.length ≤ 1000 := by
      have := pm.length_eq
      simp at this
      omega
    simp_arith [u, seqIx ⟨r1, r2⟩, hg]
    refine ⟨_, _, rfl, rfl, d2, _, _, rfl, ?_, by rw [List.length_eraseIdx]; rw [if_pos (by omega)]; omega, F2.mono (by omega)⟩
    have p1 := perm_erase hg
    rw [List.append_assoc]
    exact (List.Perm.append_left got p1).trans pm)
  rw [rangeD_len] at hp F'
  have : pool = [] := List.length_eq_zero_iff.mp (by omega)
  subst this
  rw [List.append_nil] at pm
  simp_arith []
  exact ⟨_, _, rfl, pm, F'⟩
theorem nat_int {r n : Int} (h1 : 0 ≤ r) (h2 : r < n) : ∃ m : Nat, r = (m : Int) ∧ (m : Int) < n := ⟨r.toNat, by omega, by omega⟩
theorem lcL_rel {α : Type} {step : α → Mem → Option (Option PyData × Mem)} (I : Nat → Mem → Prop) (P : Nat → α → PyData → Prop) : ∀ {xs : List α} {B : Mem} (o : Nat), I o B → (∀ (i : Nat) (x : α) (B : Mem), xs[i]? = some x → I (o + i) B → ∃ d B', step x B = some (some d, B') ∧ P (o + i) x d ∧ I (o + i + 1) B') →
    ∃ ds B', lcL step xs B = some (ds, B') ∧ ds.length = xs.length ∧ (∀ (i : Nat) (x : α) (d : PyData), xs[i]? = some x → ds[i]? = some d → P (o + i) x d) ∧ I (o + xs.length) B'
  | [], B, o, hI, _ => ⟨[], B, rfl, rfl, fun i x d h => by simp at h, hI⟩
  | x :: xs, B, o, hI, h => by
    obtain ⟨d, B1, e1, p1, i1⟩ := h 0 x B rfl hI
    obtain ⟨ds, B2, e2, l2, p2, i2⟩ := lcL_rel I P (xs := xs) (B := B1) (o + 1) i1 (fun i y B hy hi => by
      have := h (i + 1) y B (by simpa using hy) (by rw [show o + (i + 1) = o + 1 + i by omega]; exact hi)
      rw [show o + (i + 1) = o + 1 + i by omega] at this
      exact this)
    refine ⟨d :: ds, B2, ?_, by simp [l2], fun i y e hy he => ?_, ?_⟩
    · rw [lcL, e1, ob2_some, e2]; rfl
    · cases i with
      | zero =>
        simp at hy he
        subst hy; subst he
        exact p1
      | succ i =>
        have := p2 i y e (by simpa using hy) (by simpa using he)
        rw [show o + 1 + i = o + (i + 1) by omega] at this
        exact this
    · rw [List.length_cons, show o + (xs.length + 1) = o + 1 + xs.length by omega]
      exact i2
theorem lcL_relQ {α : Type} {step : α → Mem → Option (Option PyData × Mem)} {xs : List α} {B : Mem} {q : Option (List PyData × Mem)} (hq : lcL step xs B = q) (I : Nat → Mem → Prop) (P : Nat → α → PyData → Prop) (h0 : I 0 B) (h : ∀ (i : Nat) (x : α) (B : Mem), xs[i]? = some x → I i B → ∃ d B', step x B = some (some d, B') ∧ P i x d ∧ I (i + 1) B') :
    ∃ ds B', q = some (ds, B') ∧ ds.length = xs.length ∧ (∀ (i : Nat) (x : α) (d : PyData), xs[i]? = some x → ds[i]? = some d → P i x d) ∧ I xs.length B' := by
  obtain ⟨ds, B', e, l, p, i⟩ := lcL_rel I P 0 h0 (fun i x B hx hi => by
    rw [Nat.zero_add] at hi ⊢
    exact h i x B hx hi)
  refine ⟨ds, B', hq ▸ e, l, fun i x d hx hd => ?_, by rw [Nat.zero_add] at i; exact i⟩
  have := p i x d hx hd
  rw [Nat.zero_add] at this
  exact this
theorem cps_app (s t : Str) : (s ++ t).cps.toList = s.cps.toList ++ t.cps.toList := by
  show (s.cps ++ t.cps).toList = _
  simp
theorem cut_len {z : Str} {i : Nat} : (cutS z none (some (i : Int))).cps.toList = z.cps.toList.take i := by
  unfold cutS
  rw [HT.sIx_none, HT.sIx_nat]
  have e := len_cps z
  simp only [List.drop_zero, Nat.sub_zero]
  rw [e]
  apply List.ext_getElem?
  intro j
  rw [List.getElem?_take, List.getElem?_take]
  by_cases h : j < i
  · by_cases h2 : j < z.cps.toList.length
    · rw [if_pos h, if_pos (by omega)]
    · rw [List.getElem?_eq_none (by omega)]; simp
  · rw [if_neg h, if_neg (by omega)]
def nameB (s : Str) : Bool := decide (1 ≤ s.cps.toList.length) && decide (s.cps.toList.length ≤ 8) && (s.cps.toList.take 1).all (fun c => decide (c ∈ letS.cps.toList)) && s.cps.toList.all fun c => decide (c ∈ letS.cps.toList) || decide (c ∈ digS.cps.toList)
theorem name_of {s : Str} (h : nameB s = true) : NameOk s := by
  unfold nameB at h
  simp only [Bool.and_eq_true, decide_eq_true_eq, List.all_eq_true, Bool.or_eq_true] at h
  obtain ⟨⟨⟨h1, h2⟩, h3⟩, h4⟩ := h
  refine ⟨h1, h2, fun c hc => h3 c ?_, h4⟩
  cases q : s.cps.toList with
  | nil => rw [q] at hc; simp at hc
  | cons a r => rw [q] at hc; simp at hc; subst hc; simp
theorem let_at {i : Nat} (h : i < 26) : letS.cps.toList[i]? = some (97 + i) := by
  have : ∀ i : Fin 26, letS.cps.toList[i.val]? = some (97 + i.val) := by decide +kernel
  exact this ⟨i, h⟩
theorem let_mem {i : Nat} (h : i < 26) : 97 + i ∈ letS.cps.toList := List.mem_of_getElem? (let_at h)
theorem atI_let {i : Nat} (h : i < 26) : atI (Str.ofString "abcdefghijklmnopqrstuvwxyz").cps.toList (i : Int) = some (97 + i) := atI_nat (let_at h)
theorem let_len : (Str.ofString "abcdefghijklmnopqrstuvwxyz").length ≤ sizeLine := by decide +kernel
theorem stem_name {s : Str} {c : Nat} (hs : NameOk s) (hl : s.cps.toList.length ≤ 7) (hc : c ∈ letS.cps.toList) : NameOk (s ++ ⟨#[c]⟩) := by
  obtain ⟨h1, h2, h3, h4⟩ := hs
  refine ⟨by rw [cps_app]; simp, by rw [cps_app]; simp; omega, fun a ha => h3 a ?_, fun a ha => ?_⟩
  · rw [cps_app, List.getElem?_append_left (by omega)] at ha
    exact ha
  · rw [cps_app] at ha
    rcases List.mem_append.mp ha with z | z
    · exact h4 a z
    · simp at z; subst z; exact .inl hc
theorem more_name {s : Str} {c : Nat} (hl : s.cps.toList.length ≤ 7) (hs : ∀ a ∈ s.cps.toList, a ∈ letS.cps.toList ∨ a ∈ digS.cps.toList) (hc : c ∈ letS.cps.toList) : NameOk (⟨#[c]⟩ ++ s) := by
  refine ⟨by rw [cps_app]; simp, by rw [cps_app]; simp; omega, fun a ha => ?_, fun a ha => ?_⟩
  · rw [cps_app] at ha
    simp at ha
    subst ha; exact hc
  · rw [cps_app] at ha
    rcases List.mem_append.mp ha with z | z
    · simp at z; subst z; exact .inl hc
    · exact hs a z
def poolN : List Str := ["b10", "b", "zz", "a1", "q1w2e3r4", "b9", "x", "m0", "known", "k", "a1b", "way", "place", "stay", "says", "hour", "device", "person", "first", "last", "c7", "ann", "z", "a"]
theorem pool_ok : (poolN.all nameB) = true ∧ poolN.Nodup ∧ poolN.length = 24 := by decide +kernel
theorem perm_map_inv {α : Type} {f : α → PyData} {ys zs : List PyData} (h : ys.Perm zs) : ∀ {xs : List α}, zs = xs.map f → ∃ ts : List α, ys = ts.map f ∧ ts.Perm xs := by
  induction h with
  | nil =>
    intro xs e
    have : xs = [] := by simpa using e.symm
    subst this
    exact ⟨[], rfl, .refl _⟩
  | @cons a l1 l2 h ih =>
    intro xs e
    cases xs with
    | nil => cases e
    | cons x xs =>
      rw [List.map_cons, List.cons.injEq] at e
      obtain ⟨ts, rfl, p⟩ := ih e.2
      exact ⟨x :: ts, by rw [List.map_cons, e.1], p.cons x⟩
  | @swap a b l =>
    intro xs e
    match xs, e with
    | x :: y :: xs, e =>
      simp only [List.map_cons, List.cons.injEq] at e
      exact ⟨y :: x :: xs, by simp [e.1, e.2.1, e.2.2], .swap _ _ _⟩
    | [_], e => simp at e
    | [], e => simp at e
  | @trans l1 l2 l3 h1 h2 ih1 ih2 =>
    intro xs e
    obtain ⟨ts, rfl, p⟩ := ih2 e
    obtain ⟨us, rfl, q⟩ := ih1 rfl
    exact ⟨us, rfl, q.trans p⟩
theorem perm_strs {ys : List PyData} {ss : List Str} (h : ys.Perm (ss.map .str)) : ∃ ts : List Str, ys = ts.map .str ∧ ts.Perm ss := perm_map_inv h rfl
theorem strs_of : ∀ {l : List PyData}, (∀ y ∈ l, ∃ s, y = PyData.str s) → ∃ ts : List Str, l = ts.map .str
  | [], _ => ⟨[], rfl⟩
  | y :: l, hl => by
    obtain ⟨s, rfl⟩ := hl y List.mem_cons_self
    obtain ⟨ts, rfl⟩ := strs_of fun z hz => hl z (List.mem_cons_of_mem _ hz)
    exact ⟨s :: ts, rfl⟩
theorem stems (j : Nat) (h : j < 7) : nameB (cutS "q7x0abc" none (some (1 + (j : Int)))) = true ∧ (cutS "q7x0abc" none (some (1 + (j : Int)))).cps.toList.length ≤ 7 := by
  have : ∀ j : Fin 7, nameB (cutS "q7x0abc" none (some (1 + (j.val : Int)))) = true ∧ (cutS "q7x0abc" none (some (1 + (j.val : Int)))).cps.toList.length ≤ 7 := by decide +kernel
  exact this ⟨j, h⟩
theorem tails (j : Nat) (h : j < 8) : (cutS "z9a0b1c" none (some (j : Int))).cps.toList.length ≤ 7 ∧ ((cutS "z9a0b1c" none (some (j : Int))).cps.toList.all fun a => decide (a ∈ letS.cps.toList) || decide (a ∈ digS.cps.toList)) = true := by
  have : ∀ j : Fin 8, (cutS "z9a0b1c" none (some (j.val : Int))).cps.toList.length ≤ 7 ∧ ((cutS "z9a0b1c" none (some (j.val : Int))).cps.toList.all fun a => decide (a ∈ letS.cps.toList) || decide (a ∈ digS.cps.toList)) = true := by decide +kernel
  exact this ⟨j, h⟩
theorem mod_nat (a b n : Nat) : ((a : Int) + b) % n = (((a + b) % n : Nat) : Int) := by simp
theorem one_len (c : Nat) : (⟨#[c]⟩ : Str).length = 1 := rfl
theorem names_ev [Hd D 20 r20] [Hd D 52 r52] [Hd D 53 r53] {b : Int} {ds : List PyData} {m : Nat} (F : FeedOk b ds) (hb : b ≤ 800000) (hm : m ≤ 20) :
    ∃ (names : List Str) (ds' : List PyData), evF D (k + 3) 53 [.m 0, .d (.int (m : Int))] (some (.lst ds)) = some (.cell (.lst (names.map .str)), some (.lst ds')) ∧ names.length = m ∧ names.Nodup ∧ (∀ s ∈ names, NameOk s) ∧ FeedOk (b + 100) ds' := by
  obtain ⟨w, d1, u1, w1, w2, F1⟩ := draw_ev (D := D) (k := k + 1) (many := 4) F (by omega) (by omega) (by omega)
  obtain ⟨st, d2, u2, s1, s2, F2⟩ := draw_ev (D := D) (k := k + 1) (many := 26) F1 (by omega) (by omega) (by omega)
  obtain ⟨si, rfl, s3⟩ := nat_int s1 s2
  rw [ev_eq]
  have lw : (Str.ofString "q7x0abc").length ≤ sizeLine := by decide +kernel
  have lz : (Str.ofString "z9a0b1c").length ≤ sizeLine := by decide +kernel
  simp_arith [r53, a53, u1, u2]
  by_cases c0 : w = 0
  · obtain ⟨sl, d3, u3, l1, l2, F3⟩ := draw_ev (D := D) (k := k + 1) (many := 7) F2 (by omega) (by omega) (by omega)
    obtain ⟨j, rfl, j2⟩ := nat_int l1 l2
    obtain ⟨q1, q2⟩ := stems j (by omega)
    simp_arith [decide_eq_true c0, u3, rangeD_len, rangeD0, gu_pos lw]
    generalize cutS _ none (some (1 + (j : Int))) = stem at q1 q2 ⊢
    have q3 := len_cps stem
    rw [lcL_map, lcL_pure (g := fun i => .str (stem ++ ⟨#[97 + (si + i) % 26]⟩)) fun i hi => by
      have e1 : ((si : Int) + (i : Int)) % 26 = (((si + i) % 26 : Nat) : Int) := mod_nat si i 26
      have e2 := atI_let (i := (si + i) % 26) (Nat.mod_lt _ (by decide))
      simp_arith [e1, e2, gu_pos let_len, one_len]]
    have e0 : ((List.range m).map fun i => PyData.str (stem ++ ⟨#[97 + (si + i) % 26]⟩)) = ((List.range m).map fun i => stem ++ ⟨#[97 + (si + i) % 26]⟩).map .str := by rw [List.map_map]; rfl
    obtain ⟨ys, d4, u4, pm, F4⟩ := mixed_ev (D := D) (k := k) (xs := ((List.range m).map fun i => stem ++ ⟨#[97 + (si + i) % 26]⟩).map .str) F3 (by omega) (by simp; omega)
    obtain ⟨ts, rfl, pt⟩ := perm_strs pm
    simp only [List.length_map, List.length_range] at F4
    simp_arith [e0, u4]
    refine ⟨_, _, rfl, by rw [pt.length_eq]; simp, pt.nodup_iff.mpr ?_, fun s hs => ?_, F4.mono (by omega)⟩
    · rw [List.nodup_iff_pairwise_ne, List.pairwise_map]
      refine List.pairwise_lt_range.imp_of_mem fun {a c} ha hc h z => ?_
      have ha := List.mem_range.mp ha
      have hc := List.mem_range.mp hc
      have z := congrArg (fun s : Str => s.cps.toList) z
      simp only [cps_app] at z
      have z := List.append_cancel_left z
      simp at z
      omega
    · obtain ⟨i, hi, rfl⟩ := List.mem_map.mp (pt.mem_iff.mp hs)
      exact stem_name (name_of q1) q2 (let_mem (Nat.mod_lt _ (by decide)))
  · simp_arith [decide_eq_false c0]
    by_cases c1 : w = 1
    · simp_arith [decide_eq_true c1, rangeD_len, rangeD0]
      rw [lcL_map]
      generalize hq : lcL _ _ _ = q
      obtain ⟨es, B2, rfl, l1, p1, d3, rfl, F3⟩ := lcL_relQ hq (fun i B => ∃ d3, B = [.lst d3] ∧ FeedOk (b + 2 + i) d3) (fun i x d => ∃ t : Str, d = .str (⟨#[97 + (si + 3 * x) % 26]⟩ ++ t) ∧ t.cps.toList.length ≤ 7 ∧ (t.cps.toList.all fun a => decide (a ∈ letS.cps.toList) || decide (a ∈ digS.cps.toList)) = true) ⟨d2, rfl, F2.mono (by omega)⟩ (by
        clear hq
        rintro i x B hx ⟨d3, rfl, F3⟩
        have hi := (List.getElem?_eq_some_iff.mp hx).1
        rw [List.length_range] at hi
        obtain ⟨sl, d4, u4, l1, l2, F4⟩ := draw_ev (D := D) (k := k + 1) (many := 8) F3 (by omega) (by omega) (by omega)
        obtain ⟨j, rfl, j2⟩ := nat_int l1 l2
        obtain ⟨q1, q2⟩ := tails j (by omega)
        have e1 : ((si : Int) + 3 * (x : Int)) % 26 = (((si + 3 * x) % 26 : Nat) : Int) := by simp
        have e2 := atI_let (i := (si + 3 * x) % 26) (Nat.mod_lt _ (by decide))
        have q3 := len_cps (cutS "z9a0b1c" none (some (j : Int)))
        simp_arith [e1, e2, gu_pos let_len, one_len, u4, gu_pos lz]
        exact ⟨_, _, rfl, ⟨_, rfl, q1, q2⟩, d4, rfl, F4.mono (by omega)⟩)
      clear hq
      rw [List.length_range] at l1 F3
      have st : ∀ y ∈ es, ∃ s, y = PyData.str s := fun y hy => by
        obtain ⟨i, hi, e⟩ := List.getElem_of_mem hy
        obtain ⟨t, e2, _⟩ := p1 i i y (List.getElem?_range (by omega)) (by rw [List.getElem?_eq_getElem hi, e])
        exact ⟨_, e2⟩
      obtain ⟨ns, rfl⟩ := strs_of st
      rw [List.length_map] at l1
      have p2 : ∀ (i : Nat) (s : Str), ns[i]? = some s → ∃ t : Str, s = ⟨#[97 + (si + 3 * i) % 26]⟩ ++ t ∧ t.cps.toList.length ≤ 7 ∧ (t.cps.toList.all fun a => decide (a ∈ letS.cps.toList) || decide (a ∈ digS.cps.toList)) = true := fun i s hs => by
        have hi := (List.getElem?_eq_some_iff.mp hs).1
        obtain ⟨t, e2, r⟩ := p1 i i (.str s) (List.getElem?_range (by omega)) (by rw [List.getElem?_map, hs]; rfl)
        exact ⟨t, by simpa using e2, r⟩
      obtain ⟨ys, d4, u4, pm, F4⟩ := mixed_ev (D := D) (k := k) (xs := ns.map .str) F3 (by omega) (by simp; omega)
      obtain ⟨ts, rfl, pt⟩ := perm_strs pm
      rw [List.length_map] at F4
      simp_arith [u4]
      refine ⟨_, _, rfl, by rw [pt.length_eq]; exact l1, pt.nodup_iff.mpr ?_, fun s hs => ?_, F4.mono (by omega)⟩
      · rw [List.nodup_iff_pairwise_ne, List.pairwise_iff_getElem]
        intro i j hi hj hij z
        obtain ⟨t1, e1, _⟩ := p2 i ns[i] (List.getElem?_eq_getElem hi)
        obtain ⟨t2, e2, _⟩ := p2 j ns[j] (List.getElem?_eq_getElem hj)
        rw [e1, e2] at z
        have z := congrArg (fun s : Str => s.cps.toList) z
        simp only [cps_app] at z
        simp at z
        have := z.1
        omega
      · obtain ⟨i, hi, e⟩ := List.getElem_of_mem (pt.mem_iff.mp hs)
        obtain ⟨t, e2, l3, l4⟩ := p2 i s (by rw [List.getElem?_eq_getElem hi, e])
        rw [e2]
        refine more_name l3 (fun a ha => ?_) (let_mem (Nat.mod_lt _ (by decide)))
        have := List.all_eq_true.mp l4 a ha
        simpa using this
    · simp_arith [decide_eq_false c1]
      have e0 : [PyData.str "b10", .str "b", .str "zz", .str "a1", .str "q1w2e3r4", .str "b9", .str "x", .str "m0", .str "known", .str "k", .str "a1b", .str "way", .str "place", .str "stay", .str "says", .str "hour", .str "device", .str "person", .str "first", .str "last", .str "c7", .str "ann", .str "z", .str "a"] = poolN.map .str := rfl
      obtain ⟨ys, d3, u3, pm, F3⟩ := mixed_ev (D := D) (k := k) (xs := poolN.map .str) F2 (by omega) (by rw [List.length_map, pool_ok.2.2]; decide)
      obtain ⟨ts, rfl, pt⟩ := perm_strs pm
      rw [List.length_map, pool_ok.2.2] at F3
      have hc : Dl.cutD (ts.map .str) none (some (m : Int)) = (ts.take m).map .str := by rw [cut_to, List.map_take]
      rw [e0]
      simp_arith [u3, frzC, hc]
      refine ⟨_, _, rfl, ?_, ?_, ?_, F3.mono (by omega)⟩
      · rw [List.length_take, pt.length_eq, pool_ok.2.2]; omega
      · exact (pt.nodup_iff.mpr pool_ok.2.1).sublist (List.take_sublist _ _)
      · intro s hs
        exact name_of (List.all_eq_true.mp pool_ok.1 s (pt.mem_iff.mp (List.mem_of_mem_take hs)))
def prD (p : Nat × Nat) : PyData := .tuple [.int (p.1 : Int), .int (p.2 : Int)]
theorem prD_bd (p : Nat × Nat) (h : p.1 < 1000 ∧ p.2 < 1000) : Bd 100 1 (prD p) := (Bd.tuple (c := 10) (p := 0) 2 (fun x hx => by
  simp only [List.mem_cons, List.not_mem_nil, or_false] at hx
  rcases hx with rfl | rfl <;> exact Bd.small (by omega) (by decide)) (by simp)).mono (by decide) (by decide)
theorem prD_eqv (p q : Nat × Nat) : PyData.eqv (prD p) (prD q) = decide (p = q) := by
  rw [Bool.eq_iff_iff]
  obtain ⟨a, b⟩ := p
  obtain ⟨c, d⟩ := q
  simp [prD, PyData.eqv, PyData.eqvAll]
  omega
theorem oIn_pr {p : Nat × Nat} {ps : List (Nat × Nat)} (hp : p.1 < 1000 ∧ p.2 < 1000) (h : ∀ q ∈ ps, q.1 < 1000 ∧ q.2 < 1000) (hl : ps.length ≤ 1000) : oIn (prD p) (.list (ps.map prD)) = some (decide (p ∈ ps)) := by
  show gu _ _ = _
  unfold gu
  have s1 := (prD_bd p hp).shaped (by decide)
  have s2 : SeqAt.shaped (.list (ps.map prD)) = true := (Bd.list (c := 100) (p := 1) 1000 (fun x hx => by
    obtain ⟨q, hq, rfl⟩ := List.mem_map.mp hx
    exact prD_bd q (h q hq)) (by rw [List.length_map]; exact hl)).shaped (by decide)
  rw [if_pos (.inr ⟨s1, s2⟩)]
  congr 1
  rw [List.any_map, Bool.eq_iff_iff, List.any_eq_true]
  simp only [Function.comp_def, prD_eqv, decide_eq_true_eq]
  exact ⟨fun ⟨q, hq, e⟩ => e ▸ hq, fun h => ⟨p, h, rfl⟩⟩
theorem atI_nats {t : List Nat} {i : Nat} (h : i < t.length) : atI (natsD t) (i : Int) = some (.int (t.getD i 0 : Int)) := atI_nat (by
  unfold natsD
  rw [List.getElem?_map, List.getD_eq_getElem?_getD, List.getElem?_eq_getElem h]
  rfl)
theorem atI_strs {names : List Str} {i : Nat} (h : i < names.length) : atI (names.map PyData.str) (i : Int) = some (.str (nmA names i)) := atI_nat (by rw [List.getElem?_map, nmA_get h]; rfl)
theorem min_nat (a b : Nat) : (if (b : Int) < (a : Int) then (b : Int) else (a : Int)) = ((min a b : Nat) : Int) := by split <;> omega
theorem max_nat (a b : Nat) : (if (b : Int) > (a : Int) then (b : Int) else (a : Int)) = ((max a b : Nat) : Int) := by split <;> omega
theorem getD_at {t : List Nat} {i : Nat} (h : i < t.length) : t[i]? = some (t.getD i 0) := by rw [List.getD_eq_getElem?_getD, List.getElem?_eq_getElem h]; rfl
structure Tree (t : List Nat) (i : Nat) (ps : List (Nat × Nat)) : Prop where
  len : ps.length + 1 = i
  lt : ∀ p ∈ ps, p.1 < p.2 ∧ p.2 < t.length
  nd : ps.Nodup
  of : ∀ p ∈ ps, p.1 ∈ t.take i ∧ p.2 ∈ t.take i
  conn : ∀ S : Nat → Prop, (∀ p ∈ ps, S p.1 ↔ S p.2) → ∀ j, j < i → (S (t.getD j 0) ↔ S (t.getD 0 0))
theorem tree_one (t : List Nat) : Tree t 1 [] := ⟨rfl, by simp, .nil, by simp, fun S _ j hj => by rw [show j = 0 by omega]⟩
theorem mem_take_at {t : List Nat} {i j : Nat} (hj : j < i) (h : j < t.length) : t.getD j 0 ∈ t.take i := by
  have := getD_at h
  refine List.mem_of_getElem? (i := j) ?_
  rw [List.getElem?_take, if_pos hj, this]
theorem tree_next {t : List Nat} {i b : Nat} {ps : List (Nat × Nat)} (T : Tree t i ps) (nd : t.Nodup) (ht : ∀ x ∈ t, x < t.length) (hi : i < t.length) (hb : b < i) :
    Tree t (i + 1) (ps ++ [(min (t.getD i 0) (t.getD b 0), max (t.getD i 0) (t.getD b 0))]) := by
  have g1 := getD_at hi
  have g2 := getD_at (show b < t.length by omega)
  have ne : t.getD i 0 ≠ t.getD b 0 := fun e => by
    rw [e, ← g2] at g1
    have := (List.getElem?_inj hi nd).mp g1
    omega
  have l1 := ht _ (List.mem_of_getElem? g1)
  have l2 := ht _ (List.mem_of_getElem? g2)
  have n1 : t.getD i 0 ∉ t.take i := fun z => by
    obtain ⟨j, hj, e⟩ := List.getElem_of_mem z
    have hj' : j < i := by rw [List.length_take] at hj; omega
    rw [List.getElem_take] at e
    have : t[j]? = t[i]? := by rw [g1, ← e, List.getElem?_eq_getElem]
    have := (List.getElem?_inj (show j < t.length by omega) nd).mp this
    omega
  have m1 : t.getD i 0 ∈ t.take (i + 1) := mem_take_at (by omega) hi
  have m2 : t.getD b 0 ∈ t.take (i + 1) := mem_take_at (by omega) (by omega)
  refine ⟨by simp [T.len], fun p hp => ?_, ?_, fun p hp => ?_, fun S hS j hj => ?_⟩
  · rcases List.mem_append.mp hp with z | z
    · exact T.lt p z
    · simp only [List.mem_singleton] at z; subst z; simp only; omega
  · rw [List.nodup_append]
    refine ⟨T.nd, by simp, fun p hp q hq z => ?_⟩
    simp only [List.mem_singleton] at hq
    subst hq; subst z
    obtain ⟨o1, o2⟩ := T.of _ hp
    simp only at o1 o2
    rcases Nat.le_total (t.getD i 0) (t.getD b 0) with c | c
    · rw [Nat.min_eq_left c] at o1; exact n1 o1
    · rw [Nat.max_eq_left c] at o2; exact n1 o2
  · rcases List.mem_append.mp hp with z | z
    · obtain ⟨o1, o2⟩ := T.of p z
      have sub : ∀ x, x ∈ t.take i → x ∈ t.take (i + 1) := fun x hx => by
        rw [List.take_add_one]
        exact List.mem_append_left _ hx
      exact ⟨sub _ o1, sub _ o2⟩
    · simp only [List.mem_singleton] at z
      subst z
      simp only
      rcases Nat.le_total (t.getD i 0) (t.getD b 0) with c | c
      · rw [Nat.min_eq_left c, Nat.max_eq_right c]; exact ⟨m1, m2⟩
      · rw [Nat.min_eq_right c, Nat.max_eq_left c]; exact ⟨m2, m1⟩
  · have old := T.conn S fun p hp => hS p (List.mem_append_left _ hp)
    by_cases c : j < i
    · exact old j c
    · rw [show j = i by omega]
      have hb' := old b hb
      have nw := hS _ (List.mem_append_right ps (List.mem_singleton.mpr rfl))
      simp only at nw
      rcases Nat.le_total (t.getD i 0) (t.getD b 0) with c | c
      · rw [Nat.min_eq_left c, Nat.max_eq_right c] at nw; exact nw.trans hb'
      · rw [Nat.min_eq_right c, Nat.max_eq_left c] at nw; exact nw.symm.trans hb'
theorem tree_conn {t : List Nat} {n : Nat} {ps : List (Nat × Nat)} (T : Tree t n ps) (pt : t.Perm (List.range n)) : Conn n ps := by
  intro S ⟨i0, h0, s0⟩ hS i hi
  have hl : t.length = n := by rw [pt.length_eq, List.length_range]
  have at_ : ∀ i, i < n → ∃ j, j < n ∧ t.getD j 0 = i := fun i hi => by
    have : i ∈ t := pt.mem_iff.mpr (List.mem_range.mpr hi)
    obtain ⟨j, hj, e⟩ := List.getElem_of_mem this
    refine ⟨j, by omega, ?_⟩
    rw [List.getD_eq_getElem?_getD, List.getElem?_eq_getElem hj, e]
    rfl
  obtain ⟨j0, q0, e0⟩ := at_ i0 h0
  obtain ⟨j, q, e⟩ := at_ i hi
  have c0 := T.conn S hS j0 q0
  have c1 := T.conn S hS j q
  rw [e0] at c0
  rw [e] at c1
  exact c1.mpr (c0.mp s0)
theorem ways_of {names : List Str} {top : Int} : ∀ {xs : List (Nat × Nat)} {ds : List PyData}, ds.length = xs.length → (∀ (i : Nat) (x : Nat × Nat) (d : PyData), xs[i]? = some x → ds[i]? = some d → ∃ m : Int, d = wayD names (x.1, x.2, m) ∧ 1 ≤ m ∧ m ≤ top) →
    ∃ ws : List Wy, ds = ws.map (wayD names) ∧ ws.map (fun w => (w.1, w.2.1)) = xs ∧ ∀ w ∈ ws, 1 ≤ w.2.2 ∧ w.2.2 ≤ top
  | [], [], _, _ => ⟨[], rfl, rfl, by simp⟩
  | [], _ :: _, h, _ => by cases h
  | _ :: _, [], h, _ => by cases h
  | x :: xs, d :: ds, hl, h => by
    obtain ⟨m, rfl, m1, m2⟩ := h 0 x d rfl rfl
    obtain ⟨ws, rfl, e, hw⟩ := ways_of (xs := xs) (ds := ds) (by simpa using hl) fun i y e hy he => h (i + 1) y e (by simpa using hy) (by simpa using he)
    refine ⟨(x.1, x.2, m) :: ws, rfl, by simp [e], fun w hw2 => ?_⟩
    rcases List.mem_cons.mp hw2 with z | z
    · subst z; exact ⟨m1, m2⟩
    · exact hw w z
theorem town_ev [Hd D 20 r20] [Hd D 21 r21] [Hd D 52 r52] [Hd D 53 r53] [Hd D 54 r54] {b : Int} {ds : List PyData} {most more : Nat} (F : FeedOk b ds) (hb : b ≤ 700000) (h1 : 1 ≤ most) (h2 : most ≤ 12) (h3 : more ≤ 40) :
    ∃ (names : List Str) (ws : List Wy) (ds' : List PyData), evF D (k + 4) 54 [.m 0, .d (.int (most : Int)), .d (.int (more : Int))] (some (.lst ds)) = some (.data (townD names ws), some (.lst ds')) ∧ TownOk names ws ∧ names.length ≤ most ∧ FeedOk (b + 1000) ds' := by
  obtain ⟨m0, d1, u1, m1, m2, F1⟩ := draw_ev (D := D) (k := k + 2) (many := (most : Int)) F (by omega) (by omega) (by omega)
  obtain ⟨m, rfl, m3⟩ := nat_int m1 m2
  have em : (1 : Int) + (m : Int) = ((m + 1 : Nat) : Int) := by omega
  obtain ⟨names, d2, u2, nl, nnd, nok, F2⟩ := names_ev (D := D) (k := k) (m := m + 1) F1 (by omega) (by omega)
  obtain ⟨x, d3, u3, hx, F3⟩ := one_ev (D := D) (k := k + 1) (xs := [.int 2, .int 5, .int 30, .int 10000]) F2 (by omega) (by decide) (by decide)
  obtain ⟨top, rfl, t1, t2⟩ : ∃ top : Int, x = .int top ∧ 1 ≤ top ∧ top ≤ 10000 := by
    simp only [List.mem_cons, List.not_mem_nil, or_false] at hx
    rcases hx with rfl | rfl | rfl | rfl <;> exact ⟨_, rfl, by decide, by decide⟩
  obtain ⟨ys, d4, u4, pm, F4⟩ := mixed_ev (D := D) (k := k + 1) (xs := rangeD 0 (m + 1)) F3 (by omega) (by rw [rangeD_len]; omega)
  rw [rangeD0] at pm
  obtain ⟨t, rfl, pt⟩ := perm_map_inv pm rfl
  rw [rangeD_len] at F4
  have tl : t.length = m + 1 := by rw [pt.length_eq, List.length_range]
  have tnd : t.Nodup := pt.nodup_iff.mpr List.nodup_range
  have tlt : ∀ x ∈ t, x < t.length := fun x hx => by rw [tl]; exact List.mem_range.mp (pt.mem_iff.mp hx)
  have et : t.map (fun (i : Nat) => PyData.int (i : Int)) = natsD t := rfl
  rw [et] at u4
  rw [ev_eq]
  simp_arith [r54, a54, u1, em, u2, u3, Int.sub_zero, u4]
  generalize hq : forL _ _ _ _ = q
  obtain ⟨A', B', rfl, rfl, d5, ps, rfl, T, F5⟩ := for_invN hq (fun i A B => A = [some (.m 0), some (.d (.int (most : Int))), some (.d (.int (more : Int))), some (.d (.int ((m + 1 : Nat) : Int))), some (.d (.tuple (names.map .str))), some (.d (.int top)), some (.d (.list (natsD t))), some (.m 1), some (.m 2), none, none, none, none] ∧ ∃ d5 ps, B = [.lst d5, .lst (ps.map prD), .lst []] ∧ Tree t (i + 1) ps ∧ FeedOk (b + 200 + i) d5)
    ⟨rfl, d4, [], rfl, tree_one t, F4.mono (by omega)⟩ (by
    clear hq
    rintro i x A B hx ⟨rfl, d5, ps, rfl, T, F5⟩
    obtain ⟨hi, rfl⟩ := rangeD_get hx
    obtain ⟨r, d6, u6, r1, r2, F6⟩ := draw_ev (D := D) (k := k + 2) (many := 1 + (i : Int)) F5 (by omega) (by omega) (by omega)
    obtain ⟨bk, rfl, r3⟩ := nat_int r1 r2
    have ei : (1 : Int) + (i : Int) = ((i + 1 : Nat) : Int) := by omega
    have hi2 : i + 1 < t.length := by omega
    have hb2 : bk < t.length := by omega
    have pl := T.len
    rw [ei] at u6
    simp_arith [ei, u6, atI_nats, min_nat, max_nat, List.length_map]
    exact ⟨_, _, rfl, rfl, d6, ps ++ [(min (t.getD (i + 1) 0) (t.getD bk 0), max (t.getD (i + 1) 0) (t.getD bk 0))], by rw [List.map_append]; rfl, tree_next T tnd tlt hi2 (by omega), F6.mono (by omega)⟩)
  clear hq
  rw [rangeD_len] at T F5
  have e1 : ((((m + 1 : Nat) : Int) - 1).toNat) = m := by omega
  rw [e1] at T F5
  have pl : ps.length = m := by have := T.len; omega
  have psl : ∀ q ∈ ps, q.1 < 1000 ∧ q.2 < 1000 := fun q hq => by have := T.lt q hq; omega
  simp_arith []
  generalize hq : forL _ _ _ _ = q
  obtain ⟨A', B', rfl, rfl, rs, rfl, rnd, rlt, rl⟩ := for_invN hq (fun i A B => A = [some (.m 0), some (.d (.int (most : Int))), some (.d (.int (more : Int))), some (.d (.int ((m + 1 : Nat) : Int))), some (.d (.tuple (names.map .str))), some (.d (.int top)), some (.d (.list (natsD t))), some (.m 1), some (.m 2), none, none, none, none] ∧ ∃ rs : List (Nat × Nat), B = [.lst d5, .lst (ps.map prD), .lst (rs.map prD)] ∧ rs.Nodup ∧ (∀ p ∈ rs, p.1 < p.2 ∧ p.2 < i ∧ p ∉ ps) ∧ rs.length ≤ 12 * i)
    ⟨rfl, [], rfl, .nil, by simp, by simp⟩ (by
    clear hq
    rintro i x A B hx ⟨rfl, rs, rfl, rnd, rlt, rl⟩
    obtain ⟨hi, rfl⟩ := rangeD0_get hx
    simp_arith [rangeD_len, rangeD0]
    rw [lcL_map, lcL_filter (p := fun j => decide ((j, i) ∉ ps)) (g := fun j => prD (j, i)) fun j hj => by
      have hj := List.mem_range.mp hj
      have e : oIn (.tuple [.int (j : Int), .int (i : Int)]) (.list (ps.map prD)) = some (decide ((j, i) ∈ ps)) := oIn_pr (p := (j, i)) (by simp only; omega) psl (by omega)
      by_cases c : (j, i) ∈ ps
      · simp_arith [e, decide_eq_true c, decide_eq_false (not_not_intro c)]
        try rfl
      · simp_arith [e, decide_eq_false c, decide_eq_true c]
        try rfl]
    have fl := List.length_filter_le (fun j => decide ((j, i) ∉ ps)) (List.range i)
    rw [List.length_range] at fl
    simp_arith []
    refine ⟨_, _, rfl, rfl, rs ++ ((List.range i).filter fun j => decide ((j, i) ∉ ps)).map fun j => (j, i), by rw [List.map_append, List.map_map]; rfl, ?_, fun p hp => ?_, by rw [List.length_append, List.length_map]; omega⟩
    · rw [List.nodup_append]
      refine ⟨rnd, ?_, fun p hp q hq z => ?_⟩
      · rw [List.nodup_iff_pairwise_ne, List.pairwise_map]
        have : ((List.range i).filter fun j => decide ((j, i) ∉ ps)).Nodup := List.nodup_range.filter _
        rw [List.nodup_iff_pairwise_ne] at this
        exact this.imp fun h z => h (by simpa using z)
      · subst z
        obtain ⟨j, _, rfl⟩ := List.mem_map.mp hq
        have := rlt _ hp
        simp only at this
        omega
    · rcases List.mem_append.mp hp with z | z
      · have := rlt p z
        exact ⟨this.1, by omega, this.2.2⟩
      · obtain ⟨j, hj, rfl⟩ := List.mem_map.mp z
        obtain ⟨j1, j2⟩ := List.mem_filter.mp hj
        have j1 := List.mem_range.mp j1
        exact ⟨j1, by simp only; omega, by simpa using j2⟩)
  clear hq
  rw [rangeD_len] at rlt rl
  obtain ⟨zs, d6, u6, pz, F6⟩ := mixed_ev (D := D) (k := k + 1) (xs := rs.map prD) F5 (by omega) (by simp; omega)
  obtain ⟨us, rfl, pu⟩ := perm_map_inv pz rfl
  obtain ⟨r0, d7, u7, r1, r2, F7⟩ := draw_ev (D := D) (k := k + 2) (many := (more : Int) + 1) F6 (by rw [List.length_map]; omega) (by omega) (by omega)
  rw [List.length_map] at F6 F7
  obtain ⟨cn, ec, c1⟩ : ∃ cn : Nat, (if 40 - (m : Int) < r0 then 40 - (m : Int) else r0) = (cn : Int) ∧ m + cn ≤ 40 := by
    refine ⟨(if 40 - (m : Int) < r0 then 40 - (m : Int) else r0).toNat, ?_, ?_⟩ <;> split <;> omega
  have hc : Dl.cutD (us.map prD) none (some (cn : Int)) = (us.take cn).map prD := by rw [cut_to, List.map_take]
  have ul : us.length ≤ 144 := by rw [pu.length_eq]; omega
  have ul2 : (us.take cn).length ≤ cn := by rw [List.length_take]; omega
  simp_arith [u6, u7, pl, ec, hc]
  rw [← List.map_append]
  have plt : ∀ p ∈ ps ++ us.take cn, p.1 < p.2 ∧ p.2 < m + 1 := fun p hp => by
    rcases List.mem_append.mp hp with z | z
    · have := T.lt p z; omega
    · have := rlt p (pu.mem_iff.mp (List.mem_of_mem_take z)); omega
  have pnd : (ps ++ us.take cn).Nodup := by
    rw [List.nodup_append]
    refine ⟨T.nd, (pu.nodup_iff.mpr rnd).sublist (List.take_sublist _ _), fun p hp q hq z => ?_⟩
    subst z
    exact (rlt p (pu.mem_iff.mp (List.mem_of_mem_take hq))).2.2 hp
  have pcn : Conn (m + 1) (ps ++ us.take cn) := (tree_conn T (by rw [← tl] at pt ⊢; exact pt)).mono fun p hp => List.mem_append_left _ hp
  have pln : (ps ++ us.take cn).length ≤ 40 := by rw [List.length_append]; omega
  generalize ps ++ us.take cn = qs at plt pnd pcn pln ⊢
  obtain ⟨zs, d8, u8, pz, F8⟩ := mixed_ev (D := D) (k := k + 1) (xs := qs.map prD) F7 (by omega) (by rw [List.length_map]; omega)
  obtain ⟨vs, rfl, pv⟩ := perm_map_inv pz rfl
  rw [List.length_map] at F8
  have vl : vs.length ≤ 40 := by rw [pv.length_eq]; exact pln
  simp_arith [u8]
  rw [lcL_map]
  generalize hq : lcL _ _ _ = q
  obtain ⟨es, B2, rfl, l1, p1, d9, rfl, F9⟩ := lcL_relQ hq (fun i B => ∃ d9, B = [.lst d9, .lst (ps.map prD), .gone, .gone] ∧ FeedOk (b + 600 + i) d9) (fun i x d => ∃ mi : Int, d = wayD names (x.1, x.2, mi) ∧ 1 ≤ mi ∧ mi ≤ top) ⟨d8, rfl, F8.mono (by omega)⟩ (by
    clear hq
    rintro i x B hx ⟨d9, rfl, F9⟩
    have hi := (List.getElem?_eq_some_iff.mp hx).1
    have xl := plt x (pv.mem_iff.mp (List.mem_of_getElem? hx))
    obtain ⟨r3, d10, u10, r4, r5, F10⟩ := draw_ev (D := D) (k := k + 2) (many := top) F9 (by omega) (by omega) (by omega)
    simp_arith [prD, atI_strs, u10]
    exact ⟨_, _, rfl, ⟨1 + r3, rfl, by omega, by omega⟩, d10, rfl, F10.mono (by omega)⟩)
  clear hq
  obtain ⟨ws, rfl, ew, hw⟩ := ways_of (top := top) l1 p1
  simp_arith []
  have wl : ws.length = vs.length := by rw [← ew, List.length_map]
  refine ⟨names, ws, _, rfl, ⟨by omega, by omega, nnd, nok, ⟨fun w h => ?_, ?_⟩, fun w h => by have := hw w h; omega, by omega, ?_⟩, by omega, F9.mono (by omega)⟩
  · have := plt (w.1, w.2.1) (pv.mem_iff.mp (by rw [← ew]; exact List.mem_map.mpr ⟨w, h, rfl⟩))
    have := hw w h
    simp only at *
    omega
  · rw [ew]; exact pv.nodup_iff.mpr pnd
  · rw [ew, nl]; exact pcn.mono fun p hp => pv.mem_iff.mpr hp
end Hs

namespace Hs
open L2 Dl PySem PyProof.Rows PySem.Spec Fw
local macro_rules
  | `(tactic| simp_arith [$ls,*]) => `(tactic| simp -implicitDefEqProofs (disch := omega) only [↓ob_i, ↓ob2_i, ↓gu_i, ↓cs_i, obi_some, ob2i_some, obi_none, ob2i_none, obi_obi, obi_ob2i, ob2i_obi, ob2i_ob2i, obi_gui, ob2i_gui, obi_csi, ob2i_csi, csi_t, csi_f, gui_true, headD_nil, tail_nil, oPow, evE_var, evE_c, evE_kt, evE_op2, evE_neg, evE_chain, evE_and, evE_or, evE_not, evE_ife, evE_sl, evE_omit, evE_call, evE_callK, evE_bi, evE_isi, evE_mm, evE_get2, evE_tup, evE_lst, evE_dnew, evE_lc, evE_lcD, evE_dne0, evE_rev, evT_omit, evT_and, evT_or, evT_not, evT_op2, evT_chain, evT_dne0, evT_var, evT_c, evT_call, evT_bi, evT_isi, evT_lc, evO_omit, evO_var, evO_c, evO_op2, evO_neg, evO_call, evO_bi, evEs_nil, evEs_cons, evI_seq, evI_r1, evI_r2, evI_r3, evI_zip, evI_enum, evG_nm, evG_tp, evS_pass, evS_brk, evS_cont, evS_never, evS_retN, evS_drop, evS_asg, evS_par, evS_par3, evS_put, evS_aug, evS_ife, evS_for_, evS_while_, evS_ret, evS_sh, evSs_nil, evSs_cons, evGs_nil, evGs_cons, thenO, Dl.fin, outR, retO, oVar, Dl.e2, eD2, eD1, eAdd, eIs, eIn, eIx, eBi, eBiL, rdL, eCall, eRet, frz_if, Dl.refs, Dl.ren, Dl.rd, Dl.oK, oInt, Dl.oI, resO, newO, oAdd, oSub, oMul, oDiv, oMod, oNeg, oEq, oNe, oEqB, Dl.rB, oLt, oLe, oGt, oGe, oBool, oTru, oBi, oLen, oTup, oIx, isKt, kdOf, dictOf, isN, isi_i, isi_b, isi_s, isi_l, isi_t, isi_lt', isi_is', chainE, dsO, Dl.kd, kdG, dpS, dpE, dpA, dpT, dpV, dpI, vOf, Dl.hd0, par2, par3, frzs, frz1, eMM, isL, lstO, eSl, oSl, isCmp, lenG, tupO, seqO, r1O, r2O, zipO, enumO, bne0, bne1, List.map_cons, List.map_nil, List.length_cons, List.length_nil, List.cons_append, List.nil_append, List.append_nil, List.replicate, List.getElem?_cons_zero, List.getElem?_cons_succ, List.set_cons_zero, List.set_cons_succ, Nat.reduceAdd, Nat.reduceSub, Option.toList, List.headD_cons, List.tail_cons, Bool.or_false, Bool.false_or, Bool.not_true, Bool.not_false, List.lookup, List.all_nil, List.take, Nat.zero_add, ePut, augO, lcS_eq, forS_eq, whileS_eq, wipeA, killA, dropN, hideF_d, hideF_k, hideF_s, hideF_n, hideF_m, hideF_g, hideF_r, hideF_rg, toBools, toInts, intsO, boolsO, isGone, decide_true, decide_false, eq_self, if_true, if_false, Nat.reduceBEq, Nat.reduceBNe, Nat.reduceEqDiff, Nat.reduceLeDiff, Int.reduceLT, Int.reduceLE, Int.reduceEq, Int.reduceNe, Int.reduceBEq, Int.reduceBNe, Int.reduceNeg, reduceIte, reduceCtorEq, Option.getD_none, Option.getD_some, List.lookup_nil, ne_eq, List.length_map, List.length_zip, List.length_drop, List.length_append, Int.cast_ofNat_Int, sh_nil, sh_nilT, sh_ones, eqv_nil, List.isEmpty_map, and_self, and_true, true_and, lcDO, hideJ, List.length_take, keepA_nil, keepA_cons, Nat.reduceSub, pick, List.getD_cons_zero, List.getD_cons_succ, evE_lset, oLenSet, evE_idx, evE_lrg, evE_reprL, evE_upd, evE_lsc, evE_dcm, dmS_eq, scS_eq, mtS_eq, tupA, lrgO, dkO, oKd, keyD, mtO_new, mt_take, evS_parT, parTO, setAll, not_false_eq_true, not_true_eq_false, mtO_new0, mtO_new1, List.take_zero, oLook, Option.isSome_some, Option.isSome_none, List.length_range, subF, frzC, Option.map_some, evE_trg, gu_le, gu_lt, gu_mulL, gu_mulR, gu_div, gu_pow10, gu_posI, gu_rg, gu_rg2, atI_0, atI_1, atI_2, atI_3, atI_4, ixN_lit, ixN_neg, atI_lst, Int.reduceToNat, Int.reduceNeg, Int.reduceAdd, Int.reduceSub, Int.reduceMul, Int.reducePow, Nat.reducePow, Int.toNat_natCast, gu_str, gu_ix, gu_rgk, $ls,*])
  | `(tactic| simp_arith only [$ls,*]) => `(tactic| simp only [↓ob_i, ↓ob2_i, ↓gu_i, ↓cs_i, obi_some, ob2i_some, obi_none, ob2i_none, obi_obi, obi_ob2i, ob2i_obi, ob2i_ob2i, obi_gui, ob2i_gui, obi_csi, ob2i_csi, csi_t, csi_f, gui_true, headD_nil, tail_nil, oPow, evE_var, evE_c, evE_kt, evE_op2, evE_neg, evE_chain, evE_and, evE_or, evE_not, evE_ife, evE_sl, evE_omit, evE_call, evE_callK, evE_bi, evE_isi, evE_mm, evE_get2, evE_tup, evE_lst, evE_dnew, evE_lc, evE_lcD, evE_dne0, evE_rev, evT_omit, evT_and, evT_or, evT_not, evT_op2, evT_chain, evT_dne0, evT_var, evT_c, evT_call, evT_bi, evT_isi, evT_lc, evO_omit, evO_var, evO_c, evO_op2, evO_neg, evO_call, evO_bi, evEs_nil, evEs_cons, evI_seq, evI_r1, evI_r2, evI_r3, evI_zip, evI_enum, evG_nm, evG_tp, evS_pass, evS_brk, evS_cont, evS_never, evS_retN, evS_drop, evS_asg, evS_par, evS_par3, evS_put, evS_aug, evS_ife, evS_for_, evS_while_, evS_ret, evS_sh, evSs_nil, evSs_cons, evGs_nil, evGs_cons, thenO, Dl.fin, outR, retO, oVar, Dl.e2, eD2, eD1, eAdd, eIs, eIn, eIx, eBi, eBiL, rdL, eCall, eRet, frz_if, Dl.refs, Dl.ren, Dl.rd, Dl.oK, oInt, Dl.oI, resO, newO, oAdd, oSub, oMul, oDiv, oMod, oNeg, oEq, oNe, oEqB, Dl.rB, oLt, oLe, oGt, oGe, oBool, oTru, oBi, oLen, oTup, oIx, isKt, kdOf, dictOf, isN, isi_i, isi_b, isi_s, isi_l, isi_t, isi_lt', isi_is', chainE, dsO, Dl.kd, kdG, dpS, dpE, dpA, dpT, dpV, dpI, vOf, Dl.hd0, par2, par3, frzs, frz1, eMM, isL, lstO, eSl, oSl, isCmp, lenG, tupO, seqO, r1O, r2O, zipO, enumO, bne0, bne1, List.map_cons, List.map_nil, List.length_cons, List.length_nil, List.cons_append, List.nil_append, List.append_nil, List.replicate, List.getElem?_cons_zero, List.getElem?_cons_succ, List.set_cons_zero, List.set_cons_succ, Nat.reduceAdd, Nat.reduceSub, Option.toList, List.headD_cons, List.tail_cons, Bool.or_false, Bool.false_or, Bool.not_true, Bool.not_false, List.lookup, List.all_nil, List.take, Nat.zero_add, ePut, augO, lcS_eq, forS_eq, whileS_eq, wipeA, killA, dropN, hideF_d, hideF_k, hideF_s, hideF_n, hideF_m, hideF_g, hideF_r, hideF_rg, toBools, toInts, intsO, boolsO, isGone, decide_true, decide_false, eq_self, if_true, if_false, Nat.reduceBEq, Nat.reduceBNe, Nat.reduceEqDiff, Nat.reduceLeDiff, Int.reduceLT, Int.reduceLE, Int.reduceEq, Int.reduceNe, Int.reduceBEq, Int.reduceBNe, Int.reduceNeg, reduceIte, reduceCtorEq, Option.getD_none, Option.getD_some, List.lookup_nil, ne_eq, List.length_map, List.length_zip, List.length_drop, List.length_append, Int.cast_ofNat_Int, sh_nil, sh_nilT, sh_ones, eqv_nil, List.isEmpty_map, and_self, and_true, true_and, lcDO, hideJ, List.length_take, keepA_nil, keepA_cons, Nat.reduceSub, pick, List.getD_cons_zero, List.getD_cons_succ, evE_lset, oLenSet, evE_idx, evE_lrg, evE_reprL, evE_upd, evE_lsc, evE_dcm, dmS_eq, scS_eq, mtS_eq, tupA, lrgO, dkO, oKd, keyD, mtO_new, mt_take, evS_parT, parTO, setAll, not_false_eq_true, not_true_eq_false, mtO_new0, mtO_new1, List.take_zero, oLook, Option.isSome_some, Option.isSome_none, List.length_range, subF, frzC, Option.map_some, evE_trg, $ls,*])
  | `(tactic| simp_arith! [$ls,*]) => `(tactic| simp [↓ob_i, ↓ob2_i, ↓gu_i, ↓cs_i, obi_some, ob2i_some, obi_none, ob2i_none, obi_obi, obi_ob2i, ob2i_obi, ob2i_ob2i, obi_gui, ob2i_gui, obi_csi, ob2i_csi, csi_t, csi_f, gui_true, headD_nil, tail_nil, oPow, evE_var, evE_c, evE_kt, evE_op2, evE_neg, evE_chain, evE_and, evE_or, evE_not, evE_ife, evE_sl, evE_omit, evE_call, evE_callK, evE_bi, evE_isi, evE_mm, evE_get2, evE_tup, evE_lst, evE_dnew, evE_lc, evE_lcD, evE_dne0, evE_rev, evT_omit, evT_and, evT_or, evT_not, evT_op2, evT_chain, evT_dne0, evT_var, evT_c, evT_call, evT_bi, evT_isi, evT_lc, evO_omit, evO_var, evO_c, evO_op2, evO_neg, evO_call, evO_bi, evEs_nil, evEs_cons, evI_seq, evI_r1, evI_r2, evI_r3, evI_zip, evI_enum, evG_nm, evG_tp, evS_pass, evS_brk, evS_cont, evS_never, evS_retN, evS_drop, evS_asg, evS_par, evS_par3, evS_put, evS_aug, evS_ife, evS_for_, evS_while_, evS_ret, evS_sh, evSs_nil, evSs_cons, evGs_nil, evGs_cons, thenO, Dl.fin, outR, retO, oVar, Dl.e2, eD2, eD1, eAdd, eIs, eIn, eIx, eBi, eBiL, rdL, eCall, eRet, frz_if, Dl.refs, Dl.ren, Dl.rd, Dl.oK, oInt, Dl.oI, resO, newO, oAdd, oSub, oMul, oDiv, oMod, oNeg, oEq, oNe, oEqB, Dl.rB, oLt, oLe, oGt, oGe, oBool, oTru, oBi, oLen, oTup, oIx, isKt, kdOf, dictOf, isN, isi_i, isi_b, isi_s, isi_l, isi_t, isi_lt', isi_is', chainE, dsO, Dl.kd, kdG, dpS, dpE, dpA, dpT, dpV, dpI, vOf, Dl.hd0, par2, par3, frzs, frz1, eMM, isL, lstO, eSl, oSl, isCmp, lenG, tupO, seqO, r1O, r2O, zipO, enumO, bne0, bne1, List.map_cons, List.map_nil, List.length_cons, List.length_nil, List.cons_append, List.nil_append, List.append_nil, List.replicate, List.getElem?_cons_zero, List.getElem?_cons_succ, List.set_cons_zero, List.set_cons_succ, Nat.reduceAdd, Nat.reduceSub, Option.toList, List.headD_cons, List.tail_cons, Bool.or_false, Bool.false_or, Bool.not_true, Bool.not_false, List.lookup, List.all_nil, List.take, Nat.zero_add, ePut, augO, lcS_eq, forS_eq, whileS_eq, wipeA, killA, dropN, hideF_d, hideF_k, hideF_s, hideF_n, hideF_m, hideF_g, hideF_r, hideF_rg, toBools, toInts, intsO, boolsO, isGone, decide_true, decide_false, eq_self, if_true, if_false, Nat.reduceBEq, Nat.reduceBNe, Nat.reduceEqDiff, Nat.reduceLeDiff, Int.reduceLT, Int.reduceLE, Int.reduceEq, Int.reduceNe, Int.reduceBEq, Int.reduceBNe, Int.reduceNeg, reduceIte, reduceCtorEq, Option.getD_none, Option.getD_some, List.lookup_nil, ne_eq, List.length_map, List.length_zip, List.length_drop, List.length_append, Int.cast_ofNat_Int, sh_nil, sh_nilT, sh_ones, eqv_nil, List.isEmpty_map, and_self, and_true, true_and, lcDO, hideJ, List.length_take, keepA_nil, keepA_cons, Nat.reduceSub, pick, List.getD_cons_zero, List.getD_cons_succ, evE_lset, oLenSet, evE_idx, evE_lrg, evE_reprL, evE_upd, evE_lsc, evE_dcm, dmS_eq, scS_eq, mtS_eq, tupA, lrgO, dkO, oKd, keyD, mtO_new, mt_take, evS_parT, parTO, setAll, not_false_eq_true, not_true_eq_false, mtO_new0, mtO_new1, List.take_zero, oLook, Option.isSome_some, Option.isSome_none, List.length_range, subF, frzC, Option.map_some, evE_trg, $ls,*])
variable {D : Tab} {k : Nat}
theorem law_times_ev [Hd D 55 r55] {names : List Str} {ws : List Wy} (W : WaysOk names.length ws) (nd : names.Nodup) (hn : names.length ≤ 12) (hl : ws.length ≤ 1000) :
    evF D (k + 1) 55 [.d (townD names ws)] none = some (.cell (.mat (matR names.length (times names.length ws))), none) := by
  have hl0 := names.length
  have hnn : ∃ n, n = names.length := ⟨_, rfl⟩
  obtain ⟨n, hnn⟩ := hnn
  rw [ev_eq]
  simp_arith [r55, a55, townD, rangeD_len]
  rw [← hnn] at W hn ⊢
  rw [mtL_pure (g := fun x => (rangeD 0 n).map fun y => if PyData.eqv x y = true then PyData.int 0 else .none) fun x hx rows => by
    obtain ⟨i, hi, rfl⟩ : ∃ i, i < n ∧ x = .int (i : Int) := by simpa [rangeD, eq_comm] using hx
    simp_arith [rangeD_len]
    rw [lcL_pure (g := fun y => if PyData.eqv (.int (i : Int)) y = true then PyData.int 0 else .none) fun y hy => by
      obtain ⟨j, hj, rfl⟩ : ∃ i, i < n ∧ y = .int (i : Int) := by simpa [rangeD, eq_comm] using hy
      by_cases e : (i : Int) = j
      · simp_arith [decide_eq_true e]
        simp [PyData.eqv, e]
      · simp_arith [decide_eq_false e]
        simp [PyData.eqv, e]]
    simp_arith []]
  rw [List.nil_append, ini_mat]
  simp_arith []
  rw [forL_map]
  generalize hq : forL _ _ _ _ = q
  obtain ⟨A', B', rfl, rfl, rfl⟩ := for_invN hq (fun i A B => A = [some (.d (.tuple [.tuple (names.map .str), .tuple (ws.map (wayD names))])), some (.d (.int (n : Int))), none, none, some (.m 0), none, none, none, none, none, none] ∧ B = [.mat (matR n (wayF (ws.take i)))])
    ⟨rfl, rfl⟩ (by
    clear hq
    rintro i w A B hx ⟨rfl, rfl⟩
    have l := W.lt w (List.mem_of_getElem? hx)
    have l1 : w.1 < n := by omega
    have l2 : w.2.1 < n := l.2.1
    have i1 := idx_nm nd (i := w.1) (by omega)
    have i2 := idx_nm nd (i := w.2.1) (by omega)
    simp_arith [wayD, toStrs_map, i1, i2, matR_len, matR_get, rowR_len, rowR_get, atI_row, Option.map_some, matR_set]
    have e1 := matR_set (n := n) (f := wayF (ws.take i)) (v := some w.2.2) l1 l2
    rw [oD_s] at e1
    simp_arith [e1, matR_len, matR_get, rowR_len, rowR_get, atI_row, Option.map_some, matR_set]
    have e3 := matR_set (n := n) (f := upM (wayF (ws.take i)) w.1 w.2.1 (some w.2.2)) (v := some w.2.2) l2 l1
    rw [oD_s] at e3
    simp_arith [e3, oD_s, matR_len, matR_get, rowR_len, rowR_get, atI_row, Option.map_some, matR_set, put_up, take_put hx]
    exact ⟨_, _, rfl, rfl, rfl⟩)
  rw [List.take_length]
  simp_arith []
  generalize hq : forL _ _ _ _ = q
  obtain ⟨A', B', rfl, rfl, rfl⟩ := for_invN hq (fun i A B => A = [some (.d (.tuple [.tuple (names.map .str), .tuple (ws.map (wayD names))])), some (.d (.int (n : Int))), none, none, some (.m 0), none, none, none, none, none, none] ∧ B = [.mat (matR n (Fw.rounds i (wayF ws)))])
    ⟨rfl, rfl⟩ (by
    clear hq
    rintro m w A B hx ⟨rfl, rfl⟩
    obtain ⟨hm, rfl⟩ := rangeD0_get hx
    have G := good_rounds W.good m
    simp_arith []
    generalize hq : forL _ _ _ _ = q
    obtain ⟨A', B', rfl, rfl, rfl⟩ := for_invN hq (fun a A B => A = [some (.d (.tuple [.tuple (names.map .str), .tuple (ws.map (wayD names))])), some (.d (.int (n : Int))), none, none, some (.m 0), none, none, none, none, some (.d (.int (m : Int))), none] ∧ B = [.mat (matR n (mid (Fw.rounds m (wayF ws)) m a 0))])
      ⟨rfl, by rw [mid_0]⟩ (by
      clear hq
      rintro a w A B hx ⟨rfl, rfl⟩
      obtain ⟨ha, rfl⟩ := rangeD0_get hx
      have r1 := mid_r G m a 0 a
      cases q1 : Fw.rounds m (wayF ws) a m with
      | none =>
        simp_arith [matR_len, matR_get, rowR_len, rowR_get, atI_row, Option.map_some, matR_set, r1, q1, oD_n]
        exact ⟨_, _, rfl, rfl, by rw [mid_skipRow q1]⟩
      | some x =>
        simp_arith [matR_len, matR_get, rowR_len, rowR_get, atI_row, Option.map_some, matR_set, r1, q1, oD_s]
        generalize hq : forL _ _ _ _ = q
        obtain ⟨A', B', rfl, rfl, rfl⟩ := for_invN hq (fun b A B => A = [some (.d (.tuple [.tuple (names.map .str), .tuple (ws.map (wayD names))])), some (.d (.int (n : Int))), some (.d (.int (a : Int))), none, some (.m 0), none, none, none, none, some (.d (.int (m : Int))), none] ∧ B = [.mat (matR n (mid (Fw.rounds m (wayF ws)) m a b))])
          ⟨rfl, rfl⟩ (by
          clear hq
          rintro b w A B hx ⟨rfl, rfl⟩
          obtain ⟨hb, rfl⟩ := rangeD0_get hx
          have r1 := mid_r G m a b a
          have r2 := mid_l G m a b b
          have r3 := mid_here (Fw.rounds m (wayF ws)) m a b
          cases q2 : Fw.rounds m (wayF ws) m b with
          | none =>
            simp_arith [matR_len, matR_get, rowR_len, rowR_get, atI_row, Option.map_some, matR_set, r1, r2, r3, q1, q2, oD_n, oD_s]
            exact ⟨_, _, rfl, rfl, by rw [mid_skip (round_n2 q2)]⟩
          | some y =>
            cases q3 : Fw.rounds m (wayF ws) a b with
            | none =>
              have e : some (x + y) = round m (Fw.rounds m (wayF ws)) a b := by unfold round; rw [q1, q2, q3]; rfl
              have e2 := matR_set (n := n) (f := mid (Fw.rounds m (wayF ws)) m a b) (v := some (x + y)) ha hb
              rw [e, mid_step, ← e, oD_s] at e2
              simp_arith [matR_len, matR_get, rowR_len, rowR_get, atI_row, Option.map_some, matR_set, r1, r2, r3, q1, q2, q3, oD_n, oD_s, e2]
              exact ⟨_, _, rfl, rfl, rfl⟩
            | some z =>
              by_cases c : x + y < z
              · have e : some (x + y) = round m (Fw.rounds m (wayF ws)) a b := by unfold round; rw [q1, q2, q3]; simp [minO, addO, c]
                have e2 := matR_set (n := n) (f := mid (Fw.rounds m (wayF ws)) m a b) (v := some (x + y)) ha hb
                rw [e, mid_step, ← e, oD_s] at e2
                simp_arith [matR_len, matR_get, rowR_len, rowR_get, atI_row, Option.map_some, matR_set, r1, r2, r3, q1, q2, q3, oD_n, oD_s, e2, decide_eq_true c]
                exact ⟨_, _, rfl, rfl, rfl⟩
              · have e : round m (Fw.rounds m (wayF ws)) a b = Fw.rounds m (wayF ws) a b := by unfold round; rw [q1, q2, q3]; simp [minO, addO, c]
                simp_arith [matR_len, matR_get, rowR_len, rowR_get, atI_row, Option.map_some, matR_set, r1, r2, r3, q1, q2, q3, oD_n, oD_s, decide_eq_false c]
                exact ⟨_, _, rfl, rfl, by rw [mid_skip e]⟩)
        rw [rangeD_len, matR_ext (g := mid (Fw.rounds m (wayF ws)) m (a + 1) 0) fun i j _ hj => mid_next _ _ _ _ hj]
        simp_arith []
        exact ⟨_, _, rfl, rfl, rfl⟩)
    rw [rangeD_len, matR_ext (g := Fw.rounds (m + 1) (wayF ws)) fun i j hi _ => by rw [rounds_succ]; exact mid_end _ _ _ hi]
    simp_arith []
    exact ⟨_, _, rfl, rfl, rfl⟩)
  rw [rangeD_len]
  simp_arith []
  rfl
theorem nm_cps {s : Str} (h : NameOk s) : ∀ a ∈ s.cps.toList, a < 0x110000 := fun a ha => by
  have b1 : ∀ c ∈ letS.cps.toList, c < 0x110000 := by decide +kernel
  have b2 : ∀ c ∈ digS.cps.toList, c < 0x110000 := by decide +kernel
  rcases h.2.2.2 a ha with z | z
  · exact b1 a z
  · exact b2 a z
theorem nm_bd {s : Str} (h : NameOk s) : Bd 90 0 (.str s) := Bd.str (nm_cps h) (by have := h.2.1; rw [len_cps]; omega)
theorem nat_bd {i : Nat} (h : i < 1000) : Bd 10 0 (.int (i : Int)) := Bd.small (by omega) (by decide)
theorem natsD_bd {p : List Nat} (h : ∀ i ∈ p, i < 1000) (hl : p.length ≤ 100) : Bd 2000 1 (.list (natsD p)) := (Bd.list (c := 10) (p := 0) 100 (fun x hx => by
  obtain ⟨i, hi, rfl⟩ := List.mem_map.mp hx
  exact nat_bd (h i hi)) (by simp [natsD]; exact hl)).mono (by decide) (by decide)
theorem natsT_bd {p : List Nat} (h : ∀ i ∈ p, i < 1000) (hl : p.length ≤ 100) : Bd 2000 1 (.tuple (natsD p)) := (Bd.tuple (c := 10) (p := 0) 100 (fun x hx => by
  obtain ⟨i, hi, rfl⟩ := List.mem_map.mp hx
  exact nat_bd (h i hi)) (by simp [natsD]; exact hl)).mono (by decide) (by decide)
theorem town_bd {names : List Str} {ws : List Wy} (T : TownOk names ws) : Bd 30000 3 (townD names ws) := by
  have h1 : Bd 1200 1 (.tuple (names.map .str)) := (Bd.tuple (c := 90) (p := 0) 12 (fun x hx => by
    obtain ⟨s, hs, rfl⟩ := List.mem_map.mp hx
    exact nm_bd (T.nm s hs)) (by rw [List.length_map]; exact T.len)).mono (by decide) (by decide)
  have nmi : ∀ i, i < names.length → Bd 90 0 (.str (nmA names i)) := fun i hi => nm_bd (T.nm _ (List.mem_of_getElem? (nmA_get hi)))
  have h2 : Bd 12000 2 (.tuple (ws.map (wayD names))) := (Bd.tuple (c := 290) (p := 1) 40 (fun x hx => by
    obtain ⟨w, hw, rfl⟩ := List.mem_map.mp hx
    have := T.ways.lt w hw
    have := T.most w hw
    exact (Bd.tuple (c := 90) (p := 0) 3 (fun y hy => by
      simp only [List.mem_cons, List.not_mem_nil, or_false] at hy
      rcases hy with rfl | rfl | rfl
      · exact nmi _ (by omega)
      · exact nmi _ (by omega)
      · exact Bd.small (by omega) (by decide)) (by simp)).mono (by decide) (by decide)) (by rw [List.length_map]; exact T.wlen)).mono (by decide) (by decide)
  exact (Bd.tuple (c := 12000) (p := 2) 2 (fun y hy => by
    simp only [List.mem_cons, List.not_mem_nil, or_false] at hy
    rcases hy with rfl | rfl
    · exact h1.mono (by decide) (by decide)
    · exact h2) (by simp)).mono (by decide) (by decide)
theorem two_bd {c p : Nat} {x y : PyData} (h1 : Bd c p x) (h2 : Bd c p y) : Bd (2 * (c + 2) + 3) (p + 1) (.list [x, y]) := Bd.list 2 (fun z hz => by
  simp only [List.mem_cons, List.not_mem_nil, or_false] at hz
  rcases hz with rfl | rfl <;> assumption) (by simp)
theorem enum_range (m : Nat) (g : Nat → PyData) : enumD ((List.range m).map g) = (List.range m).map fun (i : Nat) => .tuple [.int (i : Int), g i] := by
  unfold enumD
  apply List.ext_getElem?
  intro i
  rw [List.getElem?_map, List.getElem?_zipIdx, List.getElem?_map, List.getElem?_map]
  by_cases h : i < m
  · rw [List.getElem?_range h]
    simp
  · rw [List.getElem?_eq_none (by rw [List.length_range]; omega)]
    rfl
end Hs

namespace Fw
theorem way_sound {T : Nat → Prop} : ∀ {ws : List Wy} {f : Mx}, (∀ i j, f i j ≠ none → (T i ↔ T j)) → (∀ w ∈ ws, T w.1 ↔ T w.2.1) → ∀ i j, ws.foldl putW f i j ≠ none → (T i ↔ T j)
  | [], f, h, _, i, j, e => h i j e
  | w :: ws, f, h, hw, i, j, e => by
    refine way_sound (ws := ws) (f := putW f w) (fun a b q => ?_) (fun v hv => hw v (List.mem_cons_of_mem _ hv)) i j e
    have l := hw w List.mem_cons_self
    unfold putW at q
    split at q
    · rename_i c
      rcases c with c | c
      · rw [c.1, c.2]; exact l
      · rw [c.1, c.2]; exact l.symm
    · exact h a b q
theorem round_sound {T : Nat → Prop} {f : Mx} (h : ∀ i j, f i j ≠ none → (T i ↔ T j)) : ∀ n i j, rounds n f i j ≠ none → (T i ↔ T j)
  | 0, i, j, e => h i j e
  | n + 1, i, j, e => by
    have ih := round_sound h n
    rw [rounds_succ] at e
    unfold round at e
    cases q : rounds n f i j with
    | some x => exact ih i j (by rw [q]; simp)
    | none =>
      rw [q] at e
      cases q1 : rounds n f i n with
      | none => rw [q1] at e; simp [minO, addO] at e
      | some a =>
        cases q2 : rounds n f n j with
        | none => rw [q1, q2] at e; simp [minO, addO] at e
        | some b => exact (ih i n (by rw [q1]; simp)).trans (ih n j (by rw [q2]; simp))
theorem times_sound {n : Nat} {ws : List Wy} {T : Nat → Prop} (hw : ∀ w ∈ ws, T w.1 ↔ T w.2.1) {i j : Nat} (e : times n ws i j ≠ none) : T i ↔ T j :=
  round_sound (way_sound (f := ini) (fun a b q => by
    by_cases c : a = b
    · subst c; exact Iff.rfl
    · exact absurd (if_neg c) q) hw) n i j e
theorem times_closed {n : Nat} {ws : List Wy} (W : WaysOk n ws) {w : Wy} (hw : w ∈ ws) (i : Nat) : times n ws i w.1 ≠ none ↔ times n ws i w.2.1 ≠ none := by
  have G := good_rounds W.good n
  have T := tri_rounds W.good n
  have l := W.lt w hw
  have e1 : leO (rounds n (wayF ws) w.1 w.2.1) (some w.2.2) := by rw [← way_at W hw]; exact le_rounds _ _ _ n
  have e2 : leO (rounds n (wayF ws) w.2.1 w.1) (some w.2.2) := by rw [G.sy]; exact e1
  show rounds n (wayF ws) i w.1 ≠ none ↔ rounds n (wayF ws) i w.2.1 ≠ none
  constructor
  · intro h z
    have := leO_trans (T w.1 (by omega) i w.2.1) (add_mono (leO_refl _) e1)
    rw [z] at this
    cases q : rounds n (wayF ws) i w.1 with
    | none => exact h q
    | some a => rw [q] at this; exact this
  · intro h z
    have := leO_trans (T w.2.1 (by omega) i w.1) (add_mono (leO_refl _) e2)
    rw [z] at this
    cases q : rounds n (wayF ws) i w.2.1 with
    | none => exact h q
    | some a => rw [q] at this; exact this
theorem times_self {n : Nat} {ws : List Wy} (W : WaysOk n ws) (i : Nat) : times n ws i i = some 0 := (good_rounds W.good n).dg i
theorem round_le {f : Mx} {c : Int} (hc : 0 ≤ c) (h : ∀ i j x, f i j = some x → x ≤ c) (m : Nat) : ∀ i j x, round m f i j = some x → x ≤ 2 * c := fun i j x e => by
  unfold round at e
  rcases min_or (f i j) (addO (f i m) (f m j)) with q | q
  · rw [q] at e; have := h i j x e; omega
  · rw [q] at e
    cases q1 : f i m with
    | none => rw [q1] at e; cases e
    | some a =>
      cases q2 : f m j with
      | none => rw [q1, q2] at e; cases e
      | some b =>
        rw [q1, q2] at e
        cases e
        have := h _ _ _ q1
        have := h _ _ _ q2
        omega
theorem rounds_le {f : Mx} {c : Int} (hc : 0 ≤ c) (h : ∀ i j x, f i j = some x → x ≤ c) : ∀ n i j x, rounds n f i j = some x → x ≤ 2 ^ n * c
  | 0, i, j, x, e => by have := h i j x e; simpa using this
  | n + 1, i, j, x, e => by
    rw [rounds_succ] at e
    have := round_le (f := rounds n f) (c := 2 ^ n * c) (Int.mul_nonneg (Int.pow_nonneg (by decide)) hc) (rounds_le hc h n) n i j x e
    have e2 : (2 : Int) ^ (n + 1) * c = 2 * (2 ^ n * c) := by rw [Int.pow_succ, Int.mul_comm (2 ^ n) 2, Int.mul_assoc]
    omega
theorem way_le {c : Int} (hc : 0 ≤ c) : ∀ {ws : List Wy} {f : Mx}, (∀ i j x, f i j = some x → x ≤ c) → (∀ w ∈ ws, w.2.2 ≤ c) → ∀ i j x, ws.foldl putW f i j = some x → x ≤ c
  | [], f, h, _, i, j, x, e => h i j x e
  | w :: ws, f, h, hw, i, j, x, e => by
    refine way_le hc (ws := ws) (f := putW f w) (fun a b y q => ?_) (fun v hv => hw v (List.mem_cons_of_mem _ hv)) i j x e
    unfold putW at q
    split at q
    · cases q; exact hw w List.mem_cons_self
    · exact h a b y q
theorem times_le {n : Nat} {ws : List Wy} (hn : n ≤ 12) (hw : ∀ w ∈ ws, w.2.2 ≤ 10000) {i j : Nat} {x : Int} (e : times n ws i j = some x) : x ≤ 40960000 := by
  have h := rounds_le (f := wayF ws) (c := 10000) (by decide) (way_le (by decide) (f := ini) (fun a b y q => by
    unfold ini at q
    split at q
    · cases q; decide
    · cases q) hw) n i j x e
  have p : (2 : Int) ^ n ≤ 2 ^ 12 := by
    have : (2 : Nat) ^ n ≤ 2 ^ 12 := Nat.pow_le_pow_right (by decide) hn
    exact_mod_cast this
  have : (2 : Int) ^ n * 10000 ≤ 2 ^ 12 * 10000 := Int.mul_le_mul_of_nonneg_right p (by decide)
  omega
abbrev Ed := List (Nat × Nat)
def grow1 (E : Ed) (L : List Nat) : List Nat := L ++ ((E.filter fun p => decide (p.1 ∈ L) && decide (p.2 ∉ L)).map (·.2)).take 1
def grow2 (E : Ed) (L : List Nat) : List Nat := L ++ ((E.filter fun p => decide (p.2 ∈ L) && decide (p.1 ∉ L)).map (·.1)).take 1
def growN (E : Ed) : Nat → List Nat → List Nat
  | 0, L => L
  | k + 1, L => growN E k (grow2 E (grow1 E L))
def Closed (E : Ed) (L : List Nat) : Prop := ∀ p ∈ E, p.1 ∈ L ↔ p.2 ∈ L
theorem take1 {α : Type} (xs : List α) : xs.take 1 = [] ∧ xs = [] ∨ ∃ x, xs.take 1 = [x] ∧ x ∈ xs := by
  cases xs with
  | nil => exact .inl ⟨rfl, rfl⟩
  | cons x xs => exact .inr ⟨x, by simp, by simp⟩
theorem grow1_or (E : Ed) (L : List Nat) : (grow1 E L = L ∧ ∀ p ∈ E, p.1 ∈ L → p.2 ∈ L) ∨ ∃ p ∈ E, p.1 ∈ L ∧ p.2 ∉ L ∧ grow1 E L = L ++ [p.2] := by
  unfold grow1
  rcases take1 ((E.filter fun p => decide (p.1 ∈ L) && decide (p.2 ∉ L)).map (·.2)) with ⟨h1, h2⟩ | ⟨x, h1, h2⟩
  · refine .inl ⟨by rw [h1, List.append_nil], fun p hp h => ?_⟩
    rw [List.map_eq_nil_iff, List.filter_eq_nil_iff] at h2
    have := h2 p hp
    simp only [Bool.and_eq_true, decide_eq_true_eq, not_and, Decidable.not_not] at this
    exact this h
  · obtain ⟨p, hp, e⟩ := List.mem_map.mp h2
    obtain ⟨p1, p2⟩ := List.mem_filter.mp hp
    simp only [Bool.and_eq_true, decide_eq_true_eq] at p2
    exact .inr ⟨p, p1, p2.1, p2.2, by rw [h1, e]⟩
theorem grow2_or (E : Ed) (L : List Nat) : (grow2 E L = L ∧ ∀ p ∈ E, p.2 ∈ L → p.1 ∈ L) ∨ ∃ p ∈ E, p.2 ∈ L ∧ p.1 ∉ L ∧ grow2 E L = L ++ [p.1] := by
  unfold grow2
  rcases take1 ((E.filter fun p => decide (p.2 ∈ L) && decide (p.1 ∉ L)).map (·.1)) with ⟨h1, h2⟩ | ⟨x, h1, h2⟩
  · refine .inl ⟨by rw [h1, List.append_nil], fun p hp h => ?_⟩
    rw [List.map_eq_nil_iff, List.filter_eq_nil_iff] at h2
    have := h2 p hp
    simp only [Bool.and_eq_true, decide_eq_true_eq, not_and, Decidable.not_not] at this
    exact this h
  · obtain ⟨p, hp, e⟩ := List.mem_map.mp h2
    obtain ⟨p1, p2⟩ := List.mem_filter.mp hp
    simp only [Bool.and_eq_true, decide_eq_true_eq] at p2
    exact .inr ⟨p, p1, p2.1, p2.2, by rw [h1, e]⟩
theorem nodup_snoc {L : List Nat} {x : Nat} (h : L.Nodup) (hx : x ∉ L) : (L ++ [x]).Nodup := by
  rw [List.nodup_append]
  refine ⟨h, by simp, fun a ha b hb z => ?_⟩
  simp at hb
  subst hb; subst z
  exact hx ha
structure Gw (E : Ed) (S : Nat → Prop) (L : List Nat) : Prop where
  nd : L.Nodup
  sub : ∀ x ∈ L, S x
theorem gw1 {E : Ed} {S : Nat → Prop} {L : List Nat} (hS : ∀ p ∈ E, S p.1 ↔ S p.2) (g : Gw E S L) : Gw E S (grow1 E L) ∧ (∀ x ∈ L, x ∈ grow1 E L) ∧ L.length ≤ (grow1 E L).length := by
  rcases grow1_or E L with ⟨e, _⟩ | ⟨p, hp, h1, h2, e⟩
  · rw [e]; exact ⟨g, fun x h => h, Nat.le_refl _⟩
  · rw [e]
    refine ⟨⟨nodup_snoc g.nd h2, fun x hx => ?_⟩, fun x h => List.mem_append_left _ h, by simp⟩
    rcases List.mem_append.mp hx with z | z
    · exact g.sub x z
    · simp at z; subst z; exact (hS p hp).mp (g.sub _ h1)
theorem gw2 {E : Ed} {S : Nat → Prop} {L : List Nat} (hS : ∀ p ∈ E, S p.1 ↔ S p.2) (g : Gw E S L) : Gw E S (grow2 E L) ∧ (∀ x ∈ L, x ∈ grow2 E L) ∧ L.length ≤ (grow2 E L).length := by
  rcases grow2_or E L with ⟨e, _⟩ | ⟨p, hp, h1, h2, e⟩
  · rw [e]; exact ⟨g, fun x h => h, Nat.le_refl _⟩
  · rw [e]
    refine ⟨⟨nodup_snoc g.nd h2, fun x hx => ?_⟩, fun x h => List.mem_append_left _ h, by simp⟩
    rcases List.mem_append.mp hx with z | z
    · exact g.sub x z
    · simp at z; subst z; exact (hS p hp).mpr (g.sub _ h1)
theorem len_lt : ∀ {n : Nat} {L : List Nat}, L.Nodup → (∀ x ∈ L, x < n) → L.length ≤ n
  | 0, [], _, _ => Nat.le_refl _
  | 0, x :: L, _, h => absurd (h x List.mem_cons_self) (Nat.not_lt_zero _)
  | n + 1, L, nd, h => by
    have h1 : (L.erase n).length ≤ n := len_lt (nd.erase n) fun x hx => by
      have h2 := h x (List.mem_of_mem_erase hx)
      have : x ≠ n := fun z => by
        subst z
        exact (List.Nodup.mem_erase_iff nd).mp hx |>.1 rfl
      omega
    have := List.length_erase (a := n) (l := L)
    split at this <;> omega
theorem growN_ok {E : Ed} {S : Nat → Prop} {n : Nat} (hS : ∀ p ∈ E, S p.1 ↔ S p.2) (hn : ∀ x, S x → x < n) : ∀ (k : Nat) {L : List Nat}, Gw E S L → n < k + L.length ∨ Closed E L → Gw E S (growN E k L) ∧ (∀ x ∈ L, x ∈ growN E k L) ∧ Closed E (growN E k L)
  | 0, L, g, h => by
    refine ⟨g, fun x h => h, ?_⟩
    rcases h with h | h
    · have := len_lt g.nd fun x hx => hn x (g.sub x hx)
      omega
    · exact h
  | k + 1, L, g, h => by
    obtain ⟨g1, s1, l1⟩ := gw1 hS g
    obtain ⟨g2, s2, l2⟩ := gw2 hS g1
    have nx : n < k + (grow2 E (grow1 E L)).length ∨ Closed E (grow2 E (grow1 E L)) := by
      rcases grow1_or E L with ⟨e1, c1⟩ | ⟨p, hp, h1, h2, e1⟩
      · rw [e1]
        rcases grow2_or E L with ⟨e2, c2⟩ | ⟨p, hp, h1, h2, e2⟩
        · rw [e2]
          exact .inr fun p hp => ⟨c1 p hp, c2 p hp⟩
        · rw [e2]
          rcases h with h | h
          · left; simp; omega
          · exact absurd ((h p hp).mpr h1) h2
      · rcases h with h | h
        · left
          have : (grow1 E L).length = L.length + 1 := by rw [e1]; simp
          omega
        · exact absurd ((h p hp).mp h1) h2
    obtain ⟨a, b, c⟩ := growN_ok hS hn k g2 nx
    exact ⟨a, fun x hx => b x (s2 x (s1 x hx)), c⟩
end Fw

namespace K60
open PySem Dl
def spanStep (sl e : Int) (acc : List (Int × Int)) (o : Int) : List (Int × Int) :=
  match acc.getLast? with
  | some p => if o - e - sl ≤ p.2 + 1 then acc.dropLast ++ [(p.1, o - e + sl)] else acc ++ [(o - e - sl, o - e + sl)]
  | none => acc ++ [(o - e - sl, o - e + sl)]
def spansOf (e : Int) (ns : List Int) (sl : Int) : List (Int × Int) := ns.foldl (spanStep sl e) []
theorem spanStep_nil (sl e o : Int) : spanStep sl e [] o = [(o - e - sl, o - e + sl)] := rfl
theorem spanStep_snoc (sl e o : Int) (acc : List (Int × Int)) (p : Int × Int) : spanStep sl e (acc ++ [p]) o = if o - e - sl ≤ p.2 + 1 then acc ++ [(p.1, o - e + sl)] else acc ++ [p] ++ [(o - e - sl, o - e + sl)] := by
  unfold spanStep
  rw [List.getLast?_append, List.getLast?_singleton]
  simp
theorem snoc_cases {α : Type} (xs : List α) : xs = [] ∨ ∃ ys y, xs = ys ++ [y] := by
  cases xs with
  | nil => exact .inl rfl
  | cons x r => exact .inr ⟨_, _, (List.dropLast_concat_getLast (List.cons_ne_nil x r)).symm⟩
theorem spanStep_len (sl e o : Int) (acc : List (Int × Int)) : (spanStep sl e acc o).length ≤ acc.length + 1 := by
  rcases snoc_cases acc with rfl | ⟨ys, y, rfl⟩
  · simp [spanStep_nil]
  · rw [spanStep_snoc]
    split <;> simp
theorem spans_len (e sl : Int) (ns : List Int) : (spansOf e ns sl).length ≤ ns.length := by
  have key : ∀ (ns : List Int) (acc : List (Int × Int)), (ns.foldl (spanStep sl e) acc).length ≤ acc.length + ns.length := fun ns => by
    induction ns with
    | nil => intro acc; simp
    | cons n ns ih =>
      intro acc
      have := ih (spanStep sl e acc n)
      have := spanStep_len sl e n acc
      rw [List.foldl_cons, List.length_cons]
      omega
  simpa [spansOf] using key ns []
def bump (d : List (Int × Int)) (k δ : Int) : List (Int × Int) := putI d k (getI d k + δ)
def spanD (p : Int × Int) : List (Int × Int) := [(p.1, 1), (p.2 + 1, -1)]
def deltas (a b : List Int) (sl : Int) : List (Int × Int) := a.flatMap fun e => (spansOf e b sl).flatMap spanD
def bumps (d D : List (Int × Int)) : List (Int × Int) := D.foldl (fun d p => bump d p.1 p.2) d
def runs (d : List (Int × Int)) (ks : List Int) (c : Int) : List (Int × Int) := match ks with
  | [] => []
  | k :: ks => (k, c + getI d k) :: runs d ks (c + getI d k)
def sortI (ks : List Int) : List Int := ks.mergeSort fun a b => decide (a ≤ b)
def stepsOf (a b : List Int) (sl : Int) : List (Int × Int) := let d := bumps [] (deltas a b sl); runs d (sortI (d.map (·.1))) 0
theorem runs_snoc (d : List (Int × Int)) : ∀ (ks : List Int) (c k : Int), runs d (ks ++ [k]) c = runs d ks c ++ [(k, c + (ks.map (getI d)).sum + getI d k)]
  | [], c, k => by simp [runs]
  | x :: ks, c, k => by
    rw [List.cons_append, runs, runs, runs_snoc d ks]
    simp only [List.cons_append, List.map_cons, List.sum_cons]
    rw [show c + getI d x + (ks.map (getI d)).sum + getI d k = c + (getI d x + (ks.map (getI d)).sum) + getI d k by omega]
theorem runs_len (d : List (Int × Int)) : ∀ (ks : List Int) (c : Int), (runs d ks c).length = ks.length
  | [], _ => rfl
  | _ :: ks, _ => by rw [runs, List.length_cons, List.length_cons, runs_len d ks]
theorem bumps_len : ∀ (D d : List (Int × Int)), (bumps d D).length ≤ d.length + D.length
  | [], d => by simp [bumps]
  | p :: D, d => by
    have h := bumps_len D (bump d p.1 p.2)
    have h2 := putI_len d p.1 (getI d p.1 + p.2)
    unfold bumps at h ⊢
    rw [List.foldl_cons, List.length_cons]
    unfold bump at h ⊢
    omega
theorem bumps_app (d D E : List (Int × Int)) : bumps d (D ++ E) = bumps (bumps d D) E := List.foldl_append
def rangesStep (least : Int) (acc : List (Int × Int)) (x y : Int × Int) : List (Int × Int) :=
  if least ≤ x.2 then (match acc.getLast? with
    | some p => if p.2 + 1 = x.1 then acc.dropLast ++ [(p.1, y.1 - 1)] else acc ++ [(x.1, y.1 - 1)]
    | none => acc ++ [(x.1, y.1 - 1)]) else acc
def rangesWith (L : List (Int × Int)) (least : Int) : List (Int × Int) := (L.zip (L.drop 1)).foldl (fun acc q => rangesStep least acc q.1 q.2) []
theorem rangesStep_nil (least : Int) (x y : Int × Int) (h : least ≤ x.2) : rangesStep least [] x y = [(x.1, y.1 - 1)] := by
  unfold rangesStep
  rw [if_pos h]
  rfl
theorem rangesStep_snoc (least : Int) (acc : List (Int × Int)) (p x y : Int × Int) (h : least ≤ x.2) : rangesStep least (acc ++ [p]) x y = if p.2 + 1 = x.1 then acc ++ [(p.1, y.1 - 1)] else acc ++ [p] ++ [(x.1, y.1 - 1)] := by
  unfold rangesStep
  rw [if_pos h, List.getLast?_append, List.getLast?_singleton]
  simp
theorem rangesStep_no (least : Int) (acc : List (Int × Int)) (x y : Int × Int) (h : ¬ least ≤ x.2) : rangesStep least acc x y = acc := by
  unfold rangesStep
  rw [if_neg h]
theorem ranges_len (least : Int) (L : List (Int × Int)) (M : List ((Int × Int) × (Int × Int))) : (M.foldl (fun acc q => rangesStep least acc q.1 q.2) L).length ≤ L.length + M.length := by
  induction M generalizing L with
  | nil => simp
  | cons q M ih =>
    have := ih (rangesStep least L q.1 q.2)
    have h2 : (rangesStep least L q.1 q.2).length ≤ L.length + 1 := by
      by_cases h : least ≤ q.1.2
      · rcases snoc_cases L with rfl | ⟨ys, y, rfl⟩
        · rw [rangesStep_nil _ _ _ h]; simp
        · rw [rangesStep_snoc _ _ _ _ _ h]; split <;> simp
      · rw [rangesStep_no _ _ _ _ h]; omega
    rw [List.foldl_cons, List.length_cons]
    omega
def IsBest (L : List (Int × Int)) (n s : Int) : Prop := ∃ pre post, L = pre ++ (s, n) :: post ∧ (∀ q ∈ pre, q.2 < n) ∧ ∀ q ∈ post, q.2 ≤ n
def Asc (ns : List Int) : Prop := ∀ i a b, ns[i]? = some a → ns[i + 1]? = some b → a < b
structure Log (ns : List Int) : Prop where
  asc : Asc ns
  len : ns.length ≤ 40
  pos : 0 < ns.length
  bd : ∀ n ∈ ns, -100000 ≤ n ∧ n ≤ 100000
theorem asc_sort {ms : List Int} (h : ms.Nodup) : Asc (ms.mergeSort fun a b => decide (a ≤ b)) := by
  intro i a b h1 h2
  obtain ⟨l1, e1⟩ := List.getElem?_eq_some_iff.mp h1
  obtain ⟨l2, e2⟩ := List.getElem?_eq_some_iff.mp h2
  have p := List.pairwise_iff_getElem.mp (sort_le ms) i (i + 1) l1 l2 (by omega)
  have n := List.pairwise_iff_getElem.mp (sort_nd h) i (i + 1) l1 l2 (by omega)
  rw [e1, e2] at p n
  omega
theorem asc_take {ns : List Int} (h : Asc ns) (n : Nat) : Asc (ns.take n) := by
  intro i a b h1 h2
  rw [List.getElem?_take] at h1 h2
  split at h1
  · split at h2
    · exact h i a b h1 h2
    · cases h2
  · cases h1
def absI (i : Int) : Int := if i < 0 then -i else i
def nearB (b : List Int) (sl s m : Int) : Bool := b.any fun o => decide (absI (m + s - o) ≤ sl)
def near (a b : List Int) (sl s : Int) : Nat := (a.filter fun m => nearB b sl s m).length
def rowsOf (a b : List Int) (sl : Int) : List (Int × Int) := (deltas a b sl).mergeSort lexLe
def ends (R : List (Int × Int)) (i : Nat) : Bool := decide (i + 1 = R.length) || decide ((R.getD (i + 1) (0, 0)).1 ≠ (R.getD i (0, 0)).1)
def gotD (cl : List (Int × Int)) (op : Option Int) : List PyData := prs cl ++ (match op with
  | none => []
  | some p => [.tuple [.int p]])
def lawStep (R : List (Int × Int)) (least : Int) (st : Int × List (Int × Int) × Option Int) (i : Nat) : Int × List (Int × Int) × Option Int :=
  let many := st.1 + (R.getD i (0, 0)).2
  if ends R i = true then (match st.2.2 with
    | none => if least ≤ many then (many, st.2.1, some (R.getD i (0, 0)).1) else (many, st.2.1, none)
    | some p => if many < least then (many, st.2.1 ++ [(p, (R.getD i (0, 0)).1 - 1)], none) else (many, st.2.1, some p))
  else (many, st.2.1, st.2.2)
def lawSt (R : List (Int × Int)) (least : Int) (n : Nat) : Int × List (Int × Int) × Option Int := (List.range n).foldl (lawStep R least) (0, [], none)
theorem lawSt_succ (R : List (Int × Int)) (least : Int) (n : Nat) : lawSt R least (n + 1) = lawStep R least (lawSt R least n) n := by
  unfold lawSt
  rw [List.range_succ, List.foldl_append]
  rfl
def bestStep (R : List (Int × Int)) (st : Int × Int × Int) (i : Nat) : Int × Int × Int :=
  let many := st.1 + (R.getD i (0, 0)).2
  if st.2.1 < many ∧ ends R i = true then (many, many, (R.getD i (0, 0)).1) else (many, st.2.1, st.2.2)
def bestSt (R : List (Int × Int)) (n : Nat) : Int × Int × Int := (List.range n).foldl (bestStep R) (0, 0, 0)
theorem bestSt_succ (R : List (Int × Int)) (n : Nat) : bestSt R (n + 1) = bestStep R (bestSt R n) n := by
  unfold bestSt
  rw [List.range_succ, List.foldl_append]
  rfl
theorem lawSt_len (R : List (Int × Int)) (least : Int) (n : Nat) : (lawSt R least n).2.1.length ≤ n := by
  induction n with
  | zero => simp [lawSt]
  | succ n ih =>
    rw [lawSt_succ]
    unfold lawStep
    simp only
    split
    · split
      · split <;> (simp only; omega)
      · split
        · simp only [List.length_append, List.length_singleton]; omega
        · simp only; omega
    · simp only; omega
end K60

namespace Dl
open L2 PySem PyProof.Rows PySem.Spec PySem.Builtin.Str
def CpsOk (s : Str) : Prop := ∀ c ∈ s.cps.toList, c < 0x110000
theorem cp_app {s t : Str} (h : CpsOk s) (g : CpsOk t) : CpsOk (s ++ t) := fun c hc => by
  have e : (s ++ t).cps.toList = s.cps.toList ++ t.cps.toList := by
    show (s.cps ++ t.cps).toList = _
    simp
  rw [e] at hc
  rcases List.mem_append.mp hc with z | z
  · exact h c z
  · exact g c z
theorem char_lt (c : Char) : c.toNat < 0x110000 := by
  have := c.valid
  simp only [UInt32.isValidChar, Nat.isValidChar] at this
  show c.val.toNat < _
  omega
theorem cp_of (x : String) : CpsOk (Str.ofString x) := fun c hc => by
  rw [Str.ofString_eq_toList] at hc
  simp only at hc
  obtain ⟨d, _, rfl⟩ := List.mem_map.mp hc
  exact char_lt d
theorem hex_ok {w c : Nat} : ∀ d ∈ List.replicate (w - ((Nat.toDigits 16 c).map Char.toNat).length) 48 ++ (Nat.toDigits 16 c).map Char.toNat, d < 0x110000 := fun d hd => by
  rcases List.mem_append.mp hd with z | z
  · have := (List.mem_replicate.mp z).2; omega
  · obtain ⟨x, _, rfl⟩ := List.mem_map.mp z
    exact char_lt x
theorem lit2 {a b d : Nat} {l : List Nat} (ha : a < 0x110000) (hb : b < 0x110000) (hl : ∀ d ∈ l, d < 0x110000) (h : d ∈ [a, b] ++ l) : d < 0x110000 := by
  simp only [List.cons_append, List.nil_append, List.mem_cons] at h
  rcases h with rfl | rfl | h
  · exact ha
  · exact hb
  · exact hl d h
theorem reprChar_ok (q c : Nat) (hc : c < 0x110000) : ∀ d ∈ reprChar q c, d < 0x110000 := by
  intro d hd
  unfold reprChar at hd
  dsimp only at hd
  have nl : ∀ d ∈ ([] : List Nat), d < 0x110000 := by simp
  repeat' split at hd
  · simp at hd; omega
  · simp at hd; omega
  · simp at hd; omega
  · simp at hd; omega
  · simp at hd; omega
  · exact lit2 (by decide) (by decide) hex_ok hd
  · exact lit2 (by decide) (by decide) hex_ok hd
  · exact lit2 (by decide) (by decide) hex_ok hd
theorem repr_fold (q : Nat) : ∀ (l : List Nat) (acc : Array Nat), (∀ c ∈ l, c < 0x110000) → (∀ c ∈ acc.toList, c < 0x110000) → ∀ c ∈ (l.foldl (fun out c => out ++ (reprChar q c).toArray) acc).toList, c < 0x110000
  | [], acc, _, h => h
  | x :: l, acc, hl, h => by
    rw [List.foldl_cons]
    refine repr_fold q l _ (fun c hc => hl c (List.mem_cons_of_mem _ hc)) fun c hc => ?_
    simp only [Array.toList_append, List.mem_append] at hc
    rcases hc with z | z
    · exact h c z
    · exact reprChar_ok q x (hl x List.mem_cons_self) c z
theorem cp_repr {x : Str} (h : CpsOk x) : CpsOk (reprText x) := fun c hc => by
  have hq : reprQuote x < 0x110000 := by unfold reprQuote; split <;> decide
  unfold reprText at hc
  simp only [Array.toList_push, List.mem_append, List.mem_singleton] at hc
  rcases hc with z | z
  · rw [← Array.foldl_toList] at z
    exact repr_fold _ _ _ h (by simpa using hq) c z
  · rw [z]; exact hq
theorem cp_join {sep : Str} (hs : CpsOk sep) : ∀ {xs : List Str}, (∀ x ∈ xs, CpsOk x) → CpsOk (Str.join sep xs)
  | [], _ => fun c hc => by simp [Str.join, Str.empty] at hc
  | [x], h => h x List.mem_cons_self
  | x :: y :: r, h => by
    show CpsOk (x ++ sep ++ Str.join sep (y :: r))
    exact cp_app (cp_app (h x List.mem_cons_self) hs) (cp_join hs fun z hz => h z (List.mem_cons_of_mem _ hz))
mutual
theorem shown_cp : ∀ {d : PyData}, d.canLay0 = true → CpsOk d.shown
  | .none, _ => cp_of "None"
  | .bool true, _ => cp_of "True"
  | .bool false, _ => cp_of "False"
  | .int i, _ => cp_of (toString i)
  | .str x, h => by
    refine cp_repr fun c hc => ?_
    have h' : x.cps.all (· < 0x110000) = true := h
    rw [← Array.all_toList, List.all_eq_true] at h'
    exact of_decide_eq_true (h' c hc)
  | .list xs, h => by
    show CpsOk (listText (PyData.shownAll xs))
    rw [listText_eq_join]
    exact cp_app (cp_app (cp_of "[") (cp_join (cp_of ", ") (shownAll_cp h))) (cp_of "]")
  | .tuple xs, h => by
    show CpsOk (tupleText (PyData.shownAll xs))
    unfold tupleText
    exact cp_app (cp_app (cp_of "(") (cp_join (cp_of ", ") (shownAll_cp h))) (by split <;> exact cp_of _)
  | .dict _, h => by cases h
theorem shownAll_cp : ∀ {ds : List PyData}, PyData.canLayAll0 ds = true → ∀ t ∈ PyData.shownAll ds, CpsOk t
  | [], _, t, ht => by cases ht
  | d :: ds, h, t, ht => by
    rw [PyData.canLayAll0, Bool.and_eq_true] at h
    rw [PyData.shownAll] at ht
    rcases List.mem_cons.mp ht with z | z
    · rw [z]; exact shown_cp h.1
    · exact shownAll_cp h.2 t z
end
theorem str_ly {s : Str} (h : CpsOk s) : (PyData.str s).canLay0 = true ∧ (PyData.str s).depth ≤ 0 := by
  refine ⟨?_, Nat.le_refl _⟩
  show s.cps.all (· < 0x110000) = true
  rw [← Array.all_toList, List.all_eq_true]
  exact fun a ha => decide_eq_true (h a ha)
theorem sh_shown {ds : List PyData} (h : ∀ d ∈ ds, d.canLay0 = true) : SeqAt.shaped (.list (ds.map fun d => .str d.shown)) = true := ly_shaped (p := 1) (ly_list fun x hx => by
  obtain ⟨d, hd, rfl⟩ := List.mem_map.mp hx
  exact str_ly (shown_cp (h d hd))) (by decide)
end Dl

namespace Hs
open L2 Dl PySem PyProof.Rows PySem.Spec
def n59 : List Str := ["thing", "many", "one"]
def g59 : List (Str × GK) := [("is_row", .fn 9 ["thing", "least", "most"] []), ("all", .blt), ("is_within", .fn 7 ["thing", "least", "most"] []), ("is_ascending", .fn 10 ["things"] [])]
def a59 : ASs := (.cons (.sh (.ret (.and (.call 9 (.cons (.var 0) (.cons (.c (.int (0))) (.cons (.var 1) .nil)))) (.and (.bi .all (.cons (.lc (.seq (.var 0)) (.nm 2) .omit (.call 7 (.cons (.var 2) (.cons (.c (.int (0))) (.cons (.op2 .sub (.var 1) (.c (.int (1)))) .nil)))) [2]) .nil)) (.call 10 (.cons (.var 0) .nil)))))) .nil)
def r59 : DR := ⟨a59, 2, 3, []⟩

def n60 : List Str := ["town", "places", "place"]
def g60 : List (Str × GK) := [("is_row", .fn 9 ["thing", "least", "most"] []), ("MOST_VISITED", .cst (.int (8))), ("all", .blt), ("is_place", .fn 47 ["town", "thing"] [])]
def a60 : ASs := (.cons (.sh (.ife (.or (.not (.call 9 (.cons (.var 1) (.cons (.c (.int (1))) (.cons (.c (.int (8))) .nil))))) (.not (.bi .all (.cons (.lc (.seq (.var 1)) (.nm 2) .omit (.call 47 (.cons (.var 0) (.cons (.var 2) .nil))) [2]) .nil)))) (.cons .never .nil) .nil)) .nil)
def r60 : DR := ⟨a60, 2, 3, []⟩

def n61 : List Str := ["town", "indexes"]
def g61 : List (Str × GK) := [("are_indexes", .fn 59 ["thing", "many"] []), ("len", .blt)]
def a61 : ASs := (.cons (.ife (.not (.call 59 (.cons (.var 1) (.cons (.bi .len (.cons (.op2 .ix (.var 0) (.c (.int (1)))) .nil)) .nil)))) (.cons .never .nil) .nil) .nil)
def r61 : DR := ⟨a61, 2, 2, []⟩

def n62 : List Str := ["town", "places", "rows", "numbers", "minutes", "place", "one", "at", "row"]
def g62 : List (Str × GK) := [("need_map", .fn 46 ["town"] []), ("need_meeting", .fn 60 ["town", "places"] []), ("town_times", .fn 40 ["town"] []), ("min", .blt), ("max", .blt), ("enumerate", .blt)]
def a62 : ASs := (.cons (.drop (.call 46 (.cons (.var 0) .nil))) (.cons (.sh (.drop (.call 60 (.cons (.var 0) (.cons (.var 1) .nil))))) (.cons (.asg (.nm 2) (.call 40 (.cons (.var 0) .nil))) (.cons (.sh (.asg (.nm 3) (.lc (.seq (.var 1)) (.nm 6) .omit (.idx (.op2 .ix (.var 0) (.c (.int (0)))) (.var 6)) [6]))) (.cons (.sh (.asg (.tp (.cons (.nm 4) (.cons (.nm 5) .nil))) (.bi .min (.cons (.lc (.enum (.cons (.var 2) .nil)) (.tp (.cons (.nm 7) (.cons (.nm 8) .nil))) .omit (.tup (.cons (.bi .max (.cons (.lc (.seq (.var 3)) (.nm 6) .omit (.op2 .ix (.var 8) (.var 6)) [6]) .nil)) (.cons (.var 7) .nil))) [7, 8]) .nil)))) (.cons (.sh (.ret (.tup (.cons (.var 4) (.cons (.op2 .ix (.op2 .ix (.var 0) (.c (.int (0)))) (.var 5)) .nil))))) .nil))))))
def r62 : DR := ⟨a62, 2, 9, []⟩

def n63 : List Str := ["town", "indexes", "ways", "index", "way", "piece", "one"]
def g63 : List (Str × GK) := [("need_map", .fn 46 ["town"] []), ("need_ways", .fn 61 ["town", "indexes"] []), ("enumerate", .blt), ("numbered_ways", .fn 37 ["town"] []), ("tuple", .blt), ("sorted", .blt), ("pieces_by", .fn 42 ["count", "ways"] []), ("len", .blt)]
def a63 : ASs := (.cons (.drop (.call 46 (.cons (.var 0) .nil))) (.cons (.sh (.drop (.call 61 (.cons (.var 0) (.cons (.var 1) .nil))))) (.cons (.asg (.nm 2) (.lc (.enum (.cons (.call 37 (.cons (.var 0) .nil)) .nil)) (.tp (.cons (.nm 3) (.cons (.nm 4) .nil))) (.op2 .nin (.var 3) (.var 1)) (.var 4) [3, 4])) (.cons (.sh (.ret (.lc (.seq (.call 42 (.cons (.bi .len (.cons (.op2 .ix (.var 0) (.c (.int (0)))) .nil)) (.cons (.var 2) .nil)))) (.nm 5) .omit (.bi .tuple (.cons (.bi .sorted (.cons (.lc (.seq (.var 5)) (.nm 6) .omit (.op2 .ix (.op2 .ix (.var 0) (.c (.int (0)))) (.var 6)) [6]) .nil)) .nil)) [5]))) .nil))))
def r63 : DR := ⟨a63, 2, 7, []⟩

def n64 : List Str := ["town", "shut", "pairs", "got", "met", "place", "led", "turn", "at", "one", "to", "minutes"]
def g64 : List (Str × GK) := [("enumerate", .blt), ("range", .blt), ("len", .blt), ("tuple", .blt), ("sorted", .blt)]
def a64 : ASs := (.cons (.sh (.asg (.nm 2) (.lc (.enum (.cons (.op2 .ix (.var 0) (.c (.int (1)))) .nil)) (.tp (.cons (.nm 8) (.cons (.tp (.cons (.nm 9) (.cons (.nm 10) (.cons (.nm 11) .nil)))) .nil))) (.op2 .nin (.var 8) (.var 1)) (.tup (.cons (.var 9) (.cons (.var 10) .nil))) [8, 9, 10, 11]))) (.cons (.par 3 4 (.cons (.lst .nil) (.cons (.lst .nil) .nil))) (.cons (.for_ (.seq (.op2 .ix (.var 0) (.c (.int (0))))) (.nm 5) (.cons (.ife (.op2 .nin (.var 5) (.var 4)) (.cons (.sh (.asg (.nm 6) (.lst (.cons (.var 5) .nil)))) (.cons (.for_ (.r1 (.cons (.bi .len (.cons (.op2 .ix (.var 0) (.c (.int (0)))) .nil)) .nil)) (.nm 7) (.cons (.sh (.asg (.nm 6) (.op2 .add (.var 6) (.sl (.lc (.seq (.var 2)) (.tp (.cons (.nm 9) (.cons (.nm 10) .nil))) (.and (.op2 .inn (.var 9) (.var 6)) (.op2 .nin (.var 10) (.var 6))) (.var 10) [9, 10]) .omit (.c (.int (1))))))) (.cons (.sh (.asg (.nm 6) (.op2 .add (.var 6) (.sl (.lc (.seq (.var 2)) (.tp (.cons (.nm 9) (.cons (.nm 10) .nil))) (.and (.op2 .inn (.var 10) (.var 6)) (.op2 .nin (.var 9) (.var 6))) (.var 9) [9, 10]) .omit (.c (.int (1))))))) .nil))) (.cons (.drop (.mm .append (.var 3) (.cons (.bi .tuple (.cons (.bi .sorted (.cons (.var 6) .nil)) .nil)) .nil))) (.cons (.asg (.nm 4) (.op2 .add (.var 4) (.var 6))) .nil)))) .nil) .nil)) (.cons (.ret (.var 3)) .nil))))
def r64 : DR := ⟨a64, 2, 12, [(3, 1)]⟩

def n65 : List Str := ["script", "k", "feed", "town", "far", "held", "many", "turn", "some", "at", "places", "minutes", "due", "lots", "lot", "told", "place", "one"]
def g65 : List (Str × GK) := [("range", .blt), ("_law_feed", .fn 19 ["script", "k"] []), ("_law_town", .fn 54 ["feed", "most", "more"] []), ("_law_one", .fn 21 ["feed", "things"] []), ("_law_times", .fn 55 ["town"] []), ("repr", .blt), ("len", .blt), ("_law_draw", .fn 20 ["feed", "many"] []), ("tuple", .blt), ("min", .blt), ("max", .blt), ("meeting_place", .fn 62 ["town", "places"] [["places", "town"]]), ("sorted", .blt), ("_law_mixed", .fn 52 ["feed", "things"] []), ("list", .blt), ("shut_ways", .fn 63 ["town", "indexes"] [["indexes", "town"]]), ("_law_pieces", .fn 64 ["town", "shut"] [])]
def a65 : ASs := (.cons (.for_ (.r1 (.cons (.c (.int (3))) .nil)) (.nm 1) (.cons (.sh (.asg (.nm 2) (.call 19 (.cons (.var 0) (.cons (.var 1) .nil))))) (.cons (.asg (.nm 3) (.call 54 (.cons (.var 2) (.cons (.call 21 (.cons (.var 2) (.cons (.lst (.cons (.c (.int (4))) (.cons (.c (.int (7))) (.cons (.c (.int (12))) .nil)))) .nil))) (.cons (.call 21 (.cons (.var 2) (.cons (.lst (.cons (.c (.int (2))) (.cons (.c (.int (10))) (.cons (.c (.int (40))) .nil)))) .nil))) .nil))))) (.cons (.parT [4, 5, 6] (.cons (.call 55 (.cons (.var 3) .nil)) (.cons (.bi .repr (.cons (.var 3) .nil)) (.cons (.bi .len (.cons (.op2 .ix (.var 3) (.c (.int (0)))) .nil)) .nil)))) (.cons (.for_ (.r1 (.cons (.c (.int (8))) .nil)) (.nm 7) (.cons (.sh (.asg (.nm 8) (.lc (.r1 (.cons (.call 21 (.cons (.var 2) (.cons (.lst (.cons (.c (.int (1))) (.cons (.c (.int (2))) (.cons (.c (.int (3))) (.cons (.c (.int (8))) (.cons (.op2 .add (.c (.int (1))) (.call 20 (.cons (.var 2) (.cons (.c (.int (8))) .nil)))) .nil)))))) .nil))) .nil)) (.nm 16) .omit (.call 20 (.cons (.var 2) (.cons (.var 6) .nil))) [16]))) (.cons (.sh (.asg (.nm 10) (.bi .tuple (.cons (.lc (.seq (.var 8)) (.nm 9) .omit (.op2 .ix (.op2 .ix (.var 3) (.c (.int (0)))) (.var 9)) [9]) .nil)))) (.cons (.sh (.asg (.tp (.cons (.nm 11) (.cons (.nm 9) .nil))) (.bi .min (.cons (.lc (.r1 (.cons (.var 6) .nil)) (.nm 9) .omit (.tup (.cons (.bi .max (.cons (.lc (.seq (.var 8)) (.nm 17) .omit (.op2 .ix (.op2 .ix (.var 4) (.var 9)) (.var 17)) [17]) .nil)) (.cons (.var 9) .nil))) [9]) .nil)))) (.cons (.sh (.asg (.nm 12) (.bi .repr (.cons (.tup (.cons (.var 11) (.cons (.op2 .ix (.op2 .ix (.var 3) (.c (.int (0)))) (.var 9)) .nil))) .nil)))) (.cons (.sh (.ife (.op2 .ne (.lst (.cons (.bi .repr (.cons (.call 62 (.cons (.var 3) (.cons (.var 10) .nil))) .nil)) (.cons (.bi .repr (.cons (.callK 62 [1, 0] (.cons (.var 10) (.cons (.var 3) .nil))) .nil)) .nil))) (.lst (.cons (.var 12) (.cons (.var 12) .nil)))) (.cons (.ret (.c (.bool false))) .nil) .nil)) .nil)))))) (.cons (.parT [13, 6] (.cons (.lst (.cons (.tup .nil) (.cons (.trg (.bi .len (.cons (.op2 .ix (.var 3) (.c (.int (1)))) .nil))) .nil))) (.cons (.bi .len (.cons (.op2 .ix (.var 3) (.c (.int (1)))) .nil)) .nil))) (.cons (.for_ (.r1 (.cons (.c (.int (8))) .nil)) (.nm 7) (.cons (.drop (.mm .append (.var 13) (.cons (.bi .tuple (.cons (.bi .sorted (.cons (.sl (.call 52 (.cons (.var 2) (.cons (.lrg (.var 6)) .nil))) .omit (.call 20 (.cons (.var 2) (.cons (.op2 .add (.var 6) (.c (.int (1)))) .nil)))) .nil)) .nil)) .nil))) .nil)) (.cons (.sh (.for_ (.seq (.var 13)) (.nm 14) (.cons (.sh (.par 15 12 (.cons (.call 63 (.cons (.var 3) (.cons (.var 14) .nil))) (.cons (.call 64 (.cons (.var 3) (.cons (.var 14) .nil))) .nil)))) (.cons (.sh (.ife (.op2 .ne (.reprL (.cons (.var 15) (.cons (.callK 63 [1, 0] (.cons (.var 14) (.cons (.var 3) .nil))) .nil))) (.reprL (.cons (.var 12) (.cons (.var 12) .nil)))) (.cons (.ret (.c (.bool false))) .nil) .nil)) (.cons (.drop (.mm .append (.var 15) (.cons (.tup .nil) .nil))) (.cons (.sh (.ife (.op2 .ne (.bi .repr (.cons (.call 63 (.cons (.var 3) (.cons (.var 14) .nil))) .nil)) (.bi .repr (.cons (.var 12) .nil))) (.cons (.ret (.c (.bool false))) .nil) .nil)) .nil)))))) (.cons (.ife (.op2 .ne (.bi .repr (.cons (.var 3) .nil)) (.var 5)) (.cons (.ret (.c (.bool false))) .nil) .nil) .nil))))))))) (.cons (.ret (.c (.bool true))) .nil))
def r65 : DR := ⟨a65, 1, 18, [(13, 1), (15, 1), (2, 1)]⟩end Hs

namespace Hs
open L2 Dl PySem PyProof.Rows PySem.Spec Fw K60
local macro_rules
  | `(tactic| simp_arith [$ls,*]) => `(tactic| simp -implicitDefEqProofs (disch := omega) only [↓ob_i, ↓ob2_i, ↓gu_i, ↓cs_i, obi_some, ob2i_some, obi_none, ob2i_none, obi_obi, obi_ob2i, ob2i_obi, ob2i_ob2i, obi_gui, ob2i_gui, obi_csi, ob2i_csi, csi_t, csi_f, gui_true, headD_nil, tail_nil, oPow, evE_var, evE_c, evE_kt, evE_op2, evE_neg, evE_chain, evE_and, evE_or, evE_not, evE_ife, evE_sl, evE_omit, evE_call, evE_callK, evE_bi, evE_isi, evE_mm, evE_get2, evE_tup, evE_lst, evE_dnew, evE_lc, evE_lcD, evE_dne0, evE_rev, evT_omit, evT_and, evT_or, evT_not, evT_op2, evT_chain, evT_dne0, evT_var, evT_c, evT_call, evT_bi, evT_isi, evT_lc, evO_omit, evO_var, evO_c, evO_op2, evO_neg, evO_call, evO_bi, evEs_nil, evEs_cons, evI_seq, evI_r1, evI_r2, evI_r3, evI_zip, evI_enum, evG_nm, evG_tp, evS_pass, evS_brk, evS_cont, evS_never, evS_retN, evS_drop, evS_asg, evS_par, evS_par3, evS_put, evS_aug, evS_ife, evS_for_, evS_while_, evS_ret, evS_sh, evSs_nil, evSs_cons, evGs_nil, evGs_cons, thenO, Dl.fin, outR, retO, oVar, Dl.e2, eD2, eD1, eAdd, eIs, eIn, eIx, eBi, eBiL, rdL, eCall, eRet, frz_if, Dl.refs, Dl.ren, Dl.rd, Dl.oK, oInt, Dl.oI, resO, newO, oAdd, oSub, oMul, oDiv, oMod, oNeg, oEq, oNe, oEqB, Dl.rB, oLt, oLe, oGt, oGe, oBool, oTru, oBi, oLen, oTup, oIx, isKt, kdOf, dictOf, isN, isi_i, isi_b, isi_s, isi_l, isi_t, isi_lt', isi_is', chainE, dsO, Dl.kd, kdG, dpS, dpE, dpA, dpT, dpV, dpI, vOf, Dl.hd0, par2, par3, frzs, frz1, eMM, isL, lstO, eSl, oSl, isCmp, lenG, tupO, seqO, r1O, r2O, zipO, enumO, bne0, bne1, List.map_cons, List.map_nil, List.length_cons, List.length_nil, List.cons_append, List.nil_append, List.append_nil, List.replicate, List.getElem?_cons_zero, List.getElem?_cons_succ, List.set_cons_zero, List.set_cons_succ, Nat.reduceAdd, Nat.reduceSub, Option.toList, List.headD_cons, List.tail_cons, Bool.or_false, Bool.false_or, Bool.not_true, Bool.not_false, List.lookup, List.all_nil, List.take, Nat.zero_add, ePut, augO, lcS_eq, forS_eq, whileS_eq, wipeA, killA, dropN, hideF_d, hideF_k, hideF_s, hideF_n, hideF_m, hideF_g, hideF_r, hideF_rg, toBools, toInts, intsO, boolsO, isGone, decide_true, decide_false, eq_self, if_true, if_false, Nat.reduceBEq, Nat.reduceBNe, Nat.reduceEqDiff, Nat.reduceLeDiff, Int.reduceLT, Int.reduceLE, Int.reduceEq, Int.reduceNe, Int.reduceBEq, Int.reduceBNe, Int.reduceNeg, reduceIte, reduceCtorEq, Option.getD_none, Option.getD_some, List.lookup_nil, ne_eq, List.length_map, List.length_zip, List.length_drop, List.length_append, Int.cast_ofNat_Int, sh_nil, sh_nilT, sh_ones, eqv_nil, List.isEmpty_map, and_self, and_true, true_and, lcDO, hideJ, List.length_take, keepA_nil, keepA_cons, Nat.reduceSub, pick, List.getD_cons_zero, List.getD_cons_succ, evE_lset, oLenSet, evE_idx, evE_lrg, evE_reprL, evE_upd, evE_lsc, evE_dcm, dmS_eq, scS_eq, mtS_eq, tupA, lrgO, dkO, oKd, keyD, mtO_new, mt_take, evS_parT, parTO, setAll, not_false_eq_true, not_true_eq_false, mtO_new0, mtO_new1, List.take_zero, oLook, Option.isSome_some, Option.isSome_none, List.length_range, subF, frzC, Option.map_some, evE_trg, gu_le, gu_lt, gu_mulL, gu_mulR, gu_div, gu_pow10, gu_posI, gu_rg, gu_rg2, atI_0, atI_1, atI_2, atI_3, atI_4, ixN_lit, ixN_neg, atI_lst, Int.reduceToNat, Int.reduceNeg, Int.reduceAdd, Int.reduceSub, Int.reduceMul, Int.reducePow, Nat.reducePow, Int.toNat_natCast, gu_str, gu_ix, gu_rgk, $ls,*])
  | `(tactic| simp_arith only [$ls,*]) => `(tactic| simp only [↓ob_i, ↓ob2_i, ↓gu_i, ↓cs_i, obi_some, ob2i_some, obi_none, ob2i_none, obi_obi, obi_ob2i, ob2i_obi, ob2i_ob2i, obi_gui, ob2i_gui, obi_csi, ob2i_csi, csi_t, csi_f, gui_true, headD_nil, tail_nil, oPow, evE_var, evE_c, evE_kt, evE_op2, evE_neg, evE_chain, evE_and, evE_or, evE_not, evE_ife, evE_sl, evE_omit, evE_call, evE_callK, evE_bi, evE_isi, evE_mm, evE_get2, evE_tup, evE_lst, evE_dnew, evE_lc, evE_lcD, evE_dne0, evE_rev, evT_omit, evT_and, evT_or, evT_not, evT_op2, evT_chain, evT_dne0, evT_var, evT_c, evT_call, evT_bi, evT_isi, evT_lc, evO_omit, evO_var, evO_c, evO_op2, evO_neg, evO_call, evO_bi, evEs_nil, evEs_cons, evI_seq, evI_r1, evI_r2, evI_r3, evI_zip, evI_enum, evG_nm, evG_tp, evS_pass, evS_brk, evS_cont, evS_never, evS_retN, evS_drop, evS_asg, evS_par, evS_par3, evS_put, evS_aug, evS_ife, evS_for_, evS_while_, evS_ret, evS_sh, evSs_nil, evSs_cons, evGs_nil, evGs_cons, thenO, Dl.fin, outR, retO, oVar, Dl.e2, eD2, eD1, eAdd, eIs, eIn, eIx, eBi, eBiL, rdL, eCall, eRet, frz_if, Dl.refs, Dl.ren, Dl.rd, Dl.oK, oInt, Dl.oI, resO, newO, oAdd, oSub, oMul, oDiv, oMod, oNeg, oEq, oNe, oEqB, Dl.rB, oLt, oLe, oGt, oGe, oBool, oTru, oBi, oLen, oTup, oIx, isKt, kdOf, dictOf, isN, isi_i, isi_b, isi_s, isi_l, isi_t, isi_lt', isi_is', chainE, dsO, Dl.kd, kdG, dpS, dpE, dpA, dpT, dpV, dpI, vOf, Dl.hd0, par2, par3, frzs, frz1, eMM, isL, lstO, eSl, oSl, isCmp, lenG, tupO, seqO, r1O, r2O, zipO, enumO, bne0, bne1, List.map_cons, List.map_nil, List.length_cons, List.length_nil, List.cons_append, List.nil_append, List.append_nil, List.replicate, List.getElem?_cons_zero, List.getElem?_cons_succ, List.set_cons_zero, List.set_cons_succ, Nat.reduceAdd, Nat.reduceSub, Option.toList, List.headD_cons, List.tail_cons, Bool.or_false, Bool.false_or, Bool.not_true, Bool.not_false, List.lookup, List.all_nil, List.take, Nat.zero_add, ePut, augO, lcS_eq, forS_eq, whileS_eq, wipeA, killA, dropN, hideF_d, hideF_k, hideF_s, hideF_n, hideF_m, hideF_g, hideF_r, hideF_rg, toBools, toInts, intsO, boolsO, isGone, decide_true, decide_false, eq_self, if_true, if_false, Nat.reduceBEq, Nat.reduceBNe, Nat.reduceEqDiff, Nat.reduceLeDiff, Int.reduceLT, Int.reduceLE, Int.reduceEq, Int.reduceNe, Int.reduceBEq, Int.reduceBNe, Int.reduceNeg, reduceIte, reduceCtorEq, Option.getD_none, Option.getD_some, List.lookup_nil, ne_eq, List.length_map, List.length_zip, List.length_drop, List.length_append, Int.cast_ofNat_Int, sh_nil, sh_nilT, sh_ones, eqv_nil, List.isEmpty_map, and_self, and_true, true_and, lcDO, hideJ, List.length_take, keepA_nil, keepA_cons, Nat.reduceSub, pick, List.getD_cons_zero, List.getD_cons_succ, evE_lset, oLenSet, evE_idx, evE_lrg, evE_reprL, evE_upd, evE_lsc, evE_dcm, dmS_eq, scS_eq, mtS_eq, tupA, lrgO, dkO, oKd, keyD, mtO_new, mt_take, evS_parT, parTO, setAll, not_false_eq_true, not_true_eq_false, mtO_new0, mtO_new1, List.take_zero, oLook, Option.isSome_some, Option.isSome_none, List.length_range, subF, frzC, Option.map_some, evE_trg, $ls,*])
  | `(tactic| simp_arith! [$ls,*]) => `(tactic| simp [↓ob_i, ↓ob2_i, ↓gu_i, ↓cs_i, obi_some, ob2i_some, obi_none, ob2i_none, obi_obi, obi_ob2i, ob2i_obi, ob2i_ob2i, obi_gui, ob2i_gui, obi_csi, ob2i_csi, csi_t, csi_f, gui_true, headD_nil, tail_nil, oPow, evE_var, evE_c, evE_kt, evE_op2, evE_neg, evE_chain, evE_and, evE_or, evE_not, evE_ife, evE_sl, evE_omit, evE_call, evE_callK, evE_bi, evE_isi, evE_mm, evE_get2, evE_tup, evE_lst, evE_dnew, evE_lc, evE_lcD, evE_dne0, evE_rev, evT_omit, evT_and, evT_or, evT_not, evT_op2, evT_chain, evT_dne0, evT_var, evT_c, evT_call, evT_bi, evT_isi, evT_lc, evO_omit, evO_var, evO_c, evO_op2, evO_neg, evO_call, evO_bi, evEs_nil, evEs_cons, evI_seq, evI_r1, evI_r2, evI_r3, evI_zip, evI_enum, evG_nm, evG_tp, evS_pass, evS_brk, evS_cont, evS_never, evS_retN, evS_drop, evS_asg, evS_par, evS_par3, evS_put, evS_aug, evS_ife, evS_for_, evS_while_, evS_ret, evS_sh, evSs_nil, evSs_cons, evGs_nil, evGs_cons, thenO, Dl.fin, outR, retO, oVar, Dl.e2, eD2, eD1, eAdd, eIs, eIn, eIx, eBi, eBiL, rdL, eCall, eRet, frz_if, Dl.refs, Dl.ren, Dl.rd, Dl.oK, oInt, Dl.oI, resO, newO, oAdd, oSub, oMul, oDiv, oMod, oNeg, oEq, oNe, oEqB, Dl.rB, oLt, oLe, oGt, oGe, oBool, oTru, oBi, oLen, oTup, oIx, isKt, kdOf, dictOf, isN, isi_i, isi_b, isi_s, isi_l, isi_t, isi_lt', isi_is', chainE, dsO, Dl.kd, kdG, dpS, dpE, dpA, dpT, dpV, dpI, vOf, Dl.hd0, par2, par3, frzs, frz1, eMM, isL, lstO, eSl, oSl, isCmp, lenG, tupO, seqO, r1O, r2O, zipO, enumO, bne0, bne1, List.map_cons, List.map_nil, List.length_cons, List.length_nil, List.cons_append, List.nil_append, List.append_nil, List.replicate, List.getElem?_cons_zero, List.getElem?_cons_succ, List.set_cons_zero, List.set_cons_succ, Nat.reduceAdd, Nat.reduceSub, Option.toList, List.headD_cons, List.tail_cons, Bool.or_false, Bool.false_or, Bool.not_true, Bool.not_false, List.lookup, List.all_nil, List.take, Nat.zero_add, ePut, augO, lcS_eq, forS_eq, whileS_eq, wipeA, killA, dropN, hideF_d, hideF_k, hideF_s, hideF_n, hideF_m, hideF_g, hideF_r, hideF_rg, toBools, toInts, intsO, boolsO, isGone, decide_true, decide_false, eq_self, if_true, if_false, Nat.reduceBEq, Nat.reduceBNe, Nat.reduceEqDiff, Nat.reduceLeDiff, Int.reduceLT, Int.reduceLE, Int.reduceEq, Int.reduceNe, Int.reduceBEq, Int.reduceBNe, Int.reduceNeg, reduceIte, reduceCtorEq, Option.getD_none, Option.getD_some, List.lookup_nil, ne_eq, List.length_map, List.length_zip, List.length_drop, List.length_append, Int.cast_ofNat_Int, sh_nil, sh_nilT, sh_ones, eqv_nil, List.isEmpty_map, and_self, and_true, true_and, lcDO, hideJ, List.length_take, keepA_nil, keepA_cons, Nat.reduceSub, pick, List.getD_cons_zero, List.getD_cons_succ, evE_lset, oLenSet, evE_idx, evE_lrg, evE_reprL, evE_upd, evE_lsc, evE_dcm, dmS_eq, scS_eq, mtS_eq, tupA, lrgO, dkO, oKd, keyD, mtO_new, mt_take, evS_parT, parTO, setAll, not_false_eq_true, not_true_eq_false, mtO_new0, mtO_new1, List.take_zero, oLook, Option.isSome_some, Option.isSome_none, List.length_range, subF, frzC, Option.map_some, evE_trg, $ls,*])
variable {D : Tab} {k : Nat}
def sortS (ss : List Str) : List Str := ss.mergeSort fun a b => decide (a.cps.toList ≤ b.cps.toList)
theorem sortD_strs (ss : List Str) : sortD (ss.map PyData.str) = (sortS ss).map .str := by
  refine (List.map_mergeSort (r := fun a b : Str => decide (a.cps.toList ≤ b.cps.toList)) fun a _ b _ => ?_).symm
  exact (congrFun (congrFun (PySem.W.dataLe_str (β := Str) id) a) b).symm
theorem oSorted_strs {ss : List Str} (h : ss.length ≤ 1000) : oSorted (.list (ss.map .str)) = some (.l ((sortS ss).map .str)) := by
  have e : sortOk (ss.map .str) = true := by
    unfold sortOk
    simp only [List.all_map, Bool.and_eq_true]
    refine ⟨⟨by simp [PySem.W.alike], ?_⟩, by simp [PyData.depth]⟩
    rw [Bool.or_eq_true]
    exact .inr (by simp [noNT])
  show gu _ _ = _
  unfold gu
  rw [if_pos ⟨e, by rw [List.length_map]; exact Nat.le_trans h (by decide)⟩, sortD_strs]
theorem str_ext {a b : Str} (h : a.cps.toList = b.cps.toList) : a = b := by
  cases a; cases b
  simp only [Str.mk.injEq]
  exact Array.toList_inj.mp h
theorem sortS_perm {xs ys : List Str} (h : xs.Perm ys) : sortS xs = sortS ys := by
  have tr : ∀ a b c : Str, decide (a.cps.toList ≤ b.cps.toList) = true → decide (b.cps.toList ≤ c.cps.toList) = true → decide (a.cps.toList ≤ c.cps.toList) = true := fun a b c h1 h2 => decide_eq_true (List.le_trans (of_decide_eq_true h1) (of_decide_eq_true h2))
  have tt : ∀ a b : Str, (decide (a.cps.toList ≤ b.cps.toList) || decide (b.cps.toList ≤ a.cps.toList)) = true := fun a b => by
    rw [Bool.or_eq_true, decide_eq_true_eq, decide_eq_true_eq]
    exact List.le_total _ _
  refine List.Perm.eq_of_pairwise (le := fun a b : Str => decide (a.cps.toList ≤ b.cps.toList) = true) (fun a b _ _ h1 h2 => str_ext (List.le_antisymm (of_decide_eq_true h1) (of_decide_eq_true h2))) (List.pairwise_mergeSort tr tt xs) (List.pairwise_mergeSort tr tt ys) ?_
  exact ((List.mergeSort_perm xs _).trans h).trans (List.mergeSort_perm ys _).symm
theorem sortS_len (ss : List Str) : (sortS ss).length = ss.length := List.length_mergeSort _
def gI (f : Mx) (i j : Nat) : Int := (f i j).getD 0
def mtE (f : Mx) (some_ : List Nat) (i : Nat) : PyData := .tuple [.int (maxI (some_.map fun o => gI f i o)), .int (i : Int)]
theorem oD_gI {f : Mx} {i j : Nat} (h : ∃ x, f i j = some x) : oD (f i j) = .int (gI f i j) := by
  obtain ⟨x, e⟩ := h
  rw [e]
  unfold gI
  rw [e]
  rfl
theorem meet_ex (f : Mx) (sm : List Nat) {n : Nat} (hn : 0 < n) : ∃ I, I < n ∧ oBi .min [.list ((List.range n).map (mtE f sm))] = some (Res.v (mtE f sm I)) := by
  obtain ⟨m, rfl⟩ : ∃ m, n = m + 1 := ⟨n - 1, by omega⟩
  have e : (List.range (m + 1)).map (mtE f sm) = mtE f sm 0 :: (List.range m).map fun i => mtE f sm (i + 1) := by
    rw [List.range_succ_eq_map, List.map_cons, List.map_map]
    rfl
  have hb := bestD_mem (mn := true) (x := mtE f sm 0) (xs := (List.range m).map fun i => mtE f sm (i + 1))
  rw [← e] at hb
  obtain ⟨I, hI, eI⟩ := List.mem_map.mp hb
  refine ⟨I, List.mem_range.mp hI, ?_⟩
  show (match intsO (.list ((List.range (m + 1)).map (mtE f sm))) with
    | some ns => gu (ns ≠ []) (some (Res.v (.int (minI ns))))
    | none => oBest true (.list ((List.range (m + 1)).map (mtE f sm)))) = _
  rw [e]
  show gu _ _ = _
  unfold gu
  have mem : ∀ d ∈ mtE f sm 0 :: (List.range m).map fun i => mtE f sm (i + 1), ∃ i, d = mtE f sm i := fun d hd => by
    rw [← e] at hd
    obtain ⟨i, _, rfl⟩ := List.mem_map.mp hd
    exact ⟨i, rfl⟩
  have q : AllAl (mtE f sm 0 :: (List.range m).map fun i => mtE f sm (i + 1)) ∧ ∀ e ∈ mtE f sm 0 :: (List.range m).map fun i => mtE f sm (i + 1), e.depth ≤ 60 ∧ e.canLay0 = true := by
    refine ⟨⟨fun x hx y hy => ?_, fun x hx z => ?_⟩, fun x hx => ?_⟩
    · obtain ⟨i, rfl⟩ := mem x hx
      obtain ⟨j, rfl⟩ := mem y hy
      rfl
    · obtain ⟨i, rfl⟩ := mem x hx
      cases z
    · obtain ⟨i, rfl⟩ := mem x hx
      exact ⟨by show max 0 (max 0 0) + 1 ≤ 60; omega, rfl⟩
  rw [if_pos q, ← eI]
theorem maxI_le {ns : List Int} {c : Int} (h : ∀ x ∈ ns, 0 ≤ x ∧ x ≤ c) (hc : 0 ≤ c) : 0 ≤ maxI ns ∧ maxI ns ≤ c := by
  cases ns with
  | nil => exact ⟨by decide, hc⟩
  | cons n ns => exact h _ (maxI_spec (ns := n :: ns) (by simp)).1
theorem is_place_ev [Hd D 47 r47] {names : List Str} {ws : List Wy} {i : Nat} (hi : i < names.length) : evF D (k + 1) 47 [.d (townD names ws), .d (.str (nmA names i))] none = some (.data (.bool true), none) := by
  rw [ev_eq]
  simp_arith [r47, a47, townD, isSt, oIn_nm (nmA_get hi)]
def nmsD (names : List Str) (sm : List Nat) : List PyData := sm.map fun i => .str (nmA names i)
theorem need_meeting_ev [Hd D 9 r9] [Hd D 47 r47] [Hd D 60 r60] {names : List Str} {ws : List Wy} {sm : List Nat} (hs : ∀ i ∈ sm, i < names.length) (h1 : 1 ≤ sm.length) (h2 : sm.length ≤ 8) : evF D (k + 2) 60 [.d (townD names ws), .d (.tuple (nmsD names sm))] none = some (.data .none, none) := by
  have r : isRow (.tuple (nmsD names sm)) 1 8 = true := by simp [isRow, nmsD]; omega
  rw [ev_eq]
  have nl : (nmsD names sm).length ≤ 8 := by simp [nmsD]; omega
  simp_arith [r60, a60, is_row_ev, r]
  unfold nmsD
  rw [lcL_map, lcL_pure (g := fun _ => .bool true) fun i hi => by simp_arith [is_place_ev (hs i hi)]]
  simp_arith [toBools_f, List.all_map, Function.comp_def, id, all_tt]
theorem meeting_place_ev [Hd D 6 r6] [Hd D 7 r7] [Hd D 9 r9] [Hd D 33 r33] [Hd D 34 r34] [Hd D 35 r35] [Hd D 36 r36] [Hd D 37 r37] [Hd D 38 r38] [Hd D 39 r39] [Hd D 40 r40] [Hd D 42 r42] [Hd D 43 r43] [Hd D 44 r44] [Hd D 45 r45] [Hd D 46 r46] [Hd D 47 r47] [Hd D 60 r60] [Hd D 62 r62] {names : List Str} {ws : List Wy} {sm : List Nat} {I : Nat} (T : TownOk names ws) (hs : ∀ i ∈ sm, i < names.length) (h1 : 1 ≤ sm.length) (h2 : sm.length ≤ 8) (hI : I < names.length)
    (eI : oBi .min [.list ((List.range names.length).map (mtE (times names.length ws) sm))] = some (Res.v (mtE (times names.length ws) sm I))) :
    evF D (k + 7) 62 [.d (townD names ws), .d (.tuple (nmsD names sm))] none = some (.data (.tuple [.int (maxI (sm.map fun o => gI (times names.length ws) I o)), .str (nmA names I)]), none) := by
  have n1 := T.pos; have n2 := T.len; have n3 := T.wlen
  have u1 := need_map_ev (D := D) (k := k) T
  have u2 := need_meeting_ev (D := D) (k := k + 4) (ws := ws) hs h1 h2
  have u3 := town_times_ev (D := D) (k := k + 3) T.ways T.nd (by omega) (by omega)
  have cn : ∀ i j, i < names.length → j < names.length → ∃ x, times names.length ws i j = some x := fun i j hi hj => (times_conn T.ways T.conn hi hj).imp fun _ h => h.1
  have nl : (nmsD names sm).length ≤ 8 := by simp [nmsD]; omega
  rw [ev_eq]
  simp_arith [r62, a62, u1, u2]
  generalize times names.length ws = f at u3 cn eI ⊢
  unfold townD at u3 ⊢
  simp_arith [u3]
  unfold nmsD
  rw [lcL_map, lcL_pure (g := fun (i : Nat) => .int (i : Int)) fun i hi => by simp_arith [toStrs_map, idx_nm T.nd (hs i hi)]]
  have em : (matR names.length f).map PyData.list = (List.range names.length).map fun i => .list (rowR names.length f i) := by unfold matR; rw [List.map_map]; rfl
  simp_arith [em, enum_range]
  rw [lcL_map, lcL_pure (g := mtE f sm) fun i hi => by
    have hi := List.mem_range.mp hi
    simp_arith []
    rw [lcL_map, lcL_pure (g := fun o => .int (gI f i o)) fun o ho => by
      have ho := hs o ho
      simp_arith [atI_row]
      rw [oD_gI (cn i o hi ho)]]
    have ne : sm.map (fun o => gI f i o) ≠ [] := fun z => by rw [List.map_eq_nil_iff] at z; rw [z] at h1; simp at h1
    simp_arith [toInts_f, gu_pos ne, mtE]]
  simp_arith [↓eI, mtE, atI_strs]
def lotD (lot : List Nat) : PyData := .tuple (natsD lot)
def AscN (lot : List Nat) (m : Nat) : Prop := Asc (lot.map fun (i : Nat) => (i : Int)) ∧ ∀ i ∈ lot, i < m
theorem lot_ints (lot : List Nat) : natsD lot = (lot.map fun (i : Nat) => (i : Int)).map PyData.int := by unfold natsD; rw [List.map_map]; rfl
theorem asc_all {ns : List Int} (h : Asc ns) : (ns.zip (ns.drop 1)).all (fun p => decide (p.1 < p.2)) = true := by
  rw [List.all_eq_true]
  intro p hp
  obtain ⟨i, hi, e⟩ := List.getElem_of_mem hp
  have e' : (ns.zip (ns.drop 1))[i]? = some p := by rw [List.getElem?_eq_getElem hi, e]
  rw [List.getElem?_zip_eq_some, List.getElem?_drop, Nat.add_comm] at e'
  exact decide_eq_true (h i _ _ e'.1 e'.2)
theorem is_ascending_ev [Hd D 10 r10] {ns : List Int} (h : Asc ns) (hl : ns.length ≤ 1000) : evF D (k + 1) 10 [.d (.tuple (ns.map .int))] none = some (.data (.bool true), none) := by
  rw [ev_eq]
  have hc : Dl.cutD (ns.map .int) (some 1) none = (ns.drop 1).map .int := by rw [cut_1, List.map_drop]
  simp_arith [r10, a10, hc, zipD_map]
  rw [lcL_map, lcL_pure (g := fun p => .bool (decide (p.1 < p.2))) fun p _ => by simp_arith []]
  simp_arith [toBools_f, List.all_map]
  have := asc_all h
  simp only [Function.comp_def, id, this]
theorem need_ways_ev [Hd D 6 r6] [Hd D 7 r7] [Hd D 9 r9] [Hd D 10 r10] [Hd D 59 r59] [Hd D 61 r61] {names : List Str} {ws : List Wy} {lot : List Nat} (hl : AscN lot ws.length) (h1 : lot.length ≤ ws.length) (h2 : ws.length ≤ 40) : evF D (k + 4) 61 [.d (townD names ws), .d (lotD lot)] none = some (.data .none, none) := by
  have r : isRow (lotD lot) 0 (ws.length : Int) = true := by simp [isRow, lotD, natsD]; omega
  have nl : (natsD lot).length ≤ 40 := by simp [natsD]; omega
  have u1 : evF D (k + 3) 59 [.d (lotD lot), .d (.int (ws.length : Int))] none = some (.data (.bool true), none) := by
    have v := is_ascending_ev (D := D) (k := k + 1) hl.1 (by rw [List.length_map]; omega)
    rw [← lot_ints] at v
    rw [ev_eq]
    unfold lotD at r ⊢
    simp_arith [r59, a59, is_row_ev, r]
    have e0 : natsD lot = lot.map fun (i : Nat) => .int (i : Int) := rfl
    rw [e0, lcL_map, lcL_pure (g := fun _ => .bool true) fun i hi => by
      have hi2 := hl.2 i hi
      simp_arith [is_within_ev, within_of (i := (i : Int)) (lo := 0) (hi := (ws.length : Int) - 1) ⟨by omega, by omega⟩]]
    rw [← e0]
    simp_arith [toBools_f, List.all_map, Function.comp_def, id, all_tt, v]
  rw [ev_eq]
  simp_arith [r61, a61, townD, u1]
def leftW (ws : List Wy) (lot : List Nat) : List Wy := (ws.zipIdx.filter fun p => decide (p.2 ∉ lot)).map (·.1)
theorem left_sub (ws : List Wy) (lot : List Nat) : (leftW ws lot).Sublist ws := by
  unfold leftW
  have h1 : (ws.zipIdx.filter fun p => decide (p.2 ∉ lot)).Sublist ws.zipIdx := List.filter_sublist
  have h2 := h1.map (·.1)
  rw [List.zipIdx_map_fst] at h2
  exact h2
theorem _root_.Fw.WaysOk.sub {n : Nat} {ws vs : List Wy} (W : WaysOk n ws) (h : vs.Sublist ws) : WaysOk n vs := ⟨fun w hw => W.lt w (h.mem hw), W.nd.sublist (h.map _)⟩
theorem oIn_lot {lot : List Nat} {i : Nat} : oIn (.int (i : Int)) (.tuple (natsD lot)) = some (decide (i ∈ lot)) := by
  show gu _ _ = _
  unfold gu
  have e1 : (natsD lot).all flatD = true := by simp [natsD, flatD]
  rw [if_pos ⟨rfl, e1⟩]
  congr 1
  unfold natsD
  rw [List.any_map, Bool.eq_iff_iff, List.any_eq_true]
  simp only [Function.comp_def, PyData.eqv, decide_eq_true_eq]
  constructor
  · rintro ⟨j, hj, e⟩
    have e2 : (j : Int) = i := by simpa using e
    have : j = i := by omega
    subst this
    exact hj
  · intro h
    exact ⟨i, h, by simp⟩
theorem enum_map {α : Type} (xs : List α) (g : α → PyData) : enumD (xs.map g) = xs.zipIdx.map fun p => .tuple [.int (p.2 : Int), g p.1] := by
  unfold enumD
  rw [List.zipIdx_map, List.map_map]
  rfl
theorem pcs_lt {n : Nat} {f : Mx} : ∀ p ∈ pcs n f, (∀ i ∈ p, i < n) ∧ p.length ≤ n := by
  have piece : ∀ i, (∀ j ∈ pieceOf n f i, j < n) ∧ (pieceOf n f i).length ≤ n := fun i => by
    refine ⟨fun j hj => List.mem_range.mp (List.mem_filter.mp hj).1, ?_⟩
    have := List.length_filter_le (fun j => (f i j).isSome) (List.range n)
    rw [List.length_range] at this
    exact this
  have key : ∀ (l : List Nat) (fd : List (List Nat)), (∀ p ∈ fd, (∀ i ∈ p, i < n) ∧ p.length ≤ n) → ∀ p ∈ l.foldl (pcStep n f) fd, (∀ i ∈ p, i < n) ∧ p.length ≤ n := fun l => by
    induction l with
    | nil => intro fd h; exact h
    | cons i l ih =>
      intro fd h
      rw [List.foldl_cons]
      refine ih _ fun p hp => ?_
      unfold pcStep at hp
      split at hp
      · exact h p hp
      · rcases List.mem_append.mp hp with z | z
        · exact h p z
        · simp only [List.mem_singleton] at z
          subst z
          exact piece i
  exact key _ _ (by simp)
theorem pcs_len (n : Nat) (f : Mx) : (pcs n f).length ≤ n := by
  have key : ∀ m, ((List.range m).foldl (pcStep n f) []).length ≤ m := fun m => by
    induction m with
    | zero => exact Nat.le_refl _
    | succ m ih =>
      rw [List.range_succ, List.foldl_append, List.foldl_cons, List.foldl_nil]
      generalize (List.range m).foldl (pcStep n f) [] = fd at ih ⊢
      unfold pcStep
      split
      · omega
      · simp; omega
  exact key n
def pcN (names : List Str) (p : List Nat) : PyData := .tuple ((sortS (p.map (nmA names))).map .str)
theorem shut_ways_ev [Hd D 6 r6] [Hd D 7 r7] [Hd D 9 r9] [Hd D 10 r10] [Hd D 33 r33] [Hd D 34 r34] [Hd D 35 r35] [Hd D 36 r36] [Hd D 37 r37] [Hd D 38 r38] [Hd D 39 r39] [Hd D 42 r42] [Hd D 43 r43] [Hd D 44 r44] [Hd D 45 r45] [Hd D 46 r46] [Hd D 59 r59] [Hd D 61 r61] [Hd D 63 r63] {names : List Str} {ws : List Wy} {lot : List Nat} (T : TownOk names ws) (hl : AscN lot ws.length) (h1 : lot.length ≤ ws.length) :
    evF D (k + 7) 63 [.d (townD names ws), .d (lotD lot)] none = some (.cell (.lst ((pcs names.length (times names.length (leftW ws lot))).map (pcN names))), none) := by
  have n1 := T.pos; have n2 := T.len; have n3 := T.wlen
  have u1 := need_map_ev (D := D) (k := k) T
  have u2 := need_ways_ev (D := D) (k := k + 2) (names := names) hl h1 n3
  have u3 := numbered_ways_ev (D := D) (k := k + 5) T.nd (ws := ws) (fun w hw => by have := T.ways.lt w hw; omega) (by omega)
  have u4 := pieces_by_ev (D := D) (k := k + 3) (T.ways.sub (left_sub ws lot)) (by omega) (by have := (left_sub ws lot).length_le; omega)
  rw [ev_eq]
  simp_arith [r63, a63, u1, u2]
  unfold townD at u3 ⊢
  simp_arith [u3, enum_map, List.length_zipIdx]
  rw [lcL_map, lcL_filter (p := fun p => decide (p.2 ∉ lot)) (g := fun p => nwD p.1) fun p hp => by
    by_cases c : p.2 ∈ lot
    · simp_arith [lotD, oIn_lot, decide_eq_true c, decide_eq_false (not_not_intro c)]
    · simp_arith [lotD, oIn_lot, decide_eq_false c, decide_eq_true c]]
  have e1 : (ws.zipIdx.filter fun p => decide (p.2 ∉ lot)).map (fun p => nwD p.1) = (leftW ws lot).map nwD := by unfold leftW; rw [List.map_map]; rfl
  have pl := pcs_lt (n := names.length) (f := times names.length (leftW ws lot))
  have pn : (pcs names.length (times names.length (leftW ws lot))).length ≤ 12 := Nat.le_trans (pcs_len _ _) n2
  simp_arith [e1, u4]
  generalize pcs names.length (times names.length (leftW ws lot)) = qs at pl pn ⊢
  rw [lcL_map, lcL_pure (g := pcN names) fun p hp => by
    obtain ⟨q1, q2⟩ := pl p hp
    have ql : (natsD p).length ≤ 12 := by simp [natsD]; omega
    simp_arith [pcD]
    unfold natsD
    rw [lcL_map, lcL_pure (g := fun i => .str (nmA names i)) fun i hi => by simp_arith [atI_strs (q1 i hi)]]
    have e2 : p.map (fun i => PyData.str (nmA names i)) = (p.map (nmA names)).map .str := by rw [List.map_map]; rfl
    have ol := oSorted_strs (ss := p.map (nmA names)) (by rw [List.length_map]; omega)
    simp_arith [e2, ol, pcN]]
  simp_arith []
def edW (ws : List Wy) : Ed := ws.map fun w => (w.1, w.2.1)
def lpStep (n : Nat) (E : Ed) (fd : List (List Nat)) (one : Nat) : List (List Nat) := if one ∈ fd.flatten then fd else fd ++ [growN E n [one]]
def lpcs (n : Nat) (E : Ed) : List (List Nat) := (List.range n).foldl (lpStep n E) []
theorem grow_perm {n : Nat} {ws : List Wy} (W : WaysOk n ws) {i : Nat} (hi : i < n) : (growN (edW ws) n [i]).Perm (pieceOf n (times n ws) i) := by
  have hS : ∀ p ∈ edW ws, (p.1 < n ∧ times n ws i p.1 ≠ none) ↔ (p.2 < n ∧ times n ws i p.2 ≠ none) := fun p hp => by
    obtain ⟨w, hw, rfl⟩ := List.mem_map.mp hp
    have l := W.lt w hw
    have c := times_closed W hw i
    exact ⟨fun h => ⟨l.2.1, c.mp h.2⟩, fun h => ⟨by omega, c.mpr h.2⟩⟩
  obtain ⟨g, sb, cl⟩ := growN_ok (S := fun x => x < n ∧ times n ws i x ≠ none) hS (fun x h => h.1) n (L := [i]) ⟨by simp, fun x hx => by simp at hx; subst hx; exact ⟨hi, by rw [times_self W]; simp⟩⟩ (.inl (by simp))
  refine (List.perm_ext_iff_of_nodup g.nd (List.nodup_range.filter _)).mpr fun x => ⟨fun h => ?_, fun h => ?_⟩
  · obtain ⟨h1, h2⟩ := g.sub x h
    refine List.mem_filter.mpr ⟨List.mem_range.mpr h1, ?_⟩
    cases q : times n ws i x with
    | none => exact absurd q h2
    | some _ => rfl
  · obtain ⟨h1, h2⟩ := List.mem_filter.mp h
    have ne : times n ws i x ≠ none := fun z => by rw [z] at h2; cases h2
    refine (times_sound (T := fun x => x ∈ growN (edW ws) n [i]) (fun w hw => cl (w.1, w.2.1) (List.mem_map.mpr ⟨w, hw, rfl⟩)) ne).mp (sb i (by simp))
theorem pieces_same {names : List Str} {n : Nat} {ws : List Wy} (W : WaysOk n ws) : (lpcs n (edW ws)).map (pcN names) = (pcs n (times n ws)).map (pcN names) := by
  have key : ∀ m, m ≤ n → ((List.range m).foldl (lpStep n (edW ws)) []).map (pcN names) = ((List.range m).foldl (pcStep n (times n ws)) []).map (pcN names) ∧ ∀ x, x ∈ ((List.range m).foldl (lpStep n (edW ws)) []).flatten ↔ x ∈ ((List.range m).foldl (pcStep n (times n ws)) []).flatten := fun m => by
    induction m with
    | zero => intro _; exact ⟨rfl, fun x => Iff.rfl⟩
    | succ m ih =>
      intro hm
      obtain ⟨h1, h2⟩ := ih (by omega)
      rw [List.range_succ, List.foldl_append, List.foldl_append, List.foldl_cons, List.foldl_cons, List.foldl_nil, List.foldl_nil]
      generalize (List.range m).foldl (lpStep n (edW ws)) [] = a at h1 h2 ⊢
      generalize (List.range m).foldl (pcStep n (times n ws)) [] = b at h1 h2 ⊢
      have pm := grow_perm W (show m < n by omega)
      unfold lpStep pcStep
      by_cases c : m ∈ a.flatten
      · rw [if_pos c, if_pos ((h2 m).mp c)]; exact ⟨h1, h2⟩
      · rw [if_neg c, if_neg fun z => c ((h2 m).mpr z)]
        refine ⟨?_, fun x => ?_⟩
        · rw [List.map_append, List.map_append, h1]
          have : pcN names (growN (edW ws) n [m]) = pcN names (pieceOf n (times n ws) m) := by unfold pcN; rw [sortS_perm (pm.map _)]
          simp [this]
        · rw [List.flatten_append, List.flatten_append, List.mem_append, List.mem_append, h2 x]
          simp [pm.mem_iff]
  exact (key n (Nat.le_refl _)).1
theorem growN_succ (E : Ed) : ∀ (k : Nat) (L : List Nat), growN E (k + 1) L = grow2 E (grow1 E (growN E k L))
  | 0, L => rfl
  | k + 1, L => growN_succ E k (grow2 E (grow1 E L))
theorem grow1_len (E : Ed) (L : List Nat) : (grow1 E L).length ≤ L.length + 1 := by
  unfold grow1
  rw [List.length_append, List.length_take]
  omega
theorem grow2_len (E : Ed) (L : List Nat) : (grow2 E L).length ≤ L.length + 1 := by
  unfold grow2
  rw [List.length_append, List.length_take]
  omega
theorem growN_len (E : Ed) : ∀ (k : Nat) (L : List Nat), (growN E k L).length ≤ L.length + 2 * k
  | 0, L => Nat.le_refl _
  | k + 1, L => by
    have := growN_len E k (grow2 E (grow1 E L))
    have := grow2_len E (grow1 E L)
    have := grow1_len E L
    show (growN E k (grow2 E (grow1 E L))).length ≤ _
    omega
theorem grow1_lt {E : Ed} {n : Nat} {L : List Nat} (hE : ∀ p ∈ E, p.1 < n ∧ p.2 < n) (h : ∀ x ∈ L, x < n) : ∀ x ∈ grow1 E L, x < n := fun x hx => by
  unfold grow1 at hx
  rcases List.mem_append.mp hx with z | z
  · exact h x z
  · obtain ⟨p, hp, rfl⟩ := List.mem_map.mp (List.mem_of_mem_take z)
    exact (hE p (List.mem_filter.mp hp).1).2
theorem grow2_lt {E : Ed} {n : Nat} {L : List Nat} (hE : ∀ p ∈ E, p.1 < n ∧ p.2 < n) (h : ∀ x ∈ L, x < n) : ∀ x ∈ grow2 E L, x < n := fun x hx => by
  unfold grow2 at hx
  rcases List.mem_append.mp hx with z | z
  · exact h x z
  · obtain ⟨p, hp, rfl⟩ := List.mem_map.mp (List.mem_of_mem_take z)
    exact (hE p (List.mem_filter.mp hp).1).1
theorem growN_lt {E : Ed} {n : Nat} (hE : ∀ p ∈ E, p.1 < n ∧ p.2 < n) : ∀ (k : Nat) {L : List Nat}, (∀ x ∈ L, x < n) → ∀ x ∈ growN E k L, x < n
  | 0, _, h => h
  | k + 1, _, h => growN_lt hE k (grow2_lt hE (grow1_lt hE h))
def prS (names : List Str) (p : Nat × Nat) : PyData := .tuple [.str (nmA names p.1), .str (nmA names p.2)]
theorem oIn_nms {names : List Str} (nd : names.Nodup) {i : Nat} {L : List Nat} (hi : i < names.length) (hL : ∀ x ∈ L, x < names.length) : oIn (.str (nmA names i)) (.list (nmsD names L)) = some (decide (i ∈ L)) := by
  show gu _ _ = _
  unfold gu
  have e1 : (nmsD names L).all flatD = true := by simp [nmsD, flatD]
  rw [if_pos (.inl ⟨rfl, e1⟩)]
  congr 1
  unfold nmsD
  rw [List.any_map, Bool.eq_iff_iff, List.any_eq_true]
  simp only [Function.comp_def, PyData.eqv, decide_eq_true_eq]
  constructor
  · rintro ⟨j, hj, e⟩
    have e2 : nmA names j = nmA names i := by simpa using e
    have := nmA_inj nd (hL j hj) hi e2
    subst this
    exact hj
  · intro h
    exact ⟨i, h, by simp⟩
theorem nmsD_len (names : List Str) (L : List Nat) : (nmsD names L).length = L.length := by simp [nmsD]
theorem nmsD_str (names : List Str) (L : List Nat) : nmsD names L = (L.map (nmA names)).map .str := by unfold nmsD; rw [List.map_map]; rfl
end Hs

namespace Hs
open L2 Dl PySem PyProof.Rows PySem.Spec Fw K60
local macro_rules
  | `(tactic| simp_arith [$ls,*]) => `(tactic| simp -implicitDefEqProofs (disch := omega) only [↓ob_i, ↓ob2_i, ↓gu_i, ↓cs_i, obi_some, ob2i_some, obi_none, ob2i_none, obi_obi, obi_ob2i, ob2i_obi, ob2i_ob2i, obi_gui, ob2i_gui, obi_csi, ob2i_csi, csi_t, csi_f, gui_true, headD_nil, tail_nil, oPow, evE_var, evE_c, evE_kt, evE_op2, evE_neg, evE_chain, evE_and, evE_or, evE_not, evE_ife, evE_sl, evE_omit, evE_call, evE_callK, evE_bi, evE_isi, evE_mm, evE_get2, evE_tup, evE_lst, evE_dnew, evE_lc, evE_lcD, evE_dne0, evE_rev, evT_omit, evT_and, evT_or, evT_not, evT_op2, evT_chain, evT_dne0, evT_var, evT_c, evT_call, evT_bi, evT_isi, evT_lc, evO_omit, evO_var, evO_c, evO_op2, evO_neg, evO_call, evO_bi, evEs_nil, evEs_cons, evI_seq, evI_r1, evI_r2, evI_r3, evI_zip, evI_enum, evG_nm, evG_tp, evS_pass, evS_brk, evS_cont, evS_never, evS_retN, evS_drop, evS_asg, evS_par, evS_par3, evS_put, evS_aug, evS_ife, evS_for_, evS_while_, evS_ret, evS_sh, evSs_nil, evSs_cons, evGs_nil, evGs_cons, thenO, Dl.fin, outR, retO, oVar, Dl.e2, eD2, eD1, eAdd, eIs, eIn, eIx, eBi, eBiL, rdL, eCall, eRet, frz_if, Dl.refs, Dl.ren, Dl.rd, Dl.oK, oInt, Dl.oI, resO, newO, oAdd, oSub, oMul, oDiv, oMod, oNeg, oEq, oNe, oEqB, Dl.rB, oLt, oLe, oGt, oGe, oBool, oTru, oBi, oLen, oTup, oIx, isKt, kdOf, dictOf, isN, isi_i, isi_b, isi_s, isi_l, isi_t, isi_lt', isi_is', chainE, dsO, Dl.kd, kdG, dpS, dpE, dpA, dpT, dpV, dpI, vOf, Dl.hd0, par2, par3, frzs, frz1, eMM, isL, lstO, eSl, oSl, isCmp, lenG, tupO, seqO, r1O, r2O, zipO, enumO, bne0, bne1, List.map_cons, List.map_nil, List.length_cons, List.length_nil, List.cons_append, List.nil_append, List.append_nil, List.replicate, List.getElem?_cons_zero, List.getElem?_cons_succ, List.set_cons_zero, List.set_cons_succ, Nat.reduceAdd, Nat.reduceSub, Option.toList, List.headD_cons, List.tail_cons, Bool.or_false, Bool.false_or, Bool.not_true, Bool.not_false, List.lookup, List.all_nil, List.take, Nat.zero_add, ePut, augO, lcS_eq, forS_eq, whileS_eq, wipeA, killA, dropN, hideF_d, hideF_k, hideF_s, hideF_n, hideF_m, hideF_g, hideF_r, hideF_rg, toBools, toInts, intsO, boolsO, isGone, decide_true, decide_false, eq_self, if_true, if_false, Nat.reduceBEq, Nat.reduceBNe, Nat.reduceEqDiff, Nat.reduceLeDiff, Int.reduceLT, Int.reduceLE, Int.reduceEq, Int.reduceNe, Int.reduceBEq, Int.reduceBNe, Int.reduceNeg, reduceIte, reduceCtorEq, Option.getD_none, Option.getD_some, List.lookup_nil, ne_eq, List.length_map, List.length_zip, List.length_drop, List.length_append, Int.cast_ofNat_Int, sh_nil, sh_nilT, sh_ones, eqv_nil, List.isEmpty_map, and_self, and_true, true_and, lcDO, hideJ, List.length_take, keepA_nil, keepA_cons, Nat.reduceSub, pick, List.getD_cons_zero, List.getD_cons_succ, evE_lset, oLenSet, evE_idx, evE_lrg, evE_reprL, evE_upd, evE_lsc, evE_dcm, dmS_eq, scS_eq, mtS_eq, tupA, lrgO, dkO, oKd, keyD, mtO_new, mt_take, evS_parT, parTO, setAll, not_false_eq_true, not_true_eq_false, mtO_new0, mtO_new1, List.take_zero, oLook, Option.isSome_some, Option.isSome_none, List.length_range, subF, frzC, Option.map_some, evE_trg, gu_le, gu_lt, gu_mulL, gu_mulR, gu_div, gu_pow10, gu_posI, gu_rg, gu_rg2, atI_0, atI_1, atI_2, atI_3, atI_4, ixN_lit, ixN_neg, atI_lst, Int.reduceToNat, Int.reduceNeg, Int.reduceAdd, Int.reduceSub, Int.reduceMul, Int.reducePow, Nat.reducePow, Int.toNat_natCast, gu_str, gu_ix, gu_rgk, $ls,*])
  | `(tactic| simp_arith only [$ls,*]) => `(tactic| simp only [↓ob_i, ↓ob2_i, ↓gu_i, ↓cs_i, obi_some, ob2i_some, obi_none, ob2i_none, obi_obi, obi_ob2i, ob2i_obi, ob2i_ob2i, obi_gui, ob2i_gui, obi_csi, ob2i_csi, csi_t, csi_f, gui_true, headD_nil, tail_nil, oPow, evE_var, evE_c, evE_kt, evE_op2, evE_neg, evE_chain, evE_and, evE_or, evE_not, evE_ife, evE_sl, evE_omit, evE_call, evE_callK, evE_bi, evE_isi, evE_mm, evE_get2, evE_tup, evE_lst, evE_dnew, evE_lc, evE_lcD, evE_dne0, evE_rev, evT_omit, evT_and, evT_or, evT_not, evT_op2, evT_chain, evT_dne0, evT_var, evT_c, evT_call, evT_bi, evT_isi, evT_lc, evO_omit, evO_var, evO_c, evO_op2, evO_neg, evO_call, evO_bi, evEs_nil, evEs_cons, evI_seq, evI_r1, evI_r2, evI_r3, evI_zip, evI_enum, evG_nm, evG_tp, evS_pass, evS_brk, evS_cont, evS_never, evS_retN, evS_drop, evS_asg, evS_par, evS_par3, evS_put, evS_aug, evS_ife, evS_for_, evS_while_, evS_ret, evS_sh, evSs_nil, evSs_cons, evGs_nil, evGs_cons, thenO, Dl.fin, outR, retO, oVar, Dl.e2, eD2, eD1, eAdd, eIs, eIn, eIx, eBi, eBiL, rdL, eCall, eRet, frz_if, Dl.refs, Dl.ren, Dl.rd, Dl.oK, oInt, Dl.oI, resO, newO, oAdd, oSub, oMul, oDiv, oMod, oNeg, oEq, oNe, oEqB, Dl.rB, oLt, oLe, oGt, oGe, oBool, oTru, oBi, oLen, oTup, oIx, isKt, kdOf, dictOf, isN, isi_i, isi_b, isi_s, isi_l, isi_t, isi_lt', isi_is', chainE, dsO, Dl.kd, kdG, dpS, dpE, dpA, dpT, dpV, dpI, vOf, Dl.hd0, par2, par3, frzs, frz1, eMM, isL, lstO, eSl, oSl, isCmp, lenG, tupO, seqO, r1O, r2O, zipO, enumO, bne0, bne1, List.map_cons, List.map_nil, List.length_cons, List.length_nil, List.cons_append, List.nil_append, List.append_nil, List.replicate, List.getElem?_cons_zero, List.getElem?_cons_succ, List.set_cons_zero, List.set_cons_succ, Nat.reduceAdd, Nat.reduceSub, Option.toList, List.headD_cons, List.tail_cons, Bool.or_false, Bool.false_or, Bool.not_true, Bool.not_false, List.lookup, List.all_nil, List.take, Nat.zero_add, ePut, augO, lcS_eq, forS_eq, whileS_eq, wipeA, killA, dropN, hideF_d, hideF_k, hideF_s, hideF_n, hideF_m, hideF_g, hideF_r, hideF_rg, toBools, toInts, intsO, boolsO, isGone, decide_true, decide_false, eq_self, if_true, if_false, Nat.reduceBEq, Nat.reduceBNe, Nat.reduceEqDiff, Nat.reduceLeDiff, Int.reduceLT, Int.reduceLE, Int.reduceEq, Int.reduceNe, Int.reduceBEq, Int.reduceBNe, Int.reduceNeg, reduceIte, reduceCtorEq, Option.getD_none, Option.getD_some, List.lookup_nil, ne_eq, List.length_map, List.length_zip, List.length_drop, List.length_append, Int.cast_ofNat_Int, sh_nil, sh_nilT, sh_ones, eqv_nil, List.isEmpty_map, and_self, and_true, true_and, lcDO, hideJ, List.length_take, keepA_nil, keepA_cons, Nat.reduceSub, pick, List.getD_cons_zero, List.getD_cons_succ, evE_lset, oLenSet, evE_idx, evE_lrg, evE_reprL, evE_upd, evE_lsc, evE_dcm, dmS_eq, scS_eq, mtS_eq, tupA, lrgO, dkO, oKd, keyD, mtO_new, mt_take, evS_parT, parTO, setAll, not_false_eq_true, not_true_eq_false, mtO_new0, mtO_new1, List.take_zero, oLook, Option.isSome_some, Option.isSome_none, List.length_range, subF, frzC, Option.map_some, evE_trg, $ls,*])
  | `(tactic| simp_arith! [$ls,*]) => `(tactic| simp [↓ob_i, ↓ob2_i, ↓gu_i, ↓cs_i, obi_some, ob2i_some, obi_none, ob2i_none, obi_obi, obi_ob2i, ob2i_obi, ob2i_ob2i, obi_gui, ob2i_gui, obi_csi, ob2i_csi, csi_t, csi_f, gui_true, headD_nil, tail_nil, oPow, evE_var, evE_c, evE_kt, evE_op2, evE_neg, evE_chain, evE_and, evE_or, evE_not, evE_ife, evE_sl, evE_omit, evE_call, evE_callK, evE_bi, evE_isi, evE_mm, evE_get2, evE_tup, evE_lst, evE_dnew, evE_lc, evE_lcD, evE_dne0, evE_rev, evT_omit, evT_and, evT_or, evT_not, evT_op2, evT_chain, evT_dne0, evT_var, evT_c, evT_call, evT_bi, evT_isi, evT_lc, evO_omit, evO_var, evO_c, evO_op2, evO_neg, evO_call, evO_bi, evEs_nil, evEs_cons, evI_seq, evI_r1, evI_r2, evI_r3, evI_zip, evI_enum, evG_nm, evG_tp, evS_pass, evS_brk, evS_cont, evS_never, evS_retN, evS_drop, evS_asg, evS_par, evS_par3, evS_put, evS_aug, evS_ife, evS_for_, evS_while_, evS_ret, evS_sh, evSs_nil, evSs_cons, evGs_nil, evGs_cons, thenO, Dl.fin, outR, retO, oVar, Dl.e2, eD2, eD1, eAdd, eIs, eIn, eIx, eBi, eBiL, rdL, eCall, eRet, frz_if, Dl.refs, Dl.ren, Dl.rd, Dl.oK, oInt, Dl.oI, resO, newO, oAdd, oSub, oMul, oDiv, oMod, oNeg, oEq, oNe, oEqB, Dl.rB, oLt, oLe, oGt, oGe, oBool, oTru, oBi, oLen, oTup, oIx, isKt, kdOf, dictOf, isN, isi_i, isi_b, isi_s, isi_l, isi_t, isi_lt', isi_is', chainE, dsO, Dl.kd, kdG, dpS, dpE, dpA, dpT, dpV, dpI, vOf, Dl.hd0, par2, par3, frzs, frz1, eMM, isL, lstO, eSl, oSl, isCmp, lenG, tupO, seqO, r1O, r2O, zipO, enumO, bne0, bne1, List.map_cons, List.map_nil, List.length_cons, List.length_nil, List.cons_append, List.nil_append, List.append_nil, List.replicate, List.getElem?_cons_zero, List.getElem?_cons_succ, List.set_cons_zero, List.set_cons_succ, Nat.reduceAdd, Nat.reduceSub, Option.toList, List.headD_cons, List.tail_cons, Bool.or_false, Bool.false_or, Bool.not_true, Bool.not_false, List.lookup, List.all_nil, List.take, Nat.zero_add, ePut, augO, lcS_eq, forS_eq, whileS_eq, wipeA, killA, dropN, hideF_d, hideF_k, hideF_s, hideF_n, hideF_m, hideF_g, hideF_r, hideF_rg, toBools, toInts, intsO, boolsO, isGone, decide_true, decide_false, eq_self, if_true, if_false, Nat.reduceBEq, Nat.reduceBNe, Nat.reduceEqDiff, Nat.reduceLeDiff, Int.reduceLT, Int.reduceLE, Int.reduceEq, Int.reduceNe, Int.reduceBEq, Int.reduceBNe, Int.reduceNeg, reduceIte, reduceCtorEq, Option.getD_none, Option.getD_some, List.lookup_nil, ne_eq, List.length_map, List.length_zip, List.length_drop, List.length_append, Int.cast_ofNat_Int, sh_nil, sh_nilT, sh_ones, eqv_nil, List.isEmpty_map, and_self, and_true, true_and, lcDO, hideJ, List.length_take, keepA_nil, keepA_cons, Nat.reduceSub, pick, List.getD_cons_zero, List.getD_cons_succ, evE_lset, oLenSet, evE_idx, evE_lrg, evE_reprL, evE_upd, evE_lsc, evE_dcm, dmS_eq, scS_eq, mtS_eq, tupA, lrgO, dkO, oKd, keyD, mtO_new, mt_take, evS_parT, parTO, setAll, not_false_eq_true, not_true_eq_false, mtO_new0, mtO_new1, List.take_zero, oLook, Option.isSome_some, Option.isSome_none, List.length_range, subF, frzC, Option.map_some, evE_trg, $ls,*])
variable {D : Tab} {k : Nat}
theorem law_pieces_ev [Hd D 64 r64] {names : List Str} {ws : List Wy} {lot : List Nat} (T : TownOk names ws) :
    evF D (k + 1) 64 [.d (townD names ws), .d (lotD lot)] none = some (.cell (.lst ((lpcs names.length (edW (leftW ws lot))).map (pcN names))), none) := by
  have n1 := T.pos; have n2 := T.len; have n3 := T.wlen
  have W := T.ways.sub (left_sub ws lot)
  have hE : ∀ p ∈ edW (leftW ws lot), p.1 < names.length ∧ p.2 < names.length := fun p hp => by
    obtain ⟨w, hw, rfl⟩ := List.mem_map.mp hp
    have := W.lt w hw
    simp only
    omega
  rw [ev_eq]
  simp_arith [r64, a64, townD, enum_map, List.length_zipIdx]
  rw [lcL_map, lcL_filter (p := fun p => decide (p.2 ∉ lot)) (g := fun p => prS names (p.1.1, p.1.2.1)) fun p hp => by
    by_cases c : p.2 ∈ lot
    · simp_arith [wayD, lotD, oIn_lot, decide_eq_true c, decide_eq_false (not_not_intro c)]
    · simp_arith [wayD, lotD, oIn_lot, decide_eq_false c, decide_eq_true c]
      rfl]
  have e1 : (ws.zipIdx.filter fun p => decide (p.2 ∉ lot)).map (fun p => prS names (p.1.1, p.1.2.1)) = (edW (leftW ws lot)).map (prS names) := by unfold edW leftW; rw [List.map_map, List.map_map]; rfl
  have el : (edW (leftW ws lot)).length ≤ 40 := by
    unfold edW
    rw [List.length_map]
    have := (left_sub ws lot).length_le
    omega
  simp_arith [e1]
  generalize edW (leftW ws lot) = E at hE el ⊢
  rw [forL_map]
  generalize hq : forL _ _ _ _ = q
  obtain ⟨A', B', rfl, gs, rfl, rfl, hg, hl, rfl⟩ := for_invN hq (fun i A B => ∃ gs : List (List Nat), A = [some (.d (.tuple [.tuple (names.map .str), .tuple (ws.map (wayD names))])), some (.d (lotD lot)), some (.d (.list (E.map (prS names)))), some (.m 0), some (.d (.list (nmsD names gs.flatten))), none, none, none, none, none, none, none] ∧ B = [.lst (gs.map (pcN names))] ∧ (∀ x ∈ gs.flatten, x < names.length) ∧ (gs.length ≤ i ∧ gs.flatten.length ≤ 30 * i) ∧ gs = (List.range i).foldl (lpStep names.length E) [])
    ⟨[], rfl, rfl, by simp, by simp, rfl⟩ (by
    clear hq
    rintro i s A B hx ⟨gs, rfl, rfl, hg, hl, eg⟩
    have hi := (List.getElem?_eq_some_iff.mp hx).1
    have es : s = nmA names i := by have := nmA_get hi; rw [hx] at this; exact Option.some.inj this
    subst es
    rw [List.range_succ, List.foldl_append, List.foldl_cons, List.foldl_nil, ← eg]
    by_cases c : i ∈ gs.flatten
    · simp_arith [oIn_nms T.nd hi hg, decide_eq_true c]
      exact ⟨_, _, rfl, gs, rfl, rfl, hg, by omega, by unfold lpStep; rw [if_pos c]⟩
    · simp_arith [oIn_nms T.nd hi hg, decide_eq_false c]
      generalize hq : forL _ _ _ _ = q
      obtain ⟨A', B', rfl, rfl, rfl⟩ := for_invN hq (fun t A B => A = [some (.d (.tuple [.tuple (names.map .str), .tuple (ws.map (wayD names))])), some (.d (lotD lot)), some (.d (.list (E.map (prS names)))), some (.m 0), some (.d (.list (nmsD names gs.flatten))), some (.d (.str (nmA names i))), some (.d (.list (nmsD names (growN E t [i])))), none, none, none, none, none] ∧ B = [.lst (gs.map (pcN names))])
        ⟨rfl, rfl⟩ (by
        clear hq
        rintro t x A B hx ⟨rfl, rfl⟩
        obtain ⟨ht, rfl⟩ := rangeD0_get hx
        have Ll := growN_len E t [i]
        have Lt := growN_lt hE t (L := [i]) (fun x hx => by simp at hx; omega)
        rw [growN_succ]
        generalize growN E t [i] = L at Ll Lt ⊢
        rw [List.length_singleton] at Ll
        simp_arith []
        rw [lcL_map, lcL_filter (p := fun p => decide (p.1 ∈ L) && decide (p.2 ∉ L)) (g := fun p => .str (nmA names p.2)) fun p hp => by
          obtain ⟨p1, p2⟩ := hE p hp
          by_cases c1 : p.1 ∈ L
          · by_cases c2 : p.2 ∈ L
            · simp_arith [prS, oIn_nms T.nd p1 Lt, oIn_nms T.nd p2 Lt, decide_eq_true c1, decide_eq_true c2, decide_eq_false (not_not_intro c2), Bool.and_false]
            · simp_arith [prS, oIn_nms T.nd p1 Lt, oIn_nms T.nd p2 Lt, decide_eq_true c1, decide_eq_false c2, decide_eq_true c2, Bool.and_true]
          · simp_arith [prS, oIn_nms T.nd p1 Lt, oIn_nms T.nd p2 Lt, decide_eq_false c1, Bool.false_and]]
        have k1 : ∀ xs : List PyData, Dl.cutD xs none (some 1) = xs.take 1 := fun xs => cut_to xs 1
        have f1 : nmsD names L ++ (((E.filter fun p => decide (p.1 ∈ L) && decide (p.2 ∉ L)).map fun p => PyData.str (nmA names p.2)).take 1) = nmsD names (grow1 E L) := by
          unfold grow1 nmsD
          rw [List.map_append, ← List.map_take, ← List.map_take, List.map_map]
          rfl
        have l1 := grow1_len E L
        have t1 := grow1_lt hE Lt
        simp_arith [k1, nmsD_len, f1]
        generalize grow1 E L = M at l1 t1 ⊢
        rw [lcL_map, lcL_filter (p := fun p => decide (p.2 ∈ M) && decide (p.1 ∉ M)) (g := fun p => .str (nmA names p.1)) fun p hp => by
          obtain ⟨p1, p2⟩ := hE p hp
          by_cases c2 : p.2 ∈ M
          · by_cases c1 : p.1 ∈ M
            · simp_arith [prS, oIn_nms T.nd p1 t1, oIn_nms T.nd p2 t1, decide_eq_true c1, decide_eq_true c2, decide_eq_false (not_not_intro c1), Bool.and_false]
            · simp_arith [prS, oIn_nms T.nd p1 t1, oIn_nms T.nd p2 t1, decide_eq_true c2, decide_eq_false c1, decide_eq_true c1, Bool.and_true]
          · simp_arith [prS, oIn_nms T.nd p1 t1, oIn_nms T.nd p2 t1, decide_eq_false c2, Bool.false_and]]
        have f2 : nmsD names M ++ (((E.filter fun p => decide (p.2 ∈ M) && decide (p.1 ∉ M)).map fun p => PyData.str (nmA names p.1)).take 1) = nmsD names (grow2 E M) := by
          unfold grow2 nmsD
          rw [List.map_append, ← List.map_take, ← List.map_take, List.map_map]
          rfl
        simp_arith [k1, nmsD_len, f2]
        exact ⟨_, _, rfl, rfl, rfl⟩)
      rw [rangeD_len]
      have Ll := growN_len E names.length [i]
      have Lt := growN_lt hE names.length (L := [i]) (fun x hx => by simp at hx; omega)
      rw [List.length_singleton] at Ll
      have lp : lpStep names.length E gs i = gs ++ [growN E names.length [i]] := by unfold lpStep; rw [if_neg c]
      rw [lp]
      generalize growN E names.length [i] = L at Ll Lt ⊢
      have so := oSorted_strs (ss := L.map (nmA names)) (by rw [List.length_map]; omega)
      rw [← nmsD_str] at so
      simp_arith [so, nmsD_len]
      have fl : (gs ++ [L]).flatten.length = gs.flatten.length + L.length := by rw [List.flatten_append, List.length_append]; simp only [List.flatten_cons, List.flatten_nil, List.append_nil]
      refine ⟨_, _, rfl, gs ++ [L], ?_, ?_, fun x hx => ?_, ⟨by simp; omega, by omega⟩, rfl⟩
      · simp [nmsD]
      · simp [pcN]
      · rw [List.flatten_append, List.mem_append] at hx
        rcases hx with z | z
        · exact hg x z
        · exact Lt x (by simpa using z))
  simp_arith []
  rfl
end Hs

namespace Hs
open L2 Dl PySem PyProof.Rows PySem.Spec Fw K60
local macro_rules
  | `(tactic| simp_arith [$ls,*]) => `(tactic| simp -implicitDefEqProofs (disch := omega) only [↓ob_i, ↓ob2_i, ↓gu_i, ↓cs_i, obi_some, ob2i_some, obi_none, ob2i_none, obi_obi, obi_ob2i, ob2i_obi, ob2i_ob2i, obi_gui, ob2i_gui, obi_csi, ob2i_csi, csi_t, csi_f, gui_true, headD_nil, tail_nil, oPow, evE_var, evE_c, evE_kt, evE_op2, evE_neg, evE_chain, evE_and, evE_or, evE_not, evE_ife, evE_sl, evE_omit, evE_call, evE_callK, evE_bi, evE_isi, evE_mm, evE_get2, evE_tup, evE_lst, evE_dnew, evE_lc, evE_lcD, evE_dne0, evE_rev, evT_omit, evT_and, evT_or, evT_not, evT_op2, evT_chain, evT_dne0, evT_var, evT_c, evT_call, evT_bi, evT_isi, evT_lc, evO_omit, evO_var, evO_c, evO_op2, evO_neg, evO_call, evO_bi, evEs_nil, evEs_cons, evI_seq, evI_r1, evI_r2, evI_r3, evI_zip, evI_enum, evG_nm, evG_tp, evS_pass, evS_brk, evS_cont, evS_never, evS_retN, evS_drop, evS_asg, evS_par, evS_par3, evS_put, evS_aug, evS_ife, evS_for_, evS_while_, evS_ret, evS_sh, evSs_nil, evSs_cons, evGs_nil, evGs_cons, thenO, Dl.fin, outR, retO, oVar, Dl.e2, eD2, eD1, eAdd, eIs, eIn, eIx, eBi, eBiL, rdL, eCall, eRet, frz_if, Dl.refs, Dl.ren, Dl.rd, Dl.oK, oInt, Dl.oI, resO, newO, oAdd, oSub, oMul, oDiv, oMod, oNeg, oEq, oNe, oEqB, Dl.rB, oLt, oLe, oGt, oGe, oBool, oTru, oBi, oLen, oTup, oIx, isKt, kdOf, dictOf, isN, isi_i, isi_b, isi_s, isi_l, isi_t, isi_lt', isi_is', chainE, dsO, Dl.kd, kdG, dpS, dpE, dpA, dpT, dpV, dpI, vOf, Dl.hd0, par2, par3, frzs, frz1, eMM, isL, lstO, eSl, oSl, isCmp, lenG, tupO, seqO, r1O, r2O, zipO, enumO, bne0, bne1, List.map_cons, List.map_nil, List.length_cons, List.length_nil, List.cons_append, List.nil_append, List.append_nil, List.replicate, List.getElem?_cons_zero, List.getElem?_cons_succ, List.set_cons_zero, List.set_cons_succ, Nat.reduceAdd, Nat.reduceSub, Option.toList, List.headD_cons, List.tail_cons, Bool.or_false, Bool.false_or, Bool.not_true, Bool.not_false, List.lookup, List.all_nil, List.take, Nat.zero_add, ePut, augO, lcS_eq, forS_eq, whileS_eq, wipeA, killA, dropN, hideF_d, hideF_k, hideF_s, hideF_n, hideF_m, hideF_g, hideF_r, hideF_rg, toBools, toInts, intsO, boolsO, isGone, decide_true, decide_false, eq_self, if_true, if_false, Nat.reduceBEq, Nat.reduceBNe, Nat.reduceEqDiff, Nat.reduceLeDiff, Int.reduceLT, Int.reduceLE, Int.reduceEq, Int.reduceNe, Int.reduceBEq, Int.reduceBNe, Int.reduceNeg, reduceIte, reduceCtorEq, Option.getD_none, Option.getD_some, List.lookup_nil, ne_eq, List.length_map, List.length_zip, List.length_drop, List.length_append, Int.cast_ofNat_Int, sh_nil, sh_nilT, sh_ones, eqv_nil, List.isEmpty_map, and_self, and_true, true_and, lcDO, hideJ, List.length_take, keepA_nil, keepA_cons, Nat.reduceSub, pick, List.getD_cons_zero, List.getD_cons_succ, evE_lset, oLenSet, evE_idx, evE_lrg, evE_reprL, evE_upd, evE_lsc, evE_dcm, dmS_eq, scS_eq, mtS_eq, tupA, lrgO, dkO, oKd, keyD, mtO_new, mt_take, evS_parT, parTO, setAll, not_false_eq_true, not_true_eq_false, mtO_new0, mtO_new1, List.take_zero, oLook, Option.isSome_some, Option.isSome_none, List.length_range, subF, frzC, Option.map_some, evE_trg, gu_le, gu_lt, gu_mulL, gu_mulR, gu_div, gu_pow10, gu_posI, gu_rg, gu_rg2, atI_0, atI_1, atI_2, atI_3, atI_4, ixN_lit, ixN_neg, atI_lst, Int.reduceToNat, Int.reduceNeg, Int.reduceAdd, Int.reduceSub, Int.reduceMul, Int.reducePow, Nat.reducePow, Int.toNat_natCast, gu_str, gu_ix, gu_rgk, $ls,*])
  | `(tactic| simp_arith only [$ls,*]) => `(tactic| simp only [↓ob_i, ↓ob2_i, ↓gu_i, ↓cs_i, obi_some, ob2i_some, obi_none, ob2i_none, obi_obi, obi_ob2i, ob2i_obi, ob2i_ob2i, obi_gui, ob2i_gui, obi_csi, ob2i_csi, csi_t, csi_f, gui_true, headD_nil, tail_nil, oPow, evE_var, evE_c, evE_kt, evE_op2, evE_neg, evE_chain, evE_and, evE_or, evE_not, evE_ife, evE_sl, evE_omit, evE_call, evE_callK, evE_bi, evE_isi, evE_mm, evE_get2, evE_tup, evE_lst, evE_dnew, evE_lc, evE_lcD, evE_dne0, evE_rev, evT_omit, evT_and, evT_or, evT_not, evT_op2, evT_chain, evT_dne0, evT_var, evT_c, evT_call, evT_bi, evT_isi, evT_lc, evO_omit, evO_var, evO_c, evO_op2, evO_neg, evO_call, evO_bi, evEs_nil, evEs_cons, evI_seq, evI_r1, evI_r2, evI_r3, evI_zip, evI_enum, evG_nm, evG_tp, evS_pass, evS_brk, evS_cont, evS_never, evS_retN, evS_drop, evS_asg, evS_par, evS_par3, evS_put, evS_aug, evS_ife, evS_for_, evS_while_, evS_ret, evS_sh, evSs_nil, evSs_cons, evGs_nil, evGs_cons, thenO, Dl.fin, outR, retO, oVar, Dl.e2, eD2, eD1, eAdd, eIs, eIn, eIx, eBi, eBiL, rdL, eCall, eRet, frz_if, Dl.refs, Dl.ren, Dl.rd, Dl.oK, oInt, Dl.oI, resO, newO, oAdd, oSub, oMul, oDiv, oMod, oNeg, oEq, oNe, oEqB, Dl.rB, oLt, oLe, oGt, oGe, oBool, oTru, oBi, oLen, oTup, oIx, isKt, kdOf, dictOf, isN, isi_i, isi_b, isi_s, isi_l, isi_t, isi_lt', isi_is', chainE, dsO, Dl.kd, kdG, dpS, dpE, dpA, dpT, dpV, dpI, vOf, Dl.hd0, par2, par3, frzs, frz1, eMM, isL, lstO, eSl, oSl, isCmp, lenG, tupO, seqO, r1O, r2O, zipO, enumO, bne0, bne1, List.map_cons, List.map_nil, List.length_cons, List.length_nil, List.cons_append, List.nil_append, List.append_nil, List.replicate, List.getElem?_cons_zero, List.getElem?_cons_succ, List.set_cons_zero, List.set_cons_succ, Nat.reduceAdd, Nat.reduceSub, Option.toList, List.headD_cons, List.tail_cons, Bool.or_false, Bool.false_or, Bool.not_true, Bool.not_false, List.lookup, List.all_nil, List.take, Nat.zero_add, ePut, augO, lcS_eq, forS_eq, whileS_eq, wipeA, killA, dropN, hideF_d, hideF_k, hideF_s, hideF_n, hideF_m, hideF_g, hideF_r, hideF_rg, toBools, toInts, intsO, boolsO, isGone, decide_true, decide_false, eq_self, if_true, if_false, Nat.reduceBEq, Nat.reduceBNe, Nat.reduceEqDiff, Nat.reduceLeDiff, Int.reduceLT, Int.reduceLE, Int.reduceEq, Int.reduceNe, Int.reduceBEq, Int.reduceBNe, Int.reduceNeg, reduceIte, reduceCtorEq, Option.getD_none, Option.getD_some, List.lookup_nil, ne_eq, List.length_map, List.length_zip, List.length_drop, List.length_append, Int.cast_ofNat_Int, sh_nil, sh_nilT, sh_ones, eqv_nil, List.isEmpty_map, and_self, and_true, true_and, lcDO, hideJ, List.length_take, keepA_nil, keepA_cons, Nat.reduceSub, pick, List.getD_cons_zero, List.getD_cons_succ, evE_lset, oLenSet, evE_idx, evE_lrg, evE_reprL, evE_upd, evE_lsc, evE_dcm, dmS_eq, scS_eq, mtS_eq, tupA, lrgO, dkO, oKd, keyD, mtO_new, mt_take, evS_parT, parTO, setAll, not_false_eq_true, not_true_eq_false, mtO_new0, mtO_new1, List.take_zero, oLook, Option.isSome_some, Option.isSome_none, List.length_range, subF, frzC, Option.map_some, evE_trg, $ls,*])
  | `(tactic| simp_arith! [$ls,*]) => `(tactic| simp [↓ob_i, ↓ob2_i, ↓gu_i, ↓cs_i, obi_some, ob2i_some, obi_none, ob2i_none, obi_obi, obi_ob2i, ob2i_obi, ob2i_ob2i, obi_gui, ob2i_gui, obi_csi, ob2i_csi, csi_t, csi_f, gui_true, headD_nil, tail_nil, oPow, evE_var, evE_c, evE_kt, evE_op2, evE_neg, evE_chain, evE_and, evE_or, evE_not, evE_ife, evE_sl, evE_omit, evE_call, evE_callK, evE_bi, evE_isi, evE_mm, evE_get2, evE_tup, evE_lst, evE_dnew, evE_lc, evE_lcD, evE_dne0, evE_rev, evT_omit, evT_and, evT_or, evT_not, evT_op2, evT_chain, evT_dne0, evT_var, evT_c, evT_call, evT_bi, evT_isi, evT_lc, evO_omit, evO_var, evO_c, evO_op2, evO_neg, evO_call, evO_bi, evEs_nil, evEs_cons, evI_seq, evI_r1, evI_r2, evI_r3, evI_zip, evI_enum, evG_nm, evG_tp, evS_pass, evS_brk, evS_cont, evS_never, evS_retN, evS_drop, evS_asg, evS_par, evS_par3, evS_put, evS_aug, evS_ife, evS_for_, evS_while_, evS_ret, evS_sh, evSs_nil, evSs_cons, evGs_nil, evGs_cons, thenO, Dl.fin, outR, retO, oVar, Dl.e2, eD2, eD1, eAdd, eIs, eIn, eIx, eBi, eBiL, rdL, eCall, eRet, frz_if, Dl.refs, Dl.ren, Dl.rd, Dl.oK, oInt, Dl.oI, resO, newO, oAdd, oSub, oMul, oDiv, oMod, oNeg, oEq, oNe, oEqB, Dl.rB, oLt, oLe, oGt, oGe, oBool, oTru, oBi, oLen, oTup, oIx, isKt, kdOf, dictOf, isN, isi_i, isi_b, isi_s, isi_l, isi_t, isi_lt', isi_is', chainE, dsO, Dl.kd, kdG, dpS, dpE, dpA, dpT, dpV, dpI, vOf, Dl.hd0, par2, par3, frzs, frz1, eMM, isL, lstO, eSl, oSl, isCmp, lenG, tupO, seqO, r1O, r2O, zipO, enumO, bne0, bne1, List.map_cons, List.map_nil, List.length_cons, List.length_nil, List.cons_append, List.nil_append, List.append_nil, List.replicate, List.getElem?_cons_zero, List.getElem?_cons_succ, List.set_cons_zero, List.set_cons_succ, Nat.reduceAdd, Nat.reduceSub, Option.toList, List.headD_cons, List.tail_cons, Bool.or_false, Bool.false_or, Bool.not_true, Bool.not_false, List.lookup, List.all_nil, List.take, Nat.zero_add, ePut, augO, lcS_eq, forS_eq, whileS_eq, wipeA, killA, dropN, hideF_d, hideF_k, hideF_s, hideF_n, hideF_m, hideF_g, hideF_r, hideF_rg, toBools, toInts, intsO, boolsO, isGone, decide_true, decide_false, eq_self, if_true, if_false, Nat.reduceBEq, Nat.reduceBNe, Nat.reduceEqDiff, Nat.reduceLeDiff, Int.reduceLT, Int.reduceLE, Int.reduceEq, Int.reduceNe, Int.reduceBEq, Int.reduceBNe, Int.reduceNeg, reduceIte, reduceCtorEq, Option.getD_none, Option.getD_some, List.lookup_nil, ne_eq, List.length_map, List.length_zip, List.length_drop, List.length_append, Int.cast_ofNat_Int, sh_nil, sh_nilT, sh_ones, eqv_nil, List.isEmpty_map, and_self, and_true, true_and, lcDO, hideJ, List.length_take, keepA_nil, keepA_cons, Nat.reduceSub, pick, List.getD_cons_zero, List.getD_cons_succ, evE_lset, oLenSet, evE_idx, evE_lrg, evE_reprL, evE_upd, evE_lsc, evE_dcm, dmS_eq, scS_eq, mtS_eq, tupA, lrgO, dkO, oKd, keyD, mtO_new, mt_take, evS_parT, parTO, setAll, not_false_eq_true, not_true_eq_false, mtO_new0, mtO_new1, List.take_zero, oLook, Option.isSome_some, Option.isSome_none, List.length_range, subF, frzC, Option.map_some, evE_trg, $ls,*])
variable {D : Tab} {k : Nat}
theorem nats_of {n : Nat} : ∀ {ds : List PyData}, (∀ d ∈ ds, ∃ j : Nat, d = .int (j : Int) ∧ j < n) → ∃ sm : List Nat, ds = natsD sm ∧ ∀ j ∈ sm, j < n
  | [], _ => ⟨[], rfl, by simp⟩
  | d :: ds, h => by
    obtain ⟨j, rfl, hj⟩ := h d List.mem_cons_self
    obtain ⟨sm, rfl, hs⟩ := nats_of (ds := ds) fun e he => h e (List.mem_cons_of_mem _ he)
    refine ⟨j :: sm, rfl, fun i hi => ?_⟩
    rcases List.mem_cons.mp hi with z | z
    · subst z; exact hj
    · exact hs i z
theorem two_strs {a : Str} (h : CpsOk a) : oEqB (.list [.str a, .str a]) (.list [.str a, .str a]) = some true := by
  have s : SeqAt.shaped (.list [.str a, .str a]) = true := ly_shaped (p := 1) (ly_list fun x hx => by
    simp only [List.mem_cons, List.not_mem_nil, or_false] at hx
    rcases hx with rfl | rfl <;> exact str_ly h) (by decide)
  show gu _ _ = _
  unfold gu
  rw [if_pos ⟨s, s⟩]
  simp [PyData.eqv, PyData.eqvAll]
theorem sorted_intsO (ns : List Int) (h : ns.length ≤ 1000) : oSorted (.list (ns.map .int)) = some (.l ((ns.mergeSort fun a b => decide (a ≤ b)).map .int)) := by
  have e : sortOk (ns.map .int) = true := by
    unfold sortOk
    simp only [List.all_map, Bool.and_eq_true]
    refine ⟨⟨by simp [PySem.W.alike], ?_⟩, by simp [PyData.depth]⟩
    rw [Bool.or_eq_true]
    exact .inr (by simp [noNT])
  show gu _ _ = _
  unfold gu
  rw [if_pos ⟨e, by rw [List.length_map]; exact Nat.le_trans h (by decide)⟩]
  unfold sortD
  rw [sort_ints]
theorem pcs_bd {names : List Str} {qs : List (List Nat)} (hn : ∀ s ∈ names, NameOk s) (h : ∀ p ∈ qs, (∀ i ∈ p, i < names.length) ∧ p.length ≤ 12) (hl : qs.length ≤ 12) : Bd 20000 2 (.list (qs.map (pcN names))) := (Bd.list (c := 1400) (p := 1) 12 (fun x hx => by
  obtain ⟨p, hp, rfl⟩ := List.mem_map.mp hx
  obtain ⟨h1, h2⟩ := h p hp
  refine (Bd.tuple (c := 90) (p := 0) 12 (fun y hy => ?_) (by rw [List.length_map, sortS_len, List.length_map]; exact h2)).mono (by decide) (by decide)
  obtain ⟨s, hs, rfl⟩ := List.mem_map.mp hy
  obtain ⟨i, hi, rfl⟩ := List.mem_map.mp ((List.mergeSort_perm _ _).mem_iff.mp hs)
  exact nm_bd (hn _ (List.mem_of_getElem? (nmA_get (h1 i hi))))) (by rw [List.length_map]; exact hl)).mono (by decide) (by decide)
theorem asc_range (m : Nat) : AscN (List.range m) m := by
  refine ⟨fun i a b ha hb => ?_, fun i hi => List.mem_range.mp hi⟩
  rw [List.getElem?_map] at ha hb
  have hi : i < m := by
    by_cases c : i < m
    · exact c
    · rw [List.getElem?_eq_none (by rw [List.length_range]; omega)] at ha; cases ha
  have hj : i + 1 < m := by
    by_cases c : i + 1 < m
    · exact c
    · rw [List.getElem?_eq_none (by rw [List.length_range]; omega)] at hb; cases hb
  rw [List.getElem?_range hi] at ha
  rw [List.getElem?_range hj] at hb
  cases ha; cases hb
  show ((i : Nat) : Int) < ((i + 1 : Nat) : Int)
  omega
theorem map_int_inj : ∀ {xs ys : List Int}, xs.map PyData.int = ys.map PyData.int → xs = ys
  | [], [], _ => rfl
  | [], _ :: _, h => by cases h
  | _ :: _, [], h => by cases h
  | x :: xs, y :: ys, h => by
    simp only [List.map_cons, List.cons.injEq, PyData.int.injEq] at h
    rw [h.1, map_int_inj h.2]
theorem lot_of {u : List Nat} {m : Nat} (nd : u.Nodup) (hu : ∀ i ∈ u, i < m) : ∃ lot : List Nat, ((u.map fun (i : Nat) => (i : Int)).mergeSort fun a b => decide (a ≤ b)).map PyData.int = natsD lot ∧ AscN lot m ∧ lot.length = u.length := by
  have pm : (((u.map fun (i : Nat) => (i : Int)).mergeSort fun a b => decide (a ≤ b)).map PyData.int).Perm (natsD u) := by
    rw [lot_ints]
    exact (List.mergeSort_perm _ _).map _
  obtain ⟨lot, e, pl⟩ := perm_map_inv pm rfl
  have ndi : (u.map fun (i : Nat) => (i : Int)).Nodup := by
    rw [List.nodup_iff_pairwise_ne, List.pairwise_map]
    rw [List.nodup_iff_pairwise_ne] at nd
    exact nd.imp fun h z => h (by omega)
  have as := asc_sort ndi
  have e2 : ((u.map fun (i : Nat) => (i : Int)).mergeSort fun a b => decide (a ≤ b)) = lot.map fun (i : Nat) => (i : Int) := by
    have e' : (((u.map fun (i : Nat) => (i : Int)).mergeSort fun a b => decide (a ≤ b)).map PyData.int) = (lot.map fun (i : Nat) => (i : Int)).map PyData.int := by rw [e, ← lot_ints]; rfl
    exact map_int_inj e'
  rw [e2] at as
  exact ⟨lot, e, ⟨as, fun i hi => hu i (pl.mem_iff.mp hi)⟩, pl.length_eq⟩
theorem law_ev [Hd D 6 r6] [Hd D 7 r7] [Hd D 9 r9] [Hd D 10 r10] [Hd D 19 r19] [Hd D 20 r20] [Hd D 21 r21] [Hd D 33 r33] [Hd D 34 r34] [Hd D 35 r35] [Hd D 36 r36] [Hd D 37 r37] [Hd D 38 r38] [Hd D 39 r39] [Hd D 40 r40] [Hd D 42 r42] [Hd D 43 r43] [Hd D 44 r44] [Hd D 45 r45] [Hd D 46 r46] [Hd D 47 r47] [Hd D 52 r52] [Hd D 53 r53] [Hd D 54 r54] [Hd D 55 r55] [Hd D 59 r59] [Hd D 60 r60] [Hd D 61 r61] [Hd D 62 r62] [Hd D 63 r63] [Hd D 64 r64] [Hd D 65 r65] (ns : List Int) : evF D (k + 8) 65 [.sc ns] none = some (.data (.bool true), none) := by
  rw [ev_eq]
  simp_arith [r65, a65]
  generalize hq : forL _ _ _ _ = q
  obtain ⟨A', B', rfl, rfl, rfl⟩ := for_invN hq (fun i A B => A = some (.sc ns) :: List.replicate 17 none ∧ B = []) ⟨rfl, rfl⟩ (by
    clear hq
    rintro i x A B hx ⟨rfl, rfl⟩
    obtain ⟨hi, hx⟩ := rangeD_get hx
    rw [Int.zero_add] at hx
    subst hx
    obtain ⟨ds, F, u1⟩ := feed_ev (D := D) (k := k + 6) ns i
    obtain ⟨x1, d1, u2, hx1, F1⟩ := one_ev (D := D) (k := k + 5) (xs := [.int 4, .int 7, .int 12]) F (by omega) (by decide) (by decide)
    obtain ⟨most, rfl, m1, m2⟩ : ∃ most : Nat, x1 = .int (most : Int) ∧ 1 ≤ most ∧ most ≤ 12 := by
      simp only [List.mem_cons, List.not_mem_nil, or_false] at hx1
      rcases hx1 with rfl | rfl | rfl
      · exact ⟨4, rfl, by decide, by decide⟩
      · exact ⟨7, rfl, by decide, by decide⟩
      · exact ⟨12, rfl, by decide, by decide⟩
    obtain ⟨x2, d2, u3, hx2, F2⟩ := one_ev (D := D) (k := k + 5) (xs := [.int 2, .int 10, .int 40]) F1 (by omega) (by decide) (by decide)
    obtain ⟨more, rfl, m3⟩ : ∃ more : Nat, x2 = .int (more : Int) ∧ more ≤ 40 := by
      simp only [List.mem_cons, List.not_mem_nil, or_false] at hx2
      rcases hx2 with rfl | rfl | rfl
      · exact ⟨2, rfl, by decide⟩
      · exact ⟨10, rfl, by decide⟩
      · exact ⟨40, rfl, by decide⟩
    obtain ⟨names, ws, d3, u4, T, tl, F3⟩ := town_ev (D := D) (k := k + 3) F2 (by omega) m1 m2 m3
    have n1 := T.pos; have n2 := T.len; have n3 := T.wlen
    have v1 := law_times_ev (D := D) (k := k + 6) T.ways T.nd (by omega) (by omega)
    have sh := (town_bd T).shown (by decide) (by decide)
    have cn : ∀ i j, i < names.length → j < names.length → ∃ x, times names.length ws i j = some x ∧ 0 ≤ x := fun i j hi hj => times_conn T.ways T.conn hi hj
    unfold townD at u4 v1 sh
    simp_arith [u1, u2, u3, u4, v1, isSeqD, sh]
    generalize hq : forL _ _ _ _ = q
    obtain ⟨A', B', rfl, rfl, d4, rfl, F4⟩ := for_invN hq (fun t A B => A = [some (.sc ns), some (.d (.int (i : Int))), some (.m 0), some (.d (.tuple [.tuple (names.map .str), .tuple (ws.map (wayD names))])), some (.d (.list ((matR names.length (times names.length ws)).map .list))), some (.d (.str (PyData.tuple [.tuple (names.map .str), .tuple (ws.map (wayD names))]).shown)), some (.d (.int (names.length : Int))), none, none, none, none, none, none, none, none, none, none, none] ∧ ∃ d4, B = [.lst d4] ∧ FeedOk (2000 + 20 * t) d4)
      ⟨rfl, d3, rfl, F3.mono (by omega)⟩ (by
      clear hq
      rintro t x A B hx ⟨rfl, d4, rfl, F4⟩
      obtain ⟨ht, hx⟩ := rangeD_get hx
      rw [Int.zero_add] at hx
      subst hx
      obtain ⟨r, d5, u5, r1, r2, F5⟩ := draw_ev (D := D) (k := k + 6) (many := 8) F4 (by omega) (by omega) (by omega)
      obtain ⟨x3, d6, u6, hx3, F6⟩ := one_ev (D := D) (k := k + 5) (xs := [.int 1, .int 2, .int 3, .int 8, .int (1 + r)]) F5 (by omega) (by simp) (by simp)
      obtain ⟨cnt, rfl, c1, c2⟩ : ∃ cnt : Nat, x3 = .int (cnt : Int) ∧ 1 ≤ cnt ∧ cnt ≤ 8 := by
        simp only [List.mem_cons, List.not_mem_nil, or_false] at hx3
        rcases hx3 with rfl | rfl | rfl | rfl | rfl
        · exact ⟨1, rfl, by decide, by decide⟩
        · exact ⟨2, rfl, by decide, by decide⟩
        · exact ⟨3, rfl, by decide, by decide⟩
        · exact ⟨8, rfl, by decide, by decide⟩
        · exact ⟨(1 + r).toNat, by rw [Int.toNat_of_nonneg (by omega)], by omega, by omega⟩
      simp_arith [u5, u6, rangeD_len]
      generalize hq : lcL _ _ _ = q
      obtain ⟨es, B2, rfl, l1, p1, d7, rfl, F7⟩ := lcL_relQ hq (fun i B => ∃ d7, B = [.lst d7] ∧ FeedOk (2002 + 20 * t + i) d7) (fun i x d => ∃ j : Nat, d = .int (j : Int) ∧ j < names.length) ⟨d6, rfl, F6.mono (by omega)⟩ (by
        clear hq
        rintro j x B hx ⟨d7, rfl, F7⟩
        obtain ⟨hj, rfl⟩ := rangeD_get hx
        obtain ⟨r3, d8, u8, r4, r5, F8⟩ := draw_ev (D := D) (k := k + 6) (many := (names.length : Int)) F7 (by omega) (by omega) (by omega)
        obtain ⟨j3, rfl, j4⟩ := nat_int r4 r5
        simp_arith [u8]
        exact ⟨_, _, rfl, ⟨j3, rfl, by omega⟩, d8, rfl, F8.mono (by omega)⟩)
      clear hq
      rw [rangeD_len] at l1 F7
      obtain ⟨sm, rfl, hs⟩ := nats_of (n := names.length) (ds := es) fun d hd => by
        obtain ⟨j, hj, e⟩ := List.getElem_of_mem hd
        have hj2 : j < cnt := by omega
        refine p1 j (.int (0 + (j : Int))) d ?_ (by rw [List.getElem?_eq_getElem hj, e])
        simp [rangeD, hj2]
      have sl : sm.length = cnt := by simpa [natsD] using l1
      obtain ⟨I, hI, eI⟩ := meet_ex (times names.length ws) sm n1
      have mp := meeting_place_ev (D := D) (k := k) T hs (by omega) (by omega) hI eI
      have cg : ∀ a b, a < names.length → b < names.length → ∃ x, times names.length ws a b = some x := fun a b ha hb => (cn a b ha hb).imp fun _ h => h.1
      have ne : ∀ a, sm.map (fun o => gI (times names.length ws) a o) ≠ [] := fun a z => by rw [List.map_eq_nil_iff] at z; rw [z] at sl; simp at sl; omega
      have mx := maxI_le (ns := sm.map fun o => gI (times names.length ws) I o) (c := 40960000) (fun x hx => by
        obtain ⟨o, ho, rfl⟩ := List.mem_map.mp hx
        obtain ⟨y, e1, e2⟩ := cn I o hI (hs o ho)
        have := times_le n2 T.most e1
        show 0 ≤ ((times names.length ws I o).getD 0) ∧ ((times names.length ws I o).getD 0) ≤ 40960000
        rw [e1]
        exact ⟨e2, this⟩) (by decide)
      have bd : Bd 200 1 (.tuple [.int (maxI (sm.map fun o => gI (times names.length ws) I o)), .str (nmA names I)]) := (Bd.tuple (c := 90) (p := 0) 2 (fun y hy => by
        simp only [List.mem_cons, List.not_mem_nil, or_false] at hy
        rcases hy with rfl | rfl
        · exact Bd.small (by omega) (by decide)
        · exact nm_bd (T.nm _ (List.mem_of_getElem? (nmA_get hI)))) (by simp)).mono (by decide) (by decide)
      have sh2 := bd.shown (by decide) (by decide)
      have cp := two_strs (shown_cp bd.ly)
      unfold townD at mp
      simp_arith []
      unfold natsD
      rw [lcL_map, lcL_pure (g := fun j => .str (nmA names j)) fun j hj => by simp_arith [atI_strs (hs j hj)]]
      simp_arith [rangeD_len]
      rw [rangeD0, lcL_map, lcL_pure (g := mtE (times names.length ws) sm) fun a ha => by
        have ha := List.mem_range.mp ha
        simp_arith []
        rw [lcL_map, lcL_pure (g := fun o => .int (gI (times names.length ws) a o)) fun o ho => by
          have ho := hs o ho
          simp_arith [atI_matD, atI_row]
          rw [oD_gI (cg a o ha ho)]]
        simp_arith [toInts_f, gu_pos (ne a), mtE]]
      have e3 : sm.map (fun i => PyData.str (nmA names i)) = nmsD names sm := rfl
      simp_arith [↓eI, mtE, atI_strs, isSeqD, sh2, e3, mp, ↓cp]
      exact ⟨_, _, rfl, rfl, d7, rfl, F7.mono (by omega)⟩)
    clear hq
    have el : ∀ n : Nat, ((n : Int) - 0).toNat = n := fun n => by omega
    simp_arith [List.length_map]
    have e0 : [PyData.tuple [], .tuple (rangeD 0 ws.length)] = [[], List.range ws.length].map lotD := by
      rw [rangeD0]
      rfl
    rw [rangeD_len] at F4
    simp_arith [el, e0]
    generalize hq : forL _ _ _ _ = q
    obtain ⟨A', B', rfl, rfl, d5, lots, rfl, hl, ll, F5⟩ := for_invN hq (fun t A B => A = [some (.sc ns), some (.d (.int (i : Int))), some (.m 0), some (.d (.tuple [.tuple (names.map .str), .tuple (ws.map (wayD names))])), some (.d (.list ((matR names.length (times names.length ws)).map .list))), some (.d (.str (PyData.tuple [.tuple (names.map .str), .tuple (ws.map (wayD names))]).shown)), some (.d (.int (ws.length : Int))), none, none, none, none, none, none, some (.m 1), none, none, none, none] ∧ ∃ d5 lots, B = [.lst d5, .lst (lots.map lotD)] ∧ (∀ lot ∈ lots, AscN lot ws.length ∧ lot.length ≤ ws.length) ∧ lots.length ≤ 2 + t ∧ FeedOk (3000 + 60 * t) d5)
      ⟨rfl, d4, [[], List.range ws.length], rfl, fun lot h => by
        simp only [List.mem_cons, List.not_mem_nil, or_false] at h
        rcases h with rfl | rfl
        · exact ⟨⟨fun i a b h => by simp at h, by simp⟩, by simp⟩
        · exact ⟨asc_range _, by rw [List.length_range]; exact Nat.le_refl _⟩, by simp, F4.mono (by omega)⟩ (by
      clear hq
      rintro t x A B hx ⟨rfl, d5, lots, rfl, hl, ll, F5⟩
      obtain ⟨ht, hx⟩ := rangeD_get hx
      rw [Int.zero_add] at hx
      subst hx
      obtain ⟨ys, d6, u6, pm, F6⟩ := mixed_ev (D := D) (k := k + 5) (xs := rangeD 0 ws.length) F5 (by omega) (by rw [rangeD_len]; omega)
      rw [rangeD0] at pm
      obtain ⟨u, rfl, pu⟩ := perm_map_inv pm rfl
      rw [rangeD_len] at F6
      obtain ⟨r, d7, u7, r1, r2, F7⟩ := draw_ev (D := D) (k := k + 6) (many := (ws.length : Int) + 1) F6 (by omega) (by omega) (by omega)
      obtain ⟨cn2, rfl, c2⟩ := nat_int r1 r2
      have hc : Dl.cutD (u.map fun (i : Nat) => PyData.int (i : Int)) none (some (cn2 : Int)) = ((u.take cn2).map fun (i : Nat) => (i : Int)).map .int := by rw [cut_to, List.map_take, List.map_take, List.map_map]; rfl
      have ul : u.length = ws.length := by rw [pu.length_eq, List.length_range]
      have so := sorted_intsO ((u.take cn2).map fun (i : Nat) => (i : Int)) (by rw [List.length_map, List.length_take]; omega)
      obtain ⟨lot, e1, al, l1⟩ := lot_of (u := u.take cn2) (m := ws.length) ((pu.nodup_iff.mpr List.nodup_range).sublist (List.take_sublist _ _)) (fun i hi => List.mem_range.mp (pu.mem_iff.mp (List.mem_of_mem_take hi)))
      rw [e1] at so
      simp_arith [el, u6, u7, hc, so]
      refine ⟨_, _, rfl, rfl, d7, lots ++ [lot], by rw [List.map_append]; rfl, fun l h => ?_, by simp; omega, F7.mono (by omega)⟩
      rcases List.mem_append.mp h with z | z
      · exact hl l z
      · simp only [List.mem_singleton] at z
        subst z
        refine ⟨al, ?_⟩
        rw [l1, List.length_take]
        omega)
    clear hq
    rw [rangeD_len] at F5
    simp_arith []
    rw [forL_map]
    generalize hq : forL _ _ _ _ = q
    obtain ⟨A', B', rfl, rfl, rfl⟩ := for_invN hq (fun t A B => A = [some (.sc ns), some (.d (.int (i : Int))), some (.m 0), some (.d (.tuple [.tuple (names.map .str), .tuple (ws.map (wayD names))])), some (.d (.list ((matR names.length (times names.length ws)).map .list))), some (.d (.str (PyData.tuple [.tuple (names.map .str), .tuple (ws.map (wayD names))]).shown)), some (.d (.int (ws.length : Int))), none, none, none, none, none, none, some (.d (.list (lots.map lotD))), none, none, none, none] ∧ B = [.lst d5, .gone])
      ⟨rfl, rfl⟩ (by
      clear hq
      rintro t lot A B hx ⟨rfl, rfl⟩
      obtain ⟨al, l1⟩ := hl lot (List.mem_of_getElem? hx)
      have w1 := shut_ways_ev (D := D) (k := k) T al l1
      have w2 := law_pieces_ev (D := D) (k := k + 6) (lot := lot) T
      rw [pieces_same (T.ways.sub (left_sub ws lot))] at w2
      have pl := pcs_lt (n := names.length) (f := times names.length (leftW ws lot))
      have pn := Nat.le_trans (pcs_len names.length (times names.length (leftW ws lot))) n2
      have b1 := pcs_bd (names := names) (qs := pcs names.length (times names.length (leftW ws lot))) T.nm (fun p hp => ⟨(pl p hp).1, by have := (pl p hp).2; omega⟩) pn
      have s1 := (two_bd b1 b1).shown (by decide) (by decide)
      have s2 := b1.shown (by decide) (by decide)
      have nl : ((pcs names.length (times names.length (leftW ws lot))).map (pcN names)).length ≤ 12 := by rw [List.length_map]; exact pn
      unfold townD at w1 w2
      generalize (pcs names.length (times names.length (leftW ws lot))).map (pcN names) = L at *
      simp_arith [w1, w2, s1, s2, isSeqD]
      exact ⟨_, _, rfl, rfl, rfl⟩)
    simp_arith [isSeqD, sh]
    exact ⟨_, _, rfl, rfl, rfl⟩)
  simp_arith []
end Hs

namespace Hs
open L2 Dl PySem PyProof.Rows PySem.Spec
namespace k04
def topS (i : Nat) : Stmt := PySem.Challenge.pw_hourstold_k04_meeting_places_and_shut_wa.main.body.getD i (.Pass ⟨0, 0, 0, 0⟩)
def d6 : DI := ⟨6, "is_integer", ["thing"], [], n6, g6, topS 9, r6⟩
theorem e6 {K : PySem.W.Frag} {mg : Str → Option Value} (h : ∃ f fd, Fun K "is_integer" "is_integer" (topS 9) f fd ∧ mg "is_integer" = some (.ref f)) : DOk K mg d6 := by
  obtain ⟨f, fd, Fu, hm⟩ := h
  refine ⟨⟨f, fd, Fu, hm, Fu.binds (ps := ["thing"]) fun _ _ _ _ _ _ us hl => match us, hl with | [_], _ => rfl, fun ks hks => ?_⟩, ⟨rfl, rfl, rfl, by decide +kernel, rfl, by decide +kernel, by decide +kernel⟩, [], [], by decide +kernel⟩
  cases hks

def d7 : DI := ⟨7, "is_within", ["thing", "least", "most"], [], n7, g7, topS 10, r7⟩
theorem e7 {K : PySem.W.Frag} {mg : Str → Option Value} (h : ∃ f fd, Fun K "is_within" "is_within" (topS 10) f fd ∧ mg "is_within" = some (.ref f)) : DOk K mg d7 := by
  obtain ⟨f, fd, Fu, hm⟩ := h
  refine ⟨⟨f, fd, Fu, hm, Fu.binds (ps := ["thing", "least", "most"]) fun _ _ _ _ _ _ us hl => match us, hl with | [_, _, _], _ => rfl, fun ks hks => ?_⟩, ⟨rfl, rfl, rfl, by decide +kernel, rfl, by decide +kernel, by decide +kernel⟩, [], [], by decide +kernel⟩
  cases hks

def d33 : DI := ⟨33, "is_name", ["thing"], [], n33, g33, topS 11, r33⟩
theorem e33 {K : PySem.W.Frag} {mg : Str → Option Value} (h : ∃ f fd, Fun K "is_name" "is_name" (topS 11) f fd ∧ mg "is_name" = some (.ref f)) : DOk K mg d33 := by
  obtain ⟨f, fd, Fu, hm⟩ := h
  refine ⟨⟨f, fd, Fu, hm, Fu.binds (ps := ["thing"]) fun _ _ _ _ _ _ us hl => match us, hl with | [_], _ => rfl, fun ks hks => ?_⟩, ⟨rfl, rfl, rfl, by decide +kernel, rfl, by decide +kernel, by decide +kernel⟩, [], [], by decide +kernel⟩
  cases hks

def d9 : DI := ⟨9, "is_row", ["thing", "least", "most"], [], n9, g9, topS 12, r9⟩
theorem e9 {K : PySem.W.Frag} {mg : Str → Option Value} (h : ∃ f fd, Fun K "is_row" "is_row" (topS 12) f fd ∧ mg "is_row" = some (.ref f)) : DOk K mg d9 := by
  obtain ⟨f, fd, Fu, hm⟩ := h
  refine ⟨⟨f, fd, Fu, hm, Fu.binds (ps := ["thing", "least", "most"]) fun _ _ _ _ _ _ us hl => match us, hl with | [_, _, _], _ => rfl, fun ks hks => ?_⟩, ⟨rfl, rfl, rfl, by decide +kernel, rfl, by decide +kernel, by decide +kernel⟩, [], [], by decide +kernel⟩
  cases hks

def d34 : DI := ⟨34, "are_unlike", ["things"], [], n34, g34, topS 13, r34⟩
theorem e34 {K : PySem.W.Frag} {mg : Str → Option Value} (h : ∃ f fd, Fun K "are_unlike" "are_unlike" (topS 13) f fd ∧ mg "are_unlike" = some (.ref f)) : DOk K mg d34 := by
  obtain ⟨f, fd, Fu, hm⟩ := h
  refine ⟨⟨f, fd, Fu, hm, Fu.binds (ps := ["things"]) fun _ _ _ _ _ _ us hl => match us, hl with | [_], _ => rfl, fun ks hks => ?_⟩, ⟨rfl, rfl, rfl, by decide +kernel, rfl, by decide +kernel, by decide +kernel⟩, [], [], by decide +kernel⟩
  cases hks

def d35 : DI := ⟨35, "are_names", ["things"], [], n35, g35, topS 14, r35⟩
theorem e35 {K : PySem.W.Frag} {mg : Str → Option Value} (h : ∃ f fd, Fun K "are_names" "are_names" (topS 14) f fd ∧ mg "are_names" = some (.ref f)) : DOk K mg d35 := by
  obtain ⟨f, fd, Fu, hm⟩ := h
  refine ⟨⟨f, fd, Fu, hm, Fu.binds (ps := ["things"]) fun _ _ _ _ _ _ us hl => match us, hl with | [_], _ => rfl, fun ks hks => ?_⟩, ⟨rfl, rfl, rfl, by decide +kernel, rfl, by decide +kernel, by decide +kernel⟩, [], [], by decide +kernel⟩
  cases hks

def d36 : DI := ⟨36, "are_some_of", ["things", "names"], [], n36, g36, topS 15, r36⟩
theorem e36 {K : PySem.W.Frag} {mg : Str → Option Value} (h : ∃ f fd, Fun K "are_some_of" "are_some_of" (topS 15) f fd ∧ mg "are_some_of" = some (.ref f)) : DOk K mg d36 := by
  obtain ⟨f, fd, Fu, hm⟩ := h
  refine ⟨⟨f, fd, Fu, hm, Fu.binds (ps := ["things", "names"]) fun _ _ _ _ _ _ us hl => match us, hl with | [_, _], _ => rfl, fun ks hks => ?_⟩, ⟨rfl, rfl, rfl, by decide +kernel, rfl, by decide +kernel, by decide +kernel⟩, [], [], by decide +kernel⟩
  cases hks

def d10 : DI := ⟨10, "is_ascending", ["things"], [], n10, g10, topS 16, r10⟩
theorem e10 {K : PySem.W.Frag} {mg : Str → Option Value} (h : ∃ f fd, Fun K "is_ascending" "is_ascending" (topS 16) f fd ∧ mg "is_ascending" = some (.ref f)) : DOk K mg d10 := by
  obtain ⟨f, fd, Fu, hm⟩ := h
  refine ⟨⟨f, fd, Fu, hm, Fu.binds (ps := ["things"]) fun _ _ _ _ _ _ us hl => match us, hl with | [_], _ => rfl, fun ks hks => ?_⟩, ⟨rfl, rfl, rfl, by decide +kernel, rfl, by decide +kernel, by decide +kernel⟩, [], [], by decide +kernel⟩
  cases hks

def d59 : DI := ⟨59, "are_indexes", ["thing", "many"], [], n59, g59, topS 17, r59⟩
theorem e59 {K : PySem.W.Frag} {mg : Str → Option Value} (h : ∃ f fd, Fun K "are_indexes" "are_indexes" (topS 17) f fd ∧ mg "are_indexes" = some (.ref f)) : DOk K mg d59 := by
  obtain ⟨f, fd, Fu, hm⟩ := h
  refine ⟨⟨f, fd, Fu, hm, Fu.binds (ps := ["thing", "many"]) fun _ _ _ _ _ _ us hl => match us, hl with | [_, _], _ => rfl, fun ks hks => ?_⟩, ⟨rfl, rfl, rfl, by decide +kernel, rfl, by decide +kernel, by decide +kernel⟩, [], [], by decide +kernel⟩
  cases hks

def d37 : DI := ⟨37, "numbered_ways", ["town"], [], n37, g37, topS 20, r37⟩
theorem e37 {K : PySem.W.Frag} {mg : Str → Option Value} (h : ∃ f fd, Fun K "numbered_ways" "numbered_ways" (topS 20) f fd ∧ mg "numbered_ways" = some (.ref f)) : DOk K mg d37 := by
  obtain ⟨f, fd, Fu, hm⟩ := h
  refine ⟨⟨f, fd, Fu, hm, Fu.binds (ps := ["town"]) fun _ _ _ _ _ _ us hl => match us, hl with | [_], _ => rfl, fun ks hks => ?_⟩, ⟨rfl, rfl, rfl, by decide +kernel, rfl, by decide +kernel, by decide +kernel⟩, [], [], by decide +kernel⟩
  cases hks

def d38 : DI := ⟨38, "lesser", ["one", "other"], [], n38, g38, topS 21, r38⟩
theorem e38 {K : PySem.W.Frag} {mg : Str → Option Value} (h : ∃ f fd, Fun K "lesser" "lesser" (topS 21) f fd ∧ mg "lesser" = some (.ref f)) : DOk K mg d38 := by
  obtain ⟨f, fd, Fu, hm⟩ := h
  refine ⟨⟨f, fd, Fu, hm, Fu.binds (ps := ["one", "other"]) fun _ _ _ _ _ _ us hl => match us, hl with | [_, _], _ => rfl, fun ks hks => ?_⟩, ⟨rfl, rfl, rfl, by decide +kernel, rfl, by decide +kernel, by decide +kernel⟩, [], [], by decide +kernel⟩
  cases hks

def d39 : DI := ⟨39, "times_by", ["count", "ways"], [], n39, g39, topS 22, r39⟩
theorem e39 {K : PySem.W.Frag} {mg : Str → Option Value} (h : ∃ f fd, Fun K "times_by" "times_by" (topS 22) f fd ∧ mg "times_by" = some (.ref f)) : DOk K mg d39 := by
  obtain ⟨f, fd, Fu, hm⟩ := h
  refine ⟨⟨f, fd, Fu, hm, Fu.binds (ps := ["count", "ways"]) fun _ _ _ _ _ _ us hl => match us, hl with | [_, _], _ => rfl, fun ks hks => ?_⟩, ⟨rfl, rfl, rfl, by decide +kernel, rfl, by decide +kernel, by decide +kernel⟩, [], [], by decide +kernel⟩
  cases hks

def d40 : DI := ⟨40, "town_times", ["town"], [], n40, g40, topS 23, r40⟩
theorem e40 {K : PySem.W.Frag} {mg : Str → Option Value} (h : ∃ f fd, Fun K "town_times" "town_times" (topS 23) f fd ∧ mg "town_times" = some (.ref f)) : DOk K mg d40 := by
  obtain ⟨f, fd, Fu, hm⟩ := h
  refine ⟨⟨f, fd, Fu, hm, Fu.binds (ps := ["town"]) fun _ _ _ _ _ _ us hl => match us, hl with | [_], _ => rfl, fun ks hks => ?_⟩, ⟨rfl, rfl, rfl, by decide +kernel, rfl, by decide +kernel, by decide +kernel⟩, [], [], by decide +kernel⟩
  cases hks

def d42 : DI := ⟨42, "pieces_by", ["count", "ways"], [], n42, g42, topS 24, r42⟩
theorem e42 {K : PySem.W.Frag} {mg : Str → Option Value} (h : ∃ f fd, Fun K "pieces_by" "pieces_by" (topS 24) f fd ∧ mg "pieces_by" = some (.ref f)) : DOk K mg d42 := by
  obtain ⟨f, fd, Fu, hm⟩ := h
  refine ⟨⟨f, fd, Fu, hm, Fu.binds (ps := ["count", "ways"]) fun _ _ _ _ _ _ us hl => match us, hl with | [_, _], _ => rfl, fun ks hks => ?_⟩, ⟨rfl, rfl, rfl, by decide +kernel, rfl, by decide +kernel, by decide +kernel⟩, [], [], by decide +kernel⟩
  cases hks

def d43 : DI := ⟨43, "is_way", ["places", "thing"], [], n43, g43, topS 30, r43⟩
theorem e43 {K : PySem.W.Frag} {mg : Str → Option Value} (h : ∃ f fd, Fun K "is_way" "is_way" (topS 30) f fd ∧ mg "is_way" = some (.ref f)) : DOk K mg d43 := by
  obtain ⟨f, fd, Fu, hm⟩ := h
  refine ⟨⟨f, fd, Fu, hm, Fu.binds (ps := ["places", "thing"]) fun _ _ _ _ _ _ us hl => match us, hl with | [_, _], _ => rfl, fun ks hks => ?_⟩, ⟨rfl, rfl, rfl, by decide +kernel, rfl, by decide +kernel, by decide +kernel⟩, [], [], by decide +kernel⟩
  cases hks

def d44 : DI := ⟨44, "are_ways", ["places", "thing"], [], n44, g44, topS 31, r44⟩
theorem e44 {K : PySem.W.Frag} {mg : Str → Option Value} (h : ∃ f fd, Fun K "are_ways" "are_ways" (topS 31) f fd ∧ mg "are_ways" = some (.ref f)) : DOk K mg d44 := by
  obtain ⟨f, fd, Fu, hm⟩ := h
  refine ⟨⟨f, fd, Fu, hm, Fu.binds (ps := ["places", "thing"]) fun _ _ _ _ _ _ us hl => match us, hl with | [_, _], _ => rfl, fun ks hks => ?_⟩, ⟨rfl, rfl, rfl, by decide +kernel, rfl, by decide +kernel, by decide +kernel⟩, [], [], by decide +kernel⟩
  cases hks

def d45 : DI := ⟨45, "is_map_form", ["thing"], [], n45, g45, topS 32, r45⟩
theorem e45 {K : PySem.W.Frag} {mg : Str → Option Value} (h : ∃ f fd, Fun K "is_map_form" "is_map_form" (topS 32) f fd ∧ mg "is_map_form" = some (.ref f)) : DOk K mg d45 := by
  obtain ⟨f, fd, Fu, hm⟩ := h
  refine ⟨⟨f, fd, Fu, hm, Fu.binds (ps := ["thing"]) fun _ _ _ _ _ _ us hl => match us, hl with | [_], _ => rfl, fun ks hks => ?_⟩, ⟨rfl, rfl, rfl, by decide +kernel, rfl, by decide +kernel, by decide +kernel⟩, [], [], by decide +kernel⟩
  cases hks

def d46 : DI := ⟨46, "need_map", ["town"], [], n46, g46, topS 33, r46⟩
theorem e46 {K : PySem.W.Frag} {mg : Str → Option Value} (h : ∃ f fd, Fun K "need_map" "need_map" (topS 33) f fd ∧ mg "need_map" = some (.ref f)) : DOk K mg d46 := by
  obtain ⟨f, fd, Fu, hm⟩ := h
  refine ⟨⟨f, fd, Fu, hm, Fu.binds (ps := ["town"]) fun _ _ _ _ _ _ us hl => match us, hl with | [_], _ => rfl, fun ks hks => ?_⟩, ⟨rfl, rfl, rfl, by decide +kernel, rfl, by decide +kernel, by decide +kernel⟩, [], [], by decide +kernel⟩
  cases hks

def d47 : DI := ⟨47, "is_place", ["town", "thing"], [], n47, g47, topS 34, r47⟩
theorem e47 {K : PySem.W.Frag} {mg : Str → Option Value} (h : ∃ f fd, Fun K "is_place" "is_place" (topS 34) f fd ∧ mg "is_place" = some (.ref f)) : DOk K mg d47 := by
  obtain ⟨f, fd, Fu, hm⟩ := h
  refine ⟨⟨f, fd, Fu, hm, Fu.binds (ps := ["town", "thing"]) fun _ _ _ _ _ _ us hl => match us, hl with | [_, _], _ => rfl, fun ks hks => ?_⟩, ⟨rfl, rfl, rfl, by decide +kernel, rfl, by decide +kernel, by decide +kernel⟩, [], [], by decide +kernel⟩
  cases hks

def d60 : DI := ⟨60, "need_meeting", ["town", "places"], [], n60, g60, topS 35, r60⟩
theorem e60 {K : PySem.W.Frag} {mg : Str → Option Value} (h : ∃ f fd, Fun K "need_meeting" "need_meeting" (topS 35) f fd ∧ mg "need_meeting" = some (.ref f)) : DOk K mg d60 := by
  obtain ⟨f, fd, Fu, hm⟩ := h
  refine ⟨⟨f, fd, Fu, hm, Fu.binds (ps := ["town", "places"]) fun _ _ _ _ _ _ us hl => match us, hl with | [_, _], _ => rfl, fun ks hks => ?_⟩, ⟨rfl, rfl, rfl, by decide +kernel, rfl, by decide +kernel, by decide +kernel⟩, [], [], by decide +kernel⟩
  cases hks

def d61 : DI := ⟨61, "need_ways", ["town", "indexes"], [], n61, g61, topS 36, r61⟩
theorem e61 {K : PySem.W.Frag} {mg : Str → Option Value} (h : ∃ f fd, Fun K "need_ways" "need_ways" (topS 36) f fd ∧ mg "need_ways" = some (.ref f)) : DOk K mg d61 := by
  obtain ⟨f, fd, Fu, hm⟩ := h
  refine ⟨⟨f, fd, Fu, hm, Fu.binds (ps := ["town", "indexes"]) fun _ _ _ _ _ _ us hl => match us, hl with | [_, _], _ => rfl, fun ks hks => ?_⟩, ⟨rfl, rfl, rfl, by decide +kernel, rfl, by decide +kernel, by decide +kernel⟩, [], [], by decide +kernel⟩
  cases hks

def d62 : DI := ⟨62, "meeting_place", ["town", "places"], [["places", "town"]], n62, g62, topS 38, r62⟩
theorem e62 {K : PySem.W.Frag} {mg : Str → Option Value} (h : ∃ f fd, Fun K "meeting_place" "meeting_place" (topS 38) f fd ∧ mg "meeting_place" = some (.ref f)) : DOk K mg d62 := by
  obtain ⟨f, fd, Fu, hm⟩ := h
  refine ⟨⟨f, fd, Fu, hm, Fu.binds (ps := ["town", "places"]) fun _ _ _ _ _ _ us hl => match us, hl with | [_, _], _ => rfl, fun ks hks => ?_⟩, ⟨rfl, rfl, rfl, by decide +kernel, rfl, by decide +kernel, by decide +kernel⟩, [], [], by decide +kernel⟩
  have e : ks = (["places", "town"] : List Str) := by simpa [d62] using hks
  subst e
  exact Dl.Fun.kbinds (ps := ["town", "places"]) Fu (by decide) fun _ _ _ _ _ _ ws hl => match ws, hl with | [_, _], _ => rfl

def d63 : DI := ⟨63, "shut_ways", ["town", "indexes"], [["indexes", "town"]], n63, g63, topS 39, r63⟩
theorem e63 {K : PySem.W.Frag} {mg : Str → Option Value} (h : ∃ f fd, Fun K "shut_ways" "shut_ways" (topS 39) f fd ∧ mg "shut_ways" = some (.ref f)) : DOk K mg d63 := by
  obtain ⟨f, fd, Fu, hm⟩ := h
  refine ⟨⟨f, fd, Fu, hm, Fu.binds (ps := ["town", "indexes"]) fun _ _ _ _ _ _ us hl => match us, hl with | [_, _], _ => rfl, fun ks hks => ?_⟩, ⟨rfl, rfl, rfl, by decide +kernel, rfl, by decide +kernel, by decide +kernel⟩, [], [], by decide +kernel⟩
  have e : ks = (["indexes", "town"] : List Str) := by simpa [d63] using hks
  subst e
  exact Dl.Fun.kbinds (ps := ["town", "indexes"]) Fu (by decide) fun _ _ _ _ _ _ ws hl => match ws, hl with | [_, _], _ => rfl

def d19 : DI := ⟨19, "_law_feed", ["script", "k"], [], n19, g19, topS 41, r19⟩
theorem e19 {K : PySem.W.Frag} {mg : Str → Option Value} (h : ∃ f fd, Fun K "_law_feed" "_law_feed" (topS 41) f fd ∧ mg "_law_feed" = some (.ref f)) : DOk K mg d19 := by
  obtain ⟨f, fd, Fu, hm⟩ := h
  refine ⟨⟨f, fd, Fu, hm, Fu.binds (ps := ["script", "k"]) fun _ _ _ _ _ _ us hl => match us, hl with | [_, _], _ => rfl, fun ks hks => ?_⟩, ⟨rfl, rfl, rfl, by decide +kernel, rfl, by decide +kernel, by decide +kernel⟩, [], [], by decide +kernel⟩
  cases hks

def d20 : DI := ⟨20, "_law_draw", ["feed", "many"], [], n20, g20, topS 42, r20⟩
theorem e20 {K : PySem.W.Frag} {mg : Str → Option Value} (h : ∃ f fd, Fun K "_law_draw" "_law_draw" (topS 42) f fd ∧ mg "_law_draw" = some (.ref f)) : DOk K mg d20 := by
  obtain ⟨f, fd, Fu, hm⟩ := h
  refine ⟨⟨f, fd, Fu, hm, Fu.binds (ps := ["feed", "many"]) fun _ _ _ _ _ _ us hl => match us, hl with | [_, _], _ => rfl, fun ks hks => ?_⟩, ⟨rfl, rfl, rfl, by decide +kernel, rfl, by decide +kernel, by decide +kernel⟩, [], [], by decide +kernel⟩
  cases hks

def d21 : DI := ⟨21, "_law_one", ["feed", "things"], [], n21, g21, topS 43, r21⟩
theorem e21 {K : PySem.W.Frag} {mg : Str → Option Value} (h : ∃ f fd, Fun K "_law_one" "_law_one" (topS 43) f fd ∧ mg "_law_one" = some (.ref f)) : DOk K mg d21 := by
  obtain ⟨f, fd, Fu, hm⟩ := h
  refine ⟨⟨f, fd, Fu, hm, Fu.binds (ps := ["feed", "things"]) fun _ _ _ _ _ _ us hl => match us, hl with | [_, _], _ => rfl, fun ks hks => ?_⟩, ⟨rfl, rfl, rfl, by decide +kernel, rfl, by decide +kernel, by decide +kernel⟩, [], [], by decide +kernel⟩
  cases hks

def d52 : DI := ⟨52, "_law_mixed", ["feed", "things"], [], n52, g52, topS 44, r52⟩
theorem e52 {K : PySem.W.Frag} {mg : Str → Option Value} (h : ∃ f fd, Fun K "_law_mixed" "_law_mixed" (topS 44) f fd ∧ mg "_law_mixed" = some (.ref f)) : DOk K mg d52 := by
  obtain ⟨f, fd, Fu, hm⟩ := h
  refine ⟨⟨f, fd, Fu, hm, Fu.binds (ps := ["feed", "things"]) fun _ _ _ _ _ _ us hl => match us, hl with | [_, _], _ => rfl, fun ks hks => ?_⟩, ⟨rfl, rfl, rfl, by decide +kernel, rfl, by decide +kernel, by decide +kernel⟩, [], [], by decide +kernel⟩
  cases hks

def d53 : DI := ⟨53, "_law_names", ["feed", "many"], [], n53, g53, topS 45, r53⟩
theorem e53 {K : PySem.W.Frag} {mg : Str → Option Value} (h : ∃ f fd, Fun K "_law_names" "_law_names" (topS 45) f fd ∧ mg "_law_names" = some (.ref f)) : DOk K mg d53 := by
  obtain ⟨f, fd, Fu, hm⟩ := h
  refine ⟨⟨f, fd, Fu, hm, Fu.binds (ps := ["feed", "many"]) fun _ _ _ _ _ _ us hl => match us, hl with | [_, _], _ => rfl, fun ks hks => ?_⟩, ⟨rfl, rfl, rfl, by decide +kernel, rfl, by decide +kernel, by decide +kernel⟩, [], [], by decide +kernel⟩
  cases hks

def d54 : DI := ⟨54, "_law_town", ["feed", "most", "more"], [], n54, g54, topS 46, r54⟩
theorem e54 {K : PySem.W.Frag} {mg : Str → Option Value} (h : ∃ f fd, Fun K "_law_town" "_law_town" (topS 46) f fd ∧ mg "_law_town" = some (.ref f)) : DOk K mg d54 := by
  obtain ⟨f, fd, Fu, hm⟩ := h
  refine ⟨⟨f, fd, Fu, hm, Fu.binds (ps := ["feed", "most", "more"]) fun _ _ _ _ _ _ us hl => match us, hl with | [_, _, _], _ => rfl, fun ks hks => ?_⟩, ⟨rfl, rfl, rfl, by decide +kernel, rfl, by decide +kernel, by decide +kernel⟩, [], [], by decide +kernel⟩
  cases hks

def d55 : DI := ⟨55, "_law_times", ["town"], [], n55, g55, topS 47, r55⟩
theorem e55 {K : PySem.W.Frag} {mg : Str → Option Value} (h : ∃ f fd, Fun K "_law_times" "_law_times" (topS 47) f fd ∧ mg "_law_times" = some (.ref f)) : DOk K mg d55 := by
  obtain ⟨f, fd, Fu, hm⟩ := h
  refine ⟨⟨f, fd, Fu, hm, Fu.binds (ps := ["town"]) fun _ _ _ _ _ _ us hl => match us, hl with | [_], _ => rfl, fun ks hks => ?_⟩, ⟨rfl, rfl, rfl, by decide +kernel, rfl, by decide +kernel, by decide +kernel⟩, [], [], by decide +kernel⟩
  cases hks

def d64 : DI := ⟨64, "_law_pieces", ["town", "shut"], [], n64, g64, topS 48, r64⟩
theorem e64 {K : PySem.W.Frag} {mg : Str → Option Value} (h : ∃ f fd, Fun K "_law_pieces" "_law_pieces" (topS 48) f fd ∧ mg "_law_pieces" = some (.ref f)) : DOk K mg d64 := by
  obtain ⟨f, fd, Fu, hm⟩ := h
  refine ⟨⟨f, fd, Fu, hm, Fu.binds (ps := ["town", "shut"]) fun _ _ _ _ _ _ us hl => match us, hl with | [_, _], _ => rfl, fun ks hks => ?_⟩, ⟨rfl, rfl, rfl, by decide +kernel, rfl, by decide +kernel, by decide +kernel⟩, [], [], by decide +kernel⟩
  cases hks

def d65 : DI := ⟨65, "law", ["script"], [], n65, g65, topS 49, r65⟩
theorem e65 {K : PySem.W.Frag} {mg : Str → Option Value} (h : ∃ f fd, Fun K "law" "law" (topS 49) f fd ∧ mg "law" = some (.ref f)) : DOk K mg d65 := by
  obtain ⟨f, fd, Fu, hm⟩ := h
  refine ⟨⟨f, fd, Fu, hm, Fu.binds (ps := ["script"]) fun _ _ _ _ _ _ us hl => match us, hl with | [_], _ => rfl, fun ks hks => ?_⟩, ⟨rfl, rfl, rfl, by decide +kernel, rfl, by decide +kernel, by decide +kernel⟩, [], [], by decide +kernel⟩
  cases hks

def L : List DI := [d6, d7, d33, d9, d34, d35, d36, d10, d59, d37, d38, d39, d40, d42, d43, d44, d45, d46, d47, d60, d61, d62, d63, d19, d20, d21, d52, d53, d54, d55, d64, d65]
def C : List (Str × GK) := [("isinstance", .blt), ("int", .blt), ("bool", .blt), ("str", .blt), ("len", .blt), ("MOST_SIGNS", .cst (.int (8))), ("LETTERS", .cst (.str "abcdefghijklmnopqrstuvwxyz")), ("all", .blt), ("DIGITS", .cst (.str "0123456789")), ("tuple", .blt), ("set", .blt), ("zip", .blt), ("min", .blt), ("UNJOINED", .cst .none), ("range", .blt), ("MOST_MINUTES", .cst (.int (10000))), ("MOST_WAYS", .cst (.int (40))), ("MOST_PLACES", .cst (.int (12))), ("MOST_VISITED", .cst (.int (8))), ("max", .blt), ("enumerate", .blt), ("sorted", .blt), ("sum", .blt), ("list", .blt), ("repr", .blt)]
theorem chk_ok : chk L C = true := by decide +kernel


end k04
end Hs

namespace Hs
namespace k04
open L2 Dl PySem PyProof.Rows PySem.Spec
instance i6 : Hd (tabOf L) 6 r6 := ⟨rfl⟩
instance i7 : Hd (tabOf L) 7 r7 := ⟨rfl⟩
instance i33 : Hd (tabOf L) 33 r33 := ⟨rfl⟩
instance i9 : Hd (tabOf L) 9 r9 := ⟨rfl⟩
instance i34 : Hd (tabOf L) 34 r34 := ⟨rfl⟩
instance i35 : Hd (tabOf L) 35 r35 := ⟨rfl⟩
instance i36 : Hd (tabOf L) 36 r36 := ⟨rfl⟩
instance i10 : Hd (tabOf L) 10 r10 := ⟨rfl⟩
instance i59 : Hd (tabOf L) 59 r59 := ⟨rfl⟩
instance i37 : Hd (tabOf L) 37 r37 := ⟨rfl⟩
instance i38 : Hd (tabOf L) 38 r38 := ⟨rfl⟩
instance i39 : Hd (tabOf L) 39 r39 := ⟨rfl⟩
instance i40 : Hd (tabOf L) 40 r40 := ⟨rfl⟩
instance i42 : Hd (tabOf L) 42 r42 := ⟨rfl⟩
instance i43 : Hd (tabOf L) 43 r43 := ⟨rfl⟩
instance i44 : Hd (tabOf L) 44 r44 := ⟨rfl⟩
instance i45 : Hd (tabOf L) 45 r45 := ⟨rfl⟩
instance i46 : Hd (tabOf L) 46 r46 := ⟨rfl⟩
instance i47 : Hd (tabOf L) 47 r47 := ⟨rfl⟩
instance i60 : Hd (tabOf L) 60 r60 := ⟨rfl⟩
instance i61 : Hd (tabOf L) 61 r61 := ⟨rfl⟩
instance i62 : Hd (tabOf L) 62 r62 := ⟨rfl⟩
instance i63 : Hd (tabOf L) 63 r63 := ⟨rfl⟩
instance i19 : Hd (tabOf L) 19 r19 := ⟨rfl⟩
instance i20 : Hd (tabOf L) 20 r20 := ⟨rfl⟩
instance i21 : Hd (tabOf L) 21 r21 := ⟨rfl⟩
instance i52 : Hd (tabOf L) 52 r52 := ⟨rfl⟩
instance i53 : Hd (tabOf L) 53 r53 := ⟨rfl⟩
instance i54 : Hd (tabOf L) 54 r54 := ⟨rfl⟩
instance i55 : Hd (tabOf L) 55 r55 := ⟨rfl⟩
instance i64 : Hd (tabOf L) 64 r64 := ⟨rfl⟩
instance i65 : Hd (tabOf L) 65 r65 := ⟨rfl⟩
theorem fact {K : PySem.W.Frag} {mg : Str → Option Value} {h : Heap} (X : K.In h) (G : h.Ns mainGlobals mg) {x : Str} {st : Stmt} {f : Addr} {oc : Value} {od an : Option Addr} {osl : Array (Option Value)} {kV doc pm cdv ct : Value} (a : PySem.W.nsIn K mainGlobals x = some (some (.ref f)))
    (l : K.lookup f = some ⟨oc, od, .func (PySem.W.fnOf x x (defArgs st) (defBody st) (defScope st) .none kV doc pm an cdv ct), osl⟩) (c : PySem.W.codeIn K cdv x = true) (k : PySem.W.keepIn K (.ref f) = true) : ∃ f fd, Fun K x x st f fd ∧ mg x = some (.ref f) :=
  ⟨f, _, fun_mk l c k, PySem.W.mg_of X G a⟩
theorem all_mk {l : PySem.W.OpenLaw} {w : World} {K : PySem.W.Frag} {mg : Str → Option Value} {fa : Addr} (hfa : mg "law" = some (.ref fa)) (hd : All (DOk K mg) L) (hC : All (fun p => CstOk K mg p.1 p.2) C) :
    ∃ fd : FuncData, (∀ (s : Shared) (v : Value), BindsTo s fd ⟨[v], []⟩ [("script", v)]) ∧ ∀ base : Heap, K.In base → base.Ns mainGlobals mg → FnG l.prog w K mg base 8 fa fd ["script"] (spOf K (ftOf (evF (tabOf L) 8 65))) := by
  obtain ⟨fd, Fu, h⟩ := prog_law (d := d65) chk_ok hd hC (List.mem_of_getElem? (i := 31) rfl) hfa 7
  refine ⟨fd, fun s v => ?_, fun base _ _ => h _ _ base⟩
  obtain ⟨oc, od, kV, doc, pm, an, cdv, ct, osl, rfl, lk, hcd⟩ := Fu.ex
  exact .of_eq rfl
end k04
end Hs
open PySem PySem.W PyProof.Rows
theorem PySem.Challenge.cw_hourstold_k04_meeting_places_and_shut_wa_holds : PySem.Challenge.rw_hourstold_k04_meeting_places_and_shut_wa.Holds := by
  w_on; o_law; k_head; (case hw => w_witness2)
  k_fill
  refine Dl.walk_g (l := PySem.Challenge.rw_hourstold_k04_meeting_places_and_shut_wa) (n := 63) (k := 8) (x := "script") (sp := fun w => Dl.spOf _ (Dl.ftOf (Dl.evF (Dl.tabOf Hs.k04.L) 8 65))) rfl (by decide) rfl ⟨rfl, by decide, by decide⟩ (fun w h Y => PySem.W.kIn_of Y) ?F (fun _ _ a ns hl hO hS => Dl.law_sp rfl hO hS ((fun _ => Hs.law_ev (D := Dl.tabOf Hs.k04.L) (k := 0) _) hl) fun _ => rfl)
  case F =>
    intro w mg fa h KX G hmg
    refine' Hs.k04.all_mk hmg ⟨Hs.k04.e6 (Hs.k04.fact (st := Hs.k04.topS 9) KX G ?a6 ?l6 ?c6 ?k6), Hs.k04.e7 (Hs.k04.fact (st := Hs.k04.topS 10) KX G ?a7 ?l7 ?c7 ?k7), Hs.k04.e33 (Hs.k04.fact (st := Hs.k04.topS 11) KX G ?a33 ?l33 ?c33 ?k33), Hs.k04.e9 (Hs.k04.fact (st := Hs.k04.topS 12) KX G ?a9 ?l9 ?c9 ?k9), Hs.k04.e34 (Hs.k04.fact (st := Hs.k04.topS 13) KX G ?a34 ?l34 ?c34 ?k34), Hs.k04.e35 (Hs.k04.fact (st := Hs.k04.topS 14) KX G ?a35 ?l35 ?c35 ?k35), Hs.k04.e36 (Hs.k04.fact (st := Hs.k04.topS 15) KX G ?a36 ?l36 ?c36 ?k36), Hs.k04.e10 (Hs.k04.fact (st := Hs.k04.topS 16) KX G ?a10 ?l10 ?c10 ?k10), Hs.k04.e59 (Hs.k04.fact (st := Hs.k04.topS 17) KX G ?a59 ?l59 ?c59 ?k59), Hs.k04.e37 (Hs.k04.fact (st := Hs.k04.topS 20) KX G ?a37 ?l37 ?c37 ?k37), Hs.k04.e38 (Hs.k04.fact (st := Hs.k04.topS 21) KX G ?a38 ?l38 ?c38 ?k38), Hs.k04.e39 (Hs.k04.fact (st := Hs.k04.topS 22) KX G ?a39 ?l39 ?c39 ?k39), Hs.k04.e40 (Hs.k04.fact (st := Hs.k04.topS 23) KX G ?a40 ?l40 ?c40 ?k40), Hs.k04.e42 (Hs.k04.fact (st := Hs.k04.topS 24) KX G ?a42 ?l42 ?c42 ?k42), Hs.k04.e43 (Hs.k04.fact (st := Hs.k04.topS 30) KX G ?a43 ?l43 ?c43 ?k43), Hs.k04.e44 (Hs.k04.fact (st := Hs.k04.topS 31) KX G ?a44 ?l44 ?c44 ?k44), Hs.k04.e45 (Hs.k04.fact (st := Hs.k04.topS 32) KX G ?a45 ?l45 ?c45 ?k45), Hs.k04.e46 (Hs.k04.fact (st := Hs.k04.topS 33) KX G ?a46 ?l46 ?c46 ?k46), Hs.k04.e47 (Hs.k04.fact (st := Hs.k04.topS 34) KX G ?a47 ?l47 ?c47 ?k47), Hs.k04.e60 (Hs.k04.fact (st := Hs.k04.topS 35) KX G ?a60 ?l60 ?c60 ?k60), Hs.k04.e61 (Hs.k04.fact (st := Hs.k04.topS 36) KX G ?a61 ?l61 ?c61 ?k61), Hs.k04.e62 (Hs.k04.fact (st := Hs.k04.topS 38) KX G ?a62 ?l62 ?c62 ?k62), Hs.k04.e63 (Hs.k04.fact (st := Hs.k04.topS 39) KX G ?a63 ?l63 ?c63 ?k63), Hs.k04.e19 (Hs.k04.fact (st := Hs.k04.topS 41) KX G ?a19 ?l19 ?c19 ?k19), Hs.k04.e20 (Hs.k04.fact (st := Hs.k04.topS 42) KX G ?a20 ?l20 ?c20 ?k20), Hs.k04.e21 (Hs.k04.fact (st := Hs.k04.topS 43) KX G ?a21 ?l21 ?c21 ?k21), Hs.k04.e52 (Hs.k04.fact (st := Hs.k04.topS 44) KX G ?a52 ?l52 ?c52 ?k52), Hs.k04.e53 (Hs.k04.fact (st := Hs.k04.topS 45) KX G ?a53 ?l53 ?c53 ?k53), Hs.k04.e54 (Hs.k04.fact (st := Hs.k04.topS 46) KX G ?a54 ?l54 ?c54 ?k54), Hs.k04.e55 (Hs.k04.fact (st := Hs.k04.topS 47) KX G ?a55 ?l55 ?c55 ?k55), Hs.k04.e64 (Hs.k04.fact (st := Hs.k04.topS 48) KX G ?a64 ?l64 ?c64 ?k64), Hs.k04.e65 (Hs.k04.fact (st := Hs.k04.topS 49) KX G ?a65 ?l65 ?c65 ?k65), trivial⟩ ⟨PySem.W.mg_none_of KX G ?zisinstance, PySem.W.mg_none_of KX G ?zint, PySem.W.mg_none_of KX G ?zbool, PySem.W.mg_none_of KX G ?zstr, PySem.W.mg_none_of KX G ?zlen, Dl.int_cst2 ⟨PySem.W.mg_of KX G ?vMOST_SIGNS, ?rMOST_SIGNS⟩, Dl.str_cst2 ⟨PySem.W.mg_of KX G ?vLETTERS, ?rLETTERS⟩, PySem.W.mg_none_of KX G ?zall, Dl.str_cst2 ⟨PySem.W.mg_of KX G ?vDIGITS, ?rDIGITS⟩, PySem.W.mg_none_of KX G ?ztuple, PySem.W.mg_none_of KX G ?zset, PySem.W.mg_none_of KX G ?zzip, PySem.W.mg_none_of KX G ?zmin, Dl.non_cst2 ⟨PySem.W.mg_of KX G ?vUNJOINED, ?rUNJOINED⟩, PySem.W.mg_none_of KX G ?zrange, Dl.int_cst2 ⟨PySem.W.mg_of KX G ?vMOST_MINUTES, ?rMOST_MINUTES⟩, Dl.int_cst2 ⟨PySem.W.mg_of KX G ?vMOST_WAYS, ?rMOST_WAYS⟩, Dl.int_cst2 ⟨PySem.W.mg_of KX G ?vMOST_PLACES, ?rMOST_PLACES⟩, Dl.int_cst2 ⟨PySem.W.mg_of KX G ?vMOST_VISITED, ?rMOST_VISITED⟩, PySem.W.mg_none_of KX G ?zmax, PySem.W.mg_none_of KX G ?zenumerate, PySem.W.mg_none_of KX G ?zsorted, PySem.W.mg_none_of KX G ?zsum, PySem.W.mg_none_of KX G ?zlist, PySem.W.mg_none_of KX G ?zrepr, trivial⟩
    (case a6 => k_is)
    (case l6 => k_is)
    (case c6 => k_is)
    (case k6 => k_is)
    (case a7 => k_is)
    (case l7 => k_is)
    (case c7 => k_is)
    (case k7 => k_is)
    (case a33 => k_is)
    (case l33 => k_is)
    (case c33 => k_is)
    (case k33 => k_is)
    (case a9 => k_is)
    (case l9 => k_is)
    (case c9 => k_is)
    (case k9 => k_is)
    (case a34 => k_is)
    (case l34 => k_is)
    (case c34 => k_is)
    (case k34 => k_is)
    (case a35 => k_is)
    (case l35 => k_is)
    (case c35 => k_is)
    (case k35 => k_is)
    (case a36 => k_is)
    (case l36 => k_is)
    (case c36 => k_is)
    (case k36 => k_is)
    (case a10 => k_is)
    (case l10 => k_is)
    (case c10 => k_is)
    (case k10 => k_is)
    (case a59 => k_is)
    (case l59 => k_is)
    (case c59 => k_is)
    (case k59 => k_is)
    (case a37 => k_is)
    (case l37 => k_is)
    (case c37 => k_is)
    (case k37 => k_is)
    (case a38 => k_is)
    (case l38 => k_is)
    (case c38 => k_is)
    (case k38 => k_is)
    (case a39 => k_is)
    (case l39 => k_is)
    (case c39 => k_is)
    (case k39 => k_is)
    (case a40 => k_is)
    (case l40 => k_is)
    (case c40 => k_is)
    (case k40 => k_is)
    (case a42 => k_is)
    (case l42 => k_is)
    (case c42 => k_is)
    (case k42 => k_is)
    (case a43 => k_is)
    (case l43 => k_is)
    (case c43 => k_is)
    (case k43 => k_is)
    (case a44 => k_is)
    (case l44 => k_is)
    (case c44 => k_is)
    (case k44 => k_is)
    (case a45 => k_is)
    (case l45 => k_is)
    (case c45 => k_is)
    (case k45 => k_is)
    (case a46 => k_is)
    (case l46 => k_is)
    (case c46 => k_is)
    (case k46 => k_is)
    (case a47 => k_is)
    (case l47 => k_is)
    (case c47 => k_is)
    (case k47 => k_is)
    (case a60 => k_is)
    (case l60 => k_is)
    (case c60 => k_is)
    (case k60 => k_is)
    (case a61 => k_is)
    (case l61 => k_is)
    (case c61 => k_is)
    (case k61 => k_is)
    (case a62 => k_is)
    (case l62 => k_is)
    (case c62 => k_is)
    (case k62 => k_is)
    (case a63 => k_is)
    (case l63 => k_is)
    (case c63 => k_is)
    (case k63 => k_is)
    (case a19 => k_is)
    (case l19 => k_is)
    (case c19 => k_is)
    (case k19 => k_is)
    (case a20 => k_is)
    (case l20 => k_is)
    (case c20 => k_is)
    (case k20 => k_is)
    (case a21 => k_is)
    (case l21 => k_is)
    (case c21 => k_is)
    (case k21 => k_is)
    (case a52 => k_is)
    (case l52 => k_is)
    (case c52 => k_is)
    (case k52 => k_is)
    (case a53 => k_is)
    (case l53 => k_is)
    (case c53 => k_is)
    (case k53 => k_is)
    (case a54 => k_is)
    (case l54 => k_is)
    (case c54 => k_is)
    (case k54 => k_is)
    (case a55 => k_is)
    (case l55 => k_is)
    (case c55 => k_is)
    (case k55 => k_is)
    (case a64 => k_is)
    (case l64 => k_is)
    (case c64 => k_is)
    (case k64 => k_is)
    (case a65 => k_is)
    (case l65 => k_is)
    (case c65 => k_is)
    (case k65 => k_is)
    (case zisinstance => k_is)
    (case zint => k_is)
    (case zbool => k_is)
    (case zstr => k_is)
    (case zlen => k_is)
    (case vMOST_SIGNS => k_is)
    (case rMOST_SIGNS => exact ⟨_, rfl⟩)
    (case vLETTERS => k_is)
    (case rLETTERS => exact ⟨_, rfl⟩)
    (case zall => k_is)
    (case vDIGITS => k_is)
    (case rDIGITS => exact ⟨_, rfl⟩)
    (case ztuple => k_is)
    (case zset => k_is)
    (case zzip => k_is)
    (case zmin => k_is)
    (case vUNJOINED => k_is)
    (case rUNJOINED => exact rfl)
    (case zrange => k_is)
    (case vMOST_MINUTES => k_is)
    (case rMOST_MINUTES => exact ⟨_, rfl⟩)
    (case vMOST_WAYS => k_is)
    (case rMOST_WAYS => exact ⟨_, rfl⟩)
    (case vMOST_PLACES => k_is)
    (case rMOST_PLACES => exact ⟨_, rfl⟩)
    (case vMOST_VISITED => k_is)
    (case rMOST_VISITED => exact ⟨_, rfl⟩)
    (case zmax => k_is)
    (case zenumerate => k_is)
    (case zsorted => k_is)
    (case zsum => k_is)
    (case zlist => k_is)
    (case zrepr => k_is)
