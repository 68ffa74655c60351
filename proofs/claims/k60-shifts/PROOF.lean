import PyProof.Rows.All
import Wide.All
import OpenK.AllK
import Wide.FinOn
import HandS.ForMost
import HandS.Flow
import HandS.Deep
import HandS.Wide
import HandS.TupAny
import HandS.TupLe
import HandS.IsInst
import HandS.SortInts
import KE.SortData
import HandS.More
import HandS.Zip
import HandS.Style
import HandS.Words
import PySem.Challenge.RW_hourstold_k60_whole_shifts_of_logs
set_option Elab.async false
set_option linter.all false
set_option maxRecDepth 100000
set_option maxHeartbeats 3999000
/-! Dl: plain data and a few mutable cells over the abstract heap of the hand layer. -/
namespace Dl
open L2 PySem PyProof.Rows PySem.Spec

/-! ### heaps that grow -/
def Ext (H H' : Hp) : Prop := ∀ a o, H a = some o → H' a = some o
theorem Ext.refl (H : Hp) : Ext H H := fun _ _ h => h
theorem Ext.trans {H H1 H2 : Hp} (a : Ext H H1) (b : Ext H1 H2) : Ext H H2 := fun x o h => b x o (a x o h)
theorem Ext.new {H : Hp} {p : Addr} {o : HO} (h : H p = none) : Ext H (upd H p o) := fun a u e => by
  rw [upd_ne (ne_of_none e h)]
  exact e
theorem Ext.fresh {H H' : Hp} (e : Ext H H') {p : Addr} (h : H' p = none) : H p = none := by
  cases q : H p with
  | none => rfl
  | some o =>
    rw [e p o q] at h
    cases h
theorem Ext.updBoth {G H : Hp} {p : Addr} {o : HO} (e : Ext G H) : Ext (upd G p o) (upd H p o) := fun a u h => by
  by_cases q : a = p
  · subst q
    rw [upd_same] at h ⊢
    exact h
  · rw [upd_ne q] at h ⊢
    exact e a u h
/-- a cell outside the frozen part changes -/
theorem Ext.side {G H : Hp} {p : Addr} {o : HO} (e : Ext G H) (hp : G p = none) : Ext G (upd H p o) := fun a u h => by
  rw [upd_ne (ne_of_none h hp)]
  exact e a u h
theorem ext_rd {H H' : Hp} {a : Addr} {u : HO} (e : Ext H H') (h : Rd H a u) : Rd H' a u := by
  rcases h with h | ⟨o, h⟩
  · exact Or.inl (e a _ h)
  · exact Or.inr ⟨o, e a _ h⟩
theorem ext_l {K : PySem.W.Frag} {H H' : Hp} {a : Addr} {xs : List V} (e : Ext H H') (h : SqL K H a xs) : SqL K H' a xs := by
  rcases h with h | h
  · exact Or.inl (ext_rd e h)
  · exact Or.inr h
theorem ext_t {K : PySem.W.Frag} {H H' : Hp} {a : Addr} {xs : List V} (e : Ext H H') (h : SqT K H a xs) : SqT K H' a xs := by
  rcases h with h | h
  · exact Or.inl (ext_rd e h)
  · exact Or.inr h
theorem sqT_any {K : PySem.W.Frag} {H : Hp} {a : Addr} {xs : List V} (h : SqT K (fun _ => none) a xs) : SqT K H a xs := by
  rcases h with (h | ⟨o, h⟩) | h
  · cases h
  · cases h
  · exact .inr h
mutual
/-- v is the data d, told by the frozen heap -/
inductive Dq (K : PySem.W.Frag) (H : Hp) : V → PyData → Prop
  | non : Dq K H .non .none
  | bl (b : Bool) : Dq K H (.bl b) (.bool b)
  | int (i : Int) : Dq K H (.int i) (.int i)
  | str (x : Str) : Dq K H (.str x) (.str x)
  | lst {a : Addr} {xs : List V} {ds : List PyData} : H a = some (.lst xs) → DqAll K H xs ds → Dq K H (.ref a) (.list ds)
  | tup {a : Addr} {xs : List V} {ds : List PyData} : H a = some (.tup xs) → DqAll K H xs ds → Dq K H (.ref a) (.tuple ds)
inductive DqAll (K : PySem.W.Frag) (H : Hp) : List V → List PyData → Prop
  | nil : DqAll K H [] []
  | cons {v : V} {vs : List V} {d : PyData} {ds : List PyData} : Dq K H v d → DqAll K H vs ds → DqAll K H (v :: vs) (d :: ds)
end
mutual
theorem dq_mono {K : PySem.W.Frag} {H H' : Hp} (e : Ext H H') : ∀ {d : PyData} {v : V}, Dq K H v d → Dq K H' v d
  | .none, _, h => by cases h; exact .non
  | .bool b, _, h => by cases h; exact .bl b
  | .int i, _, h => by cases h; exact .int i
  | .str x, _, h => by cases h; exact .str x
  | .list ds, _, h => by cases h with | lst hs ha => exact .lst (e _ _ hs) (dqAll_mono e ha)
  | .tuple ds, _, h => by
    cases h with
    | tup hs ha => exact .tup (e _ _ hs) (dqAll_mono e ha)
  | .dict _, _, h => by cases h
theorem dqAll_mono {K : PySem.W.Frag} {H H' : Hp} (e : Ext H H') : ∀ {ds : List PyData} {vs : List V}, DqAll K H vs ds → DqAll K H' vs ds
  | [], _, h => by cases h; exact .nil
  | d :: ds, _, h => by cases h with | cons h1 h2 => exact .cons (dq_mono e h1) (dqAll_mono e h2)
end
mutual
theorem dq_dp {K : PySem.W.Frag} {H : Hp} : ∀ {d : PyData} {v : V}, Dq K H v d → Dp K H v d
  | .none, _, h => by cases h; exact .non
  | .bool b, _, h => by cases h; exact .bl b
  | .int i, _, h => by cases h; exact .int i
  | .str x, _, h => by cases h; exact .str x
  | .list ds, _, h => by cases h with | lst hs ha => exact .lst (SqL.of hs) (dqAll_dp ha)
  | .tuple ds, _, h => by
    cases h with
    | tup hs ha => exact .tup (SqT.of hs) (dqAll_dp ha)
  | .dict _, _, h => by cases h
theorem dqAll_dp {K : PySem.W.Frag} {H : Hp} : ∀ {ds : List PyData} {vs : List V}, DqAll K H vs ds → DpAll K H vs ds
  | [], _, h => by cases h; exact .nil
  | d :: ds, _, h => by cases h with | cons h1 h2 => exact .cons (dq_dp h1) (dqAll_dp h2)
end
section
variable {K : PySem.W.Frag} {H : Hp}
theorem dqAll_len : ∀ {vs : List V} {ds : List PyData}, DqAll K H vs ds → vs.length = ds.length
  | _, _, .nil => rfl
  | _, _, .cons _ t => by rw [List.length_cons, List.length_cons, dqAll_len t]
theorem dqAll_get : ∀ {vs : List V} {ds : List PyData} {i : Nat} {d : PyData}, DqAll K H vs ds → ds[i]? = some d → ∃ v, vs[i]? = some v ∧ Dq K H v d
  | _, _, _, _, .nil, e => by simp at e
  | _, _, 0, _, .cons h _, e => by
    simp at e
    subst e
    exact ⟨_, rfl, h⟩
  | _, _, i + 1, _, .cons _ t, e => by
    simp at e
    obtain ⟨v, h1, h2⟩ := dqAll_get t e
    exact ⟨v, by simpa using h1, h2⟩
theorem dqAll_getV : ∀ {vs : List V} {ds : List PyData} {i : Nat} {v : V}, DqAll K H vs ds → vs[i]? = some v → ∃ d, ds[i]? = some d ∧ Dq K H v d
  | _, _, _, _, .nil, e => by simp at e
  | _, _, 0, _, .cons h _, e => by
    simp at e
    subst e
    exact ⟨_, rfl, h⟩
  | _, _, i + 1, _, .cons _ t, e => by
    simp at e
    obtain ⟨d, h1, h2⟩ := dqAll_getV t e
    exact ⟨d, by simpa using h1, h2⟩
theorem dqAll_append : ∀ {vs ws : List V} {ds es : List PyData}, DqAll K H vs ds → DqAll K H ws es → DqAll K H (vs ++ ws) (ds ++ es)
  | _, _, _, _, .nil, s => s
  | _, _, _, _, .cons h t, s => .cons h (dqAll_append t s)
theorem dqAll_one {v : V} {d : PyData} (h : Dq K H v d) : DqAll K H [v] [d] := .cons h .nil
theorem dqAll_set {v : V} {d : PyData} (h : Dq K H v d) : ∀ {vs : List V} {ds : List PyData} (i : Nat), DqAll K H vs ds → DqAll K H (vs.set i v) (ds.set i d)
  | _, _, _, .nil => .nil
  | _, _, 0, .cons _ t => .cons h t
  | _, _, i + 1, .cons q t => .cons q (dqAll_set h i t)
theorem dqAll_take : ∀ {vs : List V} {ds : List PyData} (n : Nat), DqAll K H vs ds → DqAll K H (vs.take n) (ds.take n)
  | _, _, 0, _ => .nil
  | _, _, _ + 1, .nil => .nil
  | _, _, n + 1, .cons q t => .cons q (dqAll_take n t)
theorem dqAll_drop : ∀ {vs : List V} {ds : List PyData} (n : Nat), DqAll K H vs ds → DqAll K H (vs.drop n) (ds.drop n)
  | _, _, 0, r => r
  | _, _, _ + 1, .nil => .nil
  | _, _, n + 1, .cons _ t => dqAll_drop n t
theorem dqAll_reverse : ∀ {vs : List V} {ds : List PyData}, DqAll K H vs ds → DqAll K H vs.reverse ds.reverse
  | _, _, .nil => .nil
  | _, _, .cons h t => by
    rw [List.reverse_cons, List.reverse_cons]
    exact dqAll_append (dqAll_reverse t) (dqAll_one h)
theorem dqAll_erase : ∀ {vs : List V} {ds : List PyData} (i : Nat), DqAll K H vs ds → DqAll K H (vs.eraseIdx i) (ds.eraseIdx i)
  | _, _, _, .nil => .nil
  | _, _, 0, .cons _ t => t
  | _, _, i + 1, .cons q t => .cons q (dqAll_erase i t)
theorem dqAll_ints : ∀ {ns : List Int} {vs : List V}, DqAll K H vs (ns.map .int) → vs = ns.map V.int
  | [], _, h => by cases h; rfl
  | n :: ns, _, h => by
    cases h with
    | cons h1 h2 =>
      cases h1
      rw [dqAll_ints h2]
      rfl
theorem dqAll_bools : ∀ {ns : List Bool} {vs : List V}, DqAll K H vs (ns.map .bool) → vs = ns.map V.bl
  | [], _, h => by cases h; rfl
  | n :: ns, _, h => by
    cases h with
    | cons h1 h2 =>
      cases h1
      rw [dqAll_bools h2]
      rfl
theorem dqAll_strs : ∀ {ns : List Str} {vs : List V}, DqAll K H vs (ns.map .str) → vs = ns.map V.str
  | [], _, h => by cases h; rfl
  | n :: ns, _, h => by
    cases h with
    | cons h1 h2 =>
      cases h1
      rw [dqAll_strs h2]
      rfl
end

/-! ### abstract values, cells -/
/-- a value: plain data (it never changes), a tuple of the module, the k-th cell, the i-th row of the k-th cell -/
inductive AV where
  | d (x : PyData) | kt (ds : List PyData) | sc (ns : List Int) | m (k : Nat) | r (k i : Nat)
/-- a mutable cell: a list, a list of lists of its own, a dict (int and text keys; tuple keys), a dict that is being walked, the script -/
inductive MC where
  | lst (ds : List PyData)
  | mat (rows : List (List PyData))
  | dK (kvs : List (Key × PyData))
  | dT (kvs : List (List Key × PyData))
  | lk (kvs : List (Key × PyData))
  | gone
abbrev Env := List (Option AV)
abbrev Mem := List MC
abbrev Kt := AV → Mem → Prop
abbrev Th := List (List Addr)

inductive RowsOk (K : PySem.W.Frag) (G H : Hp) : List Addr → List (List PyData) → Prop
  | nil : RowsOk K G H [] []
  | cons {a : Addr} {as : List Addr} {vs : List V} {row : List PyData} {rows : List (List PyData)} : H a = some (.lst vs) → DqAll K G vs row → RowsOk K G H as rows → RowsOk K G H (a :: as) (row :: rows)
inductive KvOk {κ : Type} (K : PySem.W.Frag) (G : Hp) : List (κ × V) → List (κ × PyData) → Prop
  | nil : KvOk K G [] []
  | cons {k : κ} {v : V} {d : PyData} {vs : List (κ × V)} {ds : List (κ × PyData)} : Dq K G v d → KvOk K G vs ds → KvOk K G ((k, v) :: vs) ((k, d) :: ds)
inductive CellOk (K : PySem.W.Frag) (G H : Hp) : List Addr → MC → Prop
  | lst {a : Addr} {vs : List V} {ds : List PyData} : H a = some (.lst vs) → DqAll K G vs ds → CellOk K G H [a] (.lst ds)
  | mat {a : Addr} {rs : List Addr} {rows : List (List PyData)} : H a = some (.lst (rs.map V.ref)) → RowsOk K G H rs rows → CellOk K G H (a :: rs) (.mat rows)
  | dK {a : Addr} {vs : List (Key × V)} {ds : List (Key × PyData)} : H a = some (.dK vs) → KvOk K G vs ds → CellOk K G H [a] (.dK ds)
  | dT {a : Addr} {vs : List (List Key × V)} {ds : List (List Key × PyData)} : H a = some (.dT vs) → KvOk K G vs ds → CellOk K G H [a] (.dT ds)
  | lk {a : Addr} {o : Obj} {vs : List (Key × V)} {ds : List (Key × PyData)} : H a = some (.frz o (.dK vs)) → KvOk K G vs ds → CellOk K G H [a] (.lk ds)
  | gone : CellOk K G H [] .gone
inductive CellsOk (K : PySem.W.Frag) (G H : Hp) : Th → Mem → Prop
  | nil : CellsOk K G H [] []
  | cons {as : List Addr} {c : MC} {θ : Th} {B : Mem} : CellOk K G H as c → CellsOk K G H θ B → CellsOk K G H (as :: θ) (c :: B)
inductive AVok (K : PySem.W.Frag) (G : Hp) (θ : Th) : V → AV → Prop
  | d {v : V} {x : PyData} : Dq K G v x → AVok K G θ v (.d x)
  | kt {a : Addr} {xs : List V} {ds : List PyData} : SqT K (fun _ => none) a xs → DqAll K (fun _ => none) xs ds → AVok K G θ (.ref a) (.kt ds)
  | sc {a : Addr} {ns : List Int} : SqL K G a (ns.map V.int) → AVok K G θ (.ref a) (.sc ns)
  | m {k : Nat} {a : Addr} {as : List Addr} : θ[k]? = some (a :: as) → AVok K G θ (.ref a) (.m k)
  | r {k i : Nat} {a b : Addr} {as : List Addr} : θ[k]? = some (b :: as) → as[i]? = some a → AVok K G θ (.ref a) (.r k i)
abbrev AVs (K : PySem.W.Frag) (G : Hp) (θ : Th) : List V → List AV → Prop := Paired (AVok K G θ)

/-- the memory: frozen part, cells -/
structure MemOk (K : PySem.W.Frag) (θ : Th) (B : Mem) (G H : Hp) : Prop where
  ex : Ext G H
  cells : CellsOk K G H θ B
  nd : θ.flatten.Nodup
  free : ∀ a ∈ θ.flatten, G a = none
/-- the slots -/
def SlotsOk (K : PySem.W.Frag) (G : Hp) (θ : Th) (σ : L2.St) (A : Env) : Prop := σ.length = A.length ∧ ∀ (i : Nat) (w : AV), A[i]? = some (some w) → ∃ v, σ[i]? = some (some v) ∧ AVok K G θ v w
structure StOk (K : PySem.W.Frag) (θ : Th) (A : Env) (B : Mem) (σ : L2.St) (G H : Hp) : Prop where
  mem : MemOk K θ B G H
  slots : SlotsOk K G θ σ A

/-- what a step may do -/
structure Gr (θ θ' : Th) (G H G' H' : Hp) : Prop where
  gx : Ext G G'
  th : θ <+: θ'
  keep : ∀ a o, H a = some o → a ∉ θ.flatten → H' a = some o
  new : ∀ a, a ∈ θ'.flatten → a ∈ θ.flatten ∨ H a = none
  gnew : ∀ a, G' a ≠ none → G a ≠ none ∨ a ∈ θ.flatten ∨ H a = none

section
variable {K : PySem.W.Frag} {θ θ' θ1 θ2 : Th} {A : Env} {B B' : Mem} {σ : L2.St} {G H G' H' G1 H1 G2 H2 : Hp}
theorem Gr.refl : Gr θ θ G H G H := ⟨Ext.refl _, List.prefix_refl _, fun _ _ h _ => h, fun _ h => .inl h, fun _ h => .inl h⟩
theorem Gr.trans (x : Gr θ θ1 G H G1 H1) (y : Gr θ1 θ2 G1 H1 G2 H2) : Gr θ θ2 G H G2 H2 := by
  have ka : ∀ a, H1 a = none → a ∈ θ.flatten ∨ H a = none := fun a h => by
    cases q : H a with
    | none => exact .inr rfl
    | some o =>
      by_cases hm : a ∈ θ.flatten
      · exact .inl hm
      · rw [x.keep a o q hm] at h
        cases h
  refine ⟨x.gx.trans y.gx, x.th.trans y.th, fun a o h hm => ?_, fun a h => ?_, fun a h => ?_⟩
  · refine y.keep a o (x.keep a o h hm) fun hm1 => ?_
    rcases x.new a hm1 with q | q
    · exact hm q
    · rw [h] at q
      cases q
  · rcases y.new a h with q | q
    · exact x.new a q
    · exact ka a q
  · rcases y.gnew a h with q | q | q
    · exact x.gnew a q
    · rcases x.new a q with q | q
      · exact .inr (.inl q)
      · exact .inr (.inr q)
    · rcases ka a q with q | q
      · exact .inr (.inl q)
      · exact .inr (.inr q)
theorem prefix_get {α : Type} {xs ys : List α} {i : Nat} {x : α} (h : xs <+: ys) (e : xs[i]? = some x) : ys[i]? = some x := by
  obtain ⟨t, rfl⟩ := h
  rw [List.getElem?_append_left (List.getElem?_eq_some_iff.mp e).1]
  exact e
theorem AVok.mono {v : V} {w : AV} (h : AVok K G θ v w) (gx : Ext G G') (th : θ <+: θ') : AVok K G' θ' v w := by
  cases h with
  | d h => exact .d (dq_mono gx h)
  | kt h e => exact .kt h e
  | sc h => exact .sc (ext_l gx h)
  | m h => exact .m (prefix_get th h)
  | r h e => exact .r (prefix_get th h) e
theorem AVok.gr {v : V} {w : AV} (h : AVok K G θ v w) (g : Gr θ θ' G H G' H') : AVok K G' θ' v w := h.mono g.gx g.th
theorem AVs.gr {vs : List V} {ws : List AV} (h : AVs K G θ vs ws) (g : Gr θ θ' G H G' H') : AVs K G' θ' vs ws := Paired.mapP h fun _ _ q => q.gr g
theorem SlotsOk.mono (h : SlotsOk K G θ σ A) (gx : Ext G G') (th : θ <+: θ') : SlotsOk K G' θ' σ A := ⟨h.1, fun i w e => by
  obtain ⟨v, h1, h2⟩ := h.2 i w e
  exact ⟨v, h1, h2.mono gx th⟩⟩
theorem SlotsOk.set {v : V} {w : AV} (h : SlotsOk K G θ σ A) (i : Nat) (hv : AVok K G θ v w) : SlotsOk K G θ (σ.set i (some v)) (A.set i (some w)) := by
  refine ⟨by rw [List.length_set, List.length_set]; exact h.1, fun j u e => ?_⟩
  by_cases q : i = j
  · subst q
    by_cases hi : i < A.length
    · rw [List.getElem?_set_self hi] at e
      cases e
      exact ⟨v, List.getElem?_set_self (by rw [h.1]; exact hi), hv⟩
    · rw [List.getElem?_eq_none (by simpa using hi)] at e
      cases e
  · rw [List.getElem?_set_ne q] at e ⊢
    exact h.2 j u e
/-- a slot's value forgotten -/
theorem SlotsOk.hide (h : SlotsOk K G θ σ A) (i : Nat) (x : Option V) : SlotsOk K G θ (σ.set i x) (A.set i none) := by
  refine ⟨by rw [List.length_set, List.length_set]; exact h.1, fun j u e => ?_⟩
  by_cases q : i = j
  · subst q
    by_cases hi : i < A.length
    · rw [List.getElem?_set_self hi] at e
      cases e
    · rw [List.getElem?_eq_none (by simpa using hi)] at e
      cases e
  · rw [List.getElem?_set_ne q] at e ⊢
    exact h.2 j u e
theorem StOk.set {v : V} {w : AV} (h : StOk K θ A B σ G H) (i : Nat) (hv : AVok K G θ v w) : StOk K θ (A.set i (some w)) B (σ.set i (some v)) G H := ⟨h.mem, h.slots.set i hv⟩
theorem RowsOk.mono {as : List Addr} {rows : List (List PyData)} (gx : Ext G G') : RowsOk K G H as rows → (∀ a ∈ as, ∀ o, H a = some o → H' a = some o) → RowsOk K G' H' as rows := fun h => by
  induction h with
  | nil => exact fun _ => .nil
  | cons e d _ ih => exact fun k => .cons (k _ List.mem_cons_self _ e) (dqAll_mono gx d) (ih fun a ha => k a (List.mem_cons_of_mem _ ha))
theorem KvOk.mono {κ : Type} {vs : List (κ × V)} {ds : List (κ × PyData)} (gx : Ext G G') : KvOk K G vs ds → KvOk K G' vs ds := fun h => by
  induction h with
  | nil => exact .nil
  | cons d _ ih => exact .cons (dq_mono gx d) ih
theorem CellOk.mono {as : List Addr} {c : MC} (h : CellOk K G H as c) (gx : Ext G G') (k : ∀ a ∈ as, ∀ o, H a = some o → H' a = some o) : CellOk K G' H' as c := by
  cases h with
  | lst e d => exact .lst (k _ List.mem_cons_self _ e) (dqAll_mono gx d)
  | mat e r => exact .mat (k _ List.mem_cons_self _ e) (r.mono gx fun a ha => k a (List.mem_cons_of_mem _ ha))
  | dK e d => exact .dK (k _ List.mem_cons_self _ e) (d.mono gx)
  | dT e d => exact .dT (k _ List.mem_cons_self _ e) (d.mono gx)
  | lk e d => exact .lk (k _ List.mem_cons_self _ e) (d.mono gx)
  | gone => exact .gone
theorem CellsOk.mono (gx : Ext G G') : ∀ {θ : Th} {B : Mem}, CellsOk K G H θ B → (∀ a ∈ θ.flatten, ∀ o, H a = some o → H' a = some o) → CellsOk K G' H' θ B
  | _, _, .nil, _ => .nil
  | _, _, .cons h t, k => .cons (h.mono gx fun a ha => k a (by simp [ha])) (CellsOk.mono gx t fun a ha => k a (by simp at ha ⊢; exact .inr ha))
theorem CellsOk.len : ∀ {θ : Th} {B : Mem}, CellsOk K G H θ B → θ.length = B.length
  | _, _, .nil => rfl
  | _, _, .cons _ t => by rw [List.length_cons, List.length_cons, CellsOk.len t]
theorem CellsOk.get : ∀ {θ : Th} {B : Mem} {k : Nat} {as : List Addr}, CellsOk K G H θ B → θ[k]? = some as → ∃ c, B[k]? = some c ∧ CellOk K G H as c
  | _, _, _, _, .nil, e => by simp at e
  | _, _, 0, _, .cons h _, e => by
    simp at e
    subst e
    exact ⟨_, rfl, h⟩
  | _, _, k + 1, _, .cons _ t, e => by
    simp at e
    obtain ⟨c, h1, h2⟩ := CellsOk.get t e
    exact ⟨c, by simpa using h1, h2⟩
theorem CellsOk.getB : ∀ {θ : Th} {B : Mem} {k : Nat} {c : MC}, CellsOk K G H θ B → B[k]? = some c → ∃ as, θ[k]? = some as ∧ CellOk K G H as c
  | _, _, _, _, .nil, e => by simp at e
  | _, _, 0, _, .cons h _, e => by
    simp at e
    subst e
    exact ⟨_, rfl, h⟩
  | _, _, k + 1, _, .cons _ t, e => by
    simp at e
    obtain ⟨c, h1, h2⟩ := CellsOk.getB t e
    exact ⟨c, by simpa using h1, h2⟩
theorem CellsOk.append : ∀ {θ ψ : Th} {B C : Mem}, CellsOk K G H θ B → CellsOk K G H ψ C → CellsOk K G H (θ ++ ψ) (B ++ C)
  | _, _, _, _, .nil, s => s
  | _, _, _, _, .cons h t, s => .cons h (CellsOk.append t s)
theorem CellsOk.take : ∀ {θ : Th} {B : Mem} (n : Nat), CellsOk K G H θ B → CellsOk K G H (θ.take n) (B.take n)
  | _, _, 0, _ => .nil
  | _, _, _ + 1, .nil => .nil
  | _, _, n + 1, .cons h t => .cons h (CellsOk.take n t)
/-- one cell changes, its own objects alone -/
theorem CellsOk.upd : ∀ {θ : Th} {B : Mem} {k : Nat} {as : List Addr} {c : MC}, CellsOk K G H θ B → θ.flatten.Nodup → θ[k]? = some as → Ext G G' → (∀ a o, H a = some o → a ∈ θ.flatten → a ∉ as → H' a = some o) → CellOk K G' H' as c → CellsOk K G' H' θ (B.set k c)
  | _, _, _, _, _, .nil, _, e, _, _, _ => by simp at e
  | _, _, 0, as, c, .cons (as := bs) (θ := ψ) h t, nd, e, gx, k, hc => by
    simp at e
    subst e
    refine .cons hc (t.mono gx fun a ha o ho => k a o ho (by simp at ha ⊢; exact .inr ha) fun hb => ?_)
    rw [List.flatten_cons, List.nodup_append] at nd
    exact nd.2.2 a hb a ha rfl
  | _, _, j + 1, as, c, .cons (as := bs) (θ := ψ) h t, nd, e, gx, k, hc => by
    simp at e
    rw [List.flatten_cons, List.nodup_append] at nd
    refine .cons (h.mono gx fun a ha o ho => k a o ho (by simp [ha]) fun hb => ?_) (CellsOk.upd t nd.2.1 e gx (fun a o ho ha hb => k a o ho (by simp at ha ⊢; exact .inr ha) hb) hc)
    exact nd.2.2 a ha a (List.mem_flatten.mpr ⟨as, List.mem_of_getElem? e, hb⟩) rfl
theorem CellOk.live {as : List Addr} {c : MC} (h : CellOk K G H as c) : ∀ a ∈ as, ∃ o, H a = some o := by
  have rows : ∀ {rs : List Addr} {rows : List (List PyData)}, RowsOk K G H rs rows → ∀ a ∈ rs, ∃ o, H a = some o := fun r => by
    induction r with
    | nil => exact fun a ha => absurd ha (by simp)
    | cons e _ _ ih =>
      intro a ha
      rcases List.mem_cons.mp ha with q | q
      · subst q; exact ⟨_, e⟩
      · exact ih a q
  cases h with
  | lst e _ => intro a ha; simp at ha; subst ha; exact ⟨_, e⟩
  | mat e r =>
    intro a ha
    rcases List.mem_cons.mp ha with q | q
    · subst q; exact ⟨_, e⟩
    · exact rows r a q
  | dK e _ => intro a ha; simp at ha; subst ha; exact ⟨_, e⟩
  | dT e _ => intro a ha; simp at ha; subst ha; exact ⟨_, e⟩
  | lk e _ => intro a ha; simp at ha; subst ha; exact ⟨_, e⟩
  | gone => intro a ha; simp at ha
theorem CellsOk.live : ∀ {θ : Th} {B : Mem}, CellsOk K G H θ B → ∀ a ∈ θ.flatten, ∃ o, H a = some o
  | _, _, .nil, a, ha => by simp at ha
  | _, _, .cons h t, a, ha => by
    rw [List.flatten_cons, List.mem_append] at ha
    rcases ha with q | q
    · exact h.live a q
    · exact CellsOk.live t a q
theorem MemOk.live (m : MemOk K θ B G H) {a : Addr} (h : a ∈ θ.flatten) : H a ≠ none := fun z => by
  obtain ⟨o, e⟩ := m.cells.live a h
  rw [e] at z
  cases z
theorem MemOk.fresh (m : MemOk K θ B G H) {p : Addr} (h : H p = none) : p ∉ θ.flatten := fun z => m.live z h
end
end Dl

namespace Dl
open L2 PySem PyProof.Rows PySem.Spec

theorem ex_nil {H : Hp} : Ext (fun _ => none) H := fun _ _ h => by cases h
/-- growth: new objects alone -/
structure Stp (G H G' H' : Hp) : Prop where
  gx : Ext G G'
  hx : Ext H H'
  ex : Ext G' H'
  gn : ∀ a, G' a ≠ none → G a ≠ none ∨ H a = none
section
variable {K : PySem.W.Frag} {θ : Th} {A : Env} {B : Mem} {σ : L2.St} {G H G' H' G1 H1 : Hp}
theorem Stp.refl (e : Ext G H) : Stp G H G H := ⟨Ext.refl _, Ext.refl _, e, fun _ h => .inl h⟩
theorem Stp.trans (x : Stp G H G1 H1) (y : Stp G1 H1 G' H') : Stp G H G' H' := ⟨x.gx.trans y.gx, x.hx.trans y.hx, y.ex, fun a h => by
  rcases y.gn a h with q | q
  · exact x.gn a q
  · exact .inr (x.hx.fresh q)⟩
/-- a new object, frozen at once -/
theorem Stp.new {p : Addr} {o : HO} (e : Ext G H) (hp : H p = none) : Stp G H (upd G p o) (upd H p o) :=
  ⟨Ext.new (e.fresh hp), Ext.new hp, e.updBoth, fun a h => by
    by_cases q : a = p
    · subst q; exact .inr hp
    · rw [upd_ne q] at h; exact .inl h⟩
theorem Stp.mem (s : Stp G H G' H') (m : MemOk K θ B G H) : MemOk K θ B G' H' := by
  refine ⟨s.ex, m.cells.mono s.gx fun a _ o h => s.hx a o h, m.nd, fun a ha => ?_⟩
  cases q : G' a with
  | none => rfl
  | some o =>
    rcases s.gn a (by rw [q]; exact fun z => nomatch z) with z | z
    · exact absurd (m.free a ha) z
    · exact absurd z (m.live ha)
theorem Stp.gr (s : Stp G H G' H') : Gr θ θ G H G' H' := ⟨s.gx, List.prefix_refl _, fun a o h _ => s.hx a o h, fun a h => .inl h, fun a h => by
  rcases s.gn a h with q | q
  · exact .inl q
  · exact .inr (.inr q)⟩

/-! ### results -/
/-- what an operation gives: data; a new list -/
inductive Res where
  | v (x : PyData) | l (xs : List PyData)
inductive ResOk (K : PySem.W.Frag) (G H G' H' : Hp) : V → Res → Prop
  | v {z : V} {x : PyData} : Stp G H G' H' → Dq K G' z x → ResOk K G H G' H' z (.v x)
  | l {H1 : Hp} {p : Addr} {vs : List V} {xs : List PyData} : Stp G H G' H1 → H1 p = none → H' = upd H1 p (.lst vs) → DqAll K G' vs xs → ResOk K G H G' H' (.ref p) (.l xs)
/-- a new list is data, or a cell -/
def newL (xs : List PyData) (B : Mem) (k : Kt) : Prop := k (.d (.list xs)) B ∨ k (.m B.length) (B ++ [.lst xs])
def wpR (B : Mem) (k : Kt) : Res → Prop
  | .v x => k (.d x) B
  | .l xs => newL xs B k
/-- a new cell -/
theorem mem_cell {p : Addr} {o : HO} {c : MC} (m : MemOk K θ B G H) (hp : H p = none) (hc : CellOk K G (upd H p o) [p] c) : MemOk K (θ ++ [[p]]) (B ++ [c]) G (upd H p o) ∧ Gr θ (θ ++ [[p]]) G H G (upd H p o) := by
  have hf := m.fresh hp
  refine ⟨⟨m.ex.side (m.ex.fresh hp), ?_, ?_, fun a ha => ?_⟩, ⟨Ext.refl _, List.prefix_append _ _, fun a u h _ => Ext.new hp a u h, fun a ha => ?_, fun a h => .inl h⟩⟩
  · exact (m.cells.mono (Ext.refl _) fun a _ u h => Ext.new hp a u h).append (.cons hc .nil)
  · rw [List.flatten_append, List.nodup_append]
    refine ⟨m.nd, by simp, fun a ha b hb e => ?_⟩
    simp at hb
    subst hb
    subst e
    exact hf ha
  · rw [List.flatten_append, List.mem_append] at ha
    rcases ha with q | q
    · exact m.free a q
    · simp at q
      subst q
      exact m.ex.fresh hp
  · rw [List.flatten_append, List.mem_append] at ha
    rcases ha with q | q
    · exact .inl q
    · simp at q
      subst q
      exact .inr hp
theorem res_fin {z : V} {res : Res} {k : Kt} (m : MemOk K θ B G H) (r : ResOk K G H G' H' z res) (h : wpR B k res) :
    ∃ θ' B' G2 w, Gr θ θ' G H G2 H' ∧ MemOk K θ' B' G2 H' ∧ AVok K G2 θ' z w ∧ k w B' := by
  cases r with
  | v s d => exact ⟨θ, B, G', _, s.gr, s.mem m, .d d, h⟩
  | @l H1 p vs xs s hp e d =>
    subst e
    rcases h with h | h
    · have s2 : Stp G H (upd G' p (.lst vs)) (upd H1 p (.lst vs)) := s.trans (Stp.new s.ex hp)
      exact ⟨θ, B, _, _, s2.gr, s2.mem m, .d (.lst upd_same (dqAll_mono (Ext.new (s.ex.fresh hp)) d)), h⟩
    · obtain ⟨m2, g2⟩ := mem_cell (o := .lst vs) (c := .lst xs) (s.mem m) hp (.lst upd_same d)
      refine ⟨_, _, G', .m B.length, (s.gr).trans g2, m2, .m (as := []) ?_, h⟩
      have hl := m.cells.len
      rw [← hl, List.getElem?_append_right (Nat.le_refl _), Nat.sub_self]
      rfl

/-! ### reading -/
/-- v is the data d: frozen, or a list that stands in a cell -/
inductive Top (K : PySem.W.Frag) (G H : Hp) : V → PyData → Prop
  | sc {v : V} {d : PyData} : Dq K G v d → Top K G H v d
  | ls {a : Addr} {vs : List V} {ds : List PyData} : H a = some (.lst vs) → DqAll K G vs ds → Top K G H (.ref a) (.list ds)
  | kt {a : Addr} {xs : List V} {ds : List PyData} : SqT K (fun _ => none) a xs → DqAll K (fun _ => none) xs ds → Top K G H (.ref a) (.tuple ds)
theorem Top.mono {v : V} {d : PyData} (t : Top K G H v d) (s : Stp G H G' H') : Top K G' H' v d := by
  cases t with
  | sc h => exact .sc (dq_mono s.gx h)
  | ls e h => exact .ls (s.hx _ _ e) (dqAll_mono s.gx h)
  | kt h e => exact .kt h e
theorem Top.dp {v : V} {d : PyData} (e : Ext G H) (t : Top K G H v d) : Dp K H v d := by
  cases t with
  | sc h => exact dq_dp (dq_mono e h)
  | ls q h => exact .lst (SqL.of q) (dqAll_dp (dqAll_mono e h))
  | kt q h => exact .tup (sqT_any q) (dqAll_dp (dqAll_mono ex_nil h))
theorem Top.list {v : V} {ds : List PyData} (e : Ext G H) (t : Top K G H v (.list ds)) : ∃ a vs, v = .ref a ∧ H a = some (.lst vs) ∧ DqAll K G vs ds := by
  cases t with
  | sc h => cases h with | lst q d => exact ⟨_, _, rfl, e _ _ q, d⟩
  | ls q d => exact ⟨_, _, rfl, q, d⟩
theorem Top.tuple {v : V} {ds : List PyData} (e : Ext G H) (t : Top K G H v (.tuple ds)) : ∃ a vs, v = .ref a ∧ SqT K H a vs ∧ DqAll K G vs ds := by
  cases t with
  | sc h =>
    cases h with
    | tup q d => exact ⟨_, _, rfl, SqT.of (e _ _ q), d⟩
  | kt q d => exact ⟨_, _, rfl, sqT_any q, dqAll_mono ex_nil d⟩
theorem Top.int {v : V} {i : Int} (t : Top K G H v (.int i)) : v = .int i := by
  cases t with
  | sc h => cases h; rfl
theorem Top.str {v : V} {i : Str} (t : Top K G H v (.str i)) : v = .str i := by
  cases t with
  | sc h => cases h; rfl
theorem Top.bool {v : V} {i : Bool} (t : Top K G H v (.bool i)) : v = .bl i := by
  cases t with
  | sc h => cases h; rfl
theorem Top.none {v : V} (t : Top K G H v .none) : v = .non := by
  cases t with
  | sc h => cases h; rfl
def rd (B : Mem) : AV → Option PyData
  | .d x => some x
  | .kt ds => some (.tuple ds)
  | .sc _ => none
  | .m k => match B[k]? with
    | some (.lst ds) => some (.list ds)
    | _ => none
  | .r k i => match B[k]? with
    | some (.mat rows) => rows[i]?.map .list
    | _ => none
theorem rows_get : ∀ {rs : List Addr} {rows : List (List PyData)} {i : Nat} {a : Addr}, RowsOk K G H rs rows → rs[i]? = some a → ∃ row vs, rows[i]? = some row ∧ H a = some (.lst vs) ∧ DqAll K G vs row
  | _, _, _, _, .nil, e => by simp at e
  | _, _, 0, _, .cons h d _, e => by
    simp at e
    subst e
    exact ⟨_, _, rfl, h, d⟩
  | _, _, i + 1, _, .cons _ _ t, e => by
    simp at e
    obtain ⟨row, vs, h1, h2⟩ := rows_get t e
    exact ⟨row, vs, by simpa using h1, h2⟩
theorem rd_top {v : V} {w : AV} {d : PyData} (m : MemOk K θ B G H) (h : AVok K G θ v w) (e : rd B w = some d) : Top K G H v d := by
  cases h with
  | d h => cases e; exact .sc h
  | kt h d => cases e; exact .kt h d
  | sc _ => cases e
  | @m k a as hk =>
    obtain ⟨c, hb, hc⟩ := m.cells.get hk
    simp only [rd, hb] at e
    cases hc with
    | lst q dd => cases e; exact .ls q dd
    | mat _ _ => cases e
    | dK _ _ => cases e
    | dT _ _ => cases e
    | lk _ _ => cases e
  | @r k i a b as hk hi =>
    obtain ⟨c, hb, hc⟩ := m.cells.get hk
    simp only [rd, hb] at e
    cases hc with
    | mat q rr =>
      obtain ⟨row, vs, h1, h2, h3⟩ := rows_get rr hi
      simp only [h1, Option.map_some, Option.some.injEq] at e
      subst e
      exact .ls h2 h3
    | lst _ _ => cases e
    | dK _ _ => cases e
    | dT _ _ => cases e
    | lk _ _ => cases e
/-- with the data that a value is -/
def wD (B : Mem) (w : AV) (k : PyData → Prop) : Prop := match rd B w with
  | some d => k d
  | none => False
theorem wD_of {v : V} {w : AV} {k : PyData → Prop} (m : MemOk K θ B G H) (h : AVok K G θ v w) (e : wD B w k) : ∃ d, Top K G H v d ∧ k d := by
  unfold wD at e
  split at e
  · rename_i d hd
    exact ⟨d, rd_top m h hd, e⟩
  · exact e.elim
end
end Dl

namespace Dl
open L2 PySem PyProof.Rows PySem.Spec

abbrev FE := Env → Mem → Kt → Prop
abbrev FA := Env → Mem → (List AV → Mem → Prop) → Prop
abbrev FTt := Env → Mem → (Bool → Mem → Prop) → Prop

/-- the reading of an expression whose meaning over data and cells is f -/
def tf (K : PySem.W.Frag) (f : FE) : TE := fun σ H Q => ∃ θ A B G k, StOk K θ A B σ G H ∧ f A B k ∧ ∀ θ' B' G' H' v w, Gr θ θ' G H G' H' → StOk K θ' A B' σ G' H' → AVok K G' θ' v w → k w B' → Q v H'
def tfA (K : PySem.W.Frag) (f : FA) : TA := fun σ H Q => ∃ θ A B G k, StOk K θ A B σ G H ∧ f A B k ∧ ∀ θ' B' G' H' vs ws, Gr θ θ' G H G' H' → StOk K θ' A B' σ G' H' → AVs K G' θ' vs ws → k ws B' → Q vs H'
def tfT (K : PySem.W.Frag) (f : FTt) : TT := fun σ H Q => ∃ θ A B G k, StOk K θ A B σ G H ∧ f A B k ∧ ∀ θ' B' G' H' b, Gr θ θ' G H G' H' → StOk K θ' A B' σ G' H' → k b B' → Q b H'
structure PD (X : Cx) (e : Expr) (f : FE) : Prop where
  pe : PE X e (tf X.K f)
structure PDA (X : Cx) (es : List Expr) (f : FA) : Prop where
  pa : PA X es (tfA X.K f)
structure PDT (X : Cx) (e : Expr) (f : FTt) : Prop where
  pt : PT X e (tfT X.K f)
theorem PE.imp {X : Cx} {e : Expr} {t t' : TE} (h : PE X e t) (i : ∀ σ H Q, t' σ H Q → t σ H Q) : PE X e t' := ⟨fun pins s σ H Q I w => h.run pins s σ H Q I (i σ H Q w)⟩
theorem PA.imp {X : Cx} {es : List Expr} {t t' : TA} (h : PA X es t) (i : ∀ σ H Q, t' σ H Q → t σ H Q) : PA X es t' := ⟨fun pos pins s σ H Q I w => h.run pos pins s σ H Q I (i σ H Q w)⟩
theorem PT.imp {X : Cx} {e : Expr} {t t' : TT} (h : PT X e t) (i : ∀ σ H Q, t' σ H Q → t σ H Q) : PT X e t' := ⟨fun pins s σ H Q I w => h.run pins s σ H Q I (i σ H Q w)⟩
theorem PW.imp {X : Cx} {e : Expr} {t t' : TT} (h : PW X e t) (i : ∀ σ H Q, t' σ H Q → t σ H Q) : PW X e t' := ⟨fun wh pins s σ H Q I w => h.run wh pins s σ H Q I (i σ H Q w)⟩

/-- the k-th slot's value -/
def fVar (i : Nat) : FE := fun A B k => match A[i]? with
  | some (some w) => k w B
  | _ => False
def fC (x : PyData) : FE := fun _ B k => k (.d x) B
/-- two values, then r -/
def fOp (r : AV → AV → Mem → Kt → Prop) (fa fb : FE) : FE := fun A B k => fa A B fun x B1 => fb A B1 fun y B2 => r x y B2 k
def fUn (r : AV → Mem → Kt → Prop) (fa : FE) : FE := fun A B k => fa A B fun x B1 => r x B1 k

section
variable {X : Cx} {K : PySem.W.Frag} {θ : Th} {A : Env} {B : Mem} {σ : L2.St} {G H : Hp} {e a b c : Expr} {es : List Expr} {pos : Pos} {f fa fb fc : FE} {fs : FA} {t u : FTt}

theorem pd_var {i : Nat} (h : PE X e (tVar i)) : PD X e (fVar i) := ⟨PE.imp h fun σ H Q w => by
  obtain ⟨θ, A, B, G, k, S, hf, q⟩ := w
  unfold fVar at hf
  split at hf
  · rename_i w e
    obtain ⟨v, h1, h2⟩ := S.slots.2 i w e
    exact ⟨v, h1, q θ B G H v w Gr.refl S h2 hf⟩
  · exact hf.elim⟩
theorem pd_c {v : V} {x : PyData} (h : PE X e (tC v)) (hd : Dq X.K (fun _ => none) v x) : PD X e (fC x) := ⟨PE.imp h fun σ H Q w => by
  obtain ⟨θ, A, B, G, k, S, hf, q⟩ := w
  exact q θ B G H v _ Gr.refl S (.d (dq_mono (fun _ _ z => by cases z) hd)) hf⟩

/-- an operation on two values and its meaning -/
def RD2 (K : PySem.W.Frag) (r : R2) (a : AV → AV → Mem → Kt → Prop) : Prop := ∀ (θ : Th) (A : Env) (B : Mem) (σ : L2.St) (G H : Hp) (v u : V) (x y : AV) (k : Kt) (Q : VK), StOk K θ A B σ G H → AVok K G θ v x → AVok K G θ u y → a x y B k →
  (∀ θ' B' G' H' z w, Gr θ θ' G H G' H' → StOk K θ' A B' σ G' H' → AVok K G' θ' z w → k w B' → Q z H') → r v u H Q
def RD1 (K : PySem.W.Frag) (r : V → Hp → VK → Prop) (a : AV → Mem → Kt → Prop) : Prop := ∀ (θ : Th) (A : Env) (B : Mem) (σ : L2.St) (G H : Hp) (v : V) (x : AV) (k : Kt) (Q : VK), StOk K θ A B σ G H → AVok K G θ v x → a x B k →
  (∀ θ' B' G' H' z w, Gr θ θ' G H G' H' → StOk K θ' A B' σ G' H' → AVok K G' θ' z w → k w B' → Q z H') → r v H Q
def RDL (K : PySem.W.Frag) (r : List V → Hp → VK → Prop) (a : List AV → Mem → Kt → Prop) : Prop := ∀ (θ : Th) (A : Env) (B : Mem) (σ : L2.St) (G H : Hp) (vs : List V) (xs : List AV) (k : Kt) (Q : VK), StOk K θ A B σ G H → AVs K G θ vs xs → a xs B k →
  (∀ θ' B' G' H' z w, Gr θ θ' G H G' H' → StOk K θ' A B' σ G' H' → AVok K G' θ' z w → k w B' → Q z H') → r vs H Q
theorem pd_op {r : R2} {a2 : AV → AV → Mem → Kt → Prop} (ha : PD X a fa) (hb : PD X b fb) (hr : RD2 X.K r a2) (h : ∀ ta tb, PE X a ta → PE X b tb → PE X e (tOp r ta tb)) : PD X e (fOp a2 fa fb) := ⟨PE.imp (h _ _ ha.pe hb.pe) fun σ H Q w => by
  obtain ⟨θ, A, B, G, k, S, hf, q⟩ := w
  refine ⟨θ, A, B, G, _, S, hf, fun θ1 B1 G1 H1 v x g1 S1 hv k1 => ?_⟩
  refine ⟨θ1, A, B1, G1, _, S1, k1, fun θ2 B2 G2 H2 u y g2 S2 hu k2 => ?_⟩
  refine hr θ2 A B2 σ G2 H2 v u x y k Q S2 (hv.gr g2) hu k2 fun θ3 B3 G3 H3 z w g3 S3 hz k3 => ?_
  exact q θ3 B3 G3 H3 z w ((g1.trans g2).trans g3) S3 hz k3⟩
theorem pd_un {r : V → Hp → VK → Prop} {a1 : AV → Mem → Kt → Prop} (ha : PD X a fa) (hr : RD1 X.K r a1) (h : ∀ ta, PE X a ta → PE X e (tUn r ta)) : PD X e (fUn a1 fa) := ⟨PE.imp (h _ ha.pe) fun σ H Q w => by
  obtain ⟨θ, A, B, G, k, S, hf, q⟩ := w
  refine ⟨θ, A, B, G, _, S, hf, fun θ1 B1 G1 H1 v x g1 S1 hv k1 => ?_⟩
  exact hr θ1 A B1 σ G1 H1 v x k Q S1 hv k1 fun θ3 B3 G3 H3 z w g3 S3 hz k3 => q θ3 B3 G3 H3 z w (g1.trans g3) S3 hz k3⟩
/-- f(args) by values -/
def fL (r : List AV → Mem → Kt → Prop) (fs : FA) : FE := fun A B k => fs A B fun xs B1 => r xs B1 k
theorem pd_call {r : List V → Hp → VK → Prop} {al : List AV → Mem → Kt → Prop} (ha : PDA X es fs) (hr : RDL X.K r al) (h : ∀ ta, PA X es ta → PE X e (tCB r ta)) : PD X e (fL al fs) := ⟨PE.imp (h _ ha.pa) fun σ H Q w => by
  obtain ⟨θ, A, B, G, k, S, hf, q⟩ := w
  refine ⟨θ, A, B, G, _, S, hf, fun θ1 B1 G1 H1 vs xs g1 S1 hv k1 => ?_⟩
  exact hr θ1 A B1 σ G1 H1 vs xs k Q S1 hv k1 fun θ3 B3 G3 H3 z w g3 S3 hz k3 => q θ3 B3 G3 H3 z w (g1.trans g3) S3 hz k3⟩
def fNil : FA := fun _ B k => k [] B
def fCons (fa : FE) (fs : FA) : FA := fun A B k => fa A B fun x B1 => fs A B1 fun xs B2 => k (x :: xs) B2
theorem pda_nil : PDA X [] fNil := ⟨PA.imp pa_nil fun σ H Q w => by
  obtain ⟨θ, A, B, G, k, S, hf, q⟩ := w
  exact q θ B G H [] [] Gr.refl S .nil hf⟩
theorem pda_cons (ha : PD X a fa) (hs : PDA X es fs) (h : starEach (a :: es) X.env = (false, eval a X.env) :: starEach es X.env) : PDA X (a :: es) (fCons fa fs) := ⟨PA.imp (pa_cons ha.pe hs.pa h) fun σ H Q w => by
  obtain ⟨θ, A, B, G, k, S, hf, q⟩ := w
  refine ⟨θ, A, B, G, _, S, hf, fun θ1 B1 G1 H1 v x g1 S1 hv k1 => ?_⟩
  refine ⟨θ1, A, B1, G1, _, S1, k1, fun θ2 B2 G2 H2 us ys g2 S2 hu k2 => ?_⟩
  exact q θ2 B2 G2 H2 _ _ (g1.trans g2) S2 (.cons (hv.gr g2) hu) k2⟩

/-! ### truth -/
def aTru (x : AV) (B : Mem) (k : Bool → Prop) : Prop := match x with
  | .d .none => k false
  | .d (.bool b) => k b
  | .d (.int i) => k (i != 0)
  | .d (.str y) => y.length ≤ sizeLine ∧ k ((y.length : Int) != 0)
  | .d (.list xs) => k (!xs.isEmpty)
  | .d (.tuple xs) => k (!xs.isEmpty)
  | .kt xs => k (!xs.isEmpty)
  | .m j => match B[j]? with
    | some (.lst xs) => k (!xs.isEmpty)
    | some (.dK kvs) => k (!kvs.isEmpty)
    | _ => False
  | _ => False
theorem kv_empty {κ : Type} {vs : List (κ × V)} {ds : List (κ × PyData)} (h : KvOk K G vs ds) : vs.isEmpty = ds.isEmpty := by
  cases h <;> rfl
theorem dq_empty {vs : List V} {ds : List PyData} (h : DqAll K G vs ds) : vs.isEmpty = ds.isEmpty := by
  cases h <;> rfl
theorem tru_of {v : V} {x : AV} {k : Bool → Prop} (S : StOk K θ A B σ G H) (hv : AVok K G θ v x) (h : aTru x B k) : ∃ b, TruV K v H b ∧ k b := by
  cases hv with
  | @d v x hd =>
    cases hd with
    | non => exact ⟨false, rfl, h⟩
    | bl b => exact ⟨b, rfl, h⟩
    | int i => exact ⟨_, rfl, h⟩
    | str y => exact ⟨_, ⟨h.1, rfl⟩, h.2⟩
    | lst e d => exact ⟨_, .inl ⟨_, SqL.of (S.mem.ex _ _ e), rfl⟩, by rw [dq_empty d]; exact h⟩
    | tup e d => exact ⟨_, .inr (.inl ⟨_, SqT.of (S.mem.ex _ _ e), rfl⟩), by rw [dq_empty d]; exact h⟩
  | @m j a as hk =>
    obtain ⟨c, hb, hc⟩ := S.mem.cells.get hk
    simp only [aTru, hb] at h
    cases hc with
    | lst e d => exact ⟨_, .inl ⟨_, SqL.of e, rfl⟩, by rw [dq_empty d]; exact h⟩
    | dK e d => exact ⟨_, .inr (.inr ⟨_, e, rfl⟩), by rw [kv_empty d]; exact h⟩
    | mat _ _ => exact h.elim
    | dT _ _ => exact h.elim
    | lk _ _ => exact h.elim
  | kt e d => exact ⟨_, .inr (.inl ⟨_, sqT_any e, rfl⟩), by rw [dq_empty d]; exact h⟩
  | sc _ => exact h.elim
  | r _ _ => exact h.elim
def fTru (fa : FE) : FTt := fun A B k => fa A B fun x B1 => aTru x B1 fun b => k b B1
def plainTest (X : Cx) (e : Expr) : Prop := ∀ whole, isTrue e X.env whole = (do let v ← whole; standAt e.pos; holding [v] (truthy v))
theorem pdt_tru (ha : PD X a fa) (he : plainTest X a) : PDT X a (fTru fa) := ⟨PT.imp (pt_truth ha.pe he) fun σ H Q w => by
  obtain ⟨θ, A, B, G, k, S, hf, q⟩ := w
  refine ⟨θ, A, B, G, _, S, hf, fun θ1 B1 G1 H1 v x g1 S1 hv k1 => ?_⟩
  obtain ⟨b, h1, h2⟩ := tru_of S1 hv k1
  exact ⟨b, h1, q θ1 B1 G1 H1 b g1 S1 h2⟩⟩
/-- a comparison, as a test: its value is a bool -/
def boolK (x : AV) (P : Bool → Prop) : Prop := match x with
  | .d (.bool b) => P b
  | _ => False
theorem boolK_of {v : V} {x : AV} {P : Bool → Prop} (hv : AVok K G θ v x) (h : boolK x P) : ∃ b, x = .d (.bool b) ∧ v = .bl b ∧ P b := by
  unfold boolK at h
  split at h
  · rename_i b
    cases hv with
    | d q => cases q; exact ⟨b, rfl, rfl, h⟩
  · exact h.elim
def fBool (fa : FE) : FTt := fun A B k => fa A B fun x B1 => boolK x fun b => k b B1
theorem tf_bool {K : PySem.W.Frag} {σ : L2.St} {H : Hp} {Q : Bool → Hp → Prop} (w : tfT K (fBool fa) σ H Q) : tTest (tf K fa) σ H Q := by
  obtain ⟨θ, A, B, G, k, S, hf, q⟩ := w
  refine ⟨θ, A, B, G, _, S, hf, fun θ1 B1 G1 H1 v x g1 S1 hv k1 => ?_⟩
  obtain ⟨b, rfl, rfl, k1⟩ := boolK_of hv k1
  exact ⟨b, rfl, q θ1 B1 G1 H1 b g1 S1 k1⟩
theorem pdt_op {r : R2} {a2 : AV → AV → Mem → Kt → Prop} (ha : PD X a fa) (hb : PD X b fb) (hr : RD2 X.K r a2) (h : ∀ ta tb, PE X a ta → PE X b tb → PT X e (tTest (tOp r ta tb))) : PDT X e (fBool (fOp a2 fa fb)) := ⟨PT.imp (h _ _ ha.pe hb.pe) fun σ H Q w => by
  obtain ⟨θ, A, B, G, k, S, hf, q⟩ := w
  refine ⟨θ, A, B, G, _, S, hf, fun θ1 B1 G1 H1 v x g1 S1 hv k1 => ?_⟩
  refine ⟨θ1, A, B1, G1, _, S1, k1, fun θ2 B2 G2 H2 u y g2 S2 hu k2 => ?_⟩
  refine hr θ2 A B2 σ G2 H2 v u x y _ _ S2 (hv.gr g2) hu k2 fun θ3 B3 G3 H3 z w g3 S3 hz k3 => ?_
  obtain ⟨b, rfl, rfl, k3⟩ := boolK_of hz k3
  exact ⟨b, rfl, q θ3 B3 G3 H3 b ((g1.trans g2).trans g3) S3 k3⟩⟩
def fNot (t : FTt) : FTt := fun A B k => t A B fun b B1 => k (!b) B1
def fAnd (t u : FTt) : FTt := fun A B k => t A B fun b B1 => (b = true → u A B1 k) ∧ (b = false → k false B1)
def fOr (t u : FTt) : FTt := fun A B k => t A B fun b B1 => (b = true → k true B1) ∧ (b = false → u A B1 k)
theorem pdt_not (h : PDT X a t) : PDT X (.UnaryOp .Not a pos) (fNot t) := ⟨PT.imp (pt_not h.pt) fun σ H Q w => by
  obtain ⟨θ, A, B, G, k, S, hf, q⟩ := w
  exact ⟨θ, A, B, G, _, S, hf, fun θ1 B1 G1 H1 b g1 S1 k1 => q θ1 B1 G1 H1 _ g1 S1 k1⟩⟩
theorem tfT_and {σ : L2.St} {H : Hp} {Q : Bool → Hp → Prop} (w : tfT K (fAnd t u) σ H Q) : tAnd (tfT K t) (tfT K u) σ H Q := by
  obtain ⟨θ, A, B, G, k, S, hf, q⟩ := w
  refine ⟨θ, A, B, G, _, S, hf, fun θ1 B1 G1 H1 b g1 S1 k1 => ?_⟩
  cases b with
  | true => exact ⟨θ1, A, B1, G1, k, S1, k1.1 rfl, fun θ2 B2 G2 H2 b g2 S2 k2 => q θ2 B2 G2 H2 b (g1.trans g2) S2 k2⟩
  | false => exact q θ1 B1 G1 H1 false g1 S1 (k1.2 rfl)
theorem tfT_or {σ : L2.St} {H : Hp} {Q : Bool → Hp → Prop} (w : tfT K (fOr t u) σ H Q) : tOr (tfT K t) (tfT K u) σ H Q := by
  obtain ⟨θ, A, B, G, k, S, hf, q⟩ := w
  refine ⟨θ, A, B, G, _, S, hf, fun θ1 B1 G1 H1 b g1 S1 k1 => ?_⟩
  cases b with
  | false => exact ⟨θ1, A, B1, G1, k, S1, k1.2 rfl, fun θ2 B2 G2 H2 b g2 S2 k2 => q θ2 B2 G2 H2 b (g1.trans g2) S2 k2⟩
  | true => exact q θ1 B1 G1 H1 true g1 S1 (k1.1 rfl)
/-- and, or as tests -/
structure PDW (X : Cx) (e : Expr) (f : FTt) : Prop where
  pw : PW X e (tfT X.K f)
theorem PDW.pt (h : PDW X e t) : PDT X e t := ⟨h.pw.pt⟩
theorem pdw_and1 (h : PDT X a t) : PDW X (.BoolOp .And [a] pos) t := ⟨pw_and1 h.pt⟩
theorem pdw_or1 (h : PDT X a t) : PDW X (.BoolOp .Or [a] pos) t := ⟨pw_or1 h.pt⟩
theorem pdw_and (ha : PDT X a t) (hb : PDW X (.BoolOp .And (b :: es) pos) u) : PDW X (.BoolOp .And (a :: b :: es) pos) (fAnd t u) := ⟨PW.imp (pw_and ha.pt hb.pw) fun σ H Q w => tfT_and w⟩
theorem pdw_or (ha : PDT X a t) (hb : PDW X (.BoolOp .Or (b :: es) pos) u) : PDW X (.BoolOp .Or (a :: b :: es) pos) (fOr t u) := ⟨PW.imp (pw_or ha.pt hb.pw) fun σ H Q w => tfT_or w⟩
/-! ### and, or, not as values -/
def fAndV (fa fb : FE) : FE := fun A B k => fa A B fun x B1 => aTru x B1 fun b => (b = true → fb A B1 k) ∧ (b = false → k x B1)
def fOrV (fa fb : FE) : FE := fun A B k => fa A B fun x B1 => aTru x B1 fun b => (b = true → k x B1) ∧ (b = false → fb A B1 k)
def fNotV (fa : FE) : FE := fun A B k => fa A B fun x B1 => aTru x B1 fun b => k (.d (.bool (!b))) B1
theorem pd_one {op} (h : PD X a fa) : PD X (.BoolOp op [a] pos) fa := ⟨pe_one h.pe⟩
theorem pd_and (ha : PD X a fa) (hb : PD X (.BoolOp .And (b :: es) pos) fb) : PD X (.BoolOp .And (a :: b :: es) pos) (fAndV fa fb) := ⟨PE.imp (pe_andT ha.pe hb.pe) fun σ H Q w => by
  obtain ⟨θ, A, B, G, k, S, hf, q⟩ := w
  refine ⟨θ, A, B, G, _, S, hf, fun θ1 B1 G1 H1 v x g1 S1 hv k1 => ?_⟩
  obtain ⟨b, h1, h2⟩ := tru_of S1 hv k1
  refine ⟨b, h1, ?_⟩
  cases b with
  | true => exact ⟨θ1, A, B1, G1, k, S1, h2.1 rfl, fun θ2 B2 G2 H2 v w g2 S2 hv k2 => q θ2 B2 G2 H2 v w (g1.trans g2) S2 hv k2⟩
  | false => exact q θ1 B1 G1 H1 v x g1 S1 hv (h2.2 rfl)⟩
theorem pd_or (ha : PD X a fa) (hb : PD X (.BoolOp .Or (b :: es) pos) fb) : PD X (.BoolOp .Or (a :: b :: es) pos) (fOrV fa fb) := ⟨PE.imp (pe_orT ha.pe hb.pe) fun σ H Q w => by
  obtain ⟨θ, A, B, G, k, S, hf, q⟩ := w
  refine ⟨θ, A, B, G, _, S, hf, fun θ1 B1 G1 H1 v x g1 S1 hv k1 => ?_⟩
  obtain ⟨b, h1, h2⟩ := tru_of S1 hv k1
  refine ⟨b, h1, ?_⟩
  cases b with
  | false => exact ⟨θ1, A, B1, G1, k, S1, h2.2 rfl, fun θ2 B2 G2 H2 v w g2 S2 hv k2 => q θ2 B2 G2 H2 v w (g1.trans g2) S2 hv k2⟩
  | true => exact q θ1 B1 G1 H1 v x g1 S1 hv (h2.1 rfl)⟩
theorem pd_not (ha : PD X a fa) : PD X (.UnaryOp .Not a pos) (fNotV fa) := ⟨PE.imp (pe_notT ha.pe) fun σ H Q w => by
  obtain ⟨θ, A, B, G, k, S, hf, q⟩ := w
  refine ⟨θ, A, B, G, _, S, hf, fun θ1 B1 G1 H1 v x g1 S1 hv k1 => ?_⟩
  obtain ⟨b, h1, h2⟩ := tru_of S1 hv k1
  exact ⟨b, h1, q θ1 B1 G1 H1 _ _ g1 S1 (.d (.bl _)) h2⟩⟩
def fIf (t : FTt) (fa fb : FE) : FE := fun A B k => t A B fun b B1 => (b = true → fa A B1 k) ∧ (b = false → fb A B1 k)
theorem pd_ifExp (ht : PDT X c t) (ha : PD X a fa) (hb : PD X b fb) : PD X (.IfExp c a b pos) (fIf t fa fb) := ⟨PE.imp (pe_ifExp ht.pt ha.pe hb.pe) fun σ H Q w => by
  obtain ⟨θ, A, B, G, k, S, hf, q⟩ := w
  refine ⟨θ, A, B, G, _, S, hf, fun θ1 B1 G1 H1 b g1 S1 k1 => ?_⟩
  cases b with
  | true => exact ⟨θ1, A, B1, G1, k, S1, k1.1 rfl, fun θ2 B2 G2 H2 v w g2 S2 hv k2 => q θ2 B2 G2 H2 v w (g1.trans g2) S2 hv k2⟩
  | false => exact ⟨θ1, A, B1, G1, k, S1, k1.2 rfl, fun θ2 B2 G2 H2 v w g2 S2 hv k2 => q θ2 B2 G2 H2 v w (g1.trans g2) S2 hv k2⟩⟩
/-- a op1 b op2 c -/
def fChain (r r' : AV → AV → Mem → Kt → Prop) (fa fb fc : FE) : FE := fun A B k => fa A B fun x B1 => fb A B1 fun y B2 => r x y B2 fun z B3 => boolK z fun b => (b = true → fc A B3 fun w B4 => r' y w B4 k) ∧ (b = false → k (.d (.bool false)) B3)
theorem tf_chain {r r' : R2} {a2 a2' : AV → AV → Mem → Kt → Prop} (hr : RD2 K r a2) (hr' : RD2 K r' a2') {σ : L2.St} {H : Hp} {Q : VK} (w : tf K (fChain a2 a2' fa fb fc) σ H Q) : tChain r r' (tf K fa) (tf K fb) (tf K fc) σ H Q := by
  obtain ⟨θ, A, B, G, k, S, hf, q⟩ := w
  refine ⟨θ, A, B, G, _, S, hf, fun θ1 B1 G1 H1 v x g1 S1 hv k1 => ?_⟩
  refine ⟨θ1, A, B1, G1, _, S1, k1, fun θ2 B2 G2 H2 u y g2 S2 hu k2 => ?_⟩
  refine hr θ2 A B2 σ G2 H2 v u x y _ _ S2 (hv.gr g2) hu k2 fun θ3 B3 G3 H3 z w g3 S3 hz k3 => ?_
  obtain ⟨b, rfl, rfl, k3⟩ := boolK_of hz k3
  cases b with
  | true =>
    refine ⟨true, rfl, ?_⟩
    refine ⟨θ3, A, B3, G3, _, S3, k3.1 rfl, fun θ4 B4 G4 H4 z w g4 S4 hz k4 => ?_⟩
    exact hr' θ4 A B4 σ G4 H4 u z y w k Q S4 ((hu.gr g3).gr g4) hz k4 fun θ5 B5 G5 H5 z w g5 S5 hz k5 => q θ5 B5 G5 H5 z w ((((g1.trans g2).trans g3).trans g4).trans g5) S5 hz k5
  | false => exact ⟨false, rfl, q θ3 B3 G3 H3 _ _ ((g1.trans g2).trans g3) S3 (.d (.bl _)) (k3.2 rfl)⟩
theorem pd_chain {r r' : R2} {a2 a2' : AV → AV → Mem → Kt → Prop} (ha : PD X a fa) (hb : PD X b fb) (hc : PD X c fc) (hr : RD2 X.K r a2) (hr' : RD2 X.K r' a2') (h : ∀ ta tb tc, PE X a ta → PE X b tb → PE X c tc → PE X e (tChain r r' ta tb tc)) : PD X e (fChain a2 a2' fa fb fc) :=
  ⟨PE.imp (h _ _ _ ha.pe hb.pe hc.pe) fun σ H Q w => tf_chain hr hr' w⟩
theorem pdt_chain {r r' : R2} {a2 a2' : AV → AV → Mem → Kt → Prop} (ha : PD X a fa) (hb : PD X b fb) (hc : PD X c fc) (hr : RD2 X.K r a2) (hr' : RD2 X.K r' a2') (h : ∀ ta tb tc, PE X a ta → PE X b tb → PE X c tc → PT X e (tTest (tChain r r' ta tb tc))) : PDT X e (fBool (fChain a2 a2' fa fb fc)) :=
  ⟨PT.imp (h _ _ _ ha.pe hb.pe hc.pe) fun σ H Q w => by
    obtain ⟨θ, A, B, G, k, S, hf, q⟩ := w
    refine tf_chain (Q := fun x H' => ∃ k, x = .bl k ∧ Q k H') hr hr' ⟨θ, A, B, G, _, S, hf, fun θ1 B1 G1 H1 v x g1 S1 hv k1 => ?_⟩
    obtain ⟨b, rfl, rfl, k1⟩ := boolK_of hv k1
    exact ⟨b, rfl, q θ1 B1 G1 H1 b g1 S1 k1⟩⟩

/-! ### displays -/
/-- all of them data -/
def wDs (B : Mem) : List AV → (List PyData → Prop) → Prop
  | [], k => k []
  | .d x :: ws, k => wDs B ws fun xs => k (x :: xs)
  | _ :: _, _ => False
theorem wDs_of : ∀ {vs : List V} {ws : List AV} {k : List PyData → Prop}, AVs K G θ vs ws → wDs B ws k → ∃ xs, DqAll K G vs xs ∧ k xs
  | _, _, _, .nil, h => ⟨[], .nil, h⟩
  | _, _, k, .cons hv t, h => by
    cases hv with
    | d hd =>
      obtain ⟨xs, h1, h2⟩ := wDs_of t h
      exact ⟨_ :: xs, .cons hd h1, h2⟩
    | kt _ _ => exact h.elim
    | sc _ => exact h.elim
    | m _ => exact h.elim
    | r _ _ => exact h.elim
def fTup (fs : FA) : FE := fun A B k => fs A B fun ws B1 => wDs B1 ws fun xs => xs.length ≤ sizeLine ∧ k (.d (.tuple xs)) B1
def fLst (fs : FA) : FE := fun A B k => fs A B fun ws B1 => wDs B1 ws fun xs => xs.length ≤ sizeLine ∧ newL xs B1 k
theorem pd_tup {x1} (h : PDA X es fs) : PD X (.Tuple es x1 pos) (fTup fs) := ⟨PE.imp (pe_tup h.pa) fun σ H Q w => by
  obtain ⟨θ, A, B, G, k, S, hf, q⟩ := w
  refine ⟨θ, A, B, G, _, S, hf, fun θ1 B1 G1 H1 vs ws g1 S1 hv k1 => ?_⟩
  obtain ⟨xs, h1, h2, h3⟩ := wDs_of hv k1
  refine ⟨by rw [dqAll_len h1]; exact h2, fun p hp => ?_⟩
  have s := Stp.new (o := .tup vs) S1.mem.ex hp
  exact q θ1 B1 _ _ _ _ (g1.trans s.gr) ⟨s.mem S1.mem, S1.slots.mono s.gx (List.prefix_refl _)⟩ (.d (.tup upd_same (dqAll_mono s.gx h1))) h3⟩
theorem st_fin {z : V} {G' H' : Hp} {res : Res} {k : Kt} {Q : VK} (S : StOk K θ A B σ G H) (r : ResOk K G H G' H' z res) (h : wpR B k res) (q : ∀ θ' B' G' H' z w, Gr θ θ' G H G' H' → StOk K θ' A B' σ G' H' → AVok K G' θ' z w → k w B' → Q z H') : Q z H' := by
  obtain ⟨θ', B', G2, w, g, m, hv, hk⟩ := res_fin S.mem r h
  exact q θ' B' G2 H' z w g ⟨m, S.slots.mono g.gx g.th⟩ hv hk
theorem pd_lst (h : PDA X es fs) : PD X (.List es pos) (fLst fs) := ⟨PE.imp (pe_lst h.pa) fun σ H Q w => by
  obtain ⟨θ, A, B, G, k, S, hf, q⟩ := w
  refine ⟨θ, A, B, G, _, S, hf, fun θ1 B1 G1 H1 vs ws g1 S1 hv k1 => ?_⟩
  obtain ⟨xs, h1, h2, h3⟩ := wDs_of hv k1
  refine ⟨by rw [dqAll_len h1]; exact h2, fun p hp => ?_⟩
  exact st_fin S1 (.l (Stp.refl S1.mem.ex) hp rfl h1) (show wpR B1 k (.l xs) from h3) fun θ2 B2 G2 H2 z w g2 S2 hz k2 => q θ2 B2 G2 H2 z w (g1.trans g2) S2 hz k2⟩
end
end Dl

namespace Dl
open L2 PySem PyProof.Rows PySem.Spec

abbrev Kr := Res → Prop
/-- an operation on data -/
def aD2 (a : PyData → PyData → Kr → Prop) : AV → AV → Mem → Kt → Prop := fun x y B k => wD B x fun d => wD B y fun e => a d e (wpR B k)
def aD1 (a : PyData → Kr → Prop) : AV → Mem → Kt → Prop := fun x B k => wD B x fun d => a d (wpR B k)
def wDL (B : Mem) : List AV → (List PyData → Prop) → Prop
  | [], k => k []
  | w :: ws, k => wD B w fun x => wDL B ws fun xs => k (x :: xs)
def aDL (a : List PyData → Kr → Prop) : List AV → Mem → Kt → Prop := fun xs B k => wDL B xs fun ds => a ds (wpR B k)
section
variable {K : PySem.W.Frag} {θ : Th} {A : Env} {B : Mem} {σ : L2.St} {G H : Hp}
abbrev Tops (K : PySem.W.Frag) (G H : Hp) : List V → List PyData → Prop := Paired (Top K G H)
theorem wDL_of : ∀ {vs : List V} {ws : List AV} {k : List PyData → Prop}, MemOk K θ B G H → AVs K G θ vs ws → wDL B ws k → ∃ ds, Tops K G H vs ds ∧ k ds
  | _, _, _, m, .nil, h => ⟨[], .nil, h⟩
  | _, _, k, m, .cons hv t, h => by
    obtain ⟨d, h1, h2⟩ := wD_of m hv h
    obtain ⟨ds, h3, h4⟩ := wDL_of m t h2
    exact ⟨d :: ds, .cons h1 h3, h4⟩
theorem rd2_data {r : R2} {a : PyData → PyData → Kr → Prop} (h : ∀ (G H : Hp) (v u : V) (d e : PyData) (P : Kr) (Q : VK), Ext G H → Top K G H v d → Top K G H u e → a d e P → (∀ G' H' z res, ResOk K G H G' H' z res → P res → Q z H') → r v u H Q) : RD2 K r (aD2 a) := by
  intro θ A B σ G H v u x y k Q S hv hu ha q
  obtain ⟨d, t1, h1⟩ := wD_of S.mem hv ha
  obtain ⟨e, t2, h2⟩ := wD_of S.mem hu h1
  exact h G H v u d e _ Q S.mem.ex t1 t2 h2 fun G' H' z res ro hp => st_fin S ro hp q
theorem rd1_data {r : V → Hp → VK → Prop} {a : PyData → Kr → Prop} (h : ∀ (G H : Hp) (v : V) (d : PyData) (P : Kr) (Q : VK), Ext G H → Top K G H v d → a d P → (∀ G' H' z res, ResOk K G H G' H' z res → P res → Q z H') → r v H Q) : RD1 K r (aD1 a) := by
  intro θ A B σ G H v x k Q S hv ha q
  obtain ⟨d, t1, h1⟩ := wD_of S.mem hv ha
  exact h G H v d _ Q S.mem.ex t1 h1 fun G' H' z res ro hp => st_fin S ro hp q
theorem rdl_data {r : List V → Hp → VK → Prop} {a : List PyData → Kr → Prop} (h : ∀ (G H : Hp) (vs : List V) (ds : List PyData) (P : Kr) (Q : VK), Ext G H → Tops K G H vs ds → a ds P → (∀ G' H' z res, ResOk K G H G' H' z res → P res → Q z H') → r vs H Q) : RDL K r (aDL a) := by
  intro θ A B σ G H vs xs k Q S hv ha q
  obtain ⟨ds, t1, h1⟩ := wDL_of S.mem hv ha
  exact h G H vs ds _ Q S.mem.ex t1 h1 fun G' H' z res ro hp => st_fin S ro hp q
theorem res_int {i : Int} (e : Ext G H) : ResOk K G H G H (.int i) (.v (.int i)) := .v (Stp.refl e) (.int i)
theorem res_bool {i : Bool} (e : Ext G H) : ResOk K G H G H (.bl i) (.v (.bool i)) := .v (Stp.refl e) (.bl i)
theorem res_str {i : Str} (e : Ext G H) : ResOk K G H G H (.str i) (.v (.str i)) := .v (Stp.refl e) (.str i)
theorem res_lst {p : Addr} {vs : List V} {ds : List PyData} (e : Ext G H) (hp : H p = none) (d : DqAll K G vs ds) : ResOk K G H G (upd H p (.lst vs)) (.ref p) (.l ds) := .l (Stp.refl e) hp rfl d
theorem res_tup {p : Addr} {vs : List V} {ds : List PyData} (e : Ext G H) (hp : H p = none) (d : DqAll K G vs ds) : ResOk K G H (upd G p (.tup vs)) (upd H p (.tup vs)) (.ref p) (.v (.tuple ds)) :=
  .v (Stp.new e hp) (.tup upd_same (dqAll_mono (Stp.new (o := .tup vs) e hp).gx d))
/-- an element -/
theorem res_el {v : V} {d : PyData} (e : Ext G H) (h : Dq K G v d) : ResOk K G H G H v (.v d) := .v (Stp.refl e) h

/-! ### + - * // % ** -/
def dAdd : PyData → PyData → Kr → Prop
  | .int i, .int j, k => k (.v (.int (i + j)))
  | .str s, .str t, k => s.length + t.length ≤ sizeLine ∧ k (.v (.str (s ++ t)))
  | .list xs, .list ys, k => xs.length + ys.length ≤ sizeLine ∧ k (.l (xs ++ ys))
  | .tuple xs, .tuple ys, k => xs.length + ys.length ≤ sizeLine ∧ k (.v (.tuple (xs ++ ys)))
  | _, _, _ => False
def isKt : AV → Bool
  | .kt _ => true
  | _ => false
/-- + : what would be a module's tuple itself is not carried -/
def aAddO : AV → AV → Mem → Kt → Prop := fun x y B k => (isKt x = true → rd B y ≠ some (.tuple [])) ∧ (isKt y = true → rd B x ≠ some (.tuple [])) ∧ aD2 dAdd x y B k
def aAdd : AV → AV → Mem → Kt → Prop := fun x y B k => match isKt x || isKt y with
  | true => aAddO x y B k
  | false => aD2 dAdd x y B k
theorem aAdd_o {x y : AV} {B : Mem} {k : Kt} (h : aAdd x y B k) : aAddO x y B k := by
  unfold aAdd at h
  split at h
  · exact h
  · rename_i e
    rw [Bool.or_eq_false_iff] at e
    exact ⟨fun z => absurd (e.1.symm.trans z) (by decide), fun z => absurd (e.2.symm.trans z) (by decide), h⟩
def rAddA (K : PySem.W.Frag) : R2 := fun x y H Q => rI0 (fun i j => .int (i + j)) x y H Q ∨ (∃ i j, x = .str i ∧ y = .str j ∧ i.length + j.length ≤ sizeLine ∧ Q (.str (i ++ j)) H) ∨ rCat x y H Q ∨ rCatA K x y H Q
theorem opR_or {X : Cx} {f : Value → Value → Sem Value} {r r' : R2} (h : OpR X f r) (h' : OpR X f r') : OpR X f (fun x y H Q => r x y H Q ∨ r' x y H Q) := by
  intro pins s σ H x y v u Q I rx ry q
  rcases q with q | q
  · exact h pins s σ H x y v u Q I rx ry q
  · exact h' pins s σ H x y v u Q I rx ry q
theorem op_addA {X : Cx} : OpR X (binaryOp .Add) (rAddA X.K) := opR_or op_add (opR_or op_add_str (opR_or op_cat op_catA))
theorem wD_rd {v : V} {w : AV} {k : PyData → Prop} (m : MemOk K θ B G H) (h : AVok K G θ v w) (e : wD B w k) : ∃ d, rd B w = some d ∧ Top K G H v d ∧ k d := by
  unfold wD at e
  split at e
  · rename_i d hd
    exact ⟨d, hd, rd_top m h hd, e⟩
  · exact e.elim
theorem tup_sc {v : V} {w : AV} {ds : List PyData} (m : MemOk K θ B G H) (h : AVok K G θ v w) (e : rd B w = some (.tuple ds)) (n : isKt w = false) : Dq K G v (.tuple ds) := by
  cases h with
  | d q => cases e; exact q
  | kt _ _ => cases n
  | sc _ => cases e
  | m hk =>
    unfold rd at e
    simp only at e
    split at e <;> cases e
  | @r k i a b as hk hi =>
    unfold rd at e
    simp only at e
    split at e
    · rename_i rows hb
      cases hr : rows[i]? with
      | none => rw [hr] at e; cases e
      | some _ => rw [hr] at e; cases e
    · cases e
theorem rd_add : RD2 K (rAddA K) aAdd := by
  intro θ A B σ G H v u x y k Q S hv hu ha q
  obtain ⟨n1, n2, ha⟩ := aAdd_o ha
  obtain ⟨d, r1, t1, ha⟩ := wD_rd S.mem hv ha
  obtain ⟨e, r2, t2, h⟩ := wD_rd S.mem hu ha
  have ex := S.mem.ex
  have fin : ∀ G' H' z res, ResOk K G H G' H' z res → wpR B k res → Q z H' := fun G' H' z res ro hp => st_fin S ro hp q
  unfold dAdd at h
  split at h
  · rename_i i j
    exact .inl ⟨i, j, t1.int, t2.int, fin G H _ _ (res_int ex) h⟩
  · rename_i i j
    exact .inr (.inl ⟨i, j, t1.str, t2.str, h.1, fin G H _ _ (res_str ex) h.2⟩)
  · rename_i xs ys
    obtain ⟨a, vs, rfl, e1, d1⟩ := t1.list ex
    obtain ⟨b, us, rfl, e2, d2⟩ := t2.list ex
    refine .inr (.inr (.inl ⟨a, b, vs, us, rfl, rfl, e1, e2, by rw [dqAll_len d1, dqAll_len d2]; exact h.1, fun p hp => fin _ _ _ _ (res_lst ex hp (dqAll_append d1 d2)) h.2⟩))
  · rename_i xs ys
    obtain ⟨a, vs, rfl, e1, d1⟩ := t1.tuple ex
    obtain ⟨b, us, rfl, e2, d2⟩ := t2.tuple ex
    refine .inr (.inr (.inr ⟨a, b, vs, us, rfl, rfl, e1, e2, by rw [dqAll_len d1, dqAll_len d2]; exact h.1, fun z => ?_, fun _ z => ?_, fun _ _ p hp => fin _ _ _ _ (res_tup ex hp (dqAll_append d1 d2)) h.2⟩))
    · have z2 : xs = [] := by
        have := dqAll_len d1
        rw [z] at this
        exact List.eq_nil_of_length_eq_zero this.symm
      subst z2
      have ny : isKt y = false := by
        cases hy : isKt y with
        | false => rfl
        | true => exact absurd r1 (n2 hy)
      exact fin G H _ _ (res_el ex (tup_sc S.mem hu r2 ny)) h.2
    · have z2 : ys = [] := by
        have := dqAll_len d2
        rw [z] at this
        exact List.eq_nil_of_length_eq_zero this.symm
      subst z2
      have nx : isKt x = false := by
        cases hx : isKt x with
        | false => rfl
        | true => exact absurd r2 (n1 hx)
      have h2 := h.2
      rw [List.append_nil] at h2
      exact fin G H _ _ (res_el ex (tup_sc S.mem hv r1 nx)) h2
  · exact h.elim
def dSub : PyData → PyData → Kr → Prop
  | .int i, .int j, k => k (.v (.int (i - j)))
  | _, _, _ => False
theorem rd_sub : RD2 K (rI0 fun i j => .int (i - j)) (aD2 dSub) := rd2_data fun G H v u d e P Q ex t1 t2 h q => by
  unfold dSub at h
  split at h
  · rename_i i j
    exact ⟨i, j, t1.int, t2.int, q G H _ _ (res_int ex) h⟩
  · exact h.elim
def MulOk (i j : Int) : Prop := CMul i j ∨ CMulW i j
def dMul : PyData → PyData → Kr → Prop
  | .int i, .int j, k => MulOk i j ∧ k (.v (.int (i * j)))
  | .list xs, .int n, k => -(2 ^ 63) ≤ n ∧ n < 2 ^ 63 ∧ xs.length * n.toNat ≤ sizeLine ∧ k (.l (List.replicate n.toNat xs).flatten)
  | _, _, _ => False
def rMulA : R2 := fun x y H Q => rI CMul (fun i j => .int (i * j)) x y H Q ∨ rI CMulW (fun i j => .int (i * j)) x y H Q ∨ rRep x y H Q
theorem op_mulA {X : Cx} : OpR X (binaryOp .Mult) rMulA := opR_or op_mul (opR_or op_mulW op_rep)
theorem dqAll_rep {vs : List V} {ds : List PyData} (h : DqAll K G vs ds) : ∀ n : Nat, DqAll K G (List.replicate n vs).flatten (List.replicate n ds).flatten
  | 0 => .nil
  | n + 1 => by
    rw [List.replicate_succ, List.replicate_succ, List.flatten_cons, List.flatten_cons]
    exact dqAll_append h (dqAll_rep h n)
theorem rd_mul : RD2 K rMulA (aD2 dMul) := rd2_data fun G H v u d e P Q ex t1 t2 h q => by
  unfold dMul at h
  split at h
  · rename_i i j
    rcases h.1 with c | c
    · exact .inl ⟨i, j, t1.int, t2.int, c, q G H _ _ (res_int ex) h.2⟩
    · exact .inr (.inl ⟨i, j, t1.int, t2.int, c, q G H _ _ (res_int ex) h.2⟩)
  · rename_i xs n
    obtain ⟨a, vs, rfl, e1, d1⟩ := t1.list ex
    refine .inr (.inr ⟨a, n, vs, rfl, t2.int, e1, h.1, h.2.1, by rw [dqAll_len d1]; exact h.2.2.1, fun p hp => q _ _ _ _ (res_lst ex hp (dqAll_rep d1 _)) h.2.2.2⟩)
  · exact h.elim
def dDiv : PyData → PyData → Kr → Prop
  | .int i, .int j, k => CDivW i j ∧ k (.v (.int (i / j)))
  | _, _, _ => False
theorem rd_div : RD2 K (rI CDivW fun i j => .int (i / j)) (aD2 dDiv) := rd2_data fun G H v u d e P Q ex t1 t2 h q => by
  unfold dDiv at h
  split at h
  · rename_i i j
    exact ⟨i, j, t1.int, t2.int, h.1, q G H _ _ (res_int ex) h.2⟩
  · exact h.elim
def dMod : PyData → PyData → Kr → Prop
  | .int i, .int j, k => 0 < j ∧ k (.v (.int (i % j)))
  | _, _, _ => False
theorem rd_mod : RD2 K (rI (fun _ j => 0 < j) fun i j => .int (i % j)) (aD2 dMod) := rd2_data fun G H v u d e P Q ex t1 t2 h q => by
  unfold dMod at h
  split at h
  · rename_i i j
    exact ⟨i, j, t1.int, t2.int, h.1, q G H _ _ (res_int ex) h.2⟩
  · exact h.elim
def dPow : PyData → PyData → Kr → Prop
  | .int i, .int j, k => CPow i j ∧ k (.v (.int (i ^ j.toNat)))
  | _, _, _ => False
theorem rd_pow : RD2 K (rI CPow fun i j => .int (i ^ j.toNat)) (aD2 dPow) := rd2_data fun G H v u d e P Q ex t1 t2 h q => by
  unfold dPow at h
  split at h
  · rename_i i j
    exact ⟨i, j, t1.int, t2.int, h.1, q G H _ _ (res_int ex) h.2⟩
  · exact h.elim
def dNeg : PyData → Kr → Prop
  | .int i, k => k (.v (.int (-i)))
  | _, _ => False
theorem rd_neg : RD1 K (rU fun i => .int (-i)) (aD1 dNeg) := rd1_data fun G H v d P Q ex t1 h q => by
  unfold dNeg at h
  split at h
  · rename_i i
    exact ⟨i, t1.int, q G H _ _ (res_int ex) h⟩
  · exact h.elim

/-! ### comparisons -/
/-- == of data -/
def dEqK (d e : PyData) (k : Bool → Prop) : Prop := match d, e with
  | .int i, .int j => k (decide (i = j))
  | .str i, .str j => k (decide (i = j))
  | .bool i, .bool j => k (decide (i = j))
  | d, e => SeqAt.shaped d = true ∧ SeqAt.shaped e = true ∧ k (PyData.eqv d e)
def rEqA (K : PySem.W.Frag) : R2 := fun x y H Q => rEq x y H Q ∨ rEqD K x y H Q
def rNeA (K : PySem.W.Frag) : R2 := fun x y H Q => rNe x y H Q ∨ rNeD K x y H Q
theorem op_eqA {X : Cx} (hu : X.A.units + 64 < cLine) : OpR X (compareOp .Eq) (rEqA X.K) := opR_or op_eq (op_eqD hu)
theorem op_neA {X : Cx} (hu : X.A.units + 64 < cLine) : OpR X (compareOp .NotEq) (rNeA X.K) := opR_or op_ne (op_neD hu)
theorem eqK_of {v u : V} {d e : PyData} {k : Bool → Prop} (ex : Ext G H) (t1 : Top K G H v d) (t2 : Top K G H u e) (h : dEqK d e k) :
    (scal v u = true ∧ k (decide (v = u))) ∨ (Dp K H v d ∧ Dp K H u e ∧ SeqAt.shaped d = true ∧ SeqAt.shaped e = true ∧ k (PyData.eqv d e)) := by
  unfold dEqK at h
  split at h
  · rw [t1.int, t2.int]
    exact .inl ⟨rfl, by simpa using h⟩
  · rw [t1.str, t2.str]
    exact .inl ⟨rfl, by simpa using h⟩
  · rw [t1.bool, t2.bool]
    exact .inl ⟨rfl, by simpa using h⟩
  · exact .inr ⟨t1.dp ex, t2.dp ex, h⟩
def dEq (d e : PyData) (k : Kr) : Prop := dEqK d e fun b => k (.v (.bool b))
def dNe (d e : PyData) (k : Kr) : Prop := dEqK d e fun b => k (.v (.bool (!b)))
theorem rd_eq : RD2 K (rEqA K) (aD2 dEq) := rd2_data fun G H v u d e P Q ex t1 t2 h q => by
  rcases eqK_of ex t1 t2 h with ⟨h1, h2⟩ | ⟨h1, h2, h3, h4, h5⟩
  · exact .inl ⟨h1, q G H _ _ (res_bool ex) h2⟩
  · exact .inr ⟨d, e, h1, h2, h3, h4, q G H _ _ (res_bool ex) h5⟩
theorem rd_ne : RD2 K (rNeA K) (aD2 dNe) := rd2_data fun G H v u d e P Q ex t1 t2 h q => by
  rcases eqK_of ex t1 t2 h with ⟨h1, h2⟩ | ⟨h1, h2, h3, h4, h5⟩
  · exact .inl ⟨h1, q G H _ _ (res_bool ex) h2⟩
  · exact .inr ⟨d, e, h1, h2, h3, h4, q G H _ _ (res_bool ex) h5⟩
def dLt : PyData → PyData → Kr → Prop
  | .int i, .int j, k => k (.v (.bool (decide (i < j))))
  | .str i, .str j, k => k (.v (.bool (decide (i.cps.toList < j.cps.toList))))
  | _, _, _ => False
def rLtA : R2 := fun x y H Q => rI0 (fun i j => .bl (decide (i < j))) x y H Q ∨ ∃ i j, x = .str i ∧ y = .str j ∧ Q (.bl (decide (i.cps.toList < j.cps.toList))) H
theorem op_ltA {X : Cx} : OpR X (compareOp .Lt) rLtA := opR_or op_lt op_lt_str
theorem rd_lt : RD2 K rLtA (aD2 dLt) := rd2_data fun G H v u d e P Q ex t1 t2 h q => by
  unfold dLt at h
  split at h
  · rename_i i j
    exact .inl ⟨i, j, t1.int, t2.int, q G H _ _ (res_bool ex) h⟩
  · rename_i i j
    exact .inr ⟨i, j, t1.str, t2.str, q G H _ _ (res_bool ex) h⟩
  · exact h.elim
def dLe : PyData → PyData → Kr → Prop
  | .int i, .int j, k => k (.v (.bool (decide (i ≤ j))))
  | _, _, _ => False
theorem rd_le : RD2 K (rI0 fun i j => .bl (decide (i ≤ j))) (aD2 dLe) := rd2_data fun G H v u d e P Q ex t1 t2 h q => by
  unfold dLe at h
  split at h
  · rename_i i j
    exact ⟨i, j, t1.int, t2.int, q G H _ _ (res_bool ex) h⟩
  · exact h.elim
def dGt : PyData → PyData → Kr → Prop
  | .int i, .int j, k => k (.v (.bool (decide (j < i))))
  | _, _, _ => False
theorem rd_gt : RD2 K (rI0 fun i j => .bl (decide (j < i))) (aD2 dGt) := rd2_data fun G H v u d e P Q ex t1 t2 h q => by
  unfold dGt at h
  split at h
  · rename_i i j
    exact ⟨i, j, t1.int, t2.int, q G H _ _ (res_bool ex) h⟩
  · exact h.elim
def dGe : PyData → PyData → Kr → Prop
  | .int i, .int j, k => k (.v (.bool (decide (j ≤ i))))
  | _, _, _ => False
theorem rd_ge : RD2 K (rI0 fun i j => .bl (decide (j ≤ i))) (aD2 dGe) := rd2_data fun G H v u d e P Q ex t1 t2 h q => by
  unfold dGe at h
  split at h
  · rename_i i j
    exact ⟨i, j, t1.int, t2.int, q G H _ _ (res_bool ex) h⟩
  · exact h.elim
/-- is None, is not None -/
def isN : AV → Bool
  | .d .none => true
  | _ => false
def aIs (neg : Bool) : AV → AV → Mem → Kt → Prop := fun x y B k => match y with
  | .d .none => k (.d (.bool (if neg then !isN x else isN x))) B
  | _ => False
theorem isN_of {v : V} {x : AV} (h : AVok K G θ v x) : decide (v = V.non) = isN x := by
  cases h with
  | d h => cases h <;> rfl
  | kt _ _ => rfl
  | sc _ => rfl
  | m _ => rfl
  | r _ _ => rfl
theorem rd_is : RD2 K (fun x y H Q => y = .non ∧ Q (.bl (decide (x = .non))) H) (aIs false) := by
  intro θ A B σ G H v u x y k Q S hv hu ha q
  unfold aIs at ha
  split at ha
  · cases hu with
    | d hn =>
      cases hn
      exact ⟨rfl, q θ B G H _ _ Gr.refl S (by rw [isN_of hv]; exact .d (.bl _)) ha⟩
  · exact ha.elim
theorem rd_isnot : RD2 K (fun x y H Q => y = .non ∧ Q (.bl (!decide (x = .non))) H) (aIs true) := by
  intro θ A B σ G H v u x y k Q S hv hu ha q
  unfold aIs at ha
  split at ha
  · cases hu with
    | d hn =>
      cases hn
      exact ⟨rfl, q θ B G H _ _ Gr.refl S (by rw [isN_of hv]; exact .d (.bl _)) ha⟩
  · exact ha.elim
end
end Dl

namespace Dl
open L2 PySem PyProof.Rows PySem.Spec

section
variable {K : PySem.W.Frag} {θ : Th} {A : Env} {B : Mem} {σ : L2.St} {G H : Hp}
/-- a new object that is not kept -/
theorem Stp.junk {p : Addr} {o : HO} (e : Ext G H) (hp : H p = none) : Stp G H G (upd H p o) :=
  ⟨Ext.refl _, Ext.new hp, e.side (e.fresh hp), fun _ h => .inl h⟩
theorem Stp.st {G' H' : Hp} (s : Stp G H G' H') (S : StOk K θ A B σ G H) : StOk K θ A B σ G' H' := ⟨s.mem S.mem, S.slots.mono s.gx (List.prefix_refl _)⟩

/-! ### keys -/
def keyD : PyData → Option Key
  | .int i => some (.inl i)
  | .str s => some (.inr s)
  | _ => none
def keysL : List PyData → Option (List Key)
  | [] => some []
  | d :: ds => match keyD d, keysL ds with
    | some k, some ks => some (k :: ks)
    | _, _ => none
def keyT : PyData → Option (List Key)
  | .tuple ds => keysL ds
  | _ => none
theorem keyD_of {v : V} {d : PyData} {k : Key} (h : Dq K G v d) (e : keyD d = some k) : v = kV k := by
  cases h <;> first | (cases e; rfl) | cases e
theorem keysL_of : ∀ {vs : List V} {ds : List PyData} {ks : List Key}, DqAll K G vs ds → keysL ds = some ks → vs = ks.map kV
  | _, _, _, .nil, e => by cases e; rfl
  | _, _, ks, .cons h t, e => by
    unfold keysL at e
    split at e
    · rename_i k ks' h1 h2
      cases e
      rw [keyD_of h h1, keysL_of t h2]
      rfl
    · cases e
section
variable {κ : Type} [DecidableEq κ]
def lookK (kvs : List (κ × PyData)) (k : κ) : Option PyData := (kvs.find? fun kv => decide (kv.1 = k)).map (·.2)
def putD (kvs : List (κ × PyData)) (k : κ) (v : PyData) : List (κ × PyData) :=
  if (kvs.any fun z => decide (z.1 = k)) = true then kvs.map (fun z => if z.1 = k then (z.1, v) else z) else kvs ++ [(k, v)]
theorem kv_look {vs : List (κ × V)} {ds : List (κ × PyData)} (h : KvOk K G vs ds) (k : κ) : (∃ v d, valV vs k = some v ∧ lookK ds k = some d ∧ Dq K G v d) ∨ (valV vs k = none ∧ lookK ds k = none) := by
  induction h with
  | nil => exact .inr ⟨rfl, rfl⟩
  | @cons k' v d vs ds hd t ih =>
    by_cases e : k' = k
    · exact .inl ⟨v, d, by simp [valV, e], by simp [lookK, e], hd⟩
    · simp only [valV, lookK, List.find?_cons, e, decide_false] at ih ⊢
      exact ih
theorem kv_any {vs : List (κ × V)} {ds : List (κ × PyData)} (h : KvOk K G vs ds) (k : κ) : (vs.any fun kv => decide (kv.1 = k)) = ds.any fun kv => decide (kv.1 = k) := by
  induction h with
  | nil => rfl
  | cons _ _ ih => rw [List.any_cons, List.any_cons, ih]
theorem kv_put {vs : List (κ × V)} {ds : List (κ × PyData)} (h : KvOk K G vs ds) (k : κ) {v : V} {d : PyData} (hd : Dq K G v d) : KvOk K G (putK vs k v) (putD ds k d) := by
  have m : ∀ {vs : List (κ × V)} {ds : List (κ × PyData)}, KvOk K G vs ds → KvOk K G (vs.map fun kv => if kv.1 = k then (kv.1, v) else kv) (ds.map fun kv => if kv.1 = k then (kv.1, d) else kv) := fun h => by
    induction h with
    | nil => exact .nil
    | @cons k' v' d' vs ds h1 _ ih =>
      rw [List.map_cons, List.map_cons]
      by_cases e : k' = k
      · simp only [e, if_true]
        exact .cons hd ih
      · simp only [e, if_false]
        exact .cons h1 ih
  have a : ∀ {vs : List (κ × V)} {ds : List (κ × PyData)}, KvOk K G vs ds → KvOk K G (vs ++ [(k, v)]) (ds ++ [(k, d)]) := fun h => by
    induction h with
    | nil => exact .cons hd .nil
    | cons h1 _ ih => exact .cons h1 ih
  unfold putK putD
  rw [kv_any h k]
  split
  · exact m h
  · exact a h
theorem kv_len {vs : List (κ × V)} {ds : List (κ × PyData)} (h : KvOk K G vs ds) : vs.length = ds.length := by
  induction h with
  | nil => rfl
  | cons _ _ ih => rw [List.length_cons, List.length_cons, ih]
end
/-- the key that a value is, to the dict at a -/
inductive DictC where
  | k (kvs : List (Key × PyData)) | t (kvs : List (List Key × PyData))
def dictOf (B : Mem) : AV → Option DictC
  | .m j => match B[j]? with
    | some (.dK kvs) => some (.k kvs)
    | some (.lk kvs) => some (.k kvs)
    | some (.dT kvs) => some (.t kvs)
    | _ => none
  | _ => none
/-- a value that is plain data -/
def wK (y : AV) (k : PyData → Prop) : Prop := match y with
  | .d d => k d
  | _ => False
theorem wK_of {v : V} {y : AV} {k : PyData → Prop} (hv : AVok K G θ v y) (h : wK y k) : ∃ d, Dq K G v d ∧ k d := by
  unfold wK at h
  split at h
  · cases hv with
    | d q => exact ⟨_, q, h⟩
  · exact h.elim
/-- what the dict holds at the key -/
def dlook (c : DictC) (d : PyData) (k : Option PyData → Prop) : Prop := match c with
  | .k kvs => ∃ key, keyD d = some key ∧ k (lookK kvs key)
  | .t kvs => ∃ key, keyT d = some key ∧ k (lookK kvs key)
/-- where a dict is -/
theorem dict_at {v : V} {x : AV} {c : DictC} (m : MemOk K θ B G H) (hv : AVok K G θ v x) (e : dictOf B x = some c) :
    ∃ a, v = .ref a ∧ ((∃ kvs vs, c = .k kvs ∧ Rd H a (.dK vs) ∧ KvOk K G vs kvs) ∨ ∃ kvs vs, c = .t kvs ∧ H a = some (.dT vs) ∧ KvOk K G vs kvs) := by
  cases hv with
  | d _ => cases e
  | kt _ _ => cases e
  | sc _ => cases e
  | r _ _ => cases e
  | @m j a as hk =>
    obtain ⟨cc, hb, hc⟩ := m.cells.get hk
    simp only [dictOf, hb] at e
    cases hc with
    | dK q r => cases e; exact ⟨a, rfl, .inl ⟨_, _, rfl, .inl q, r⟩⟩
    | lk q r => cases e; exact ⟨a, rfl, .inl ⟨_, _, rfl, .inr ⟨_, q⟩, r⟩⟩
    | dT q r => cases e; exact ⟨a, rfl, .inr ⟨_, _, rfl, q, r⟩⟩
    | lst _ _ => cases e
    | mat _ _ => cases e
theorem dget_of {v u : V} {x : AV} {d : PyData} {c : DictC} {k : Option PyData → Prop} (m : MemOk K θ B G H) (hv : AVok K G θ v x) (e : dictOf B x = some c) (hu : Dq K G u d) (h : dlook c d k) :
    ∃ a o o', v = .ref a ∧ DGet H a u o ∧ k o' ∧ ((∃ z d, o = some z ∧ o' = some d ∧ Dq K G z d) ∨ (o = none ∧ o' = none)) := by
  obtain ⟨a, rfl, ⟨kvs, vs, rfl, q, r⟩ | ⟨kvs, vs, rfl, q, r⟩⟩ := dict_at m hv e
  · obtain ⟨key, ek, h⟩ := h
    rw [keyD_of hu ek]
    rcases kv_look r key with ⟨z, d', h1, h2, h3⟩ | ⟨h1, h2⟩
    · exact ⟨a, _, _, rfl, .inl ⟨vs, key, q, rfl, rfl⟩, h, .inl ⟨z, d', h1, h2, h3⟩⟩
    · exact ⟨a, _, _, rfl, .inl ⟨vs, key, q, rfl, rfl⟩, h, .inr ⟨h1, h2⟩⟩
  · obtain ⟨key, ek, h⟩ := h
    have tk : ∃ b, u = .ref b ∧ H b = some (.tup (key.map kV)) := by
      cases hu with
      | tup e1 d1 => exact ⟨_, rfl, by rw [← keysL_of d1 ek]; exact m.ex _ _ e1⟩
      | _ => cases ek
    obtain ⟨b, rfl, hb2⟩ := tk
    rcases kv_look r key with ⟨z, d', h1, h2, h3⟩ | ⟨h1, h2⟩
    · exact ⟨a, _, _, rfl, DGet.t q hb2, h, .inl ⟨z, d', h1, h2, h3⟩⟩
    · exact ⟨a, _, _, rfl, DGet.t q hb2, h, .inr ⟨h1, h2⟩⟩

/-! ### in, not in -/
def flatD : PyData → Bool
  | .list _ => false
  | .tuple _ => false
  | .dict _ => false
  | _ => true
theorem flat_of {v : V} {d : PyData} (h : Dq K G v d) (f : flatD d = true) : flatV v = true := by
  cases h <;> first | rfl | cases f
theorem flat_all : ∀ {vs : List V} {ds : List PyData}, DqAll K G vs ds → ds.all flatD = true → vs.all flatV = true
  | _, _, .nil, _ => rfl
  | _, _, .cons h t, f => by
    rw [List.all_cons, Bool.and_eq_true] at f ⊢
    exact ⟨flat_of h f.1, flat_all t f.2⟩
theorem eqV_eqv {v u : V} {d e : PyData} (h : Dq K G v d) (h2 : Dq K G u e) (f : flatD d = true) (f2 : flatD e = true) : eqV v u = PyData.eqv d e := by
  cases h <;> cases h2 <;> first | exact absurd f Bool.false_ne_true | exact absurd f2 Bool.false_ne_true | simp [eqV, PyData.eqv]
theorem inV_any {v : V} {d : PyData} (h : Dq K G v d) (f : flatD d = true) : ∀ {vs : List V} {ds : List PyData}, DqAll K G vs ds → ds.all flatD = true → inV v vs = ds.any fun z => PyData.eqv z d
  | _, _, .nil, _ => rfl
  | _, _, .cons q t, g => by
    rw [List.all_cons, Bool.and_eq_true] at g
    have ih := inV_any h f t g.2
    unfold inV at ih ⊢
    rw [List.any_cons, List.any_cons, ih, eqV_eqv q h g.1 f]
def dIn (d e : PyData) (k : Bool → Prop) : Prop := match e with
  | .list ys => ((flatD d = true ∧ ys.all flatD = true) ∨ (SeqAt.shaped d = true ∧ SeqAt.shaped (.list ys) = true)) ∧ k (ys.any fun z => PyData.eqv z d)
  | .tuple ys => (flatD d = true ∧ ys.all flatD = true) ∧ k (ys.any fun z => PyData.eqv z d)
  | .str z => ∃ c, d = .str ⟨#[c]⟩ ∧ k (decide (c ∈ z.cps.toList))
  | _ => False
def aIn (neg : Bool) (x y : AV) (B : Mem) (k : Kt) : Prop := match dictOf B y with
  | some c => wK x fun d => dlook c d fun o => k (.d (.bool (if neg then !o.isSome else o.isSome))) B
  | none => wD B x fun d => wD B y fun e => dIn d e fun b => k (.d (.bool (if neg then !b else b))) B
def rInDict (neg : Bool) : R2 := fun y x H Q => ∃ a o, x = .ref a ∧ DGet H a y o ∧ Q (.bl (if neg then !o.isSome else o.isSome)) H
theorem op_inDict {X : Cx} (hu : X.A.units + 1 < cLine) : OpR X (compareOp .In) (rInDict false) := by
  intro pins s σ H y x iv u Q I ry rx h
  obtain ⟨a, o, rfl, g, q⟩ := h
  cases rx
  exact d_in hu I g ry fun s3 I3 => ⟨.bl o.isSome, H, I3, rfl, q⟩
theorem op_notInDict {X : Cx} (hu : X.A.units + 1 < cLine) : OpR X (compareOp .NotIn) (rInDict true) := by
  intro pins s σ H y x iv u Q I ry rx h
  obtain ⟨a, o, rfl, g, q⟩ := h
  cases rx
  exact d_notIn hu I g ry fun s3 I3 => ⟨.bl (!o.isSome), H, I3, rfl, q⟩
def rInSign (neg : Bool) : R2 := fun x y H Q => ∃ (c : Nat) (z : Str), x = .str ⟨#[c]⟩ ∧ y = .str z ∧ Q (.bl (if neg then !(decide (c ∈ z.cps.toList)) else decide (c ∈ z.cps.toList))) H
def rInDeep (K : PySem.W.Frag) (neg : Bool) : R2 := fun x y H Q => ∃ d ds, Dp K H x d ∧ Dp K H y (.list ds) ∧ SeqAt.shaped d = true ∧ SeqAt.shaped (.list ds) = true ∧ Q (.bl (if neg then !(ds.any fun z => PyData.eqv z d) else (ds.any fun z => PyData.eqv z d))) H
def rInA (K : PySem.W.Frag) (neg : Bool) : R2 := fun x y H Q => rInDict neg x y H Q ∨ rIn K neg x y H Q ∨ rInDeep K neg x y H Q ∨ rInSign neg x y H Q
theorem op_inA {X : Cx} (hu : X.A.units + 65 < cLine) : OpR X (compareOp .In) (rInA X.K false) :=
  opR_or (op_inDict (by omega)) (opR_or op_in_seq (opR_or (op_inD hu) op_in_sign))
theorem op_notInA {X : Cx} (hu : X.A.units + 65 < cLine) : OpR X (compareOp .NotIn) (rInA X.K true) :=
  opR_or (op_notInDict (by omega)) (opR_or op_notIn_seq (opR_or (op_notInD hu) op_notIn_sign))
theorem top_flat {v : V} {d : PyData} (t : Top K G H v d) (f : flatD d = true) : Dq K G v d := by
  cases t with
  | sc h => exact h
  | ls _ _ => cases f
  | kt _ _ => cases f
theorem rd_in {neg : Bool} : RD2 K (rInA K neg) (aIn neg) := by
  intro θ A B σ G H v u x y k Q S hv hu ha q
  unfold aIn at ha
  split at ha
  · rename_i c hc
    obtain ⟨d, hd, h⟩ := wK_of hv ha
    obtain ⟨a, o, o', rfl, g, hk, hr⟩ := dget_of S.mem hu hc hd h
    have e : o.isSome = o'.isSome := by
      rcases hr with ⟨z, d', rfl, rfl, _⟩ | ⟨rfl, rfl⟩ <;> rfl
    refine .inl ⟨a, o, rfl, g, ?_⟩
    rw [e]
    exact q θ B G H _ _ Gr.refl S (.d (.bl _)) hk
  · obtain ⟨d, t1, h1⟩ := wD_of S.mem hv ha
    obtain ⟨e, t2, h⟩ := wD_of S.mem hu h1
    have ex := S.mem.ex
    unfold dIn at h
    split at h
    · rename_i ys
      obtain ⟨b, us, rfl, e2, d2⟩ := t2.list ex
      rcases h.1 with ⟨f1, f2⟩ | ⟨f1, f2⟩
      · refine .inr (.inl ⟨b, us, rfl, .inl (SqL.of e2), flat_of (top_flat t1 f1) f1, flat_all d2 f2, ?_⟩)
        rw [inV_any (top_flat t1 f1) f1 d2 f2]
        exact q θ B G H _ _ Gr.refl S (.d (.bl _)) h.2
      · exact .inr (.inr (.inl ⟨d, ys, t1.dp ex, t2.dp ex, f1, f2, q θ B G H _ _ Gr.refl S (.d (.bl _)) h.2⟩))
    · rename_i ys
      obtain ⟨b, us, rfl, e2, d2⟩ := t2.tuple ex
      obtain ⟨⟨f1, f2⟩, h⟩ := h
      refine .inr (.inl ⟨b, us, rfl, .inr e2, flat_of (top_flat t1 f1) f1, flat_all d2 f2, ?_⟩)
      rw [inV_any (top_flat t1 f1) f1 d2 f2]
      exact q θ B G H _ _ Gr.refl S (.d (.bl _)) h
    · obtain ⟨c, rfl, h⟩ := h
      exact .inr (.inr (.inr ⟨c, _, t1.str, t2.str, q θ B G H _ _ Gr.refl S (.d (.bl _)) h⟩))
    · exact h.elim

/-! ### x[i] -/
def rIxDict : R2 := fun x y H Q => ∃ a v, x = .ref a ∧ DGet H a y (some v) ∧ Q v H
theorem ix_dict {X : Cx} (hu : X.A.units + 1 < cLine) : IxR X rIxDict := by
  intro value slice pins s σ H x y v u Q I rx ry h hs
  obtain ⟨a, z, rfl, g, q⟩ := h
  cases rx
  exact tail_any (dict_typeIs I g) PySem.F.slot_dict_getitem.lookup (d_getItem hu I g ry fun w' s3 I3 rw' => ⟨z, H, I3, rw', q⟩) hs
def rIxA (K : PySem.W.Frag) : R2 := fun x y H Q => rIx K x y H Q ∨ rIxDict x y H Q
theorem ix_any {X : Cx} (hu : X.A.units + 1 < cLine) : IxR X (rIxA X.K) := IxR.or ix_seq (ix_dict hu)
/-- the item of a list, a tuple, a text -/
def dIx (d e : PyData) (k : Kr) : Prop := match d, e with
  | .list xs, .int i => ∃ x, atI xs i = some x ∧ k (.v x)
  | .tuple xs, .int i => ∃ x, atI xs i = some x ∧ k (.v x)
  | .str z, .int i => z.length ≤ sizeLine ∧ ∃ c, atI z.cps.toList i = some c ∧ k (.v (.str ⟨#[c]⟩))
  | _, _ => False
/-- what a value is to a subscript -/
inductive Kd where
  | dict (c : DictC) | mat (j : Nat) (rows : List (List PyData)) | scr (ns : List Int) | data
def kdOf (B : Mem) : AV → Kd
  | .m j => match B[j]? with
    | some (.dK kvs) => .dict (.k kvs)
    | some (.lk kvs) => .dict (.k kvs)
    | some (.dT kvs) => .dict (.t kvs)
    | some (.mat rows) => .mat j rows
    | _ => .data
  | .sc ns => .scr ns
  | _ => .data
theorem kd_dict {x : AV} {c : DictC} (h : kdOf B x = .dict c) : dictOf B x = some c := by
  unfold kdOf at h
  split at h
  · split at h
    · rename_i hb; cases h; simp only [dictOf, hb]
    · rename_i hb; cases h; simp only [dictOf, hb]
    · rename_i hb; cases h; simp only [dictOf, hb]
    · cases h
    · cases h
  · cases h
  · cases h
theorem kd_mat {x : AV} {j : Nat} {rows : List (List PyData)} (h : kdOf B x = .mat j rows) : x = .m j ∧ B[j]? = some (.mat rows) := by
  unfold kdOf at h
  split at h
  · split at h
    · cases h
    · cases h
    · cases h
    · rename_i hb; cases h; exact ⟨rfl, hb⟩
    · cases h
  · cases h
  · cases h
theorem kd_scr {x : AV} {ns : List Int} (h : kdOf B x = .scr ns) : x = .sc ns := by
  unfold kdOf at h
  split at h
  · split at h <;> cases h
  · cases h; rfl
  · cases h
theorem cell_mat {j : Nat} {v : V} {rows : List (List PyData)} (m : MemOk K θ B G H) (hv : AVok K G θ v (.m j)) (hb : B[j]? = some (.mat rows)) : ∃ a rs, v = .ref a ∧ θ[j]? = some (a :: rs) ∧ H a = some (.lst (rs.map V.ref)) ∧ RowsOk K G H rs rows := by
  cases hv with
  | @m _ a as hk =>
    obtain ⟨c, hc1, hc⟩ := m.cells.get hk
    rw [hb] at hc1
    cases hc1
    cases hc with
    | mat e r => exact ⟨a, as, rfl, hk, e, r⟩
theorem cell_scr {v : V} {ns : List Int} (m : MemOk K θ B G H) (hv : AVok K G θ v (.sc ns)) : ∃ a, v = .ref a ∧ SqL K H a (ns.map V.int) := by
  cases hv with
  | sc h => exact ⟨_, rfl, ext_l m.ex h⟩
theorem cell_lst {j : Nat} {v : V} {ds : List PyData} (m : MemOk K θ B G H) (hv : AVok K G θ v (.m j)) (hb : B[j]? = some (.lst ds)) : ∃ a vs, v = .ref a ∧ θ[j]? = some [a] ∧ H a = some (.lst vs) ∧ DqAll K G vs ds := by
  cases hv with
  | @m _ a as hk =>
    obtain ⟨c, hc1, hc⟩ := m.cells.get hk
    rw [hb] at hc1
    cases hc1
    cases hc with
    | lst e r => exact ⟨a, _, rfl, hk, e, r⟩
def aIx (x y : AV) (B : Mem) (k : Kt) : Prop := match kdOf B x with
  | .dict c => wK y fun d => dlook c d fun o => ∃ z, o = some z ∧ k (.d z) B
  | .mat j rows => wK y fun d => ∃ i n, d = .int i ∧ ixN rows.length i = some n ∧ k (.r j n) B
  | .scr ns => wK y fun d => ∃ i n, d = .int i ∧ atI ns i = some n ∧ k (.d (.int n)) B
  | .data => aD2 dIx x y B k
theorem atI_of {vs : List V} {ds : List PyData} {i : Int} {x : PyData} (h : DqAll K G vs ds) (e : atI ds i = some x) : ∃ v, atI vs i = some v ∧ Dq K G v x := by
  unfold atI at e ⊢
  rw [dqAll_len h]
  cases q : ixN ds.length i with
  | none => rw [q] at e; cases e
  | some j =>
    rw [q] at e
    exact dqAll_get h e
theorem rows_len {as : List Addr} {rows : List (List PyData)} (h : RowsOk K G H as rows) : as.length = rows.length := by
  induction h with
  | nil => rfl
  | cons _ _ _ ih => rw [List.length_cons, List.length_cons, ih]
theorem ixN_lt {n : Nat} {i : Int} {j : Nat} (h : ixN n i = some j) : j < n := (ixN_seq h).2.1
theorem rd_ix : RD2 K (rIxA K) aIx := by
  intro θ A B σ G H v u x y k Q S hv hu ha q
  unfold aIx at ha
  split at ha
  · rename_i c hc
    obtain ⟨d, hd, h⟩ := wK_of hu ha
    obtain ⟨a, o, o', rfl, g, ⟨z, rfl, hk⟩, hr⟩ := dget_of S.mem hv (kd_dict hc) hd h
    rcases hr with ⟨z', d', rfl, e2, dq⟩ | ⟨_, e2⟩
    · cases e2
      exact .inr ⟨a, z', rfl, g, q θ B G H _ _ Gr.refl S (.d dq) hk⟩
    · cases e2
  · rename_i j rows hc
    obtain ⟨d, hd, i, n, rfl, hn, hk⟩ := wK_of hu ha
    cases hd
    obtain ⟨rfl, hb⟩ := kd_mat hc
    obtain ⟨a, as, rfl, hk', e, r⟩ := cell_mat S.mem hv hb
    have hl := rows_len r
    have hlt := ixN_lt hn
    obtain ⟨b, hb2⟩ : ∃ b, as[n]? = some b := ⟨as[n]'(by omega), by simp⟩
    refine .inl (.inl ⟨a, _, i, .ref b, rfl, rfl, SqL.of e, ?_, q θ B G H _ _ Gr.refl S (.r hk' hb2) hk⟩)
    unfold atI
    rw [List.length_map, hl, hn]
    show (as.map V.ref)[n]? = _
    rw [List.getElem?_map, hb2]
    rfl
  · rename_i ns hc
    obtain ⟨d, hd, i, n, rfl, hn, hk⟩ := wK_of hu ha
    cases hd
    have hx := kd_scr hc
    subst hx
    obtain ⟨a, rfl, e⟩ := cell_scr S.mem hv
    refine .inl (.inl ⟨a, _, i, .int n, rfl, rfl, e, ?_, q θ B G H _ _ Gr.refl S (.d (.int n)) hk⟩)
    unfold atI at hn ⊢
    rw [List.length_map]
    cases w : ixN ns.length i with
    | none => rw [w] at hn; cases hn
    | some j =>
      rw [w] at hn
      show (ns.map V.int)[j]? = _
      have hn : ns[j]? = some n := hn
      rw [List.getElem?_map, hn]
      rfl
  · obtain ⟨d, t1, h1⟩ := wD_of S.mem hv ha
    obtain ⟨e, t2, h⟩ := wD_of S.mem hu h1
    have ex := S.mem.ex
    have fin : ∀ G' H' z res, ResOk K G H G' H' z res → wpR B k res → Q z H' := fun G' H' z res ro hp => st_fin S ro hp q
    unfold dIx at h
    split at h
    · obtain ⟨z, hz, h⟩ := h
      obtain ⟨a, vs, rfl, e1, d1⟩ := t1.list ex
      obtain ⟨w, hw, dw⟩ := atI_of d1 hz
      exact .inl (.inl ⟨a, vs, _, w, rfl, t2.int, SqL.of e1, hw, fin G H _ _ (res_el ex dw) h⟩)
    · obtain ⟨z, hz, h⟩ := h
      obtain ⟨a, vs, rfl, e1, d1⟩ := t1.tuple ex
      obtain ⟨w, hw, dw⟩ := atI_of d1 hz
      exact .inl (.inr (.inl ⟨a, vs, _, w, rfl, t2.int, e1, hw, fin G H _ _ (res_el ex dw) h⟩))
    · obtain ⟨hz, c, hc, h⟩ := h
      exact .inl (.inr (.inr ⟨_, _, c, t1.str, t2.int, hz, hc, fin G H _ _ (res_str ex) h⟩))
    · exact h.elim
end
end Dl

namespace Dl
open L2 PySem PyProof.Rows PySem.Spec

section
variable {K : PySem.W.Frag} {θ : Th} {A : Env} {B : Mem} {σ : L2.St} {G H : Hp} {X : Cx} {e a b c : Expr} {es : List Expr} {pos : Pos} {fa fb fc : FE} {fs : FA}

/-! ### slices -/
def cutD (xs : List PyData) (lo hi : Option Int) : List PyData := (xs.drop (HT.sIx xs.length 0 lo)).take (HT.sIx xs.length xs.length hi - HT.sIx xs.length 0 lo)
theorem dqAll_cut {vs : List V} {ds : List PyData} (h : DqAll K G vs ds) (lo hi : Option Int) : DqAll K G (cutV vs lo hi) (cutD ds lo hi) := by
  unfold cutV cutD
  rw [dqAll_len h]
  exact dqAll_take _ (dqAll_drop _ h)
theorem cutD_whole {xs : List PyData} {lo hi : Option Int} (h : HT.sIx xs.length 0 lo = 0 ∧ HT.sIx xs.length xs.length hi = xs.length) : cutD xs lo hi = xs := by
  unfold cutD
  rw [h.1, h.2]
  simp
def dSl (d : PyData) (lo hi : Option Int) (k : Kr) : Prop := match d with
  | .list xs => k (.l (cutD xs lo hi))
  | .tuple xs => k (.v (.tuple (cutD xs lo hi)))
  | .str z => z.length ≤ sizeLine ∧ k (.v (.str (cutS z lo hi)))
  | _ => False
/-- the ints of a slice of the script -/
def aSl (x : AV) (lo hi : Option Int) (B : Mem) (k : Kt) : Prop := match kdOf B x with
  | .scr ns => dSl (.list (ns.map .int)) lo hi (wpR B k)
  | _ => isKt x = false ∧ wD B x fun d => dSl d lo hi (wpR B k)
def rSlX (K : PySem.W.Frag) : V → Option Int → Option Int → Hp → VK → Prop := fun x lo hi H Q => rSlL K x lo hi H Q ∨ rSlA K x lo hi H Q ∨ rSlS x lo hi H Q
theorem sl_any {X : Cx} : SlR X (rSlX X.K) := SlR.or sl_list (SlR.or sl_tupA sl_str)
theorem dqAll_of_ints : ∀ ns : List Int, DqAll K G (ns.map V.int) (ns.map .int)
  | [] => .nil
  | n :: ns => .cons (.int n) (dqAll_of_ints ns)
theorem sl_of {v : V} {x : AV} {lo hi : Option Int} {k : Kt} {Q : VK} (S : StOk K θ A B σ G H) (hv : AVok K G θ v x) (h : aSl x lo hi B k)
    (q : ∀ θ' B' G' H' z w, Gr θ θ' G H G' H' → StOk K θ' A B' σ G' H' → AVok K G' θ' z w → k w B' → Q z H') : rSlX K v lo hi H Q := by
  have ex := S.mem.ex
  have fin : ∀ G' H' z res, ResOk K G H G' H' z res → wpR B k res → Q z H' := fun G' H' z res ro hp => st_fin S ro hp q
  unfold aSl at h
  split at h
  · rename_i ns hc
    have hx := kd_scr hc
    subst hx
    obtain ⟨a, rfl, e⟩ := cell_scr S.mem hv
    exact .inl ⟨a, _, rfl, e, fun p hp => fin _ _ _ _ (res_lst ex hp (dqAll_cut (dqAll_of_ints ns) lo hi)) h⟩
  · obtain ⟨nk, h⟩ := h
    obtain ⟨d, r1, t1, h⟩ := wD_rd S.mem hv h
    unfold dSl at h
    split at h
    · obtain ⟨a, vs, rfl, e1, d1⟩ := t1.list ex
      exact .inl ⟨a, vs, rfl, SqL.of e1, fun p hp => fin _ _ _ _ (res_lst ex hp (dqAll_cut d1 lo hi)) h⟩
    · rename_i xs
      have hq := tup_sc S.mem hv r1 nk
      obtain ⟨a, vs, rfl, e1, d1⟩ := t1.tuple ex
      refine .inr (.inl ⟨a, vs, rfl, e1, fun w => ?_, fun w p hp => ?_⟩)
      · rw [dqAll_len d1] at w
        rw [cutD_whole w] at h
        exact fin G H _ _ (res_el ex hq) h
      · exact fin _ _ _ _ (res_tup ex hp (dqAll_cut d1 lo hi)) h
    · exact .inr (.inr ⟨_, t1.str, h.1, fin G H _ _ (res_str ex) h.2⟩)
    · exact h.elim
/-- a part of a slice: an int, or none -/
abbrev FO := Env → Mem → (Option Int → Mem → Prop) → Prop
def tfO (K : PySem.W.Frag) (f : FO) : TO := fun σ H Q => ∃ θ A B G k, StOk K θ A B σ G H ∧ f A B k ∧ ∀ θ' B' G' H' o, Gr θ θ' G H G' H' → StOk K θ' A B' σ G' H' → k o B' → Q o H'
structure PDO (X : Cx) (e : Option Expr) (f : FO) : Prop where
  po : PO X e (tfO X.K f)
theorem PO.imp {X : Cx} {e : Option Expr} {t t' : TO} (h : PO X e t) (i : ∀ σ H Q, t' σ H Q → t σ H Q) : PO X e t' := ⟨fun pins s σ H Q I w => h.run pins s σ H Q I (i σ H Q w)⟩
def fNoPart : FO := fun _ B k => k none B
def fPart (f : FE) : FO := fun A B k => f A B fun x B1 => wK x fun d => ∃ i, d = .int i ∧ k (some i) B1
theorem pdo_none : PDO X none fNoPart := ⟨PO.imp po_none fun σ H Q w => by
  obtain ⟨θ, A, B, G, k, S, hf, q⟩ := w
  exact q θ B G H _ Gr.refl S hf⟩
theorem pdo_some (h : PD X e fa) : PDO X (some e) (fPart fa) := ⟨PO.imp (po_some h.pe) fun σ H Q w => by
  obtain ⟨θ, A, B, G, k, S, hf, q⟩ := w
  refine ⟨θ, A, B, G, _, S, hf, fun θ1 B1 G1 H1 v x g1 S1 hv k1 => ?_⟩
  obtain ⟨d, hd, i, rfl, h⟩ := wK_of hv k1
  cases hd
  exact ⟨i, rfl, q θ1 B1 G1 H1 _ g1 S1 h⟩⟩
def fSl (fa : FE) (fl fh : FO) : FE := fun A B k => fa A B fun x B1 => fl A B1 fun lo B2 => fh A B2 fun hi B3 => aSl x lo hi B3 k
theorem pd_slice {lo hi : Option Expr} {fl fh : FO} {p2 : Pos} (ha : PD X a fa) (hl : PDO X lo fl) (hh : PDO X hi fh) : PD X (.Subscript a (.Slice lo hi none p2) pos) (fSl fa fl fh) := ⟨PE.imp (pe_slice sl_any ha.pe hl.po hh.po) fun σ H Q w => by
  obtain ⟨θ, A, B, G, k, S, hf, q⟩ := w
  refine ⟨θ, A, B, G, _, S, hf, fun θ1 B1 G1 H1 v x g1 S1 hv k1 => ?_⟩
  refine ⟨θ1, A, B1, G1, _, S1, k1, fun θ2 B2 G2 H2 lo g2 S2 k2 => ?_⟩
  refine ⟨θ2, A, B2, G2, _, S2, k2, fun θ3 B3 G3 H3 hi g3 S3 k3 => ?_⟩
  exact sl_of S3 ((hv.gr g2).gr g3) k3 fun θ4 B4 G4 H4 z w g4 S4 hz k4 => q θ4 B4 G4 H4 z w (((g1.trans g2).trans g3).trans g4) S4 hz k4⟩

/-! ### calls of built-ins on data -/
theorem tops1 {vs : List V} {x : PyData} (t : Tops K G H vs [x]) : ∃ v, vs = [v] ∧ Top K G H v x := by
  cases t with
  | cons h t => cases t; exact ⟨_, rfl, h⟩
theorem tops2 {vs : List V} {x y : PyData} (t : Tops K G H vs [x, y]) : ∃ v u, vs = [v, u] ∧ Top K G H v x ∧ Top K G H u y := by
  cases t with
  | cons h t =>
    cases t with
    | cons h2 t => cases t; exact ⟨_, _, rfl, h, h2⟩
/-- what a built-in gives on data -/
inductive BI where
  | len | abs | int | bool | str | max | min | sum | sorted | all | any | list | tuple
  deriving DecidableEq
def dLen : PyData → Kr → Prop
  | .list xs, k => k (.v (.int (xs.length : Int)))
  | .tuple xs, k => k (.v (.int (xs.length : Int)))
  | .str z, k => z.length ≤ sizeLine ∧ k (.v (.int (z.length : Int)))
  | _, _ => False
def intsD : PyData → (List Int → Prop) → Prop
  | .list xs, k => ∃ ns : List Int, xs = ns.map .int ∧ k ns
  | _, _ => False
def boolsD : PyData → (List Bool → Prop) → Prop
  | .list xs, k => ∃ ns : List Bool, xs = ns.map .bool ∧ k ns
  | _, _ => False
def dSorted : PyData → Kr → Prop
  | .list xs, k => PySem.W.AllAlike xs ∧ PySem.W.Sortable xs ∧ xs.length ≤ sizeLine ∧ (∀ d ∈ xs, d.depth ≤ 60) ∧ k (.l (xs.mergeSort (PySem.W.dataLe false id)))
  | _, _ => False
def dBi : BI → List PyData → Kr → Prop
  | .len, [x], k => dLen x k
  | .abs, [.int i], k => k (.v (.int (if i < 0 then -i else i)))
  | .int, [.int i], k => k (.v (.int i))
  | .int, [.bool b], k => k (.v (.int (if b then 1 else 0)))
  | .bool, [.int i], k => k (.v (.bool (i != 0)))
  | .bool, [.bool b], k => k (.v (.bool b))
  | .str, [.int i], k => i.natAbs.log2 < 1920 ∧ k (.v (.str (toString i)))
  | .max, [.int i, .int j], k => k (.v (.int (if j > i then j else i)))
  | .min, [.int i, .int j], k => k (.v (.int (if j < i then j else i)))
  | .max, [x], k => intsD x fun ns => 0 < ns.length ∧ ∀ m, m ∈ ns → (∀ y, y ∈ ns → y ≤ m) → k (.v (.int m))
  | .min, [x], k => intsD x fun ns => 0 < ns.length ∧ ∀ m, m ∈ ns → (∀ y, y ∈ ns → m ≤ y) → k (.v (.int m))
  | .sum, [x], k => intsD x fun ns => k (.v (.int ns.sum))
  | .sorted, [x], k => dSorted x k
  | .all, [x], k => boolsD x fun bs => k (.v (.bool (bs.all id)))
  | .any, [x], k => boolsD x fun bs => k (.v (.bool (bs.any id)))
  | .list, [.list xs], k => k (.l xs)
  | .list, [.tuple xs], k => k (.l xs)
  | _, _, _ => False
def nameBI : BI → String
  | .len => "len" | .abs => "abs" | .int => "int" | .bool => "bool" | .str => "str" | .max => "max" | .min => "min" | .sum => "sum" | .sorted => "sorted" | .all => "all" | .any => "any" | .list => "list" | .tuple => "tuple"
/-- the built-in's own value -/
def valBI : BI → Value
  | .int => .type "int" | .bool => .type "bool" | .str => .type "str" | .list => .type "list" | .tuple => .type "tuple"
  | b => .builtin (nameBI b)
abbrev RL := List V → Hp → VK → Prop
theorem paired_len {α β : Type} {F : α → β → Prop} : ∀ {as : List α} {bs : List β}, Paired F as bs → as.length = bs.length
  | _, _, .nil => rfl
  | _, _, .cons _ t => by rw [List.length_cons, List.length_cons, paired_len t]
/-- sorted(xs) of a list of data, any length: THE sorted list -/
def rSortedX (K : PySem.W.Frag) : RL := fun vs H Q => ∃ (a : Addr) (xs : List V) (ds : List PyData) (P : V → PyData → Prop), vs = [.ref a] ∧ H a = some (.lst xs) ∧ Paired P xs ds ∧ (∀ v d, P v d → Dp K H v d) ∧ PySem.W.AllAlike ds ∧ PySem.W.Sortable ds ∧ ds.length ≤ sizeLine ∧ (∀ d ∈ ds, d.depth ≤ 60) ∧
  ∀ ys p, H p = none → Paired P ys (ds.mergeSort (PySem.W.dataLe false id)) → Q (.ref p) (upd H p (.lst ys))
theorem each_of {P : V → PyData → Prop} : ∀ {xs : List V} {ds : List PyData} {us : List Value}, Paired P xs ds → Vals xs us → PySem.W.EachIs (fun (u : Value) (d : PyData) => ∃ v, RelV v u ∧ P v d) us ds
  | _, _, _, .nil, .nil => .nil
  | _, _, _, .cons h t, .cons r rs => .cons ⟨_, r, h⟩ (each_of t rs)
theorem of_each {P : V → PyData → Prop} : ∀ {us : List Value} {ds : List PyData}, PySem.W.EachIs (fun (u : Value) (d : PyData) => ∃ v, RelV v u ∧ P v d) us ds → ∃ ys, Vals ys us ∧ Paired P ys ds
  | _, _, .nil => ⟨[], .nil, .nil⟩
  | _, _, .cons ⟨v, r, h⟩ t => by
    obtain ⟨ys, h1, h2⟩ := of_each t
    exact ⟨v :: ys, .cons r h1, .cons h h2⟩
theorem map_id_ds (ds : List PyData) : ds.map id = ds := List.map_id ds
theorem cr_sortedX (hu : X.A.units + 64 < cLine) : CallR X (.builtin "sorted") (rSortedX X.K) := by
  intro pins s σ H vs us Q I r h
  obtain ⟨a, xs, ds, P, rfl, hs, hp, hd, hal, hk, hz, hdep, q⟩ := h
  obtain ⟨z0, its, n, rv, hl, e⟩ := I.lstM hs
  rw [Vals.ref1 r]
  have hIs : s.heap.IsList a its.toArray := ⟨_, e, rfl, n, rfl⟩
  refine PySem.W.sorted_data (enc := id) (bs := ds) (R := fun (u : Value) (d : PyData) => ∃ v, RelV v u ∧ P v d) hIs (each_of hp rv) ((each_of hp rv).mono fun u d ⟨v, h1, h2⟩ => Dp.reads I d v u (hd v d h2) h1) (by rw [map_id_ds]; exact hal) (by rw [map_id_ds]; exact hk) hz (fun d hm => by have := hdep d hm; show X.A.units + 2 + d.depth < cLine; omega) fun out ho eo => ?_
  obtain ⟨ys, h1, h2⟩ := of_each eo
  obtain ⟨ep, he'⟩ := PyProof.Rows.sortedAll_at s.heap its out.toArray
  have hlen : ys.length ≤ sizeLine := by
    rw [paired_len h2, List.length_mergeSort]
    exact hz
  exact ⟨.ref _, upd H (s.heap.objs.size + 1) (.lst ys), I.laid (t' := s.toks) (fun _ _ => PyProof.Rows.sortedAll_old) (Nat.le_succ _) ⟨hlen, out, ep, h1, he'⟩, rfl, q ys _ (I.hok.fresh (Nat.le_succ _)) h2⟩
/-- sorted(d), int keys, any length -/
def rSortedDX : RL := fun xs H Q => ∃ (a : Addr) (kvs : List (Key × V)) (ks : List Int), xs = [.ref a] ∧ Rd H a (.dK kvs) ∧ kvs.map (·.1) = ks.map Sum.inl ∧ ks.length ≤ sizeLine ∧
    ∀ (p : Addr), H p = none → Q (.ref p) (upd H p (.lst ((ks.mergeSort fun a b => decide (a ≤ b)).map V.int)))
theorem each_ints : ∀ {us : List Value} {ks : List Int}, IntsAre us ks → PySem.W.EachIs (fun (u : Value) (n : Int) => ∃ t, u = .int n t) us ks
  | _, _, .nil => .nil
  | _, _, .cons n t h => .cons ⟨t, rfl⟩ (each_ints h)
theorem ints_each' : ∀ {us : List Value} {ks : List Int}, PySem.W.EachIs (fun (u : Value) (n : Int) => ∃ t, u = .int n t) us ks → Vals (ks.map V.int) us
  | _, _, .nil => .nil
  | _, _, .cons ⟨t, h⟩ r => .cons ⟨t, h⟩ (ints_each' r)
theorem cr_sortedDX (hcalm : X.calm = true) (hu : X.A.units + 64 < cLine) : CallR X (.builtin "sorted") rSortedDX := by
  intro pins s σ H xs us Q I r q
  obtain ⟨a, kvs, ks, ex, hd, hks, hz, q⟩ := q
  subst ex
  obtain ⟨u, eu, rx⟩ := vals1 r
  subst eu
  cases rx
  obtain ⟨z, live, kv, pairs, dty⟩ := dk_rd I.hok hd
  obtain ⟨epp, hat⟩ := dty.dictAt
  have keyEq : kv.map (·.1) = ks.map Sum.inl := pairs.keys.symm.trans hks
  have lenEq : kv.length = ks.length := by
    have e := congrArg List.length keyEq
    rw [List.length_map, List.length_map] at e
    exact e
  have h16 : kv.length ≤ sizeLine := by rw [lenEq]; exact hz
  refine Calls.call_function_entry PyProof.Rows.kind_sorted PyProof.Rows.plain_sorted PyProof.Rows.entry_sorted (PyProof.Rows.args_sorted1 _) ?_
  unfold Builtin.«sorted»
  refine wpAny_bind (m := checkCount "sorted" 1 1 _) (wpAny_pure ?_)
  refine wpAny_bind (PySem.W.kdu_collect (A := X.A.in1) (PySem.W.kdl_dict (knd := mixKind X.prog X.w) (kvs := kv) (ep := epp) live) (I.ok.hd hcalm) hat h16 fun h' ts got kept gotOk => ?_)
  have gotLen : got.toList.length = ks.length := by rw [Array.length_toList, gotOk.1, lenEq]
  have gotInts : IntsAre got.toList ks := ints_each gotLen fun j v e => by
    obtain ⟨k, x, q1, q2⟩ := gotOk.2 j v (by rw [← Array.getElem?_toList]; exact e)
    have q3 : (kv.map (·.1))[j]? = some k := by rw [List.getElem?_map, q1]; rfl
    rw [keyEq, List.getElem?_map] at q3
    cases q4 : ks[j]? with
    | none => rw [q4] at q3; cases q3
    | some y =>
      rw [q4] at q3
      have q5 : Sum.inl y = k := Option.some.inj q3
      subst q5
      rcases keyIs_shape (show keyIs (Sum.inl y) v = true from q2) with ⟨i, t, ek, ev⟩ | ⟨z, t, ek, ev⟩
      · cases ek
        exact ⟨y, t, rfl, ev⟩
      · cases ek
  have J1 : Inv X pins σ H { s with heap := h', toks := ts } := I.kept kept
  refine wpAny_bind (wpAny_newList ?_ (by rw [gotLen]; exact hz))
  have newAt : (h'.push (seqObj "list" got.toList.toArray 0)).get? h'.objs.size = some (seqObj "list" got.toList.toArray 0) := Heap.get?_push_size _ rfl
  show wpAny _ _ _ _ _ { s with heap := h'.push (seqObj "list" got.toList.toArray 0), toks := ts }
  have hE := each_ints gotInts
  refine wpAny_bind (wpAny_holding (PySem.W.list_sort_data (s := { s with heap := h'.push (seqObj "list" got.toList.toArray 0), toks := ts }) (enc := fun n : Int => PyData.int n) (bs := ks) (R := fun (u : Value) (n : Int) => ∃ t, u = .int n t) newAt hE
    (hE.mono fun u n ⟨t, e⟩ => ⟨[], by rw [e]; exact Reads.int n t, by simp⟩) (PySem.W.AllAlike.of fun _ _ => rfl) (PySem.W.Sortable.others fun b => ⟨(fun z => nomatch z), fun _ z => nomatch z⟩) hz
    (fun b _ => by show X.A.in1.units + 1 + 0 < cLine; have : X.A.in1.units = X.A.units + 1 := rfl; omega) fun out ho eo => ?_))
  obtain ⟨e', he'⟩ := PyProof.Rows.sortedHeap_at (vs := got.toList) (out := out.toArray) newAt
  have hle : PySem.W.dataLe false (fun n : Int => PyData.int n) = fun a b => decide (a ≤ b) := PySem.W.dataLe_int fun n => n
  rw [hle] at eo
  have hlen : ((ks.mergeSort fun a b => decide (a ≤ b)).map V.int).length ≤ sizeLine := by
    rw [List.length_map, List.length_mergeSort]
    exact hz
  refine wpAny_pure ⟨_, rfl, .ref h'.objs.size, upd H h'.objs.size (.lst _), J1.laid (t' := ts) (fun b u e => ?_) (Nat.le_refl _)
    (show ObjOk X.prog X.w _ _ _ (.lst ((ks.mergeSort fun a b => decide (a ≤ b)).map V.int)) from ⟨hlen, out, e', ints_each' eo, he'⟩), rfl, q _ (J1.hok.fresh (Nat.le_refl _))⟩
  have below : b < h'.objs.size := Heap.lt_size e
  rw [PyProof.Rows.sortedHeap_old (Nat.ne_of_lt below) (by rw [size_push']; exact Nat.lt_succ_of_lt below)]
  exact Heap.get?_push_of_some _ e
end
end Dl

namespace Dl
open L2 PySem PyProof.Rows PySem.Spec

theorem callR_or {X : Cx} {f : Value} {r r' : RL} (h : CallR X f r) (h' : CallR X f r') : CallR X f (fun xs H Q => r xs H Q ∨ r' xs H Q) := by
  intro pins s σ H xs us Q I rx q
  rcases q with q | q
  · exact h pins s σ H xs us Q I rx q
  · exact h' pins s σ H xs us Q I rx q
section
variable {K : PySem.W.Frag} {θ : Th} {A : Env} {B : Mem} {σ : L2.St} {G H : Hp} {X : Cx} {e a b c : Expr} {es : List Expr} {pos : Pos} {fa fb fc : FE} {fs : FA}
/-- the built-ins' readings -/
def rBI (K : PySem.W.Frag) : BI → RL
  | .len => fun xs H Q => (∃ x n, xs = [x] ∧ LenV K x H n ∧ Q (.int n) H) ∨ ∃ d kvs, xs = [.ref d] ∧ H d = some (.dK kvs) ∧ Q (.int (kvs.length : Int)) H
  | .abs => fun xs H Q => ∃ i, xs = [.int i] ∧ Q (.int (if i < 0 then -i else i)) H
  | .int => fun xs H Q => (∃ i, xs = [.int i] ∧ Q (.int i) H) ∨ ∃ k, xs = [.bl k] ∧ Q (.int (if k then 1 else 0)) H
  | .bool => fun xs H Q => (∃ i, xs = [.int i] ∧ Q (.bl (i != 0)) H) ∨ ∃ k, xs = [.bl k] ∧ Q (.bl k) H
  | .str => fun xs H Q => ∃ i, xs = [.int i] ∧ i.natAbs.log2 < 1920 ∧ Q (.str (toString i)) H
  | .max => fun xs H Q => (∃ i j, xs = [.int i, .int j] ∧ Q (.int (if j > i then j else i)) H) ∨ rMax K xs H Q
  | .min => fun xs H Q => (∃ i j, xs = [.int i, .int j] ∧ Q (.int (if j < i then j else i)) H) ∨ rMin K xs H Q
  | .sum => rSum K
  | .sorted => fun xs H Q => rSortedX K xs H Q ∨ rSortedDX xs H Q
  | .all => rAll K
  | .any => rAny K
  | .list => fun xs H Q => ∃ p ys, xs = [.ref p] ∧ (SqL K H p ys ∨ SqT K H p ys) ∧ ∀ l, H l = none → Q (.ref l) (upd H l (.lst ys))
  | .tuple => fun xs H Q => ∃ p ys, xs = [.ref p] ∧ ((SqL K H p ys ∧ ∀ l, H l = none → Q (.ref l) (upd H l (.tup ys))) ∨ (SqT K H p ys ∧ Q (.ref p) H))
theorem cr_BI (hc : X.calm = true) (hu : X.A.units + 64 < cLine) : ∀ b : BI, CallR X (valBI b) (rBI X.K b)
  | .len => callR_or call_len fun pins s σ H xs us Q I r h => call_lenD pins s σ H xs us Q I r h
  | .abs => call_abs
  | .int => call_int1
  | .bool => call_bool1
  | .str => call_str_int
  | .max => callR_or (call_max2 hc) (cr_max hc)
  | .min => callR_or (call_min2 hc) (cr_min hc)
  | .sum => cr_sum hc
  | .sorted => callR_or (cr_sortedX hu) (cr_sortedDX hc hu)
  | .all => cr_all hc
  | .any => cr_any hc
  | .list => call_list_of
  | .tuple => call_tuple_of
/-- tuple(x) -/
def dTup : PyData → Kr → Prop
  | .list xs, k => k (.v (.tuple xs))
  | .tuple xs, k => k (.v (.tuple xs))
  | _, _ => False
/-- the call of a built-in on values -/
def aBi (b : BI) (xs : List AV) (B : Mem) (k : Kt) : Prop := match b, xs with
  | .sorted, [x] => match dictOf B x with
    | some (.k kvs) => ∃ ks : List Int, kvs.map (·.1) = ks.map Sum.inl ∧ ks.length ≤ sizeLine ∧ wpR B k (.l ((ks.mergeSort fun a b => decide (a ≤ b)).map .int))
    | _ => aDL (dBi .sorted) [x] B k
  | .len, [x] => match kdOf B x with
    | .scr ns => k (.d (.int (ns.length : Int))) B
    | _ => aDL (dBi .len) [x] B k
  | .tuple, [x] => isKt x = false ∧ wD B x fun d => dTup d (wpR B k)
  | b, xs => aDL (dBi b) xs B k
theorem avs1 {vs : List V} {x : AV} (h : AVs K G θ vs [x]) : ∃ v, vs = [v] ∧ AVok K G θ v x := by
  cases h with
  | cons h t => cases t; exact ⟨_, rfl, h⟩
theorem intsK {v : V} {x : PyData} {P : List Int → Prop} (ex : Ext G H) (t : Top K G H v x) (h : intsD x P) : ∃ a ns, v = .ref a ∧ SqL K H a (ns.map V.int) ∧ P ns := by
  unfold intsD at h
  split at h
  · obtain ⟨ns, rfl, h⟩ := h
    obtain ⟨a, vs, rfl, e, d⟩ := t.list ex
    rw [dqAll_ints d] at e
    exact ⟨a, ns, rfl, SqL.of e, h⟩
  · exact h.elim
theorem boolsK {v : V} {x : PyData} {P : List Bool → Prop} (ex : Ext G H) (t : Top K G H v x) (h : boolsD x P) : ∃ a ns, v = .ref a ∧ SqL K H a (ns.map V.bl) ∧ P ns := by
  unfold boolsD at h
  split at h
  · obtain ⟨ns, rfl, h⟩ := h
    obtain ⟨a, vs, rfl, e, d⟩ := t.list ex
    rw [dqAll_bools d] at e
    exact ⟨a, ns, rfl, SqL.of e, h⟩
  · exact h.elim
theorem paired_of : ∀ {vs : List V} {ds : List PyData}, DqAll K G vs ds → Paired (Dq K G) vs ds
  | _, _, .nil => .nil
  | _, _, .cons h t => .cons h (paired_of t)
theorem of_paired : ∀ {vs : List V} {ds : List PyData}, Paired (Dq K G) vs ds → DqAll K G vs ds
  | _, _, .nil => .nil
  | _, _, .cons h t => .cons h (of_paired t)
theorem rdl_bi0 {b : BI} : RDL K (rBI K b) (aDL (dBi b)) := rdl_data fun G H vs ds P Q ex t h q => by
  unfold dBi at h
  split at h
  · obtain ⟨v, rfl, y⟩ := tops1 t
    unfold dLen at h
    split at h
    · obtain ⟨a, us, rfl, e, d⟩ := y.list ex
      exact .inl ⟨_, _, rfl, .inl ⟨us, SqL.of e, (dqAll_len d).symm⟩, q G H _ _ (res_int ex) h⟩
    · obtain ⟨a, us, rfl, e, d⟩ := y.tuple ex
      exact .inl ⟨_, _, rfl, .inr ⟨us, e, (dqAll_len d).symm⟩, q G H _ _ (res_int ex) h⟩
    · rw [y.str]
      exact .inl ⟨_, _, rfl, ⟨h.1, rfl⟩, q G H _ _ (res_int ex) h.2⟩
    · exact h.elim
  · obtain ⟨v, rfl, y⟩ := tops1 t
    exact ⟨_, by rw [y.int], q G H _ _ (res_int ex) h⟩
  · obtain ⟨v, rfl, y⟩ := tops1 t
    exact .inl ⟨_, by rw [y.int], q G H _ _ (res_int ex) h⟩
  · obtain ⟨v, rfl, y⟩ := tops1 t
    exact .inr ⟨_, by rw [y.bool], q G H _ _ (res_int ex) h⟩
  · obtain ⟨v, rfl, y⟩ := tops1 t
    exact .inl ⟨_, by rw [y.int], q G H _ _ (res_bool ex) h⟩
  · obtain ⟨v, rfl, y⟩ := tops1 t
    exact .inr ⟨_, by rw [y.bool], q G H _ _ (res_bool ex) h⟩
  · obtain ⟨v, rfl, y⟩ := tops1 t
    exact ⟨_, by rw [y.int], h.1, q G H _ _ (res_str ex) h.2⟩
  · obtain ⟨v, u, rfl, t1, t2⟩ := tops2 t
    exact .inl ⟨_, _, by rw [t1.int, t2.int], q G H _ _ (res_int ex) h⟩
  · obtain ⟨v, u, rfl, t1, t2⟩ := tops2 t
    exact .inl ⟨_, _, by rw [t1.int, t2.int], q G H _ _ (res_int ex) h⟩
  · obtain ⟨v, rfl, y⟩ := tops1 t
    obtain ⟨a, ns, rfl, hs, h1, h2⟩ := intsK ex y h
    exact .inr ⟨a, ns, rfl, hs, h1, fun m hm hy => q G H _ _ (res_int ex) (h2 m hm hy)⟩
  · obtain ⟨v, rfl, y⟩ := tops1 t
    obtain ⟨a, ns, rfl, hs, h1, h2⟩ := intsK ex y h
    exact .inr ⟨a, ns, rfl, hs, h1, fun m hm hy => q G H _ _ (res_int ex) (h2 m hm hy)⟩
  · obtain ⟨v, rfl, y⟩ := tops1 t
    obtain ⟨a, ns, rfl, hs, h1⟩ := intsK ex y h
    exact ⟨a, ns, rfl, hs, q G H _ _ (res_int ex) h1⟩
  · obtain ⟨v, rfl, y⟩ := tops1 t
    unfold dSorted at h
    split at h
    · obtain ⟨a, us, rfl, e, d⟩ := y.list ex
      obtain ⟨h1, h2, h3, h4, h5⟩ := h
      exact .inl ⟨a, us, _, Dq K G, rfl, e, paired_of d, fun v d hd => dq_dp (dq_mono ex hd), h1, h2, h3, h4, fun ys p hp hy => q _ _ _ _ (res_lst ex hp (of_paired hy)) h5⟩
    · exact h.elim
  · obtain ⟨v, rfl, y⟩ := tops1 t
    obtain ⟨a, ns, rfl, hs, h1⟩ := boolsK ex y h
    exact ⟨a, ns, rfl, hs, q G H _ _ (res_bool ex) h1⟩
  · obtain ⟨v, rfl, y⟩ := tops1 t
    obtain ⟨a, ns, rfl, hs, h1⟩ := boolsK ex y h
    exact ⟨a, ns, rfl, hs, q G H _ _ (res_bool ex) h1⟩
  · obtain ⟨v, rfl, y⟩ := tops1 t
    obtain ⟨a, us, rfl, e, d⟩ := y.list ex
    exact ⟨a, us, rfl, .inl (SqL.of e), fun l hl => q _ _ _ _ (res_lst ex hl d) h⟩
  · obtain ⟨v, rfl, y⟩ := tops1 t
    obtain ⟨a, us, rfl, e, d⟩ := y.tuple ex
    exact ⟨a, us, rfl, .inr e, fun l hl => q _ _ _ _ (res_lst ex hl d) h⟩
  · exact h.elim
theorem rdl_bi {b : BI} : RDL K (rBI K b) (aBi b) := by
  intro θ A B σ G H vs xs k Q S hv h q
  have ex := S.mem.ex
  have fin : ∀ G' H' z res, ResOk K G H G' H' z res → wpR B k res → Q z H' := fun G' H' z res ro hp => st_fin S ro hp q
  unfold aBi at h
  split at h
  · rename_i x
    split at h
    · rename_i kvs hc
      obtain ⟨ks, h1, h2, h3⟩ := h
      obtain ⟨v, rfl, hw⟩ := avs1 hv
      obtain ⟨a, rfl, ⟨kvs', vs, e, hr, ho⟩ | ⟨kvs', vs, e, hr, ho⟩⟩ := dict_at S.mem hw hc
      · cases e
        have hk : vs.map (·.1) = ks.map Sum.inl := by
          rw [← h1]
          clear h1 hr hc
          induction ho with
          | nil => rfl
          | cons _ _ ih => rw [List.map_cons, List.map_cons, ih]
        exact .inr ⟨a, vs, ks, rfl, hr, hk, h2, fun p hp => fin _ _ _ _ (res_lst ex hp (dqAll_of_ints _)) h3⟩
      · cases e
    · exact rdl_bi0 θ A B σ G H vs _ k Q S hv h q
  · rename_i x
    split at h
    · rename_i ns hc
      obtain ⟨v, rfl, hw⟩ := avs1 hv
      have hx := kd_scr hc
      subst hx
      obtain ⟨a, rfl, e⟩ := cell_scr S.mem hw
      exact .inl ⟨_, _, rfl, .inl ⟨_, e, (List.length_map _).symm⟩, q θ B G H _ _ Gr.refl S (.d (.int _)) h⟩
    · exact rdl_bi0 θ A B σ G H vs _ k Q S hv h q
  · rename_i x
    obtain ⟨v, rfl, hw⟩ := avs1 hv
    obtain ⟨nk, h⟩ := h
    obtain ⟨d, r1, t, h⟩ := wD_rd S.mem hw h
    unfold dTup at h
    split at h
    · obtain ⟨a, us, rfl, e, dq⟩ := t.list ex
      exact ⟨a, us, rfl, .inl ⟨SqL.of e, fun l hl => fin _ _ _ _ (res_tup ex hl dq) h⟩⟩
    · have hq := tup_sc S.mem hw r1 nk
      obtain ⟨a, us, rfl, e, d⟩ := t.tuple ex
      exact ⟨a, us, rfl, .inr ⟨e, fin G H _ _ (res_el ex hq) h⟩⟩
    · exact h.elim
  · exact rdl_bi0 θ A B σ G H vs _ k Q S hv h q
end
end Dl

namespace Dl
open L2 PySem PyProof.Rows PySem.Spec

section
variable {K : PySem.W.Frag} {θ : Th} {A : Env} {B : Mem} {σ : L2.St} {G H : Hp} {X : Cx} {e a b c o i : Expr} {es : List Expr} {pos : Pos} {fa fb fc fo : FE} {fs : FA}
/-- a cell changes -/
theorem mem_upd {j : Nat} {as : List Addr} {c : MC} {p : Addr} {ob : HO} (m : MemOk K θ B G H) (hk : θ[j]? = some as) (hp : p ∈ as) (hc : CellOk K G (upd H p ob) as c) : MemOk K θ (B.set j c) G (upd H p ob) ∧ Gr θ θ G H G (upd H p ob) := by
  have hm : p ∈ θ.flatten := List.mem_flatten.mpr ⟨as, List.mem_of_getElem? hk, hp⟩
  have hg := m.free p hm
  refine ⟨⟨m.ex.side hg, m.cells.upd m.nd hk (Ext.refl _) (fun a u ha hf hn => ?_) hc, m.nd, m.free⟩, ⟨Ext.refl _, List.prefix_refl _, fun a u h hn => ?_, fun a h => .inl h, fun a h => .inl h⟩⟩
  · rw [upd_ne fun e : a = p => hn (by rw [e]; exact hp)]
    exact ha
  · rw [upd_ne fun e : a = p => hn (by rw [e]; exact hm)]
    exact h
theorem st_upd {j : Nat} {as : List Addr} {c : MC} {p : Addr} {ob : HO} (S : StOk K θ A B σ G H) (hk : θ[j]? = some as) (hp : p ∈ as) (hc : CellOk K G (upd H p ob) as c) : StOk K θ A (B.set j c) σ G (upd H p ob) := ⟨(mem_upd S.mem hk hp hc).1, S.slots⟩

/-! ### methods that change a list -/
def isLst (B : Mem) (x : AV) : Prop := ∃ ds, rd B x = some (.list ds)
inductive MM where
  | append | extend | pop
  deriving DecidableEq
/-- x.m(args), x a cell that holds a list -/
def aMM (m : MM) (x : AV) (ys : List AV) (B : Mem) (k : Kt) : Prop := match x with
  | .m j => match B[j]? with
    | some (.lst ds) => match m, ys with
      | .append, [y] => wK y fun d => ds.length < sizeLine ∧ k (.d .none) (B.set j (.lst (ds ++ [d])))
      | .extend, [y] => wD B y fun d => ∃ es, d = .list es ∧ ds.length + es.length ≤ sizeLine ∧ k (.d .none) (B.set j (.lst (ds ++ es)))
      | .pop, [y] => wK y fun d => ∃ (n : Int) (i : Nat) (z : PyData), d = .int n ∧ -(2 ^ 63) ≤ n ∧ n < 2 ^ 63 ∧ seqIndex? n ds.length = some i ∧ ds[i]? = some z ∧ k (.d z) (B.set j (.lst (ds.eraseIdx i)))
      | .pop, [] => ∃ z, ds[ds.length - 1]? = some z ∧ k (.d z) (B.set j (.lst ds.dropLast))
      | _, _ => False
    | _ => False
  | _ => False
def rMM : MM → V → List V → Hp → VK → Prop
  | .append => rAppend
  | .extend => rExtend
  | .pop => fun x vs H Q => rPopAt x vs H Q ∨ rPop x vs H Q
theorem dqAll_dropLast : ∀ {vs : List V} {ds : List PyData}, DqAll K G vs ds → DqAll K G vs.dropLast ds.dropLast
  | _, _, .nil => .nil
  | _, _, .cons h .nil => .nil
  | _, _, .cons h (.cons h2 t) => .cons h (dqAll_dropLast (.cons h2 t))
theorem mm_of {m : MM} {v : V} {x : AV} {us : List V} {ys : List AV} {k : Kt} {Q : VK} (S : StOk K θ A B σ G H) (hv : AVok K G θ v x) (hu : AVs K G θ us ys) (h : aMM m x ys B k)
    (q : ∀ θ' B' G' H' z w, Gr θ θ' G H G' H' → StOk K θ' A B' σ G' H' → AVok K G' θ' z w → k w B' → Q z H') : rMM m v us H Q := by
  unfold aMM at h
  split at h
  · rename_i j
    split at h
    · rename_i ds hb
      obtain ⟨a, vs, rfl, hk, e, d⟩ := cell_lst S.mem hv hb
      have gs : ∀ {vs' : List V} {ds' : List PyData}, DqAll K G vs' ds' → Gr θ θ G H G (upd H a (.lst vs')) ∧ StOk K θ A (B.set j (.lst ds')) σ G (upd H a (.lst vs')) := fun hd => by
        have hc : CellOk K G (upd H a (.lst _)) [a] (.lst _) := .lst upd_same hd
        exact ⟨(mem_upd S.mem hk (List.mem_singleton.mpr rfl) hc).2, st_upd S hk (List.mem_singleton.mpr rfl) hc⟩
      split at h
      · obtain ⟨u, rfl, hw⟩ := avs1 hu
        obtain ⟨y, hy, hz, h⟩ := wK_of hw h
        have g := gs (dqAll_append d (dqAll_one hy))
        exact ⟨a, vs, u, rfl, rfl, e, by rw [dqAll_len d]; exact hz, q _ _ _ _ _ _ g.1 g.2 (.d .non) h⟩
      · obtain ⟨u, rfl, hw⟩ := avs1 hu
        obtain ⟨y, hy, es, rfl, hz, h⟩ := wD_of S.mem hw h
        obtain ⟨b, ws, rfl, e2, d2⟩ := hy.list S.mem.ex
        have g := gs (dqAll_append d d2)
        exact ⟨a, b, vs, ws, rfl, rfl, e, e2, by rw [dqAll_len d, dqAll_len d2]; exact hz, q _ _ _ _ _ _ g.1 g.2 (.d .non) h⟩
      · obtain ⟨u, rfl, hw⟩ := avs1 hu
        obtain ⟨y, hy, n, i, z, rfl, h1, h2, h3, h4, h⟩ := wK_of hw h
        cases hy
        obtain ⟨w, hw2, dw⟩ := dqAll_get d h4
        have g := gs (dqAll_erase i d)
        exact .inl ⟨a, vs, n, i, w, rfl, rfl, e, h1, h2, by rw [dqAll_len d]; exact h3, hw2, q _ _ _ _ _ _ g.1 g.2 (.d dw) h⟩
      · cases hu
        obtain ⟨z, hz, h⟩ := h
        obtain ⟨w, hw, dw⟩ := dqAll_get d hz
        have g := gs (dqAll_dropLast d)
        exact .inr ⟨a, vs, w, rfl, rfl, e, by rw [dqAll_len d]; exact hw, q _ _ _ _ _ _ g.1 g.2 (.d dw) h⟩
      · exact h.elim
    · exact h.elim
  · exact h.elim
def fMM (m : MM) (fo : FE) (fs : FA) : FE := fun A B k => fo A B fun x B1 => isLst B1 x ∧ fs A B1 fun ys B2 => aMM m x ys B2 k
def nameMM : MM → String
  | .append => "append" | .extend => "extend" | .pop => "pop"
theorem ty_lst {v : V} {x : AV} (m : MemOk K θ B G H) (hv : AVok K G θ v x) (h : isLst B x) : tyV K "list" v H := by
  obtain ⟨ds, h⟩ := h
  obtain ⟨a, vs, rfl, e, d⟩ := (rd_top m hv h).list m.ex
  exact .inl ⟨rfl, vs, SqL.of e⟩
theorem pd_mm {m : MM} (ho : PD X o fo) (hs : PDA X es fs) (h : ∀ to ta, PE X o to → PA X es ta → PE X e (tBM X.K "list" (rMM m) to ta)) : PD X e (fMM m fo fs) := ⟨PE.imp (h _ _ ho.pe hs.pa) fun σ H Q w => by
  obtain ⟨θ, A, B, G, k, S, hf, q⟩ := w
  refine ⟨θ, A, B, G, _, S, hf, fun θ1 B1 G1 H1 v x g1 S1 hv k1 => ?_⟩
  refine ⟨ty_lst S1.mem hv k1.1, θ1, A, B1, G1, _, S1, k1.2, fun θ2 B2 G2 H2 us ys g2 S2 hu k2 => ?_⟩
  exact mm_of S2 (hv.gr g2) hu k2 fun θ3 B3 G3 H3 z w g3 S3 hz k3 => q θ3 B3 G3 H3 z w ((g1.trans g2).trans g3) S3 hz k3⟩
theorem pd_mm0 {m : MM} (ho : PD X o fo) (h : ∀ to, PE X o to → PE X e (tBM0 X.K "list" (rMM m) to)) : PD X e (fMM m fo fNil) := ⟨PE.imp (h _ ho.pe) fun σ H Q w => by
  obtain ⟨θ, A, B, G, k, S, hf, q⟩ := w
  refine ⟨θ, A, B, G, _, S, hf, fun θ1 B1 G1 H1 v x g1 S1 hv k1 => ?_⟩
  refine ⟨ty_lst S1.mem hv k1.1, ?_⟩
  exact mm_of S1 hv .nil k1.2 fun θ3 B3 G3 H3 z w g3 S3 hz k3 => q θ3 B3 G3 H3 z w (g1.trans g3) S3 hz k3⟩
theorem mt_popA : MtR X "list.pop" (rMM .pop) := MtR.or mt_popAt mt_pop

/-! ### d.get -/
def selK (r : Option PyData) (z : AV) (k : Kt) (B : Mem) : Prop := match r with
  | some w => k (.d w) B
  | none => k z B
def fGet2 (fo fa fb : FE) : FE := fun A B k => fo A B fun x B1 => (∃ c, dictOf B1 x = some c) ∧ fa A B1 fun y B2 => fb A B2 fun z B3 => ∃ c, dictOf B3 x = some c ∧ wK y fun d => dlook c d fun r => selK r z k B3
theorem is_dict {v : V} {x : AV} (m : MemOk K θ B G H) (hv : AVok K G θ v x) (h : ∃ c, dictOf B x = some c) : ∃ a, v = .ref a ∧ IsD H a := by
  obtain ⟨c, h⟩ := h
  obtain ⟨a, rfl, ⟨_, vs, _, q, _⟩ | ⟨_, vs, _, q, _⟩⟩ := dict_at m hv h
  · exact ⟨a, rfl, .inl ⟨vs, q⟩⟩
  · exact ⟨a, rfl, .inr ⟨vs, .inl q⟩⟩
theorem pd_get2 (ho : PD X o fo) (ha : PD X a fa) (hb : PD X b fb) (h : ∀ to ta tb, PE X o to → PE X a ta → PE X b tb → PE X e (tDGet2 to ta tb)) : PD X e (fGet2 fo fa fb) := ⟨PE.imp (h _ _ _ ho.pe ha.pe hb.pe) fun σ H Q w => by
  obtain ⟨θ, A, B, G, k, S, hf, q⟩ := w
  refine ⟨θ, A, B, G, _, S, hf, fun θ1 B1 G1 H1 v x g1 S1 hv k1 => ?_⟩
  obtain ⟨p, rfl, hp⟩ := is_dict S1.mem hv k1.1
  refine ⟨p, rfl, hp, θ1, A, B1, G1, _, S1, k1.2, fun θ2 B2 G2 H2 u y g2 S2 hu k2 => ?_⟩
  refine ⟨θ2, A, B2, G2, _, S2, k2, fun θ3 B3 G3 H3 t z g3 S3 ht k3 => ?_⟩
  obtain ⟨c, hc, k3⟩ := k3
  obtain ⟨d, hd, hl⟩ := wK_of (hu.gr g3) k3
  obtain ⟨a', r, r', e1, g, hk, hr⟩ := dget_of S3.mem ((hv.gr g2).gr g3) hc hd hl
  cases e1
  refine ⟨r, g, ?_⟩
  rcases hr with ⟨z1, d1, rfl, rfl, dq⟩ | ⟨rfl, rfl⟩
  · exact q θ3 B3 G3 H3 _ _ ((g1.trans g2).trans g3) S3 (.d dq) hk
  · exact q θ3 B3 G3 H3 _ _ ((g1.trans g2).trans g3) S3 ht hk⟩

/-! ### {} -/
def fDNew : FE := fun _ B k => k (.m B.length) (B ++ [.dK []]) ∨ k (.m B.length) (B ++ [.dT []])
theorem pd_dnew (h1 : PE X e tDNewK) (h2 : PE X e tDNewT) : PD X e fDNew := by
  refine ⟨⟨fun pins s σ H Q I w => ?_⟩⟩
  obtain ⟨θ, A, B, G, k, S, hf, q⟩ := w
  have hl := S.mem.cells.len
  have hm : ∀ {p : Addr}, (θ ++ [[p]])[B.length]? = some [p] := fun {p} => by
    rw [← hl, List.getElem?_append_right (Nat.le_refl _), Nat.sub_self]
    rfl
  rcases hf with hf | hf
  · refine h1.run pins s σ H Q I fun p hp => ?_
    obtain ⟨m2, g2⟩ := mem_cell (o := .dK []) (c := .dK []) S.mem hp (.dK upd_same .nil)
    exact q _ _ _ _ _ _ g2 ⟨m2, S.slots.mono g2.gx g2.th⟩ (.m hm) hf
  · refine h2.run pins s σ H Q I fun p hp => ?_
    obtain ⟨m2, g2⟩ := mem_cell (o := .dT []) (c := .dT []) S.mem hp (.dT upd_same .nil)
    exact q _ _ _ _ _ _ g2 ⟨m2, S.slots.mono g2.gx g2.th⟩ (.m hm) hf

/-! ### isinstance -/
inductive TN where
  | int | bool | str | list | tuple
  deriving DecidableEq
def nameTN : TN → String
  | .int => "int" | .bool => "bool" | .str => "str" | .list => "list" | .tuple => "tuple"
def isSub (a b : String) : Bool := a == b || (a == "bool" && b == "int")
def tyD : PyData → String
  | .none => "NoneType"
  | .bool _ => "bool"
  | .int _ => "int"
  | .str _ => "str"
  | .list _ => "list"
  | .tuple _ => "tuple"
  | .dict _ => "dict"
def dIsi (ts : List TN) (d : PyData) : Bool := ts.any fun t => isSub (tyD d) (nameTN t)
theorem kit_sub : ∀ a ∈ ["NoneType", "bool", "int", "str", "list", "tuple"], ∀ b ∈ ["int", "bool", "str", "list", "tuple"], kitB a b = some (isSub a b) := by decide +kernel
theorem tyD_mem {v : V} {d : PyData} (h : Dp K H v d) : tyD d ∈ ["NoneType", "bool", "int", "str", "list", "tuple"] := by
  cases h <;> simp [tyD]
theorem nameTN_mem (t : TN) : nameTN t ∈ ["int", "bool", "str", "list", "tuple"] := by
  cases t <;> simp [nameTN]
theorem kit_any {v : V} {d : PyData} (h : Dp K H v d) : ∀ ts : List TN, PySem.W.kitAny K (.type (tyD d)) (ts.map fun t => .type (nameTN t)) = some (dIsi ts d)
  | [] => rfl
  | t :: ts => by
    have e : PySem.W.kitOne K (.type (tyD d)) (.type (nameTN t)) = some (isSub (tyD d) (nameTN t)) := kit_ty (kit_sub _ (tyD_mem h) _ (nameTN_mem t))
    have ih := kit_any h ts
    unfold PySem.W.kitAny
    rw [List.map_cons]
    simp only [e]
    unfold dIsi at ih ⊢
    rw [List.any_cons]
    cases isSub (tyD d) (nameTN t) with
    | true => rfl
    | false => simpa using ih
theorem top_ty {v : V} {d : PyData} (ex : Ext G H) (t : Top K G H v d) : TyX K H v (.type (tyD d)) := by
  cases t with
  | sc h =>
    cases h with
    | non => exact .base .non
    | bl b => exact .base (.bl b)
    | int i => exact .base (.int i)
    | str x => exact .base (.str x)
    | lst e _ => exact .base (.lst (ex _ _ e))
    | tup e _ => exact .base (.tup (ex _ _ e))
  | ls e _ => exact .base (.lst e)
  | kt h _ =>
    rcases h with (h | ⟨o, h⟩) | ⟨o, its, n, hk, hc, _⟩
    · cases h
    · cases h
    · exact .kTuple hk hc
def fIsi (ts : List TN) (fa : FE) : FE := fun A B k => fa A B fun x B1 => wD B1 x fun d => k (.d (.bool (dIsi ts d))) B1
def tTypes : List TN → TA
  | [] => tNil
  | t :: ts => tCons (tC (.ty (nameTN t))) (tTypes ts)
theorem types_run : ∀ (ts : List TN) {σ : L2.St} {H : Hp} {Q : List V → Hp → Prop}, Q (ts.map fun t => .ty (nameTN t)) H → tTypes ts σ H Q
  | [], _, _, _, h => h
  | t :: ts, σ, H, Q, h => types_run ts h
theorem cls_all : ∀ ts : List TN, Paired ClsV (ts.map fun t => .ty (nameTN t)) (ts.map fun t => .type (nameTN t))
  | [] => .nil
  | t :: ts => .cons (.ty _) (cls_all ts)
theorem pd_isi1 {t : TN} (ha : PD X a fa) (h : ∀ ta, PE X a ta → PE X e (tCB (rIsi X.K) (tCons ta (tCons (tC (.ty (nameTN t))) tNil)))) : PD X e (fIsi [t] fa) := ⟨PE.imp (h _ ha.pe) fun σ H Q w => by
  obtain ⟨θ, A, B, G, k, S, hf, q⟩ := w
  refine ⟨θ, A, B, G, _, S, hf, fun θ1 B1 G1 H1 v x g1 S1 hv k1 => ?_⟩
  obtain ⟨d, t1, h⟩ := wD_of S1.mem hv k1
  refine ⟨v, _, _, _, _, rfl, .ty _, top_ty S1.mem.ex t1, kit_ty (kit_sub _ (tyD_mem (t1.dp S1.mem.ex)) _ (nameTN_mem t)), ?_⟩
  refine q θ1 B1 G1 H1 _ _ g1 S1 ?_ h
  have e : dIsi [t] d = isSub (tyD d) (nameTN t) := by simp [dIsi]
  rw [e]
  exact .d (.bl _)⟩
theorem pd_isiT {ts : List TN} (hz : ts.length ≤ 10) (ha : PD X a fa) (h : ∀ ta, PE X a ta → PE X e (tCB (rIsiT X.K) (tCons ta (tCons (tTup (tTypes ts)) tNil)))) : PD X e (fIsi ts fa) := ⟨PE.imp (h _ ha.pe) fun σ H Q w => by
  obtain ⟨θ, A, B, G, k, S, hf, q⟩ := w
  refine ⟨θ, A, B, G, _, S, hf, fun θ1 B1 G1 H1 v x g1 S1 hv k1 => ?_⟩
  obtain ⟨d, t1, h⟩ := wD_of S1.mem hv k1
  refine types_run ts ⟨by rw [List.length_map]; exact Nat.le_trans hz (by decide), fun p hp => ?_⟩
  have s := Stp.junk (G := G1) (o := .tup (ts.map fun t => .ty (nameTN t))) S1.mem.ex hp
  have t2 := t1.mono s
  exact ⟨v, p, _, _, _, _, rfl, upd_same, cls_all ts, top_ty s.ex t2, kit_any (t2.dp s.ex) ts, q θ1 B1 G1 _ _ _ (g1.trans s.gr) (s.st S1) (.d (.bl _)) h⟩⟩
end
end Dl

namespace Dl
open L2 PySem PyProof.Rows PySem.Spec

/-- the walk gives these data, one after the other, whatever is new meanwhile -/
structure Walks (K : PySem.W.Frag) (G0 : Hp) (J : It) (xs : List PyData) : Prop where
  step : ∀ (i : Nat) (G H : Hp), Ext G0 G → Ext G H → i < xs.length → J.go i H ∧ ∀ (x : V) (H' : Hp), J.yld i H x H' → ∃ G', Stp G H G' H' ∧ ∀ d, xs[i]? = some d → Dq K G' x d
  stop : ∀ H, Ext G0 H → J.stop xs.length H
abbrev FI := Env → Mem → (List PyData → Mem → Prop) → Prop
def tfI (K : PySem.W.Frag) (f : FI) : TI := fun σ H R => ∃ θ A B G k, StOk K θ A B σ G H ∧ f A B k ∧ ∀ θ' B' G' H' xs J, Gr θ θ' G H G' H' → StOk K θ' A B' σ G' H' → Walks K G' J xs → k xs B' → R J H'
structure PDI (X : Cx) (tg iter : Expr) (f : FI) : Prop where
  pi : PI X tg iter (tfI X.K f)
theorem PI.imp {X : Cx} {tg iter : Expr} {t t' : TI} (h : PI X tg iter t) (i : ∀ σ H R, t' σ H R → t σ H R) : PI X tg iter t' := ⟨fun pins s σ H R I w => h.run pins s σ H R I (i σ H R w)⟩
theorem pi_or {X : Cx} {tg iter : Expr} {t t' : TI} (h : PI X tg iter t) (h' : PI X tg iter t') : PI X tg iter (fun σ H R => t σ H R ∨ t' σ H R) := ⟨fun pins s σ H R I w => by
  rcases w with w | w
  · exact h.run pins s σ H R I w
  · exact h'.run pins s σ H R I w⟩
section
variable {K : PySem.W.Frag} {θ : Th} {A : Env} {B : Mem} {σ : L2.St} {G H : Hp} {X : Cx} {e a b c o i tg : Expr} {es : List Expr} {pos : Pos} {fa fb fc fo : FE} {fs : FA}
theorem dq_el {vs : List V} {ds : List PyData} (h : DqAll K G vs ds) {i : Nat} {x : V} (e : vs[i]? = some x) : ∀ d, ds[i]? = some d → Dq K G x d := fun d hd => by
  obtain ⟨v, h1, h2⟩ := dqAll_get h hd
  rw [e] at h1
  cases h1
  exact h2
theorem walks_list {a : Addr} {vs : List V} {xs : List PyData} (e : G a = some (.lst vs)) (d : DqAll K G vs xs) : Walks K G (Itl K a) xs := by
  have hl := dqAll_len d
  refine ⟨fun i G1 H1 x1 x2 hi => ⟨⟨vs, vs[i]'(by omega), SqL.of (x2 _ _ (x1 _ _ e)), by simp⟩, fun x H' y => ?_⟩, fun H x1 => ⟨vs, SqL.of (x1 _ _ e), by omega⟩⟩
  obtain ⟨rfl, y⟩ := y
  exact ⟨G1, Stp.refl x2, dq_el (dqAll_mono x1 d) (y vs (SqL.of (x2 _ _ (x1 _ _ e))))⟩
theorem walks_tup {a : Addr} {vs : List V} {xs : List PyData} (e : ∀ H, Ext G H → SqT K H a vs) (d : DqAll K G vs xs) : Walks K G (Itt K a) xs := by
  have hl := dqAll_len d
  refine ⟨fun i G1 H1 x1 x2 hi => ⟨⟨vs, vs[i]'(by omega), e _ (x1.trans x2), by simp⟩, fun x H' y => ?_⟩, fun H x1 => ⟨vs, e _ x1, by omega⟩⟩
  obtain ⟨rfl, y⟩ := y
  exact ⟨G1, Stp.refl x2, dq_el (dqAll_mono x1 d) (y vs (e _ (x1.trans x2)))⟩
def rangeD (lo : Int) (n : Nat) : List PyData := (List.range n).map fun (i : Nat) => .int (lo + (i : Int))
theorem rangeD_len (lo : Int) (n : Nat) : (rangeD lo n).length = n := by simp [rangeD]
theorem rangeD_get {lo : Int} {n i : Nat} {d : PyData} (h : (rangeD lo n)[i]? = some d) : i < n ∧ d = .int (lo + (i : Int)) := by
  unfold rangeD at h
  rw [List.getElem?_map] at h
  by_cases q : i < n
  · rw [List.getElem?_range q] at h
    exact ⟨q, (Option.some.inj h).symm⟩
  · rw [List.getElem?_eq_none (by simpa using q)] at h
    cases h
theorem walks_range (lo : Int) (n : Nat) : Walks K G (Itr lo n) (rangeD lo n) := by
  refine ⟨fun i G1 H1 x1 x2 hi => ⟨by rw [rangeD_len] at hi; exact hi, fun x H' y => ?_⟩, fun H x1 => by show n ≤ _; rw [rangeD_len]; exact Nat.le_refl _⟩
  obtain ⟨rfl, rfl⟩ := y
  refine ⟨G1, Stp.refl x2, fun d hd => ?_⟩
  rw [(rangeD_get hd).2]
  exact .int _
def rangeC (lo c : Int) (n : Nat) : List PyData := (List.range n).map fun (i : Nat) => .int (lo + (i : Int) * c)
theorem rangeC_len (lo c : Int) (n : Nat) : (rangeC lo c n).length = n := by simp [rangeC]
theorem rangeC_get {lo c : Int} {n i : Nat} {d : PyData} (h : (rangeC lo c n)[i]? = some d) : i < n ∧ d = .int (lo + (i : Int) * c) := by
  unfold rangeC at h
  rw [List.getElem?_map] at h
  by_cases q : i < n
  · rw [List.getElem?_range q] at h
    exact ⟨q, (Option.some.inj h).symm⟩
  · rw [List.getElem?_eq_none (by simpa using q)] at h
    cases h
theorem walks_rangeC (lo c : Int) (n : Nat) : Walks K G (Itc lo c n) (rangeC lo c n) := by
  refine ⟨fun i G1 H1 x1 x2 hi => ⟨by rw [rangeC_len] at hi; exact hi, fun x H' y => ?_⟩, fun H x1 => by show n ≤ _; rw [rangeC_len]; exact Nat.le_refl _⟩
  obtain ⟨rfl, rfl⟩ := y
  refine ⟨G1, Stp.refl x2, fun d hd => ?_⟩
  rw [(rangeC_get hd).2]
  exact .int _
def signsD (z : Str) : List PyData := z.cps.toList.map fun c => .str ⟨#[c]⟩
theorem walks_str (z : Str) : Walks K G (Its z) (signsD z) := by
  have hl : (signsD z).length = z.cps.size := by simp [signsD]
  refine ⟨fun i G1 H1 x1 x2 hi => ⟨by rw [hl] at hi; exact hi, fun x H' y => ?_⟩, fun H x1 => by show _ ≤ _; rw [hl]; exact Nat.le_refl _⟩
  obtain ⟨rfl, c, hc, rfl⟩ := y
  refine ⟨G1, Stp.refl x2, fun d hd => ?_⟩
  unfold signsD at hd
  rw [List.getElem?_map, Array.getElem?_toList, hc] at hd
  cases hd
  exact .str _
def wL (x : AV) (k : List PyData → Prop) : Prop := match x with
  | .d (.list xs) => k xs
  | _ => False
def wT (x : AV) (k : List PyData → Prop) : Prop := match x with
  | .d (.tuple xs) => k xs
  | .kt xs => k xs
  | _ => False
def wS (x : AV) (k : List PyData → Prop) : Prop := match x with
  | .d (.str z) => k (signsD z)
  | _ => False
/-- the items of a list, a tuple, a text -/
def fSeq (fa : FE) : FI := fun A B k => (fa A B fun x B1 => wL x fun xs => k xs B1) ∨ (fa A B fun x B1 => wT x fun xs => k xs B1) ∨ (fa A B fun x B1 => wS x fun xs => k xs B1)
theorem pdi_seq (ha : PD X a fa) : PDI X tg a (fSeq fa) := ⟨PI.imp (pi_or (pi_list ha.pe) (pi_or (pi_tup ha.pe) (pi_str ha.pe))) fun σ H R w => by
  obtain ⟨θ, A, B, G, k, S, hf, q⟩ := w
  rcases hf with hf | hf | hf
  · refine .inl ⟨θ, A, B, G, _, S, hf, fun θ1 B1 G1 H1 v x g1 S1 hv k1 => ?_⟩
    unfold wL at k1
    split at k1
    · cases hv with
      | d hd =>
        cases hd with
        | lst e d => exact ⟨_, rfl, ⟨_, SqL.of (S1.mem.ex _ _ e)⟩, q θ1 B1 G1 H1 _ _ g1 S1 (walks_list e d) k1⟩
    · exact k1.elim
  · refine .inr (.inl ⟨θ, A, B, G, _, S, hf, fun θ1 B1 G1 H1 v x g1 S1 hv k1 => ?_⟩)
    unfold wT at k1
    split at k1
    · cases hv with
      | d hd =>
        cases hd with
        | tup e d => exact ⟨_, rfl, ⟨_, SqT.of (S1.mem.ex _ _ e)⟩, q θ1 B1 G1 H1 _ _ g1 S1 (walks_tup (fun H x => SqT.of (x _ _ e)) d) k1⟩
    · cases hv with
      | kt e d => exact ⟨_, rfl, ⟨_, sqT_any e⟩, q θ1 B1 G1 H1 _ _ g1 S1 (walks_tup (fun H _ => sqT_any e) (dqAll_mono ex_nil d)) k1⟩
    · exact k1.elim
  · refine .inr (.inr ⟨θ, A, B, G, _, S, hf, fun θ1 B1 G1 H1 v x g1 S1 hv k1 => ?_⟩)
    unfold wS at k1
    split at k1
    · cases hv with
      | d hd =>
        cases hd with
        | str => exact ⟨_, rfl, q θ1 B1 G1 H1 _ _ g1 S1 (walks_str _) k1⟩
    · exact k1.elim⟩
theorem avs2 {vs : List V} {x y : AV} (h : AVs K G θ vs [x, y]) : ∃ v u, vs = [v, u] ∧ AVok K G θ v x ∧ AVok K G θ u y := by
  cases h with
  | cons h t =>
    cases t with
    | cons h2 t => cases t; exact ⟨_, _, rfl, h, h2⟩
theorem avs3 {vs : List V} {x y z : AV} (h : AVs K G θ vs [x, y, z]) : ∃ v u w, vs = [v, u, w] ∧ AVok K G θ v x ∧ AVok K G θ u y ∧ AVok K G θ w z := by
  cases h with
  | cons h t =>
    obtain ⟨u, w, rfl, h2, h3⟩ := avs2 t
    exact ⟨_, u, w, rfl, h, h2, h3⟩
/-- ranges -/
def wInt (x : AV) (k : Int → Prop) : Prop := match x with
  | .d (.int i) => k i
  | _ => False
theorem wInt_of {v : V} {x : AV} {k : Int → Prop} (hv : AVok K G θ v x) (h : wInt x k) : ∃ i, v = .int i ∧ k i := by
  unfold wInt at h
  split at h
  · cases hv with
    | d hd => cases hd; exact ⟨_, rfl, h⟩
  · exact h.elim
def fR1 (fs : FA) : FI := fun A B k => fs A B fun ws B1 => ∃ j : Int, ws = [.d (.int j)] ∧ -(2 ^ 62) ≤ j ∧ j < 2 ^ 62 ∧ k (rangeD 0 j.toNat) B1
theorem avInt {v : V} {i : Int} (h : AVok K G θ v (.d (.int i))) : v = .int i := by
  cases h with
  | d h => cases h; rfl
theorem pdi_r1 (hs : PDA X es fs) (h : ∀ ta, PA X es ta → PI X tg e (iRng1 ta)) : PDI X tg e (fR1 fs) := ⟨PI.imp (h _ hs.pa) fun σ H R w => by
  obtain ⟨θ, A, B, G, k, S, hf, q⟩ := w
  refine ⟨θ, A, B, G, _, S, hf, fun θ1 B1 G1 H1 vs ws g1 S1 hv k1 => ?_⟩
  obtain ⟨j, rfl, h1, h2, h3⟩ := k1
  obtain ⟨v, rfl, hw⟩ := avs1 hv
  rw [avInt hw]
  exact ⟨j, rfl, h1, h2, q θ1 B1 G1 H1 _ _ g1 S1 (walks_range 0 j.toNat) h3⟩⟩
def fR2 (fs : FA) : FI := fun A B k => fs A B fun ws B1 => ∃ i j : Int, ws = [.d (.int i), .d (.int j)] ∧ (-(2 ^ 62) ≤ i ∧ i < 2 ^ 62 ∧ -(2 ^ 62) ≤ j ∧ j < 2 ^ 62) ∧ k (rangeD i (j - i).toNat) B1
theorem pdi_r2 (hs : PDA X es fs) (h : ∀ ta, PA X es ta → PI X tg e (iRng2 ta)) : PDI X tg e (fR2 fs) := ⟨PI.imp (h _ hs.pa) fun σ H R w => by
  obtain ⟨θ, A, B, G, k, S, hf, q⟩ := w
  refine ⟨θ, A, B, G, _, S, hf, fun θ1 B1 G1 H1 vs ws g1 S1 hv k1 => ?_⟩
  obtain ⟨i, j, rfl, h1, h3⟩ := k1
  obtain ⟨v, u, rfl, hw, hu⟩ := avs2 hv
  rw [avInt hw, avInt hu]
  exact ⟨i, j, rfl, h1, q θ1 B1 G1 H1 _ _ g1 S1 (walks_range i (j - i).toNat) h3⟩⟩
def fR3 (fs : FA) : FI := fun A B k => fs A B fun ws B1 => ∃ (i j c : Int) (n : Nat), ws = [.d (.int i), .d (.int j), .d (.int c)] ∧ RgC i j c n ∧ k (rangeC i c n) B1
theorem pdi_r3 (hs : PDA X es fs) (h : ∀ ta, PA X es ta → PI X tg e (iRng3 ta)) : PDI X tg e (fR3 fs) := ⟨PI.imp (h _ hs.pa) fun σ H R w => by
  obtain ⟨θ, A, B, G, k, S, hf, q⟩ := w
  refine ⟨θ, A, B, G, _, S, hf, fun θ1 B1 G1 H1 vs ws g1 S1 hv k1 => ?_⟩
  obtain ⟨i, j, c, n, rfl, h1, h3⟩ := k1
  obtain ⟨v, u, t, rfl, hw, hu, ht⟩ := avs3 hv
  rw [avInt hw, avInt hu, avInt ht]
  exact ⟨i, j, c, n, rfl, h1, q θ1 B1 G1 H1 _ _ g1 S1 (walks_rangeC i c n) h3⟩⟩
/-- pairs -/
def zipD (xs ys : List PyData) : List PyData := List.zipWith (fun x y => .tuple [x, y]) xs ys
theorem zipD_get {xs ys : List PyData} {i : Nat} {d : PyData} (h : (zipD xs ys)[i]? = some d) : ∃ x y, xs[i]? = some x ∧ ys[i]? = some y ∧ d = .tuple [x, y] := by
  unfold zipD at h
  rw [List.getElem?_zipWith] at h
  split at h
  · rename_i x y h1 h2
    exact ⟨x, y, h1, h2, (Option.some.inj h).symm⟩
  · cases h
theorem walks_pair {J : It} {xs ys : List PyData} {vs us : List V} (d1 : DqAll K G vs xs) (d2 : DqAll K G us ys)
    (hg : ∀ (i : Nat) (H : Hp), Ext G H → i < vs.length → i < us.length → J.go i H) (hy : ∀ (i : Nat) (H : Hp) (x : V) (H' : Hp), Ext G H → J.yld i H x H' → ∃ T x1 x2, x = .ref T ∧ H T = none ∧ H' = upd H T (.tup [x1, x2]) ∧ vs[i]? = some x1 ∧ us[i]? = some x2)
    (hs : ∀ (i : Nat) (H : Hp), Ext G H → vs.length ≤ i ∨ us.length ≤ i → J.stop i H) : Walks K G J (zipD xs ys) := by
  have l1 := dqAll_len d1
  have l2 := dqAll_len d2
  have lz : (zipD xs ys).length = min xs.length ys.length := by simp [zipD]
  refine ⟨fun i G1 H1 x1 x2 hi => ⟨hg i H1 (x1.trans x2) (by omega) (by omega), fun x H' y => ?_⟩, fun H x1 => hs _ H x1 (by omega)⟩
  obtain ⟨T, y1, y2, rfl, hT, rfl, e1, e2⟩ := hy i H1 x H' (x1.trans x2) y
  have s := Stp.new (o := .tup [y1, y2]) x2 hT
  refine ⟨_, s, fun d hd => ?_⟩
  obtain ⟨z1, z2, f1, f2, rfl⟩ := zipD_get hd
  exact .tup upd_same (.cons (dq_mono (x1.trans s.gx) (dq_el d1 e1 _ f1)) (.cons (dq_mono (x1.trans s.gx) (dq_el d2 e2 _ f2)) .nil))
def wZip (ws : List AV) (k : List PyData → Prop) : Prop := match ws with
  | [.d (.list xs), .d (.list ys)] => k (zipD xs ys)
  | [.d (.tuple xs), .d (.tuple ys)] => k (zipD xs ys)
  | _ => False
def fZip (fs : FA) : FI := fun A B k => fs A B fun ws B2 => wZip ws fun xs => k xs B2
theorem pdi_zip (hs : PDA X es fs) (h : ∀ ta, PA X es ta → PI X tg e (RZ.iZipA X.K ta)) : PDI X tg e (fZip fs) := ⟨PI.imp (h _ hs.pa) fun σ H R w => by
  obtain ⟨θ, A, B, G, k, S, hf, q⟩ := w
  refine ⟨θ, A, B, G, _, S, hf, fun θ2 B2 G2 H2 vs ws g2 S2 hws k2 => ?_⟩
  have ex := S2.mem.ex
  unfold wZip at k2
  split at k2
  · obtain ⟨v, u, rfl, hv, hu⟩ := avs2 hws
    cases hv with
    | d hd =>
      cases hd with
      | @lst p1 vs _ e1 d1 =>
        cases hu with
        | d hd =>
          cases hd with
          | @lst p2 us _ e2 d2 =>
            refine ⟨_, _, _, _, rfl, .inl ⟨SqL.of (ex _ _ e1), SqL.of (ex _ _ e2), q θ2 B2 G2 H2 _ _ g2 S2 (walks_pair d1 d2 (fun i H x h1 h2 => ?_) (fun i H x H' xx y => ?_) fun i H x h => ⟨vs, us, SqL.of (x _ _ e1), SqL.of (x _ _ e2), h⟩) k2⟩⟩
            · exact ⟨vs, us, vs[i], us[i], SqL.of (x _ _ e1), SqL.of (x _ _ e2), by simp, by simp⟩
            · obtain ⟨T, y1, y2, h1, h2, h3, h4, h5⟩ := y
              exact ⟨T, y1, y2, h1, h2, h3, h4 _ (SqL.of (xx _ _ e1)), h5 _ (SqL.of (xx _ _ e2))⟩
  · obtain ⟨v, u, rfl, hv, hu⟩ := avs2 hws
    cases hv with
    | d hd =>
      cases hd with
      | @tup p1 vs _ e1 d1 =>
        cases hu with
        | d hd =>
          cases hd with
          | @tup p2 us _ e2 d2 =>
            refine ⟨_, _, _, _, rfl, .inr ⟨SqT.of (ex _ _ e1), SqT.of (ex _ _ e2), q θ2 B2 G2 H2 _ _ g2 S2 (walks_pair d1 d2 (fun i H x h1 h2 => ?_) (fun i H x H' xx y => ?_) fun i H x h => ⟨vs, us, SqT.of (x _ _ e1), SqT.of (x _ _ e2), h⟩) k2⟩⟩
            · exact ⟨vs, us, vs[i], us[i], SqT.of (x _ _ e1), SqT.of (x _ _ e2), by simp, by simp⟩
            · obtain ⟨T, y1, y2, h1, h2, h3, h4, h5⟩ := y
              exact ⟨T, y1, y2, h1, h2, h3, h4 _ (SqT.of (xx _ _ e1)), h5 _ (SqT.of (xx _ _ e2))⟩
  · exact k2.elim⟩
/-- (0, x), (1, y), .. of a list -/
def enumD (xs : List PyData) : List PyData := xs.zipIdx.map fun (x : PyData × Nat) => .tuple [.int (x.2 : Int), x.1]
theorem enumD_get {xs : List PyData} {i : Nat} {d : PyData} (h : (enumD xs)[i]? = some d) : ∃ x, xs[i]? = some x ∧ d = .tuple [.int (i : Int), x] := by
  unfold enumD at h
  rw [List.getElem?_map, List.getElem?_zipIdx] at h
  cases e : xs[i]? with
  | none => rw [e] at h; cases h
  | some x =>
    rw [e] at h
    exact ⟨x, rfl, by simpa using (Option.some.inj h).symm⟩
def fEnum (fs : FA) : FI := fun A B k => fs A B fun ws B1 => ∃ xs, ws = [.d (.list xs)] ∧ k (enumD xs) B1
theorem pdi_enum (hs : PDA X es fs) (h : ∀ ta, PA X es ta → PI X tg e (iEnum X.K ta)) : PDI X tg e (fEnum fs) := ⟨PI.imp (h _ hs.pa) fun σ H R w => by
  obtain ⟨θ, A, B, G, k, S, hf, q⟩ := w
  refine ⟨θ, A, B, G, _, S, hf, fun θ1 B1 G1 H1 us ws g1 S1 hws k1 => ?_⟩
  obtain ⟨xs, rfl, k1⟩ := k1
  obtain ⟨v, rfl, hv⟩ := avs1 hws
  cases hv with
  | d hd =>
    cases hd with
    | @lst p vs xs e d =>
      refine ⟨_, _, rfl, SqL.of (S1.mem.ex _ _ e), q θ1 B1 G1 H1 _ _ g1 S1 ?_ k1⟩
      have hl := dqAll_len d
      have lz : (enumD xs).length = xs.length := by simp [enumD]
      refine ⟨fun i G2 H2 x1 x2 hi => ⟨⟨vs, vs[i]'(by omega), SqL.of (x2 _ _ (x1 _ _ e)), by simp⟩, fun x H' y => ?_⟩, fun H x1 => ⟨vs, SqL.of (x1 _ _ e), by omega⟩⟩
      obtain ⟨T, y1, rfl, hT, rfl, hy⟩ := y
      have s := Stp.new (o := .tup [.int (i : Nat), y1]) x2 hT
      refine ⟨_, s, fun d2 hd => ?_⟩
      obtain ⟨z1, f1, rfl⟩ := enumD_get hd
      exact .tup upd_same (.cons (.int _) (.cons (dq_mono (x1.trans s.gx) (dq_el d (hy vs (SqL.of (x2 _ _ (x1 _ _ e)))) _ f1)) .nil))⟩

/-! ### targets -/
abbrev FG := AV → Env → Mem → (Env → Mem → Prop) → Prop
def tfG (K : PySem.W.Frag) (f : FG) : TG := fun v σ H Q => ∃ θ A B G w k, StOk K θ A B σ G H ∧ AVok K G θ v w ∧ f w A B k ∧ ∀ θ' A' B' σ' G' H', Gr θ θ' G H G' H' → StOk K θ' A' B' σ' G' H' → k A' B' → Q σ' H'
structure PDG (X : Cx) (tg : Expr) (f : FG) : Prop where
  pg : PG X tg (tfG X.K f)
theorem PG.imp {X : Cx} {tg : Expr} {t t' : TG} (h : PG X tg t) (i : ∀ v σ H Q, t' v σ H Q → t v σ H Q) : PG X tg t' := ⟨fun pins s σ H v u Q I r w => h.run pins s σ H v u Q I r (i v σ H Q w)⟩
def gN (i : Nat) : FG := fun w A B k => k (A.set i (some w)) B
theorem pdg_name {i : Nat} (h : PG X tg (gName i)) : PDG X tg (gN i) := ⟨PG.imp h fun v σ H Q w => by
  obtain ⟨θ, A, B, G, w, k, S, hv, hf, q⟩ := w
  exact q θ _ B _ G H Gr.refl (S.set i hv) hf⟩
abbrev FGs := List PyData → Env → Mem → (Env → Mem → Prop) → Prop
def tfGs (K : PySem.W.Frag) (f : FGs) : TGs := fun vs σ H Q => ∃ θ A B G ds k, StOk K θ A B σ G H ∧ DqAll K G vs ds ∧ f ds A B k ∧ ∀ θ' A' B' σ' G' H', Gr θ θ' G H G' H' → StOk K θ' A' B' σ' G' H' → k A' B' → Q σ' H'
structure PDGs (X : Cx) (ts : List Expr) (f : FGs) : Prop where
  pgs : PGs X ts (tfGs X.K f)
theorem PGs.imp {X : Cx} {ts : List Expr} {t t' : TGs} (h : PGs X ts t) (i : ∀ v σ H Q, t' v σ H Q → t v σ H Q) : PGs X ts t' := ⟨fun pins s σ H v u Q I r w => h.run pins s σ H v u Q I r (i v σ H Q w)⟩
def gsNil : FGs := fun ds A B k => ds = [] ∧ k A B
def gsCons (f : FG) (g : FGs) : FGs := fun ds A B k => ∃ d r, ds = d :: r ∧ f (.d d) A B fun A1 B1 => g r A1 B1 k
theorem pdgs_nil : PDGs X [] gsNil := ⟨PGs.imp pgs_nil fun v σ H Q w => by
  obtain ⟨θ, A, B, G, ds, k, S, hv, ⟨rfl, hf⟩, q⟩ := w
  cases hv
  exact ⟨rfl, q θ A B σ G H Gr.refl S hf⟩⟩
theorem pdgs_cons {f : FG} {g : FGs} (h1 : PDG X e f) (h2 : PDGs X es g) (hs : (assignEach (e :: es) X.env).map (·.2) = assign e X.env :: (assignEach es X.env).map (·.2)) : PDGs X (e :: es) (gsCons f g) := ⟨PGs.imp (pgs_cons h1.pg h2.pgs hs) fun v σ H Q w => by
  obtain ⟨θ, A, B, G, ds, k, S, hv, ⟨d, r, rfl, hf⟩, q⟩ := w
  cases hv with
  | cons hd t =>
    refine ⟨_, _, rfl, θ, A, B, G, _, _, S, .d hd, hf, fun θ1 A1 B1 σ1 G1 H1 g1 S1 k1 => ?_⟩
    exact ⟨θ1, A1, B1, G1, r, k, S1, dqAll_mono g1.gx t, k1, fun θ2 A2 B2 σ2 G2 H2 g2 S2 k2 => q θ2 A2 B2 σ2 G2 H2 (g1.trans g2) S2 k2⟩⟩
def gT (n : Nat) (g : FGs) : FG := fun w A B k => wT w fun ds => isKt w = false ∧ ds.length = n ∧ g ds A B k
theorem pdg_tup {k : Nat} {n : Nat} {g : FGs} (h : PDGs X es g) (hc : X.calm = true) (hn : (assignEach es X.env).length = n) (hst : (assignEach es X.env).findIdx? (·.1) = none) : PDG X (.Tuple es k pos) (gT n g) := ⟨PG.imp (pg_tup hc h.pgs hn hst) fun v σ H Q w => by
  obtain ⟨θ, A, B, G, w, k, S, hv, hf, q⟩ := w
  unfold gT wT at hf
  split at hf
  · cases hv with
    | d hd =>
      cases hd with
      | tup e d => exact ⟨_, _, rfl, SqT.of (S.mem.ex _ _ e), by rw [dqAll_len d]; exact hf.2.1, θ, A, B, G, _, k, S, d, hf.2.2, q⟩
  · cases hf.1
  · exact hf.elim⟩
end
end Dl

namespace Dl
open L2 PySem PyProof.Rows PySem.Spec

/-- a memory's place: addresses, frozen part, heap -/
structure Ent where
  θ : Th
  G : Hp
  H : Hp
/-- what code may have done since N (the first np cells stay cells) -/
structure Gw (np : Nat) (N M : Ent) : Prop where
  gx : Ext N.G M.G
  th : M.θ.take np = N.θ.take np
  ln : np ≤ M.θ.length
  keep : ∀ a o, N.H a = some o → a ∉ N.θ.flatten → M.H a = some o
  new : ∀ a, a ∈ M.θ.flatten → a ∈ N.θ.flatten ∨ N.H a = none
  gnew : ∀ a, M.G a ≠ none → N.G a ≠ none ∨ a ∈ N.θ.flatten ∨ N.H a = none
theorem Gw.refl {np : Nat} {N : Ent} (h : np ≤ N.θ.length) : Gw np N N := ⟨Ext.refl _, rfl, h, fun _ _ h _ => h, fun _ h => .inl h, fun _ h => .inl h⟩
theorem Gw.trans {np : Nat} {N M P : Ent} (x : Gw np N M) (y : Gw np M P) : Gw np N P := by
  have ka : ∀ a, M.H a = none → a ∈ N.θ.flatten ∨ N.H a = none := fun a h => by
    cases q : N.H a with
    | none => exact .inr rfl
    | some o =>
      by_cases hm : a ∈ N.θ.flatten
      · exact .inl hm
      · rw [x.keep a o q hm] at h
        cases h
  refine ⟨x.gx.trans y.gx, y.th.trans x.th, y.ln, fun a o h hm => ?_, fun a h => ?_, fun a h => ?_⟩
  · refine y.keep a o (x.keep a o h hm) fun hm1 => ?_
    rcases x.new a hm1 with q | q
    · exact hm q
    · rw [h] at q
      cases q
  · rcases y.new a h with q | q
    · exact x.new a q
    · exact ka a q
  · rcases y.gnew a h with q | q | q
    · exact x.gnew a q
    · rcases x.new a q with q | q
      · exact .inr (.inl q)
      · exact .inr (.inr q)
    · rcases ka a q with q | q
      · exact .inr (.inl q)
      · exact .inr (.inr q)
theorem take_prefix {α : Type} {xs ys : List α} {n : Nat} (h : xs <+: ys) (hn : n ≤ xs.length) : ys.take n = xs.take n := by
  obtain ⟨t, rfl⟩ := h
  rw [List.take_append_of_le_length hn]
theorem Gw.gr {np : Nat} {N : Ent} {θ θ' : Th} {G H G' H' : Hp} (x : Gw np N ⟨θ, G, H⟩) (g : Gr θ θ' G H G' H') : Gw np N ⟨θ', G', H'⟩ :=
  x.trans ⟨g.gx, take_prefix g.th x.ln, Nat.le_trans x.ln g.th.length_le, g.keep, g.new, g.gnew⟩

/-! ### cells are frozen, cut off -/
def frzC : MC → Option PyData
  | .lst ds => some (.list ds)
  | .mat rows => some (.list (rows.map .list))
  | _ => none
open Classical in
noncomputable def frzG (G H : Hp) (as : List Addr) : Hp := fun a => if a ∈ as then H a else G a
section
variable {K : PySem.W.Frag} {θ : Th} {A : Env} {B : Mem} {σ : L2.St} {G H : Hp} {np : Nat} {N : Ent}
theorem frzG_in {as : List Addr} {a : Addr} (h : a ∈ as) : frzG G H as a = H a := by unfold frzG; rw [if_pos h]
theorem frzG_out {as : List Addr} {a : Addr} (h : a ∉ as) : frzG G H as a = G a := by unfold frzG; rw [if_neg h]
theorem frz_ex {as : List Addr} (hf : ∀ a ∈ as, G a = none) : Ext G (frzG G H as) := fun a o h => by
  by_cases q : a ∈ as
  · rw [hf a q] at h
    cases h
  · rw [frzG_out q]
    exact h
theorem frz_exH {as : List Addr} (ex : Ext G H) : Ext (frzG G H as) H := fun a o h => by
  by_cases q : a ∈ as
  · rw [frzG_in q] at h
    exact h
  · rw [frzG_out q] at h
    exact ex a o h
theorem rows_dq {as : List Addr} {rows : List (List PyData)} {G' : Hp} (gx : Ext G G') (r : RowsOk K G H as rows) (h : ∀ a ∈ as, G' a = H a) : DqAll K G' (as.map V.ref) (rows.map .list) := by
  induction r with
  | nil => exact .nil
  | cons e d _ ih => exact .cons (.lst ((h _ List.mem_cons_self).trans e) (dqAll_mono gx d)) (ih fun a ha => h a (List.mem_cons_of_mem _ ha))
theorem frz_dq {as : List Addr} {c : MC} {x : PyData} (hf : ∀ a ∈ as, G a = none) (hc : CellOk K G H as c) (e : frzC c = some x) : ∃ a rs, as = a :: rs ∧ Dq K (frzG G H as) (.ref a) x := by
  cases hc with
  | lst q d =>
    cases e
    exact ⟨_, _, rfl, .lst ((frzG_in List.mem_cons_self).trans q) (dqAll_mono (frz_ex hf) d)⟩
  | mat q r =>
    cases e
    exact ⟨_, _, rfl, .lst ((frzG_in List.mem_cons_self).trans q) (rows_dq (frz_ex hf) r fun a ha => frzG_in (List.mem_cons_of_mem _ ha))⟩
  | dK _ _ => cases e
  | dT _ _ => cases e
  | lk _ _ => cases e
  | gone => cases e
theorem cells_gone {G' : Hp} (gx : Ext G G') : ∀ {θ : Th} {B : Mem} (k : Nat), CellsOk K G H θ B → CellsOk K G' H (θ.set k []) (B.set k .gone)
  | _, _, _, .nil => .nil
  | _, _, 0, .cons h t => .cons .gone (t.mono gx fun _ _ _ h => h)
  | _, _, k + 1, .cons h t => .cons (h.mono gx fun _ _ _ h => h) (cells_gone gx k t)
theorem flat_set : ∀ {θ : Th} (k : Nat), (θ.set k []).flatten.Sublist θ.flatten
  | [], _ => List.Sublist.refl _
  | as :: θ, 0 => by
    show ([] ++ θ.flatten).Sublist (as ++ θ.flatten)
    exact List.sublist_append_right _ _
  | as :: θ, k + 1 => by
    show (as ++ (θ.set k []).flatten).Sublist (as ++ θ.flatten)
    exact (List.append_sublist_append_left as).mpr (flat_set k)
theorem not_in_set : ∀ {θ : Th} {k : Nat} {as : List Addr}, θ.flatten.Nodup → θ[k]? = some as → ∀ a ∈ as, a ∉ (θ.set k []).flatten
  | [], _, _, _, e => by simp at e
  | bs :: θ, 0, as, nd, e => fun a ha hm => by
    simp at e
    subst e
    rw [List.flatten_cons, List.nodup_append] at nd
    exact nd.2.2 a ha a (by simpa using hm) rfl
  | bs :: θ, k + 1, as, nd, e => fun a ha hm => by
    simp at e
    rw [List.flatten_cons, List.nodup_append] at nd
    have hm : a ∈ bs ++ (θ.set k []).flatten := hm
    rcases List.mem_append.mp hm with q | q
    · exact nd.2.2 a q a (List.mem_flatten.mpr ⟨as, List.mem_of_getElem? e, ha⟩) rfl
    · exact not_in_set nd.2.1 e a ha q
theorem mem_frz {k : Nat} {as : List Addr} (m : MemOk K θ B G H) (hk : θ[k]? = some as) : MemOk K (θ.set k []) (B.set k .gone) (frzG G H as) H ∧ (np ≤ k → np ≤ θ.length → Gw np ⟨θ, G, H⟩ ⟨θ.set k [], frzG G H as, H⟩) := by
  have hm : ∀ a ∈ as, a ∈ θ.flatten := fun a ha => List.mem_flatten.mpr ⟨as, List.mem_of_getElem? hk, ha⟩
  have hf : ∀ a ∈ as, G a = none := fun a ha => m.free a (hm a ha)
  refine ⟨⟨frz_exH m.ex, cells_gone (frz_ex hf) k m.cells, m.nd.sublist (flat_set k), fun a ha => ?_⟩, fun h1 h2 => ⟨frz_ex hf, ?_, by rw [List.length_set]; exact h2, fun _ _ h _ => h, fun a h => .inl ((flat_set k).subset h), fun a h => ?_⟩⟩
  · by_cases q : a ∈ as
    · exact absurd ha (not_in_set m.nd hk a q)
    · rw [frzG_out q]
      exact m.free a ((flat_set k).subset ha)
  · show (θ.set k []).take np = θ.take np
    rw [List.take_set_of_le h1]
  · by_cases q : a ∈ as
    · exact .inr (.inl (hm a q))
    · have h : frzG G H as a ≠ none := h
      rw [frzG_out q] at h
      exact .inl h
theorem mem_cut {n : Nat} (m : MemOk K θ B G H) : MemOk K (θ.take n) (B.take n) G H ∧ (np ≤ n → np ≤ θ.length → Gw np ⟨θ, G, H⟩ ⟨θ.take n, G, H⟩) := by
  have hs : (θ.take n).flatten.Sublist θ.flatten := by
    have e : θ.flatten = (θ.take n).flatten ++ (θ.drop n).flatten := by rw [← List.flatten_append, List.take_append_drop]
    rw [e]
    exact List.sublist_append_left _ _
  refine ⟨⟨m.ex, m.cells.take n, m.nd.sublist hs, fun a ha => m.free a (hs.subset ha)⟩, fun h1 h2 => ⟨Ext.refl _, ?_, ?_, fun _ _ h _ => h, fun a h => .inl (hs.subset h), fun _ h => .inl h⟩⟩
  · show (θ.take n).take np = θ.take np
    rw [List.take_take, Nat.min_eq_left h1]
  · show np ≤ (θ.take n).length
    rw [List.length_take]
    omega
def subF (k : Nat) (x : PyData) : Option AV → Option AV
  | some (.m j) => if j = k then some (.d x) else some (.m j)
  | some (.r j i) => if j = k then none else some (.r j i)
  | o => o
def hideF (n : Nat) : Option AV → Option AV
  | some (.m j) => if j < n then some (.m j) else none
  | some (.r j i) => if j < n then some (.r j i) else none
  | o => o
/-- the same state told otherwise: a cell frozen, cells behind the n-th cut off, a slot forgotten -/
inductive Shift (np : Nat) : Env → Mem → Env → Mem → Prop
  | refl {A : Env} {B : Mem} : Shift np A B A B
  | frz {A A' : Env} {B B' : Mem} (k : Nat) {c : MC} {x : PyData} : np ≤ k → B[k]? = some c → frzC c = some x → Shift np (A.map (subF k x)) (B.set k .gone) A' B' → Shift np A B A' B'
  | cut {A A' : Env} {B B' : Mem} (n : Nat) : np ≤ n → Shift np (A.map (hideF n)) (B.take n) A' B' → Shift np A B A' B'
  | hide {A A' : Env} {B B' : Mem} (i : Nat) : Shift np (A.set i none) B A' B' → Shift np A B A' B'
theorem slots_frz {k : Nat} {as : List Addr} {x : PyData} {G' : Hp} (h : SlotsOk K G θ σ A) (gx : Ext G G') (hk : θ[k]? = some as) (hx : ∃ a rs, as = a :: rs ∧ Dq K G' (.ref a) x) : SlotsOk K G' (θ.set k []) σ (A.map (subF k x)) := by
  refine ⟨by rw [List.length_map]; exact h.1, fun i w e => ?_⟩
  rw [List.getElem?_map] at e
  cases ea : A[i]? with
  | none => rw [ea] at e; cases e
  | some o =>
    rw [ea] at e
    have e : subF k x o = some w := Option.some.inj e
    cases o with
    | none => cases e
    | some u =>
      obtain ⟨v, h1, h2⟩ := h.2 i u ea
      refine ⟨v, h1, ?_⟩
      cases h2 with
      | d q => cases e; exact .d (dq_mono gx q)
      | kt q r => cases e; exact .kt q r
      | sc q => cases e; exact .sc (ext_l gx q)
      | @m j a bs hj =>
        unfold subF at e
        simp only at e
        split at e
        · rename_i hjk
          cases e
          obtain ⟨a', rs, rfl, hd⟩ := hx
          rw [hjk, hk] at hj
          cases hj
          exact .d hd
        · rename_i hjk
          cases e
          exact .m (by rw [List.getElem?_set_ne (Ne.symm hjk)]; exact hj)
      | @r j i' a b bs hj hi =>
        unfold subF at e
        simp only at e
        split at e
        · cases e
        · rename_i hjk
          cases e
          exact .r (by rw [List.getElem?_set_ne (Ne.symm hjk)]; exact hj) hi
theorem slots_cut {n : Nat} (h : SlotsOk K G θ σ A) : SlotsOk K G (θ.take n) σ (A.map (hideF n)) := by
  refine ⟨by rw [List.length_map]; exact h.1, fun i w e => ?_⟩
  rw [List.getElem?_map] at e
  cases ea : A[i]? with
  | none => rw [ea] at e; cases e
  | some o =>
    rw [ea] at e
    have e : hideF n o = some w := Option.some.inj e
    cases o with
    | none => cases e
    | some u =>
      obtain ⟨v, h1, h2⟩ := h.2 i u ea
      refine ⟨v, h1, ?_⟩
      cases h2 with
      | d q => cases e; exact .d q
      | kt q r => cases e; exact .kt q r
      | sc q => cases e; exact .sc (q)
      | @m j a bs hj =>
        unfold hideF at e
        simp only at e
        split at e
        · rename_i hjk
          cases e
          exact .m (by rw [List.getElem?_take_of_lt hjk]; exact hj)
        · cases e
      | @r j i' a b bs hj hi =>
        unfold hideF at e
        simp only at e
        split at e
        · rename_i hjk
          cases e
          exact .r (by rw [List.getElem?_take_of_lt hjk]; exact hj) hi
        · cases e
theorem slots_hide (h : SlotsOk K G θ σ A) (i : Nat) : SlotsOk K G θ σ (A.set i none) := by
  refine ⟨by rw [List.length_set]; exact h.1, fun j u e => ?_⟩
  by_cases q : i = j
  · subst q
    by_cases hi : i < A.length
    · rw [List.getElem?_set_self hi] at e
      cases e
    · rw [List.getElem?_eq_none (by simpa using hi)] at e
      cases e
  · rw [List.getElem?_set_ne q] at e
    exact h.2 j u e
theorem shift_ok {A A' : Env} {B B' : Mem} (s : Shift np A B A' B') : ∀ {θ : Th} {G : Hp}, StOk K θ A B σ G H → Gw np N ⟨θ, G, H⟩ → ∃ θ' G', StOk K θ' A' B' σ G' H ∧ Gw np N ⟨θ', G', H⟩ ∧ Ext G G' := by
  induction s with
  | refl => exact fun {θ G} S w => ⟨θ, G, S, w, Ext.refl _⟩
  | @frz A A' B B' k c x h1 h2 h3 _ ih =>
    intro θ G S w
    obtain ⟨as, hk, hc⟩ := S.mem.cells.getB h2
    have hf : ∀ a ∈ as, G a = none := fun a ha => S.mem.free a (List.mem_flatten.mpr ⟨as, List.mem_of_getElem? hk, ha⟩)
    obtain ⟨m2, g2⟩ := mem_frz (np := np) S.mem hk
    obtain ⟨θ', G', a1, a2, a3⟩ := ih ⟨m2, slots_frz S.slots (frz_ex hf) hk (frz_dq hf hc h3)⟩ (w.trans (g2 h1 w.ln))
    exact ⟨θ', G', a1, a2, (frz_ex hf).trans a3⟩
  | @cut A A' B B' n h1 _ ih =>
    intro θ G S w
    obtain ⟨m2, g2⟩ := mem_cut (np := np) (n := n) S.mem
    exact ih ⟨m2, slots_cut S.slots⟩ (w.trans (g2 h1 w.ln))
  | hide i _ ih => exact fun {θ G} S w => ih ⟨S.mem, slots_hide S.slots i⟩ w
end
end Dl

namespace Dl
open L2 PySem PyProof.Rows PySem.Spec

structure EndsA where
  nx : Env → Mem → Prop
  rt : AV → Mem → Prop
  bk : Env → Mem → Prop
  ct : Env → Mem → Prop
abbrev FS := EndsA → Env → Mem → Prop
structure EndsOk (K : PySem.W.Frag) (np : Nat) (N : Ent) (E : EndsA) (D : Ends) : Prop where
  nx : ∀ θ A B σ G H, StOk K θ A B σ G H → Gw np N ⟨θ, G, H⟩ → E.nx A B → D.nx σ H
  rt : ∀ θ B G H v w, MemOk K θ B G H → Gw np N ⟨θ, G, H⟩ → AVok K G θ v w → E.rt w B → D.rt v H
  bk : ∀ θ A B σ G H, StOk K θ A B σ G H → Gw np N ⟨θ, G, H⟩ → E.bk A B → D.bk σ H
  ct : ∀ θ A B σ G H, StOk K θ A B σ G H → Gw np N ⟨θ, G, H⟩ → E.ct A B → D.ct σ H
def tfS (K : PySem.W.Frag) (np : Nat) (N : Ent) (f : FS) : TS := fun D σ H => ∃ θ A B G E, StOk K θ A B σ G H ∧ Gw np N ⟨θ, G, H⟩ ∧ f E A B ∧ EndsOk K np N E D
structure PDS (X : Cx) (np : Nat) (st : Stmt) (f : FS) : Prop where
  ps : ∀ N, PS X st (tfS X.K np N f)
structure PDSs (X : Cx) (np : Nat) (st : List Stmt) (f : FS) : Prop where
  pss : ∀ N, PSs X st (tfS X.K np N f)
theorem PS.imp {X : Cx} {st : Stmt} {t t' : TS} (h : PS X st t) (i : ∀ D σ H, t' D σ H → t D σ H) : PS X st t' := ⟨fun pins s σ H D I w => h.run pins s σ H D I (i D σ H w)⟩
theorem PSs.imp {X : Cx} {st : List Stmt} {t t' : TS} (h : PSs X st t) (i : ∀ D σ H, t' D σ H → t D σ H) : PSs X st t' := ⟨fun pins s σ H D I w => h.run pins s σ H D I (i D σ H w)⟩
def sNext : FS := fun E A B => E.nx A B
def sSeq (f g : FS) : FS := fun E A B => f { E with nx := g E } A B
def sBreak : FS := fun E A B => E.bk A B
def sCont : FS := fun E A B => E.ct A B
def sNever : FS := fun _ _ _ => False
def sDrop (f : FE) : FS := fun E A B => f A B fun _ B1 => E.nx A B1
def sAsg (f : FE) (g : FG) : FS := fun E A B => f A B fun w B1 => g w A B1 E.nx
def sIf (t : FTt) (f g : FS) : FS := fun E A B => t A B fun b B1 => (b = true → f E A B1) ∧ (b = false → g E A B1)
def sPar (i j : Nat) (fs : FA) : FS := fun E A B => fs A B fun ws B1 => match ws with
  | [v, w] => E.nx ((A.set i (some v)).set j (some w)) B1
  | _ => False
def sShift (np : Nat) (f : FS) : FS := fun E A B => ∃ A' B', Shift np A B A' B' ∧ f E A' B'
def shiftTo (np : Nat) (P : Env → Mem → Prop) : Env → Mem → Prop := fun A B => ∃ A' B', Shift np A B A' B' ∧ P A' B'
/-- what a def hands back: data, a cell frozen, a cell -/
def retK (np : Nat) (k : Kt) : Kt := fun w B => match w with
  | .d x => k (.d x) (B.take np)
  | .m j => np ≤ j ∧ ∃ c, B[j]? = some c ∧ c ≠ .gone ∧ ((∃ x, frzC c = some x ∧ k (.d x) (B.take np)) ∨ k (.m np) (B.take np ++ [c]))
  | _ => False
def sRet (f : FE) : FS := fun E A B => f A B fun w B1 => E.rt w B1
section
variable {X : Cx} {K : PySem.W.Frag} {np : Nat} {N : Ent} {θ : Th} {A : Env} {B : Mem} {σ : L2.St} {G H : Hp} {st : Stmt} {sts sts2 : List Stmt} {e a b c o i tg : Expr} {es : List Expr} {pos : Pos} {f g : FS} {fa fb fo fi : FE} {fs : FA} {t : FTt} {gt : FG}
theorem pds_shift (h : PDS X np st f) : PDS X np st (sShift np f) := ⟨fun N => PS.imp (h.ps N) fun D σ H w => by
  obtain ⟨θ, A, B, G, E, S, gw, ⟨A', B', sh, hf⟩, ok⟩ := w
  obtain ⟨θ', G', S', gw', _⟩ := shift_ok sh S gw
  exact ⟨θ', A', B', G', E, S', gw', hf, ok⟩⟩
theorem pdss_nil : PDSs X np [] sNext := ⟨fun N => PSs.imp pss_nil fun D σ H w => by
  obtain ⟨θ, A, B, G, E, S, gw, hf, ok⟩ := w
  exact ok.nx θ A B σ G H S gw hf⟩
theorem pdss_cons (h1 : PDS X np st f) (h2 : PDSs X np sts g) : PDSs X np (st :: sts) (sSeq f g) := ⟨fun N => PSs.imp (pss_cons (h1.ps N) (h2.pss N)) fun D σ H w => by
  obtain ⟨θ, A, B, G, E, S, gw, hf, ok⟩ := w
  exact ⟨θ, A, B, G, _, S, gw, hf, ⟨fun θ1 A1 B1 σ1 G1 H1 S1 g1 k1 => ⟨θ1, A1, B1, G1, E, S1, g1, k1, ok⟩, ok.rt, ok.bk, ok.ct⟩⟩⟩
theorem pdss_one (h1 : PDS X np st f) : PDSs X np [st] f := ⟨fun N => pss_one (h1.ps N)⟩
theorem pds_pass : PDS X np (.Pass pos) sNext := ⟨fun N => PS.imp ps_pass fun D σ H w => by
  obtain ⟨θ, A, B, G, E, S, gw, hf, ok⟩ := w
  exact ok.nx θ A B σ G H S gw hf⟩
theorem pds_doc (h : PS X st tNext) : PDS X np st sNext := ⟨fun N => PS.imp h fun D σ H w => by
  obtain ⟨θ, A, B, G, E, S, gw, hf, ok⟩ := w
  exact ok.nx θ A B σ G H S gw hf⟩
theorem pds_break : PDS X np (.Break pos) sBreak := ⟨fun N => PS.imp ps_break fun D σ H w => by
  obtain ⟨θ, A, B, G, E, S, gw, hf, ok⟩ := w
  exact ok.bk θ A B σ G H S gw hf⟩
theorem pds_cont : PDS X np (.Continue pos) sCont := ⟨fun N => PS.imp ps_continue fun D σ H w => by
  obtain ⟨θ, A, B, G, E, S, gw, hf, ok⟩ := w
  exact ok.ct θ A B σ G H S gw hf⟩
theorem pds_never : PDS X np st sNever := ⟨fun N => PS.imp ps_never fun D σ H w => by
  obtain ⟨θ, A, B, G, E, S, gw, hf, ok⟩ := w
  exact hf⟩
theorem pds_drop (ha : PD X a fa) (h : ∀ ta, PE X a ta → PS X st (tDrop ta)) : PDS X np st (sDrop fa) := ⟨fun N => PS.imp (h _ ha.pe) fun D σ H w => by
  obtain ⟨θ, A, B, G, E, S, gw, hf, ok⟩ := w
  exact ⟨θ, A, B, G, _, S, hf, fun θ1 B1 G1 H1 v x g1 S1 hv k1 => ok.nx θ1 A B1 σ G1 H1 S1 (gw.gr g1) k1⟩⟩
theorem pds_asg (ha : PD X a fa) (hg : PDG X tg gt) (h : ∀ ta g, PE X a ta → PG X tg g → PS X st (tAsg ta g)) : PDS X np st (sAsg fa gt) := ⟨fun N => PS.imp (h _ _ ha.pe hg.pg) fun D σ H w => by
  obtain ⟨θ, A, B, G, E, S, gw, hf, ok⟩ := w
  refine ⟨θ, A, B, G, _, S, hf, fun θ1 B1 G1 H1 v x g1 S1 hv k1 => ?_⟩
  exact ⟨θ1, A, B1, G1, x, _, S1, hv, k1, fun θ2 A2 B2 σ2 G2 H2 g2 S2 k2 => ok.nx θ2 A2 B2 σ2 G2 H2 S2 ((gw.gr g1).gr g2) k2⟩⟩
theorem pds_par {i j : Nat} (hs : PDA X es fs) (h : ∀ ta, PA X es ta → PS X st (tPar i j ta)) : PDS X np st (sPar i j fs) := ⟨fun N => PS.imp (h _ hs.pa) fun D σ H w => by
  obtain ⟨θ, A, B, G, E, S, gw, hf, ok⟩ := w
  refine ⟨θ, A, B, G, _, S, hf, fun θ1 B1 G1 H1 vs ws g1 S1 hv k1 => ?_⟩
  split at k1
  · obtain ⟨v, u, rfl, h1, h2⟩ := avs2 hv
    exact ⟨v, u, rfl, ok.nx θ1 _ B1 _ G1 H1 ((S1.set i h1).set j h2) (gw.gr g1) k1⟩
  · exact k1.elim⟩
theorem pds_if (ht : PDT X c t) (hf : PDSs X np sts f) (hg : PDSs X np sts2 g) : PDS X np (.If c sts sts2 pos) (sIf t f g) := ⟨fun N => PS.imp (ps_if ht.pt (hf.pss N) (hg.pss N)) fun D σ H w => by
  obtain ⟨θ, A, B, G, E, S, gw, hf, ok⟩ := w
  refine ⟨θ, A, B, G, _, S, hf, fun θ1 B1 G1 H1 b g1 S1 k1 => ?_⟩
  cases b with
  | true => exact ⟨θ1, A, B1, G1, E, S1, gw.gr g1, k1.1 rfl, ok⟩
  | false => exact ⟨θ1, A, B1, G1, E, S1, gw.gr g1, k1.2 rfl, ok⟩⟩
theorem pds_ret (ha : PD X a fa) : PDS X np (.Return (some a) pos) (sRet fa) := ⟨fun N => PS.imp (ps_ret ha.pe) fun D σ H w => by
  obtain ⟨θ, A, B, G, E, S, gw, hf, ok⟩ := w
  exact ⟨θ, A, B, G, _, S, hf, fun θ1 B1 G1 H1 v x g1 S1 hv k1 => ok.rt θ1 B1 G1 H1 v x S1.mem (gw.gr g1) hv k1⟩⟩
def sRetN : FS := fun E A B => E.rt (.d .none) B
theorem pds_retN : PDS X np (.Return none pos) sRetN := ⟨fun N => PS.imp ps_retN fun D σ H w => by
  obtain ⟨θ, A, B, G, E, S, gw, hf, ok⟩ := w
  exact ok.rt θ B G H _ _ S.mem gw (.d .non) hf⟩
/-- x op= e, ints -/
def sAug (i : Nat) (op : Int → Int → Int) (f : FE) : FS := fun E A B => ∃ n, A[i]? = some (some (.d (.int n))) ∧ f A B fun w B1 => ∃ m, w = .d (.int m) ∧ E.nx (A.set i (some (.d (.int (op n m))))) B1
theorem pds_aug {i : Nat} {op : Int → Int → Int} (ha : PD X a fa) (h : ∀ ta, PE X a ta → PS X st (tAug i ta (ipI op))) : PDS X np st (sAug i op fa) := ⟨fun N => PS.imp (h _ ha.pe) fun D σ H w => by
  obtain ⟨θ, A, B, G, E, S, gw, ⟨n, h1, hf⟩, ok⟩ := w
  obtain ⟨v, e1, hv⟩ := S.slots.2 _ _ h1
  refine ⟨v, e1, θ, A, B, G, _, S, hf, fun θ1 B1 G1 H1 u x g1 S1 hu k1 => ?_⟩
  obtain ⟨m, rfl, k1⟩ := k1
  rw [avInt hv, avInt hu]
  exact ⟨n, m, rfl, rfl, ok.nx θ1 _ B1 _ G1 H1 (S1.set i (.d (.int _))) (gw.gr g1) k1⟩⟩

/-! ### o[i] = v -/
def aPut (o i v : AV) (B : Mem) (k : Mem → Prop) : Prop := wK v fun d => wK i fun ix => match o with
  | .m j => match B[j]? with
    | some (.lst ds) => ∃ n m, ix = .int n ∧ ixN ds.length n = some m ∧ k (B.set j (.lst (ds.set m d)))
    | some (.dK kvs) => ∃ key, keyD ix = some key ∧ kvs.length < sizeLine ∧ k (B.set j (.dK (putD kvs key d)))
    | some (.dT kvs) => ∃ key, keyT ix = some key ∧ kvs.length < sizeLine ∧ k (B.set j (.dT (putD kvs key d)))
    | _ => False
  | .r j r => match B[j]? with
    | some (.mat rows) => ∃ n m row, ix = .int n ∧ rows[r]? = some row ∧ ixN row.length n = some m ∧ k (B.set j (.mat (rows.set r (row.set m d))))
    | _ => False
  | _ => False
def rPutA : TSet := fun o i v H Q => rSetL o i v H Q ∨ ∃ a H', o = .ref a ∧ DPut H a i v H' ∧ Q H'
theorem set_any (hu : X.A.units + 1 < cLine) : PSet X rPutA := by
  intro pins s σ H o i v ov iv u Q I ro ri rv h
  rcases h with h | ⟨a, H', rfl, g, q⟩
  · exact set_list pins s σ H o i v ov iv u Q I ro ri rv h
  · cases ro
    exact d_setItem hu I g ri rv fun s' I' => ⟨H', I', q⟩
theorem rows_set {p : Addr} {vs : List V} {row : List PyData} : ∀ {as : List Addr} {rows : List (List PyData)} {r : Nat}, RowsOk K G H as rows → as.Nodup → as[r]? = some p → DqAll K G vs row → RowsOk K G (upd H p (.lst vs)) as (rows.set r row)
  | _, _, _, .nil, _, e, _ => by simp at e
  | _, _, 0, .cons (a := b) (as := as) h d t, nd, e, hd => by
    simp at e
    subst e
    refine .cons upd_same hd (t.mono (Ext.refl _) fun a ha o ho => ?_)
    rw [upd_ne fun z : a = b => (List.nodup_cons.mp nd).1 (by rw [← z]; exact ha)]
    exact ho
  | _, _, r + 1, .cons (a := b) (as := as) h d t, nd, e, hd => by
    simp at e
    refine .cons ?_ d (rows_set t (List.nodup_cons.mp nd).2 e hd)
    rw [upd_ne fun z : b = p => (List.nodup_cons.mp nd).1 (by rw [z]; exact List.mem_of_getElem? e)]
    exact h
theorem nodup_cell {as : List Addr} {j : Nat} {θ : Th} : θ.flatten.Nodup → θ[j]? = some as → as.Nodup := fun nd e => by
  induction θ generalizing j with
  | nil => simp at e
  | cons bs θ ih =>
    rw [List.flatten_cons, List.nodup_append] at nd
    cases j with
    | zero => simp at e; subst e; exact nd.1
    | succ j => exact ih nd.2.1 (by simpa using e)
theorem put_of {v u z : V} {o i w : AV} {k : Mem → Prop} {Q : Hp → Prop} (S : StOk K θ A B σ G H) (ho : AVok K G θ v o) (hi : AVok K G θ u i) (hw : AVok K G θ z w) (h : aPut o i w B k)
    (q : ∀ B' H', Gr θ θ G H G H' → StOk K θ A B' σ G H' → k B' → Q H') : rPutA v u z H Q := by
  obtain ⟨d, hd, h⟩ := wK_of hw h
  obtain ⟨ix, hix, h⟩ := wK_of hi h
  split at h
  · rename_i j
    split at h
    · rename_i ds hb
      obtain ⟨n, m, rfl, hn, h⟩ := h
      obtain ⟨a, vs, rfl, hk, e, dd⟩ := cell_lst S.mem ho hb
      cases hix
      have hc : CellOk K G (upd H a (.lst (vs.set m z))) [a] (.lst (ds.set m d)) := .lst upd_same (dqAll_set hd m dd)
      exact .inl ⟨a, vs, n, m, rfl, rfl, e, by rw [dqAll_len dd]; exact hn, q _ _ (mem_upd S.mem hk (List.mem_singleton.mpr rfl) hc).2 (st_upd S hk (List.mem_singleton.mpr rfl) hc) h⟩
    · rename_i kvs hb
      obtain ⟨key, hk2, hz, h⟩ := h
      cases ho with
      | @m _ a as hk =>
        obtain ⟨c, hc1, hc⟩ := S.mem.cells.get hk
        rw [hb] at hc1
        cases hc1
        cases hc with
        | @dK _ vs _ e r =>
          have hc : CellOk K G (upd H a (.dK (putK vs key z))) [a] (.dK (putD kvs key d)) := .dK upd_same (kv_put r key hd)
          rw [keyD_of hix hk2]
          exact .inr ⟨a, _, rfl, DPut.k e (by rw [kv_len r]; exact hz), q _ _ (mem_upd S.mem hk (List.mem_singleton.mpr rfl) hc).2 (st_upd S hk (List.mem_singleton.mpr rfl) hc) h⟩
    · rename_i kvs hb
      obtain ⟨key, hk2, hz, h⟩ := h
      cases ho with
      | @m _ a as hk =>
        obtain ⟨c, hc1, hc⟩ := S.mem.cells.get hk
        rw [hb] at hc1
        cases hc1
        cases hc with
        | @dT _ vs _ e r =>
          have hc : CellOk K G (upd H a (.dT (putK vs key z))) [a] (.dT (putD kvs key d)) := .dT upd_same (kv_put r key hd)
          have tk : ∃ b, u = .ref b ∧ H b = some (.tup (key.map kV)) := by
            cases hix with
            | tup e1 d1 => exact ⟨_, rfl, by rw [← keysL_of d1 hk2]; exact S.mem.ex _ _ e1⟩
            | _ => cases hk2
          obtain ⟨b, rfl, hb2⟩ := tk
          exact .inr ⟨a, _, rfl, DPut.t e hb2 (by rw [kv_len r]; exact hz), q _ _ (mem_upd S.mem hk (List.mem_singleton.mpr rfl) hc).2 (st_upd S hk (List.mem_singleton.mpr rfl) hc) h⟩
    · exact h.elim
  · rename_i j r _ _
    split at h
    · rename_i rows hb
      obtain ⟨n, m, row, rfl, hr, hn, h⟩ := h
      cases hix
      cases ho with
      | @r _ _ p b as hk hr2 =>
        obtain ⟨c, hc1, hc⟩ := S.mem.cells.get hk
        rw [hb] at hc1
        cases hc1
        cases hc with
        | mat e rr =>
          obtain ⟨row', vs, h1, h2, h3⟩ := rows_get rr hr2
          rw [hr] at h1
          cases h1
          have nd := nodup_cell S.mem.nd hk
          have hpb : b ≠ p := fun z => (List.nodup_cons.mp nd).1 (by rw [z]; exact List.mem_of_getElem? hr2)
          have hc : CellOk K G (upd H p (.lst (vs.set m z))) (b :: as) (.mat (rows.set r (row.set m d))) := .mat (by rw [upd_ne hpb]; exact e) (rows_set rr (List.nodup_cons.mp nd).2 hr2 (dqAll_set hd m h3))
          have hm : p ∈ b :: as := List.mem_cons_of_mem _ (List.mem_of_getElem? hr2)
          exact .inl ⟨p, vs, n, m, rfl, rfl, h2, by rw [dqAll_len h3]; exact hn, q _ _ (mem_upd S.mem hk hm hc).2 (st_upd S hk hm hc) h⟩
    · exact h.elim
  · exact h.elim
def sPut (fv fo fi : FE) : FS := fun E A B => fv A B fun v B1 => fo A B1 fun o B2 => fi A B2 fun i B3 => aPut o i v B3 fun B4 => E.nx A B4
theorem pds_put {fv : FE} (hv : PD X a fv) (ho : PD X o fo) (hi : PD X i fi) (hu : X.A.units + 1 < cLine) (h : ∀ ta to ti, PE X a ta → PE X o to → PE X i ti → PSet X rPutA → PS X st (tAsg ta (gSub to ti rPutA))) : PDS X np st (sPut fv fo fi) := ⟨fun N => PS.imp (h _ _ _ hv.pe ho.pe hi.pe (set_any hu)) fun D σ H w => by
  obtain ⟨θ, A, B, G, E, S, gw, hf, ok⟩ := w
  refine ⟨θ, A, B, G, _, S, hf, fun θ1 B1 G1 H1 v x g1 S1 hv k1 => ?_⟩
  refine ⟨θ1, A, B1, G1, _, S1, k1, fun θ2 B2 G2 H2 ov ow g2 S2 ho k2 => ?_⟩
  refine ⟨θ2, A, B2, G2, _, S2, k2, fun θ3 B3 G3 H3 iv iw g3 S3 hi k3 => ?_⟩
  exact put_of S3 (ho.gr g3) hi ((hv.gr g2).gr g3) k3 fun B4 H4 g4 S4 k4 => ok.nx θ3 A B4 σ G3 H4 S4 ((((gw.gr g1).gr g2).gr g3).gr g4) k4⟩

/-! ### loops -/
def sFor (np : Nat) (fi : FI) (gt : FG) (f : FS) : FS := fun E A B => fi A B fun xs B1 => ∃ Iv : Nat → Env → Mem → Prop, shiftTo np (Iv 0) A B1 ∧
  (∀ i x A' B', xs[i]? = some x → Iv i A' B' → gt (.d x) A' B' fun A2 B2 => f { nx := shiftTo np (Iv (i + 1)), ct := shiftTo np (Iv (i + 1)), bk := shiftTo np E.nx, rt := E.rt } A2 B2) ∧ ∀ A' B', Iv xs.length A' B' → shiftTo np E.nx A' B'
theorem nx_shift {E : Env → Mem → Prop} {D : L2.St → Hp → Prop} (h : ∀ θ A B σ G H, StOk K θ A B σ G H → Gw np N ⟨θ, G, H⟩ → E A B → D σ H) : ∀ θ A B σ G H, StOk K θ A B σ G H → Gw np N ⟨θ, G, H⟩ → shiftTo np E A B → D σ H := fun θ A B σ G H S gw ⟨A', B', sh, k⟩ => by
  obtain ⟨θ', G', S', gw', _⟩ := shift_ok sh S gw
  exact h θ' A' B' σ G' H S' gw' k
theorem pds_for {fi : FI} (hi : PDI X tg a fi) (hg : PDG X tg gt) (hf : PDSs X np sts f) (h : ∀ ti tg' tb, PI X tg a ti → PG X tg tg' → PSs X sts tb → PS X st (tFor ti tg' tb)) (hb : ∀ N, PSs X sts (tfS X.K np N f)) : PDS X np st (sFor np fi gt f) := by
  refine ⟨fun N => ?_⟩
  -- the body as one reading: from any place
  have hbody : PSs X sts (fun D σ H => ∃ N, tfS X.K np N f D σ H) := ⟨fun pins s σ H D I ⟨N, w⟩ => (hb N).run pins s σ H D I w⟩
  refine PS.imp (h _ _ _ hi.pi hg.pg hbody) fun D σ H w => ?_
  obtain ⟨θ, A, B, G, E, S, gw, hf, ok⟩ := w
  refine ⟨θ, A, B, G, _, S, hf, fun θ1 B1 G1 H1 xs J g1 S1 wk k1 => ?_⟩
  obtain ⟨Iv, ⟨A0, B0, sh, h0⟩, turn, done⟩ := k1
  have gw1 := gw.gr g1
  obtain ⟨θ0, G0, S0, gw0, x0⟩ := shift_ok sh S1 gw1
  refine ⟨fun i m σ' H' => m = xs.length - i ∧ i ≤ xs.length ∧ ∃ θ A B G, StOk X.K θ A B σ' G H' ∧ Gw np N ⟨θ, G, H'⟩ ∧ Ext G1 G ∧ Iv i A B, ⟨_, rfl, Nat.zero_le _, θ0, A0, B0, G0, S0, gw0, x0, h0⟩, ?_⟩
  rintro i m σ' H' ⟨rfl, hil, θ2, A2, B2, G2, S2, gw2, x2, iv⟩
  by_cases hlt : i < xs.length
  · obtain ⟨go, yl⟩ := wk.step i G2 H' x2 S2.mem.ex hlt
    refine .inr ⟨go, fun σ' H' => ∃ θ A B G, StOk X.K θ A B σ' G H' ∧ Gw np N ⟨θ, G, H'⟩ ∧ Ext G1 G ∧ Iv (i + 1) A B, fun σ3 H3 ⟨θ3, A3, B3, G3, a1, a2, a3, a4⟩ => ⟨_, by omega, rfl, hlt, θ3, A3, B3, G3, a1, a2, a3, a4⟩, fun v H3 y => ?_⟩
    obtain ⟨G3, s3, hd⟩ := yl v H3 y
    obtain ⟨d, hxd⟩ : ∃ d, xs[i]? = some d := ⟨xs[i], by simp [hlt]⟩
    have S3 := s3.st S2
    have gw3 := gw2.gr (s3.gr (θ := θ2))
    refine ⟨θ2, A2, B2, G3, _, _, S3, .d (hd d hxd), turn i d A2 B2 hxd iv, fun θ4 A4 B4 σ4 G4 H4 g4 S4 k4 => ?_⟩
    have gw4 := gw3.gr g4
    refine ⟨⟨θ4, G4, H4⟩, θ4, A4, B4, G4, _, S4, Gw.refl gw4.ln, k4, ?_⟩
    have lift : ∀ θ A B σ G H, StOk X.K θ A B σ G H → Gw np ⟨θ4, G4, H4⟩ ⟨θ, G, H⟩ → shiftTo np (Iv (i + 1)) A B → ∃ θ A B G, StOk X.K θ A B σ G H ∧ Gw np N ⟨θ, G, H⟩ ∧ Ext G1 G ∧ Iv (i + 1) A B := fun θ5 A5 B5 σ5 G5 H5 S5 gw5 ⟨A6, B6, sh6, k6⟩ => by
      obtain ⟨θ6, G6, S6, gw6, x6⟩ := shift_ok sh6 S5 gw5
      exact ⟨θ6, A6, B6, G6, S6, gw4.trans gw6, ((x2.trans s3.gx).trans g4.gx).trans gw6.gx, k6⟩
    exact ⟨lift, fun θ5 B5 G5 H5 v5 w5 m5 gw5 hv5 k5 => ok.rt θ5 B5 G5 H5 v5 w5 m5 (gw4.trans gw5) hv5 k5,
      fun θ5 A5 B5 σ5 G5 H5 S5 gw5 k5 => nx_shift ok.nx θ5 A5 B5 σ5 G5 H5 S5 (gw4.trans gw5) k5, lift⟩
  · have e : i = xs.length := by omega
    subst e
    refine .inl ⟨wk.stop H' (x2.trans S2.mem.ex), ?_⟩
    exact nx_shift ok.nx θ2 A2 B2 σ' G2 H' S2 gw2 (done A2 B2 iv)
def sWhile (np : Nat) (t : FTt) (f : FS) : FS := fun E A B => ∃ Iv : Nat → Env → Mem → Prop, (∃ m, shiftTo np (Iv m) A B) ∧
  ∀ m A' B', Iv m A' B' → t A' B' fun b B2 => (b = true → f { nx := shiftTo np fun A B => ∃ m', m' < m ∧ Iv m' A B, ct := shiftTo np fun A B => ∃ m', m' < m ∧ Iv m' A B, bk := shiftTo np E.nx, rt := E.rt } A' B2) ∧ (b = false → shiftTo np E.nx A' B2)
theorem pds_while (ht : PDT X c t) (hb : PDSs X np sts f) (h : ∀ tt tb, PT X c tt → PSs X sts tb → PS X st (tWhile tt tb)) : PDS X np st (sWhile np t f) := by
  refine ⟨fun N => ?_⟩
  have hbody : PSs X sts (fun D σ H => ∃ N, tfS X.K np N f D σ H) := ⟨fun pins s σ H D I ⟨N, w⟩ => (hb.pss N).run pins s σ H D I w⟩
  refine PS.imp (h _ _ ht.pt hbody) fun D σ H w => ?_
  obtain ⟨θ, A, B, G, E, S, gw, ⟨Iv, ⟨m0, A0, B0, sh, h0⟩, turn⟩, ok⟩ := w
  obtain ⟨θ0, G0, S0, gw0, _⟩ := shift_ok sh S gw
  refine ⟨fun m σ' H' => ∃ θ A B G, StOk X.K θ A B σ' G H' ∧ Gw np N ⟨θ, G, H'⟩ ∧ Iv m A B, ⟨m0, θ0, A0, B0, G0, S0, gw0, h0⟩, ?_⟩
  rintro m σ' H' ⟨θ2, A2, B2, G2, S2, gw2, iv⟩
  refine ⟨θ2, A2, B2, G2, _, S2, turn m A2 B2 iv, fun θ3 B3 G3 H3 b g3 S3 k3 => ?_⟩
  have gw3 := gw2.gr g3
  cases b with
  | true =>
    refine iteT ⟨fun σ' H' => ∃ m', m' < m ∧ ∃ θ A B G, StOk X.K θ A B σ' G H' ∧ Gw np N ⟨θ, G, H'⟩ ∧ Iv m' A B, fun σ4 H4 ⟨m', h1, h2⟩ => ⟨m', h1, h2⟩, ?_⟩
    refine ⟨N, θ3, A2, B3, G3, _, S3, gw3, k3.1 rfl, ?_⟩
    have lift : ∀ θ A B σ G H, StOk X.K θ A B σ G H → Gw np N ⟨θ, G, H⟩ → shiftTo np (fun A B => ∃ m', m' < m ∧ Iv m' A B) A B → ∃ m', m' < m ∧ ∃ θ A B G, StOk X.K θ A B σ G H ∧ Gw np N ⟨θ, G, H⟩ ∧ Iv m' A B := fun θ5 A5 B5 σ5 G5 H5 S5 gw5 ⟨A6, B6, sh6, m', hm, k6⟩ => by
      obtain ⟨θ6, G6, S6, gw6, _⟩ := shift_ok sh6 S5 gw5
      exact ⟨m', hm, θ6, A6, B6, G6, S6, gw6, k6⟩
    exact ⟨lift, ok.rt, nx_shift ok.nx, lift⟩
  | false =>
    exact iteF <| nx_shift ok.nx θ3 A2 B3 σ' G3 H3 S3 gw3 (k3.2 rfl)
end
end Dl

namespace Dl
open L2 PySem PyProof.Rows PySem.Spec

/-! ### comprehensions -/
def wipeA (A : Env) : List Nat → Env
  | [] => A
  | v :: vs => (wipeA A vs).set v none
/-- the block's own slots, set and forgotten, leave the others as they were -/
def fLc (fi : FI) (gt : FG) (t : FTt) (f : FE) (vs : List Nat) : FE := fun A B k => fi A B fun xs B1 => ∃ Iv : Nat → List PyData → Mem → Prop, Iv 0 [] B1 ∧
  (∀ i x acc B2, xs[i]? = some x → Iv i acc B2 → gt (.d x) (wipeA A vs) B2 fun A2 B3 => t A2 B3 fun b B4 => (b = true → f A2 B4 fun y B5 => wK y fun d => acc.length < sizeLine ∧ Iv (i + 1) (acc ++ [d]) B5) ∧ (b = false → Iv (i + 1) acc B4)) ∧
  ∀ acc B2, Iv xs.length acc B2 → wpR B2 k (.l acc)
section
variable {X : Cx} {K : PySem.W.Frag} {np : Nat} {N : Ent} {θ θ' : Th} {A : Env} {B : Mem} {σ : L2.St} {G H G' H' : Hp} {st : Stmt} {sts sts2 : List Stmt} {e a b c o i tg elt : Expr} {es ifs : List Expr} {pos : Pos} {f g : FE} {fa fb fo : FE} {fi : FI} {fs : FA} {t : FTt} {gt : FG}
theorem wipe_slots (h : SlotsOk K G θ σ A) : ∀ vs : List Nat, SlotsOk K G θ (wipe σ vs) (wipeA A vs)
  | [] => h
  | v :: vs => (wipe_slots h vs).hide v none
theorem wipe_st (S : StOk K θ A B σ G H) (vs : List Nat) : StOk K θ (wipeA A vs) B (wipe σ vs) G H := ⟨S.mem, wipe_slots S.slots vs⟩
/-- a new list that grew beside the cells comes in -/
theorem fin_list {D : Addr} {vs : List V} {acc : List PyData} {k : Kt} {H1 : Hp} (m : MemOk K θ' B G' H') (hD : H' D = some (.lst vs)) (dd : DqAll K G' vs acc) (nD : D ∉ θ'.flatten) (fD : G' D = none) (oD : H1 D = none) (g : Gr θ θ' G H1 G' H') (h : wpR B k (.l acc)) :
    ∃ θ2 B2 G2 w, Gr θ θ2 G H1 G2 H' ∧ MemOk K θ2 B2 G2 H' ∧ AVok K G2 θ2 (.ref D) w ∧ k w B2 := by
  rcases h with h | h
  · have ex : Ext G' (upd G' D (.lst vs)) := Ext.new fD
    refine ⟨θ', B, upd G' D (.lst vs), _, ⟨g.gx.trans ex, g.th, g.keep, g.new, fun a ha => ?_⟩, ⟨fun a o ha => ?_, m.cells.mono ex fun _ _ _ h => h, m.nd, fun a ha => ?_⟩, .d (.lst upd_same (dqAll_mono ex dd)), h⟩
    · by_cases q : a = D
      · subst q; exact .inr (.inr oD)
      · rw [upd_ne q] at ha; exact g.gnew a ha
    · by_cases q : a = D
      · subst q; rw [upd_same] at ha; rw [hD]; exact ha
      · rw [upd_ne q] at ha; exact m.ex a o ha
    · rw [upd_ne fun z : a = D => nD (by rw [← z]; exact ha)]
      exact m.free a ha
  · have hl := m.cells.len
    refine ⟨θ' ++ [[D]], B ++ [.lst acc], G', .m B.length, ⟨g.gx, g.th.trans (List.prefix_append _ _), g.keep, fun a ha => ?_, g.gnew⟩, ⟨m.ex, m.cells.append (.cons (.lst hD dd) .nil), ?_, fun a ha => ?_⟩, .m (as := []) ?_, h⟩
    · rw [List.flatten_append, List.mem_append] at ha
      rcases ha with q | q
      · exact g.new a q
      · simp at q; subst q; exact .inr oD
    · rw [List.flatten_append, List.nodup_append]
      refine ⟨m.nd, by simp, fun a ha b hb e => ?_⟩
      simp at hb
      subst hb
      subst e
      exact nD ha
    · rw [List.flatten_append, List.mem_append] at ha
      rcases ha with q | q
      · exact m.free a q
      · simp at q; subst q; exact fD
    · rw [← hl, List.getElem?_append_right (Nat.le_refl _), Nat.sub_self]
      rfl
/-- a target that sets the block's own slots alone -/
def Quiet (g : TG) (vs : List Nat) : Prop := ∀ (v : V) (σ : L2.St) (H : Hp) (Q : L2.St → Hp → Prop), g v σ H Q → ∀ τ, wipe σ vs = τ → g v σ H fun σ2 H2 => wipe σ2 vs = τ ∧ Q σ2 H2
theorem wipe_set : ∀ {vs : List Nat} {σ : L2.St} {j : Nat} {x : Option V}, j ∈ vs → wipe (σ.set j x) vs = wipe σ vs
  | [], _, _, _, h => by cases h
  | v :: vs, σ, j, x, h => by
    unfold wipe
    by_cases e : j ∈ vs
    · rw [wipe_set e]
    · have ev : j = v := by
        rcases List.mem_cons.mp h with q | q
        · exact q
        · exact absurd q e
      subst ev
      have hw : ∀ {ws : List Nat} {τ : L2.St}, j ∉ ws → wipe (τ.set j x) ws = (wipe τ ws).set j x := fun {ws} {τ} hn => by
        induction ws with
        | nil => rfl
        | cons w ws ih =>
          rw [List.mem_cons, not_or] at hn
          show (wipe (τ.set j x) ws).set w none = ((wipe τ ws).set w none).set j x
          rw [ih hn.2, List.set_comm _ _ hn.1]
      rw [hw e, List.set_set]
theorem wipe_idem (σ : L2.St) : ∀ vs : List Nat, wipe (wipe σ vs) vs = wipe σ vs := fun vs => by
  have key : ∀ (ws : List Nat), (∀ w ∈ ws, w ∈ vs) → wipe (wipe σ ws) vs = wipe σ vs := fun ws => by
    induction ws with
    | nil => exact fun _ => rfl
    | cons w ws ih =>
      intro h
      show wipe ((wipe σ ws).set w none) vs = wipe σ vs
      rw [wipe_set (h w List.mem_cons_self), ih fun x hx => h x (List.mem_cons_of_mem _ hx)]
  exact key vs fun _ h => h
/-- an object beside the cells and the frozen part stays so -/
theorem beside {θa θb : Th} {Ga Ha Gb Hb : Hp} {D : Addr} {us : List V} (g : Gr θa θb Ga Ha Gb Hb) (n1 : D ∉ θa.flatten) (n2 : Ga D = none) (n3 : Ha D = some (.lst us)) : D ∉ θb.flatten ∧ Gb D = none ∧ Hb D = some (.lst us) := by
  refine ⟨fun z => ?_, ?_, g.keep D _ n3 n1⟩
  · rcases g.new D z with q | q
    · exact n1 q
    · rw [n3] at q; cases q
  · cases z : Gb D with
    | none => rfl
    | some o =>
      rcases g.gnew D (by rw [z]; exact fun w => nomatch w) with q | q | q
      · exact absurd n2 q
      · exact absurd q n1
      · rw [n3] at q; cases q
theorem tf_lc {wi : TI} {gT' : TG} {vs : List Nat} {σ : L2.St} {H : Hp} {Q : VK} (hi : ∀ σ H R, tfI K fi σ H R → wi σ H R) (hg : ∀ v σ H Q, tfG K gt v σ H Q → gT' v σ H Q) (hq : Quiet gT' vs)
    (w : tf K (fLc fi gt t f vs) σ H Q) : tLc wi gT' (tfT K t) (tf K f) vs σ H Q := by
  obtain ⟨θ, A, B, G, k, S, hf, q⟩ := w
  refine hi _ _ _ ⟨θ, A, B, G, _, S, hf, fun θ1 B1 G1 H1 xs J g1 S1 wk k1 => ?_⟩
  obtain ⟨Iv, h0, turn, done⟩ := k1
  intro D hD
  refine ⟨fun i m H' => m = xs.length - i ∧ i ≤ xs.length ∧ ∃ θ2 B2 G2 us acc, StOk K θ2 A B2 σ G2 H' ∧ Gr θ1 θ2 G1 H1 G2 H' ∧ D ∉ θ2.flatten ∧ G2 D = none ∧ H' D = some (.lst us) ∧ DqAll K G2 us acc ∧ Iv i acc B2, ⟨_, rfl, Nat.zero_le _, θ1, B1, G1, [], [], (Stp.junk S1.mem.ex hD).st S1, (Stp.junk S1.mem.ex hD).gr, S1.mem.fresh hD, S1.mem.ex.fresh hD, upd_same, .nil, h0⟩, ?_⟩
  rintro i m H' ⟨rfl, hil, θ2, B2, G2, us, acc, S2, g2, nD, fD, hD2, dd, iv⟩
  by_cases hlt : i < xs.length
  · obtain ⟨go, yl⟩ := wk.step i G2 H' g2.gx S2.mem.ex hlt
    refine .inr ⟨go, fun H' => ∃ θ2 B2 G2 us acc, StOk K θ2 A B2 σ G2 H' ∧ Gr θ1 θ2 G1 H1 G2 H' ∧ D ∉ θ2.flatten ∧ G2 D = none ∧ H' D = some (.lst us) ∧ DqAll K G2 us acc ∧ Iv (i + 1) acc B2, fun H3 z => ⟨_, by omega, rfl, hlt, z⟩, fun v H3 y => ?_⟩
    obtain ⟨G3, s3, hd⟩ := yl v H3 y
    obtain ⟨d, hxd⟩ : ∃ d, xs[i]? = some d := ⟨xs[i], by simp [hlt]⟩
    have S3 := s3.st S2
    obtain ⟨b1, b2, b3⟩ := beside (s3.gr (θ := θ2)) nD fD hD2
    have dd3 := dqAll_mono s3.gx dd
    refine hq _ _ _ _ (hg _ _ _ _ ⟨θ2, wipeA A vs, B2, G3, _, _, wipe_st S3 vs, .d (hd d hxd), turn i d acc B2 hxd iv, fun θ4 A4 B4 σ4 G4 H4 g4 S4 k4 => ?_⟩) _ (wipe_idem σ vs)
    obtain ⟨c1, c2, c3⟩ := beside g4 b1 b2 b3
    have back4 : StOk K θ4 A B4 σ G4 H4 := ⟨S4.mem, S3.slots.mono g4.gx g4.th⟩
    refine ⟨θ4, A4, B4, G4, _, S4, k4, fun θ5 B5 G5 H5 bb g5 S5 k5 => ?_⟩
    obtain ⟨d1, d2, d3⟩ := beside g5 c1 c2 c3
    have g35 := (((g2.trans s3.gr).trans g4).trans g5)
    cases bb with
    | true =>
      refine iteT ⟨θ5, A4, B5, G5, _, S5, k5.1 rfl, fun θ6 B6 G6 H6 z w g6 S6 hz k6 => ?_⟩
      obtain ⟨e1, e2, e3⟩ := beside g6 d1 d2 d3
      obtain ⟨dz, hdz, hz2, k7⟩ := wK_of hz k6
      have dd6 := dqAll_mono ((g4.gx.trans g5.gx).trans g6.gx) dd3
      refine ⟨us, e3, by rw [dqAll_len dd6]; exact hz2, θ6, B6, G6, us ++ [z], acc ++ [dz], ⟨⟨S6.mem.ex.side e2, S6.mem.cells.mono (Ext.refl _) fun a ha o ho => ?_, S6.mem.nd, S6.mem.free⟩, back4.slots.mono (g5.gx.trans g6.gx) (g5.th.trans g6.th)⟩, ?_, e1, e2, upd_same, dqAll_append dd6 (dqAll_one hdz), k7⟩
      · rw [upd_ne fun q : a = D => e1 (by rw [← q]; exact ha)]
        exact ho
      · have g36 := g35.trans g6
        exact ⟨g36.gx, g36.th, fun a o ha hn => by
          rw [upd_ne (ne_of_none ha hD)]
          exact g36.keep a o ha hn, g36.new, g36.gnew⟩
    | false =>
      refine iteF ⟨θ5, B5, G5, us, acc, ⟨S5.mem, back4.slots.mono g5.gx g5.th⟩, g35, d1, d2, d3, dqAll_mono (g4.gx.trans g5.gx) dd3, k5.2 rfl⟩
  · have e : i = xs.length := by omega
    subst e
    refine .inl ⟨wk.stop H' (g2.gx.trans S2.mem.ex), ?_⟩
    obtain ⟨θ3, B3, G3, w, g3, m3, hw, hk⟩ := fin_list S2.mem hD2 dd nD fD hD g2 (done acc B2 iv)
    exact q θ3 B3 G3 H' _ w (g1.trans g3) ⟨m3, (S1.slots.mono g3.gx g3.th)⟩ hw hk
end
end Dl

namespace Dl
open L2 PySem PyProof.Rows PySem.Spec

/-- what a def does: arguments, cells, what is wanted of the answer and the cells behind -/
abbrev FT := List AV → Mem → Kt → Prop
def spOf (K : PySem.W.Frag) (f : FT) : Sp := fun vs H Q _ => ∃ θ G B ws k, MemOk K θ B G H ∧ AVs K G θ vs ws ∧ f ws B k ∧ ∀ θ' B' G' H' v w, Gr θ θ' G H G' H' → MemOk K θ' B' G' H' → AVok K G' θ' v w → k w B' → Q v H'
def refs : List AV → Option (Option Nat)
  | [] => some none
  | .d _ :: ws => refs ws
  | .sc _ :: ws => refs ws
  | .m j :: ws => match refs ws with
    | some none => some (some j)
    | some (some i) => if i = j then some (some j) else none
    | none => none
  | _ :: _ => none
def ren : AV → AV
  | .m _ => .m 0
  | w => w
/-- the call of a def that is handed data, and one cell at most -/
def callF (f : FT) (ws : List AV) (B : Mem) (k : Kt) : Prop := match refs ws with
  | some none => f ws [] fun w C => match C, w with
    | [], .d d => k (.d d) B
    | [c], .m 0 => k (.m B.length) (B ++ [c])
    | _, _ => False
  | some (some j) => ∃ c, B[j]? = some c ∧ c ≠ .gone ∧ f (ws.map ren) [c] fun w C => match C, w with
    | [c'], .d d => k (.d d) (B.set j c')
    | [c', c2], .m 1 => k (.m B.length) (B.set j c' ++ [c2])
    | _, _ => False
  | none => False
section
variable {X : Cx} {K : PySem.W.Frag} {np : Nat} {N : Ent} {θ ψ θ' : Th} {A : Env} {B C : Mem} {σ : L2.St} {G H G' H' : Hp} {st : Stmt} {sts sts2 : List Stmt} {e a b c o i tg elt : Expr} {es ifs : List Expr} {pos : Pos} {f g : FE} {fa fb fo : FE} {fi : FI} {fs : FA} {t : FTt} {gt : FG}
theorem stay_free (m : MemOk K θ B G H) {θ0 : Th} (gn : ∀ a, G' a ≠ none → G a ≠ none ∨ a ∈ θ0.flatten ∨ H a = none) {a : Addr} (ha : a ∈ θ.flatten) (hn : a ∉ θ0.flatten) : G' a = none := by
  cases z : G' a with
  | none => rfl
  | some o =>
    rcases gn a (by rw [z]; exact fun w => nomatch w) with q | q | q
    · exact absurd (m.free a ha) q
    · exact absurd q hn
    · exact absurd q (m.live ha)
theorem frame0 (m : MemOk K θ B G H) (g : Gr [] ψ G H G' H') (m' : MemOk K ψ C G' H') : MemOk K (θ ++ ψ) (B ++ C) G' H' ∧ Gr θ (θ ++ ψ) G H G' H' := by
  have hn : ∀ a, a ∉ ([] : Th).flatten := fun a h => by simp at h
  refine ⟨⟨m'.ex, (m.cells.mono g.gx fun a _ o h => g.keep a o h (hn a)).append m'.cells, ?_, fun a ha => ?_⟩, ⟨g.gx, List.prefix_append _ _, fun a o h _ => g.keep a o h (hn a), fun a ha => ?_, fun a h => ?_⟩⟩
  · rw [List.flatten_append, List.nodup_append]
    refine ⟨m.nd, m'.nd, fun a ha b hb e => ?_⟩
    subst e
    rcases g.new a hb with q | q
    · exact hn a q
    · exact m.live ha q
  · rw [List.flatten_append, List.mem_append] at ha
    rcases ha with q | q
    · exact stay_free m g.gnew q (hn a)
    · exact m'.free a q
  · rw [List.flatten_append, List.mem_append] at ha
    rcases ha with q | q
    · exact .inl q
    · rcases g.new a q with z | z
      · exact absurd z (hn a)
      · exact .inr z
  · rcases g.gnew a h with q | q | q
    · exact .inl q
    · exact absurd q (hn a)
    · exact .inr (.inr q)
theorem frame1 {j : Nat} {as : List Addr} {c' : MC} (m : MemOk K θ B G H) (hk : θ[j]? = some as) (g : Gr [as] (as :: ψ) G H G' H') (m' : MemOk K (as :: ψ) (c' :: C) G' H') : MemOk K (θ ++ ψ) (B.set j c' ++ C) G' H' ∧ Gr θ (θ ++ ψ) G H G' H' := by
  have hin : ∀ a, a ∈ as → a ∈ θ.flatten := fun a h => List.mem_flatten.mpr ⟨as, List.mem_of_getElem? hk, h⟩
  have fl : ∀ a, a ∈ ([as] : Th).flatten ↔ a ∈ as := fun a => by simp
  have nd' := m'.nd
  rw [List.flatten_cons, List.nodup_append] at nd'
  have fresh : ∀ a, a ∈ ψ.flatten → H a = none := fun a ha => by
    rcases g.new a (by rw [List.flatten_cons, List.mem_append]; exact .inr ha) with q | q
    · exact absurd rfl (nd'.2.2 a ((fl a).mp q) a ha)
    · exact q
  cases m'.cells with
  | cons h1 h2 =>
    refine ⟨⟨m'.ex, (m.cells.upd m.nd hk g.gx (fun a o h _ hn => g.keep a o h fun z => hn ((fl a).mp z)) h1).append h2, ?_, fun a ha => ?_⟩, ⟨g.gx, List.prefix_append _ _, fun a o h hn => g.keep a o h fun z => hn (hin a ((fl a).mp z)), fun a ha => ?_, fun a h => ?_⟩⟩
    · rw [List.flatten_append, List.nodup_append]
      refine ⟨m.nd, nd'.2.1, fun a ha b hb e => ?_⟩
      subst e
      exact m.live ha (fresh a hb)
    · rw [List.flatten_append, List.mem_append] at ha
      rcases ha with q | q
      · by_cases z : a ∈ as
        · exact m'.free a (by rw [List.flatten_cons, List.mem_append]; exact .inl z)
        · exact stay_free m g.gnew q fun w => z ((fl a).mp w)
      · exact m'.free a (by rw [List.flatten_cons, List.mem_append]; exact .inr q)
    · rw [List.flatten_append, List.mem_append] at ha
      rcases ha with q | q
      · exact .inl q
      · exact .inr (fresh a q)
    · rcases g.gnew a h with q | q | q
      · exact .inl q
      · exact .inr (.inl (hin a ((fl a).mp q)))
      · exact .inr (.inr q)
theorem refs_none : ∀ {vs : List V} {ws : List AV}, AVs K G θ vs ws → refs ws = some none → AVs K G [] vs ws
  | _, _, .nil, _ => .nil
  | _, _, .cons h t, e => by
    cases h with
    | d q => exact .cons (.d q) (refs_none t e)
    | sc q => exact .cons (.sc q) (refs_none t e)
    | kt _ _ => cases e
    | r _ _ => cases e
    | m _ =>
      unfold refs at e
      try simp only at e
      split at e
      · cases e
      · split at e <;> cases e
      · cases e
theorem refs_one : ∀ {vs : List V} {ws : List AV} {j : Nat} {as : List Addr}, AVs K G θ vs ws → (refs ws = some (some j) ∨ refs ws = some none) → θ[j]? = some as → AVs K G [as] vs (ws.map ren)
  | _, _, _, _, .nil, _, _ => .nil
  | _, _ :: ws0, j, as, .cons h t, e, hk => by
    cases h with
    | d q => exact .cons (.d q) (refs_one t e hk)
    | sc q => exact .cons (.sc q) (refs_one t e hk)
    | kt _ _ => rcases e with e | e <;> cases e
    | r _ _ => rcases e with e | e <;> cases e
    | @m i a bs hi =>
      have key : i = j ∧ (refs ws0 = some (some j) ∨ refs ws0 = some none) := by
        rcases e with e | e
        · unfold refs at e
          try simp only at e
          split at e
          · rename_i hr; cases e; exact ⟨rfl, .inr hr⟩
          · rename_i i' hr
            split at e
            · rename_i hij; cases e; exact ⟨rfl, .inl (by rw [hr, hij])⟩
            · cases e
          · cases e
        · unfold refs at e
          try simp only at e
          split at e
          · cases e
          · split at e <;> cases e
          · cases e
      obtain ⟨rfl, e2⟩ := key
      rw [hk] at hi
      cases hi
      exact .cons (.m rfl) (refs_one t e2 hk)
theorem refs_at : ∀ {vs : List V} {ws : List AV} {j : Nat}, AVs K G θ vs ws → refs ws = some (some j) → ∃ as, θ[j]? = some as
  | _, _, _, .nil, e => by cases e
  | _, _, j, .cons h t, e => by
    cases h with
    | d q => exact refs_at t e
    | sc q => exact refs_at t e
    | kt _ _ => cases e
    | r _ _ => cases e
    | @m i a bs hi =>
      unfold refs at e
      try simp only at e
      split at e
      · cases e; exact ⟨_, hi⟩
      · rename_i i' hr
        split at e
        · cases e; exact ⟨_, hi⟩
        · cases e
      · cases e
theorem call_of {f : FT} {vs : List V} {ws : List AV} {k : Kt} {Q : VK} {E : XK} (S : StOk K θ A B σ G H) (hv : AVs K G θ vs ws) (h : callF f ws B k)
    (q : ∀ θ' B' G' H' z w, Gr θ θ' G H G' H' → StOk K θ' A B' σ G' H' → AVok K G' θ' z w → k w B' → Q z H') : spOf K f vs H Q E := by
  have m := S.mem
  unfold callF at h
  split at h
  · rename_i hr
    refine ⟨[], G, [], ws, _, ⟨m.ex, .nil, by simp, fun a ha => by simp at ha⟩, refs_none hv hr, h, fun θ' B' G' H' v w g m' hw hk => ?_⟩
    obtain ⟨m2, g2⟩ := frame0 m g m'
    have S2 : StOk K (θ ++ θ') A (B ++ B') σ G' H' := ⟨m2, S.slots.mono g2.gx g2.th⟩
    split at hk
    · rw [List.append_nil] at S2
      cases hw with
      | d hd => exact q _ _ G' H' v _ g2 S2 (.d hd) hk
    · refine q _ _ G' H' v _ g2 S2 ?_ hk
      cases hw with
      | @m _ p as h0 =>
        refine .m (as := as) ?_
        have hl := m.cells.len
        rw [← hl, List.getElem?_append_right (Nat.le_refl _), Nat.sub_self]
        exact h0
    · exact hk.elim
  · rename_i j hr
    obtain ⟨c, hb, hng, h⟩ := h
    obtain ⟨as, hk0⟩ := refs_at hv hr
    obtain ⟨c0, hb0, hc⟩ := m.cells.get hk0
    rw [hb] at hb0
    cases hb0
    have sub : MemOk K [as] [c] G H := by
      refine ⟨m.ex, .cons hc .nil, ?_, fun a ha => m.free a (List.mem_flatten.mpr ⟨as, List.mem_of_getElem? hk0, by simpa using ha⟩)⟩
      have := nodup_cell m.nd hk0
      simpa using this
    refine ⟨[as], G, [c], ws.map ren, _, sub, refs_one hv (.inl hr) hk0, h, fun θ' B' G' H' v w g m' hw hk => ?_⟩
    obtain ⟨ψ, rfl⟩ := g.th
    split at hk
    · rename_i c' d
      have hl := m'.cells.len
      have hψ : ψ = [] := by
        simp at hl
        exact hl
      subst hψ
      obtain ⟨m2, g2⟩ := frame1 (ψ := []) (C := []) m hk0 g m'
      have S2 : StOk K (θ ++ []) A (B.set j c' ++ []) σ G' H' := ⟨m2, S.slots.mono g2.gx g2.th⟩
      rw [List.append_nil (as := B.set j c')] at S2
      cases hw with
      | d hd => exact q _ _ G' H' v _ g2 S2 (.d hd) hk
    · rename_i c' c2
      obtain ⟨m2, g2⟩ := frame1 (ψ := ψ) (C := [c2]) m hk0 g m'
      have S2 : StOk K (θ ++ ψ) A (B.set j c' ++ [c2]) σ G' H' := ⟨m2, S.slots.mono g2.gx g2.th⟩
      refine q _ _ G' H' v _ g2 S2 ?_ hk
      cases hw with
      | @m _ p bs h0 =>
        refine .m (as := bs) ?_
        have hl := m.cells.len
        rw [← hl, List.getElem?_append_right (Nat.le_refl _), Nat.sub_self]
        simpa using h0
    · exact hk.elim
  · exact h.elim
def fCall (F : FT) (fs : FA) : FE := fun A B k => fs A B fun ws B1 => callF F ws B1 k
theorem pd_callF {F : FT} (hs : PDA X es fs) (h : ∀ ta, PA X es ta → PE X e (tCall (spOf X.K F) [] E0 ta)) : PD X e (fCall F fs) := ⟨PE.imp (h _ hs.pa) fun σ H Q w => by
  obtain ⟨θ, A, B, G, k, S, hf, q⟩ := w
  refine ⟨θ, A, B, G, _, S, hf, fun θ1 B1 G1 H1 vs ws g1 S1 hv k1 => ?_⟩
  show spOf X.K F (vs ++ []) H1 Q E0
  rw [List.append_nil]
  exact call_of S1 hv k1 fun θ2 B2 G2 H2 z w g2 S2 hz k2 => q θ2 B2 G2 H2 z w (g1.trans g2) S2 hz k2⟩
end
end Dl

namespace Dl
open L2 PySem PyProof.Rows PySem.Spec
/-! ### the small syntax, compared -/
mutual
def pdDec : (a b : PyData) → Decidable (a = b)
  | .none, .none => .isTrue rfl
  | .bool a, .bool b => if h : a = b then .isTrue (by rw [h]) else .isFalse (fun e => h (by cases e; rfl))
  | .int a, .int b => if h : a = b then .isTrue (by rw [h]) else .isFalse (fun e => h (by cases e; rfl))
  | .str a, .str b => if h : a = b then .isTrue (by rw [h]) else .isFalse (fun e => h (by cases e; rfl))
  | .list a, .list b => match pdDecs a b with
    | .isTrue h => .isTrue (by rw [h])
    | .isFalse h => .isFalse (fun e => h (by cases e; rfl))
  | .tuple a, .tuple b => match pdDecs a b with
    | .isTrue h => .isTrue (by rw [h])
    | .isFalse h => .isFalse (fun e => h (by cases e; rfl))
  | .dict a, .dict b => match pdDecK a b with
    | .isTrue h => .isTrue (by rw [h])
    | .isFalse h => .isFalse (fun e => h (by cases e; rfl))
  | .none, .bool _ => .isFalse (fun h => by cases h)
  | .none, .int _ => .isFalse (fun h => by cases h)
  | .none, .str _ => .isFalse (fun h => by cases h)
  | .none, .list _ => .isFalse (fun h => by cases h)
  | .none, .tuple _ => .isFalse (fun h => by cases h)
  | .none, .dict _ => .isFalse (fun h => by cases h)
  | .bool _, .none => .isFalse (fun h => by cases h)
  | .bool _, .int _ => .isFalse (fun h => by cases h)
  | .bool _, .str _ => .isFalse (fun h => by cases h)
  | .bool _, .list _ => .isFalse (fun h => by cases h)
  | .bool _, .tuple _ => .isFalse (fun h => by cases h)
  | .bool _, .dict _ => .isFalse (fun h => by cases h)
  | .int _, .none => .isFalse (fun h => by cases h)
  | .int _, .bool _ => .isFalse (fun h => by cases h)
  | .int _, .str _ => .isFalse (fun h => by cases h)
  | .int _, .list _ => .isFalse (fun h => by cases h)
  | .int _, .tuple _ => .isFalse (fun h => by cases h)
  | .int _, .dict _ => .isFalse (fun h => by cases h)
  | .str _, .none => .isFalse (fun h => by cases h)
  | .str _, .bool _ => .isFalse (fun h => by cases h)
  | .str _, .int _ => .isFalse (fun h => by cases h)
  | .str _, .list _ => .isFalse (fun h => by cases h)
  | .str _, .tuple _ => .isFalse (fun h => by cases h)
  | .str _, .dict _ => .isFalse (fun h => by cases h)
  | .list _, .none => .isFalse (fun h => by cases h)
  | .list _, .bool _ => .isFalse (fun h => by cases h)
  | .list _, .int _ => .isFalse (fun h => by cases h)
  | .list _, .str _ => .isFalse (fun h => by cases h)
  | .list _, .tuple _ => .isFalse (fun h => by cases h)
  | .list _, .dict _ => .isFalse (fun h => by cases h)
  | .tuple _, .none => .isFalse (fun h => by cases h)
  | .tuple _, .bool _ => .isFalse (fun h => by cases h)
  | .tuple _, .int _ => .isFalse (fun h => by cases h)
  | .tuple _, .str _ => .isFalse (fun h => by cases h)
  | .tuple _, .list _ => .isFalse (fun h => by cases h)
  | .tuple _, .dict _ => .isFalse (fun h => by cases h)
  | .dict _, .none => .isFalse (fun h => by cases h)
  | .dict _, .bool _ => .isFalse (fun h => by cases h)
  | .dict _, .int _ => .isFalse (fun h => by cases h)
  | .dict _, .str _ => .isFalse (fun h => by cases h)
  | .dict _, .list _ => .isFalse (fun h => by cases h)
  | .dict _, .tuple _ => .isFalse (fun h => by cases h)
def pdDecs : (a b : List PyData) → Decidable (a = b)
  | [], [] => .isTrue rfl
  | [], _ :: _ => .isFalse (fun h => by cases h)
  | _ :: _, [] => .isFalse (fun h => by cases h)
  | a :: as, b :: bs => match pdDec a b, pdDecs as bs with
    | .isTrue h, .isTrue g => .isTrue (by rw [h, g])
    | .isFalse h, _ => .isFalse (fun e => h (by cases e; rfl))
    | _, .isFalse h => .isFalse (fun e => h (by cases e; rfl))
def pdDecK : (a b : List (PyData × PyData)) → Decidable (a = b)
  | [], [] => .isTrue rfl
  | [], _ :: _ => .isFalse (fun h => by cases h)
  | _ :: _, [] => .isFalse (fun h => by cases h)
  | (a, a') :: as, (b, b') :: bs => match pdDec a b, pdDec a' b', pdDecK as bs with
    | .isTrue h, .isTrue k, .isTrue g => .isTrue (by rw [h, k, g])
    | .isFalse h, _, _ => .isFalse (fun e => h (by cases e; rfl))
    | _, .isFalse h, _ => .isFalse (fun e => h (by cases e; rfl))
    | _, _, .isFalse h => .isFalse (fun e => h (by cases e; rfl))
end
instance pdDecEq : DecidableEq PyData := pdDec
end Dl

namespace Dl
open L2 PySem PyProof.Rows PySem.Spec

/-! ### a small syntax, and what it means over data and cells -/
inductive O2 where
  | add | sub | mul | div | mod | pow | eq | ne | lt | le | gt | ge | inn | nin | is_ | isn | ix
  deriving DecidableEq
def isCmp : O2 → Bool
  | .eq => true | .ne => true | .lt => true | .le => true | .gt => true | .ge => true | .inn => true | .nin => true | .is_ => true | .isn => true
  | _ => false
/-- the meaning of an operation on values -/
def a2 : O2 → AV → AV → Mem → Kt → Prop
  | .add => aAdd | .sub => aD2 dSub | .mul => aD2 dMul | .div => aD2 dDiv | .mod => aD2 dMod | .pow => aD2 dPow
  | .eq => aD2 dEq | .ne => aD2 dNe | .lt => aD2 dLt | .le => aD2 dLe | .gt => aD2 dGt | .ge => aD2 dGe
  | .inn => aIn false | .nin => aIn true | .is_ => aIs false | .isn => aIs true | .ix => aIx
/-- its reading -/
def r2 (K : PySem.W.Frag) : O2 → R2
  | .add => rAddA K | .sub => rI0 fun i j => .int (i - j) | .mul => rMulA | .div => rI CDivW fun i j => .int (i / j) | .mod => rI (fun _ j => 0 < j) fun i j => .int (i % j) | .pow => rI CPow fun i j => .int (i ^ j.toNat)
  | .eq => rEqA K | .ne => rNeA K | .lt => rLtA | .le => rI0 fun i j => .bl (decide (i ≤ j)) | .gt => rI0 fun i j => .bl (decide (j < i)) | .ge => rI0 fun i j => .bl (decide (j ≤ i))
  | .inn => rInA K false | .nin => rInA K true | .is_ => fun x y H Q => y = .non ∧ Q (.bl (decide (x = .non))) H | .isn => fun x y H Q => y = .non ∧ Q (.bl (!decide (x = .non))) H | .ix => rIxA K
theorem rd2_all {K : PySem.W.Frag} : ∀ o : O2, RD2 K (r2 K o) (a2 o)
  | .add => rd_add | .sub => rd_sub | .mul => rd_mul | .div => rd_div | .mod => rd_mod | .pow => rd_pow
  | .eq => rd_eq | .ne => rd_ne | .lt => rd_lt | .le => rd_le | .gt => rd_gt | .ge => rd_ge
  | .inn => rd_in | .nin => rd_in | .is_ => rd_is | .isn => rd_isnot | .ix => rd_ix
mutual
/-- targets: a slot, a tuple of targets -/
inductive AG where
  | nm (i : Nat) | tp (gs : AGs)
  deriving DecidableEq
inductive AGs where
  | nil | cons (g : AG) (gs : AGs)
  deriving DecidableEq
end
mutual
inductive AE where
  | var (i : Nat) | c (x : PyData) | kt (xs : List PyData)
  | op2 (o : O2) (a b : AE) | neg (a : AE) | chain (o o' : O2) (a b c : AE)
  | and (a b : AE) | or (a b : AE) | not (a : AE) | ife (t a b : AE)
  | sl (a lo hi : AE) | omit
  | call (f : Nat) (es : AEs) | callK (f : Nat) (ix : List Nat) (es : AEs)
  | bi (b : BI) (es : AEs) | isi (ts : List TN) (a : AE)
  | mm (m : MM) (o : AE) (es : AEs) | get2 (o a b : AE)
  | tup (es : AEs) | lst (es : AEs) | dnew
  | lc (it : AI) (g : AG) (t e : AE) (vs : List Nat)
  | lcD (i : Nat) (g : AG) (t e : AE) (vs : List Nat)
  | dne0 (i : Nat)
  deriving DecidableEq
inductive AEs where
  | nil | cons (a : AE) (es : AEs)
  deriving DecidableEq
inductive AI where
  | seq (a : AE) | r1 (es : AEs) | r2 (es : AEs) | r3 (es : AEs) | zip (es : AEs) | enum (es : AEs)
  deriving DecidableEq
end
mutual
def wpG : AG → FG
  | .nm i => gN i
  | .tp gs => gT (lenG gs) (wpGs gs)
def wpGs : AGs → FGs
  | .nil => gsNil
  | .cons g gs => gsCons (wpG g) (wpGs gs)
def lenG : AGs → Nat
  | .nil => 0
  | .cons _ gs => lenG gs + 1
end
/-- the keyword arguments' values, in the parameters' order -/
def pick (ix : List Nat) (ws : List AV) : List AV := ix.map fun i => ws.getD i (.d .none)
def fCallK (F : FT) (ix : List Nat) (fs : FA) : FE := fun A B k => fs A B fun ws B1 => ws.length = ix.length ∧ callF F (pick ix ws) B1 k
/-- [.. for x in d ..]: the dict in slot i is walked by its keys -/
def keyPy : Key → PyData
  | .inl i => .int i
  | .inr s => .str s
/-- what points into the j-th cell forgotten -/
def hideJ (j : Nat) : Option AV → Option AV
  | some (.m k) => if k = j then none else some (.m k)
  | some (.r k i) => if k = j then none else some (.r k i)
  | w => w
/-- the dict's own pairs come back behind the walk -/
def fLcD2 (i : Nat) (gt : FG) (t : FTt) (f : FE) (vs : List Nat) : FE := fun A B k => ∃ j kvs, A[i]? = some (some (.m j)) ∧ B[j]? = some (.dK kvs) ∧
  fLc (fun _ B k => k (kvs.map fun p => keyPy p.1) B) gt t f vs (A.map (hideJ j)) (B.set j .gone) fun w B' => B'[j]? = some .gone ∧ k w (B'.set j (.dK kvs))
/-- d != {} -/
def fDne0 (i : Nat) : FE := fun A B k => ∃ j kvs, A[i]? = some (some (.m j)) ∧ B[j]? = some (.dK kvs) ∧ k (.d (.bool (!kvs.isEmpty))) B
mutual
def wpE (T : Nat → FT) : AE → FE
  | .var i => fVar i
  | .c x => fC x
  | .kt xs => fun _ B k => k (.kt xs) B
  | .op2 o a b => fOp (a2 o) (wpE T a) (wpE T b)
  | .neg a => fUn (aD1 dNeg) (wpE T a)
  | .chain o o' a b c => fChain (a2 o) (a2 o') (wpE T a) (wpE T b) (wpE T c)
  | .and a b => fAndV (wpE T a) (wpE T b)
  | .or a b => fOrV (wpE T a) (wpE T b)
  | .not a => fNotV (wpE T a)
  | .ife t a b => fIf (wpT T t) (wpE T a) (wpE T b)
  | .sl a lo hi => fSl (wpE T a) (wpO T lo) (wpO T hi)
  | .omit => fun _ _ _ => False
  | .call f es => fCall (T f) (wpEs T es)
  | .callK f ix es => fCallK (T f) ix (wpEs T es)
  | .bi b es => fL (aBi b) (wpEs T es)
  | .isi ts a => fIsi ts (wpE T a)
  | .mm m o es => fMM m (wpE T o) (wpEs T es)
  | .get2 o a b => fGet2 (wpE T o) (wpE T a) (wpE T b)
  | .tup es => fTup (wpEs T es)
  | .lst es => fLst (wpEs T es)
  | .dnew => fDNew
  | .lc it g t e vs => fLc (wpI T it) (wpG g) (wpT T t) (wpE T e) vs
  | .lcD i g t e vs => fLcD2 i (wpG g) (wpT T t) (wpE T e) vs
  | .dne0 i => fDne0 i
/-- as a test -/
def wpT (T : Nat → FT) : AE → FTt
  | .omit => fun _ B k => k true B
  | .and a b => fAnd (wpT T a) (wpT T b)
  | .or a b => fOr (wpT T a) (wpT T b)
  | .not a => fNot (wpT T a)
  | .op2 o a b => if isCmp o then fBool (fOp (a2 o) (wpE T a) (wpE T b)) else fTru (fOp (a2 o) (wpE T a) (wpE T b))
  | .chain o o' a b c => fBool (fChain (a2 o) (a2 o') (wpE T a) (wpE T b) (wpE T c))
  | .dne0 i => fBool (fDne0 i)
  | .var i => fTru (fVar i)
  | .c x => fTru (fC x)
  | .call f es => fTru (fCall (T f) (wpEs T es))
  | .bi b es => fTru (fL (aBi b) (wpEs T es))
  | .isi ts a => fTru (fIsi ts (wpE T a))
  | .lc it g t e vs => fTru (fLc (wpI T it) (wpG g) (wpT T t) (wpE T e) vs)
  | _ => fun _ _ _ => False
def wpO (T : Nat → FT) : AE → FO
  | .omit => fNoPart
  | .var i => fPart (fVar i)
  | .c x => fPart (fC x)
  | .op2 o a b => fPart (fOp (a2 o) (wpE T a) (wpE T b))
  | .neg a => fPart (fUn (aD1 dNeg) (wpE T a))
  | .call f es => fPart (fCall (T f) (wpEs T es))
  | .bi b es => fPart (fL (aBi b) (wpEs T es))
  | _ => fun _ _ _ => False
def wpEs (T : Nat → FT) : AEs → FA
  | .nil => fNil
  | .cons a es => fCons (wpE T a) (wpEs T es)
def wpI (T : Nat → FT) : AI → FI
  | .seq a => fSeq (wpE T a)
  | .r1 es => fR1 (wpEs T es)
  | .r2 es => fR2 (wpEs T es)
  | .r3 es => fR3 (wpEs T es)
  | .zip es => fZip (wpEs T es)
  | .enum es => fEnum (wpEs T es)
end
mutual
inductive AS where
  | pass | brk | cont | never | retN
  | drop (e : AE) | asg (g : AG) (e : AE) | par (i j : Nat) (es : AEs) | par3 (i j l : Nat) (es : AEs)
  | put (v o i : AE) | aug (i : Nat) (plus : Bool) (e : AE)
  | ife (t : AE) (a b : ASs) | for_ (it : AI) (g : AG) (b : ASs) | while_ (t : AE) (b : ASs) | ret (e : AE)
  | sh (s : AS)
  deriving DecidableEq
inductive ASs where
  | nil | cons (s : AS) (ss : ASs)
  deriving DecidableEq
end
def sPar3 (i j l : Nat) (fs : FA) : FS := fun E A B => fs A B fun ws B1 => match ws with
  | [u, v, w] => E.nx (((A.set i (some u)).set j (some v)).set l (some w)) B1
  | _ => False
mutual
def wpS (T : Nat → FT) (np : Nat) : AS → FS
  | .pass => sNext
  | .brk => sBreak
  | .cont => sCont
  | .never => sNever
  | .retN => sRetN
  | .drop e => sDrop (wpE T e)
  | .asg g e => sAsg (wpE T e) (wpG g)
  | .par i j es => sPar i j (wpEs T es)
  | .par3 i j l es => sPar3 i j l (wpEs T es)
  | .put v o i => sPut (wpE T v) (wpE T o) (wpE T i)
  | .aug i plus e => sAug i (fun a b => if plus then a + b else a - b) (wpE T e)
  | .ife t a b => sIf (wpT T t) (wpSs T np a) (wpSs T np b)
  | .for_ it g b => sFor np (wpI T it) (wpG g) (wpSs T np b)
  | .while_ t b => sWhile np (wpT T t) (wpSs T np b)
  | .ret e => sRet (wpE T e)
  | .sh s => sShift np (wpS T np s)
def wpSs (T : Nat → FT) (np : Nat) : ASs → FS
  | .nil => sNext
  | .cons s .nil => wpS T np s
  | .cons s ss => sSeq (wpS T np s) (wpSs T np ss)
end
end Dl

namespace Dl
open L2 PySem PyProof.Rows PySem.Spec

/-! ### from the row's syntax to the small one -/
inductive GK where
  | fn (i : Nat) (ps : List Str) (pats : List (List Str)) | cst (x : PyData) | kt (xs : List PyData) | blt
structure Ctx where
  N : List Str
  sc : Scope
  fn : Str → Bool
  gl : Str → Option GK
  ghost : List Nat
  dl : List Nat
def Ctx.blk (c : Ctx) (scope : Scope) : Ctx := { c with sc := relS scope c.sc, fn := fun x => scope.names.lookup x == some .cell }
def kidx (ps ks : List Str) : List Nat := ps.map fun p => ks.idxOf p
def kg (ps ks : List Str) (us ws : List Value) : List Value := if ws.length = ks.length then us ++ (kidx ps ks).map fun i => ws.getD i .none else []
def kgV (ps ks : List Str) (us ws : List V) : List V := if ws.length = ks.length then us ++ (kidx ps ks).map fun i => ws.getD i .non else []
theorem vals_get : ∀ {vs : List V} {us : List Value} (i : Nat), Vals vs us → RelV (vs.getD i .non) (us.getD i .none)
  | _, _, _, .nil => rfl
  | _, _, 0, .cons h _ => h
  | _, _, i + 1, .cons _ t => by simpa using vals_get i t
theorem vals_pick {vs : List V} {us : List Value} (h : Vals vs us) : ∀ ix : List Nat, Vals (ix.map fun i => vs.getD i .non) (ix.map fun i => us.getD i .none)
  | [] => .nil
  | i :: ix => .cons (vals_get i h) (vals_pick h ix)
theorem vals_app : ∀ {vs : List V} {us : List Value} {zs : List V} {ws : List Value}, Vals vs us → Vals zs ws → Vals (vs ++ zs) (us ++ ws)
  | _, _, _, _, .nil, s => s
  | _, _, _, _, .cons h t, s => .cons h (vals_app t s)
theorem kbinds_of {K : PySem.W.Frag} {fd : FuncData} {ps ks : List Str} (hp : ps ≠ []) (h : ∀ ws : List Value, ws.length = ks.length → bindArgs fd ⟨[], ks.zip ws⟩ = pure (ps.zip ((kidx ps ks).map fun i => ws.getD i .none))) : KBinds K fd ps ks (kg ps ks) (kgV ps ks) := by
  have hpl : ps.length ≠ 0 := fun z => hp (List.length_eq_zero_iff.mp z)
  refine ⟨fun s us ws _ hl => ?_, fun {vs us zs ws} hv hz => ?_⟩
  · unfold kg at hl ⊢
    by_cases e : ws.length = ks.length
    · rw [if_pos e] at hl ⊢
      have : us = [] := by
        rw [List.length_append, List.length_map] at hl
        have : (kidx ps ks).length = ps.length := by simp [kidx]
        exact List.length_eq_zero_iff.mp (by omega)
      subst this
      exact .of_eq (h ws e)
    · rw [if_neg e] at hl
      exact absurd hl.symm hpl
  · have e : zs.length = ws.length := hz.length
    unfold kg kgV
    by_cases q : ws.length = ks.length
    · rw [if_pos (e.trans q), if_pos q]
      exact vals_app hv (vals_pick hz _)
    · rw [if_neg (fun z => q (e.symm.trans z)), if_neg q]
      exact .nil
/-- a def of the text stands there and keeps its promise -/
structure FnAt (X : Cx) (x : Str) (ps : List Str) (pats : List (List Str)) (F : FT) : Prop where
  ex : ∃ f fd k, FnOk X.prog X.w X.K X.mg X.base CX0 k f fd ps (spOf X.K F) ∧ Room k X.A ∧ X.mg x = some (.ref f) ∧ PySem.W.keepIn X.K (.ref f) = true ∧ Binds X.K fd ps [] ∧ ∀ ks ∈ pats, KBinds X.K fd ps ks (kg ps ks) (kgV ps ks)
structure CtxOk (X : Cx) (c : Ctx) (T : Nat → FT) : Prop where
  hN : X.N = c.N
  nd : c.N.Nodup
  sc : X.env.scope = c.sc
  kind : c.sc.kind = .function
  fn : ∀ x, c.fn x = true → X.fn x = true
  calm : X.calm = true
  un : X.A.units + 65 < cLine
  fns : ∀ x i ps pats, c.gl x = some (.fn i ps pats) → FnAt X x ps pats (T i)
  cst : ∀ x d, c.gl x = some (.cst d) → ∃ v u, X.mg x = some u ∧ RelV v u ∧ Dq X.K (fun _ => none) v d
  kts : ∀ x xs, c.gl x = some (.kt xs) → ∃ a vs, X.mg x = some (.ref a) ∧ SqT X.K (fun _ => none) a vs ∧ DqAll X.K (fun _ => none) vs xs
  blt : ∀ x, c.gl x = some .blt → X.mg x = none
theorem CtxOk.blk {X : Cx} {c : Ctx} {T : Nat → FT} (h : CtxOk X c T) (s : Shared) (H : Hp) (scope : Scope) (C : Addr) (cl : List (Str × Addr)) (fp : List Addr) (hk : scope.kind = .function) :
    CtxOk (X.blk s H scope (compEnvC scope cl C X.env) fp) (c.blk scope) T := by
  refine ⟨h.hN, h.nd, ?_, hk, fun x hx => hx, h.calm, h.un, fun x i ps pats e => ?_, h.cst, h.kts, h.blt⟩
  · show relS scope X.env.scope = relS scope c.sc
    rw [h.sc]
  · obtain ⟨f, fd, k, a1, a2, a3, a4, a5, a6⟩ := (h.fns x i ps pats e).ex
    exact ⟨f, fd, k, a1, a2, a3, a4, a5, a6⟩

def isVis (o : Option NameKind) : Bool := match o with
  | some .local => true
  | some .cell => true
  | some .free => true
  | _ => false
def find? (N : List Str) (x : Str) : Option Nat := let i := N.idxOf x
  if N[i]? = some x then some i else none
def special (x : Str) : Bool := x == ("__debug__" : Str) || x == ("__classdict__" : Str) || decide (x = ("__name__" : Str))
def slotOf (c : Ctx) (x : Str) : Option Nat := if isVis (c.sc.names.lookup x) && !special x then find? c.N x else none
/-- a slot that may be stored -/
def stoOf (c : Ctx) (x : Str) : Option Nat := match c.sc.names.lookup x with
  | some .local => find? c.N x
  | some .cell => if c.fn x then find? c.N x else none
  | _ => none
theorem find_ok {N : List Str} {x : Str} {i : Nat} (h : find? N x = some i) : N[i]? = some x := by
  unfold find? at h
  simp only at h
  split at h
  · cases h; assumption
  · cases h
theorem vis_ok {sc : Scope} {x : Str} (h : isVis (sc.names.lookup x) = true) : Vis sc x := by
  unfold isVis at h
  split at h
  · rename_i e; exact .inl e
  · rename_i e; exact .inr (.inl e)
  · rename_i e; exact .inr (.inr e)
  · cases h
theorem spec_ok {x : Str} (h : special x = false) : (x == ("__debug__" : Str)) = false ∧ (x == ("__classdict__" : Str)) = false ∧ x ≠ ("__name__" : Str) := by
  unfold special at h
  simp only [Bool.or_eq_false_iff, decide_eq_false_iff_not] at h
  exact ⟨h.1.1, h.1.2, h.2⟩
def binO : Operator → Option O2
  | .Add => some .add | .Sub => some .sub | .Mult => some .mul | .FloorDiv => some .div | .Mod => some .mod | .Pow => some .pow
  | _ => none
def cmpO : CmpOp → Option O2
  | .Eq => some .eq | .NotEq => some .ne | .Lt => some .lt | .LtE => some .le | .Gt => some .gt | .GtE => some .ge | .In => some .inn | .NotIn => some .nin | .Is => some .is_ | .IsNot => some .isn
theorem binO_ok {X : Cx} {op : Operator} {o : O2} (h : binO op = some o) : OpR X (binaryOp op) (r2 X.K o) := by
  unfold binO at h
  split at h <;> cases h
  · exact op_addA
  · exact op_sub
  · exact op_mulA
  · exact op_fdivW
  · exact op_mod
  · exact op_pow
theorem cmpO_ok {X : Cx} (hu : X.A.units + 65 < cLine) {op : CmpOp} {o : O2} (h : cmpO op = some o) : OpR X (compareOp op) (r2 X.K o) := by
  unfold cmpO at h
  split at h <;> cases h
  · exact op_eqA (by omega)
  · exact op_neA (by omega)
  · exact op_ltA
  · exact op_le
  · exact op_gt
  · exact op_ge
  · exact op_inA hu
  · exact op_notInA hu
  · exact op_isN
  · exact op_notN
def notStar : Expr → Bool
  | .Starred _ _ => false
  | _ => true
theorem star_cons {e : Expr} (h : notStar e = true) (es : List Expr) (env : PySem.Env) : starEach (e :: es) env = (false, eval e env) :: starEach es env := by
  cases e <;> first | rfl | cases h
theorem star_plain : ∀ {es : List Expr} (env : PySem.Env) (pos : Pos), es.all notStar = true → (backTo pos (starEach es env)).any (·.1) = false
  | [], _, _, _ => rfl
  | e :: es, env, pos, h => by
    rw [List.all_cons, Bool.and_eq_true] at h
    rw [star_cons h.1]
    exact star_plain env pos h.2
/-- what is no test of its own -/
def plainE : Expr → Bool
  | .UnaryOp .Not _ _ => false
  | .BoolOp _ _ _ => false
  | .IfExp _ _ _ _ => false
  | .Compare _ _ _ _ => false
  | _ => true
theorem plain_ok {X : Cx} {e : Expr} (h : plainE e = true) : plainTest X e := by
  intro whole
  cases e with
  | UnaryOp op _ _ => cases op <;> first | rfl | cases h
  | BoolOp _ _ _ => cases h
  | IfExp _ _ _ _ => cases h
  | Compare _ _ _ _ => cases h
  | _ => rfl
/-- what is no set display behind in -/
def noSet : Expr → Bool
  | .Set _ _ _ => false
  | _ => true
theorem noSet_ok {op : CmpOp} {e : Expr} (h : noSet e = true) : behindInMarks op e = false := by
  cases e <;> first | rfl | cases h
theorem noSet_hs {e : Expr} {X : Cx} (h : noSet e = true) : ∀ x, foldedSetIterable e X.env x = pure x := by
  intro x
  cases e <;> first | rfl | cases h
def plainIx : Expr → Bool
  | .Slice _ _ _ _ => false
  | _ => true
theorem plainIx_ok {e : Expr} (h : plainIx e = true) : PlainIx e := by
  intro o i
  cases e <;> first | rfl | cases h
def isComp : Expr → Bool
  | .ListComp _ _ _ _ => true
  | .SetComp _ _ _ _ => true
  | .DictComp _ _ _ _ _ => true
  | _ => false
theorem swaps_plain {e : Expr} {t : Option Expr} {l : Nat} {env : PySem.Env} (h : isComp e = false) : swapsWith e t l env = pure false := by
  cases e <;> first | rfl | cases h
def allBI : List BI := [.len, .abs, .int, .bool, .str, .max, .min, .sum, .sorted, .all, .any, .list, .tuple]
def biOf (x : Str) : Option BI := allBI.find? fun b => decide (x = Str.ofString (nameBI b))
def tnOf (x : Str) : Option TN := [TN.int, .bool, .str, .list, .tuple].find? fun b => decide (x = Str.ofString (nameTN b))
theorem bi_boot : ∀ b : BI, bootBuiltins (Str.ofString (nameBI b)) = some (valBI b) := by
  intro b
  cases b <;> decide +kernel
theorem bi_of {x : Str} {b : BI} (h : biOf x = some b) : x = Str.ofString (nameBI b) := by
  simpa using List.find?_some h
theorem tn_of {x : Str} {t : TN} (h : tnOf x = some t) : x = Str.ofString (nameTN t) := by
  simpa using List.find?_some h
theorem tn_boot : ∀ t : TN, bootBuiltins (Str.ofString (nameTN t)) = some (.type (nameTN t)) := by
  intro t
  cases t <;> decide +kernel
def mmOf (x : Str) : Option MM := [MM.append, .extend, .pop].find? fun b => decide (x = Str.ofString (nameMM b))
theorem mm_ofS {x : Str} {m : MM} (h : mmOf x = some m) : x = Str.ofString (nameMM m) := by
  simpa using List.find?_some h
theorem bi_ne {b : BI} : Str.ofString (nameBI b) ≠ ("__name__" : Str) ∧ (Str.ofString (nameBI b) == ("__debug__" : Str)) = false := by
  cases b <;> decide
theorem tn_ne {t : TN} : Str.ofString (nameTN t) ≠ ("__name__" : Str) ∧ (Str.ofString (nameTN t) == ("__debug__" : Str)) = false := by
  cases t <;> decide
end Dl

namespace Dl
open L2 PySem PyProof.Rows PySem.Spec

theorem bnd {α β : Type} {o : Option α} {f : α → Option β} {r : β} (h : o.bind f = some r) : ∃ a, o = some a ∧ f a = some r := Option.bind_eq_some_iff.mp h
theorem mpd {α β : Type} {o : Option α} {f : α → β} {r : β} (h : o.map f = some r) : ∃ a, o = some a ∧ f a = r := Option.map_eq_some_iff.mp h
def gd {α : Type} (b : Bool) (o : Option α) : Option α := if b = true then o else none
theorem gd_of {α : Type} {b : Bool} {o : Option α} {r : α} (h : gd b o = some r) : b = true ∧ o = some r := by
  unfold gd at h
  split at h
  · exact ⟨by assumption, h⟩
  · cases h
structure Cp where
  e : Ctx → Expr → Option AE
  t : Ctx → Expr → Option AE
structure CpOk (p : Cp) : Prop where
  e : ∀ {X : Cx} {c : Ctx} {T : Nat → FT} {x : Expr} {r : AE}, CtxOk X c T → p.e c x = some r → PD X x (wpE T r)
  t : ∀ {X : Cx} {c : Ctx} {T : Nat → FT} {x : Expr} {r : AE}, CtxOk X c T → p.t c x = some r → PDT X x (wpT T r)
def isGl (c : Ctx) (x : Str) : Bool := match c.sc.names.lookup x with
  | some .globalImplicit => true
  | _ => false
section
variable {X : Cx} {c : Ctx} {T : Nat → FT} {p : Cp} {x : Str} {e a b i : Expr} {es : List Expr} {pos : Pos} {r : AE} {scope : Scope}
theorem isGl_ok (h : CtxOk X c T) (e : isGl c x = true) : Gl X x := by
  show X.env.scope.names.lookup x = some .globalImplicit
  rw [h.sc]
  unfold isGl at e
  split at e
  · assumption
  · cases e
theorem dbg {x : Str} (h : (!(x == ("__debug__" : Str))) = true) : (x == ("__debug__" : Str)) = false := by
  simpa using h
/-! ### names -/
def cName (c : Ctx) (x : Str) : Option AE := match slotOf c x with
  | some i => some (.var i)
  | none => gd (isGl c x && !(x == ("__debug__" : Str))) (match c.gl x with
    | some (.cst d) => some (.c d)
    | some (.kt xs) => some (.kt xs)
    | _ => none)
theorem pd_kt {a : Addr} {vs : List V} {xs : List PyData} (h : PE X e (tC (.ref a))) (h1 : SqT X.K (fun _ => none) a vs) (h2 : DqAll X.K (fun _ => none) vs xs) : PD X e (fun _ B k => k (.kt xs) B) := ⟨PE.imp h fun σ H Q w => by
  obtain ⟨θ, A, B, G, k, S, hf, q⟩ := w
  exact q θ B G H _ _ Gr.refl S (.kt h1 h2) hf⟩
theorem cName_ok (hc : CtxOk X c T) (h : cName c x = some r) : PD X (.Name x pos) (wpE T r) := by
  unfold cName at h
  split at h
  · rename_i i hs
    cases h
    unfold slotOf at hs
    split at hs
    · rename_i hv
      rw [Bool.and_eq_true, Bool.not_eq_true'] at hv
      obtain ⟨s1, s2, s3⟩ := spec_ok hv.2
      exact pd_var (pe_var (by rw [hc.hN]; exact find_ok hs) (by rw [hc.sc]; exact vis_ok hv.1) s1 s2)
    · cases hs
  · obtain ⟨g1, h⟩ := gd_of h
    rw [Bool.and_eq_true] at g1
    split at h
    · rename_i d hd
      cases h
      obtain ⟨v, u, h1, h2, h3⟩ := hc.cst x d hd
      exact pd_c (pe_glob (isGl_ok hc g1.1) h1 h2 (dbg g1.2)) h3
    · rename_i xs hd
      cases h
      obtain ⟨a, vs, h1, h2, h3⟩ := hc.kts x xs hd
      exact pd_kt (pe_glob (isGl_ok hc g1.1) h1 (show RelV (.ref a) (.ref a) from rfl) (dbg g1.2)) h2 h3
    · cases h
def cConst : Const → Option PyData
  | .none => some .none
  | .bool b => some (.bool b)
  | .int i => some (.int i)
  | .str s => some (.str s)
  | _ => none
theorem cConst_ok {k : Const} {j : Nat} {d : PyData} (h : cConst k = some d) : PD X (.Constant k j pos) (fC d) := by
  cases k <;> cases h
  · exact pd_c pe_non .non
  · exact pd_c pe_bl (.bl _)
  · exact pd_c pe_int (.int _)
  · exact pd_c pe_str (.str _)
/-! ### operations -/
def cBin (p : Cp) (c : Ctx) (a : Expr) (op : Operator) (b : Expr) : Option AE := (binO op).bind fun o => (p.e c a).bind fun x => (p.e c b).bind fun y => some (.op2 o x y)
theorem cBin_ok {op : Operator} (hp : CpOk p) (hc : CtxOk X c T) (h : cBin p c a op b = some r) : PD X (.BinOp a op b pos) (wpE T r) := by
  obtain ⟨o, ho, h⟩ := bnd h
  obtain ⟨x, hx, h⟩ := bnd h
  obtain ⟨y, hy, h⟩ := bnd h
  cases h
  exact pd_op (hp.e hc hx) (hp.e hc hy) (rd2_all o) fun ta tb ha hb => pe_op (binO_ok ho) ha hb
def cUn (p : Cp) (c : Ctx) (op : UnaryOp) (a : Expr) : Option AE := match op with
  | .Not => (p.e c a).map .not
  | .USub => (p.e c a).map .neg
  | _ => none
theorem cUn_ok {op : UnaryOp} (hp : CpOk p) (hc : CtxOk X c T) (h : cUn p c op a = some r) : PD X (.UnaryOp op a pos) (wpE T r) := by
  unfold cUn at h
  split at h
  · obtain ⟨x, hx, rfl⟩ := mpd h
    exact pd_not (hp.e hc hx)
  · obtain ⟨x, hx, rfl⟩ := mpd h
    exact pd_un (hp.e hc hx) rd_neg fun ta ha => pe_un un_neg ha
  · cases h
def cBoolV (p : Cp) (c : Ctx) (op : BoolOp) : List Expr → Option AE
  | [] => none
  | [a] => p.e c a
  | a :: b :: es => (p.e c a).bind fun x => (cBoolV p c op (b :: es)).bind fun y => some (match op with
    | .And => .and x y
    | .Or => .or x y)
theorem cBoolV_ok (hp : CpOk p) (hc : CtxOk X c T) {op : BoolOp} : ∀ {es : List Expr} {r : AE}, cBoolV p c op es = some r → PD X (.BoolOp op es pos) (wpE T r)
  | [], _, h => by cases h
  | [a], _, h => pd_one (hp.e hc h)
  | a :: b :: es, _, h => by
    obtain ⟨x, hx, h⟩ := bnd h
    obtain ⟨y, hy, h⟩ := bnd h
    cases h
    cases op with
    | And => exact pd_and (hp.e hc hx) (cBoolV_ok hp hc hy)
    | Or => exact pd_or (hp.e hc hx) (cBoolV_ok hp hc hy)
theorem cmpO_is {op : CmpOp} {o : O2} (h : cmpO op = some o) : isCmp o = true := by
  cases op <;> cases h <;> rfl
def emptyD : Expr → Bool
  | .Dict [] [] _ => true
  | _ => false
theorem emptyD_ok (h : emptyD b = true) : PE X b tDNewK := by
  unfold emptyD at h
  split at h
  · exact pe_dnewK
  · cases h
def isV : AE → Option Nat
  | .var i => some i
  | _ => none
theorem isV_ok {i : Nat} (h : isV r = some i) : r = .var i := by
  cases r <;> cases h
  rfl
def rNe0 : R2 := fun x y H Q => ∃ a b ks, x = .ref a ∧ y = .ref b ∧ H a = some (.dK ks) ∧ H b = some (.dK []) ∧ Q (.bl (!ks.isEmpty)) H
theorem op_ne0 (hu : X.A.units < cLine) : OpR X (compareOp .NotEq) rNe0 := by
  intro pins s σ H x y v u Q I rx ry h
  obtain ⟨a, b, ks, rfl, rfl, ea, eb, q⟩ := h
  obtain rfl : v = Value.ref a := rx
  obtain rfl : u = Value.ref b := ry
  obtain ⟨_, ya, va, ra, da⟩ := (show ObjOk X.prog X.w H s.heap a (.dK ks) from I.hok a _ ea)
  obtain ⟨_, yb, vb, rb, db⟩ := (show ObjOk X.prog X.w H s.heap b (.dK []) from I.hok b _ eb)
  have hl : ks.length = va.length := ra.length
  have hb : vb = [] := List.length_eq_zero_iff.mp rb.length.symm
  subst hb
  refine PySem.W.keq_ne (knd := mixKind X.prog X.w) (r := true) ya yb da db hu (fun z => ?_) (fin_bl I q ?_)
  · have : va = [] := List.length_eq_zero_iff.mp z
    subst this
    exact .nil
  · cases ks with
    | nil =>
      have : va = [] := List.length_eq_zero_iff.mp hl.symm
      subst this
      rfl
    | cons z zs =>
      cases va with
      | nil => simp at hl
      | cons _ _ => simp
theorem tf_dne0 {i : Nat} {σ : L2.St} {H : Hp} {Q : VK} (w : tf X.K (fDne0 i) σ H Q) : tOp rNe0 (tf X.K (fVar i)) tDNewK σ H Q := by
  obtain ⟨θ, A, B, G, k, S, ⟨j, kvs, h1, h2, h3⟩, q⟩ := w
  refine ⟨θ, A, B, G, fun w B' => w = .m j ∧ B' = B, S, ?_, fun θ1 B1 G1 H1 v x g1 S1 hv k1 => ?_⟩
  · unfold fVar
    rw [h1]
    exact ⟨rfl, rfl⟩
  · obtain ⟨rfl, rfl⟩ := k1
    cases hv with
    | @m _ a as hk =>
      obtain ⟨c, hb, hcell⟩ := S1.mem.cells.get hk
      rw [h2] at hb
      cases hb
      cases hcell with
      | @dK _ vs _ e kv =>
        intro p hp
        have s := Stp.junk (G := G1) (o := .dK []) S1.mem.ex hp
        have e2 : vs.isEmpty = kvs.isEmpty := kv_empty kv
        refine ⟨a, p, vs, rfl, rfl, s.hx _ _ e, upd_same, q θ1 _ G1 _ _ _ (g1.trans s.gr) (s.st S1) (.d ?_) h3⟩
        rw [e2]
        exact .bl _
theorem pd_dne0 {op : CmpOp} {i : Nat} (ho : cmpO op = some .ne) (hc : CtxOk X c T) (ha : PD X a (fVar i)) (hb : emptyD b = true) (hm : noSet b = true) : PD X (.Compare a [op] [b] pos) (fDne0 i) := by
  have : op = .NotEq := by cases op <;> cases ho; rfl
  subst this
  exact ⟨PE.imp (pe_cmpR (op_ne0 (by have := hc.un; omega)) ha.pe (emptyD_ok hb) (noSet_ok hm)) fun σ H Q w => tf_dne0 w⟩
theorem pdt_dne0 {op : CmpOp} {i : Nat} (ho : cmpO op = some .ne) (hc : CtxOk X c T) (ha : PD X a (fVar i)) (hb : emptyD b = true) (hm : noSet b = true) : PDT X (.Compare a [op] [b] pos) (fBool (fDne0 i)) := by
  have : op = .NotEq := by cases op <;> cases ho; rfl
  subst this
  refine ⟨PT.imp (pt_cmpR (op_ne0 (by have := hc.un; omega)) ha.pe (emptyD_ok hb) (noSet_ok hm)) fun σ H Q w => ?_⟩
  obtain ⟨θ, A, B, G, k, S, h, q⟩ := w
  refine tf_dne0 (Q := fun x H' => ∃ k, x = .bl k ∧ Q k H') ⟨θ, A, B, G, _, S, h, fun θ1 B1 G1 H1 v x g1 S1 hv k1 => ?_⟩
  obtain ⟨b, rfl, rfl, k1⟩ := boolK_of hv k1
  exact ⟨b, rfl, q θ1 B1 G1 H1 b g1 S1 k1⟩
def cCmp1 (p : Cp) (c : Ctx) (a : Expr) (op : CmpOp) (b : Expr) : Option AE := gd (noSet b) ((cmpO op).bind fun o => (p.e c a).bind fun x => match decide (o = .ne) && emptyD b, isV x with
  | true, some i => some (.dne0 i)
  | _, _ => (p.e c b).bind fun y => some (.op2 o x y))
def cCmp2 (p : Cp) (c : Ctx) (a : Expr) (op op' : CmpOp) (b d : Expr) : Option AE := gd (noSet d) ((cmpO op).bind fun o => (cmpO op').bind fun o' => (p.e c a).bind fun x => (p.e c b).bind fun y => (p.e c d).bind fun z => some (.chain o o' x y z))
def cCmp (p : Cp) (c : Ctx) (a : Expr) : List CmpOp → List Expr → Option AE
  | [op], [b] => cCmp1 p c a op b
  | [op, op'], [b, d] => cCmp2 p c a op op' b d
  | _, _ => none
theorem cCmp_ok {ops : List CmpOp} (hp : CpOk p) (hc : CtxOk X c T) (h : cCmp p c a ops es = some r) : PD X (.Compare a ops es pos) (wpE T r) ∧ PDT X (.Compare a ops es pos) (wpT T r) := by
  unfold cCmp at h
  split at h
  · rename_i op b
    obtain ⟨n1, h⟩ := gd_of h
    obtain ⟨o, ho, h⟩ := bnd h
    obtain ⟨x, hx, h⟩ := bnd h
    split at h
    · rename_i i e1 e2
      cases h
      rw [Bool.and_eq_true, decide_eq_true_eq] at e1
      obtain ⟨rfl, e1⟩ := e1
      have := isV_ok e2
      subst this
      exact ⟨pd_dne0 ho hc (hp.e hc hx) e1 n1, pdt_dne0 ho hc (hp.e hc hx) e1 n1⟩
    · obtain ⟨y, hy, h⟩ := bnd h
      cases h
      refine ⟨pd_op (hp.e hc hx) (hp.e hc hy) (rd2_all o) fun ta tb ha hb => pe_cmpR (cmpO_ok hc.un ho) ha hb (noSet_ok n1), ?_⟩
      show PDT X _ (if isCmp o then _ else _)
      rw [if_pos (cmpO_is ho)]
      exact pdt_op (hp.e hc hx) (hp.e hc hy) (rd2_all o) fun ta tb ha hb => pt_cmpR (cmpO_ok hc.un ho) ha hb (noSet_ok n1)
  · rename_i op op' b d
    obtain ⟨n1, h⟩ := gd_of h
    obtain ⟨o, ho, h⟩ := bnd h
    obtain ⟨o', ho', h⟩ := bnd h
    obtain ⟨x, hx, h⟩ := bnd h
    obtain ⟨y, hy, h⟩ := bnd h
    obtain ⟨z, hz, h⟩ := bnd h
    cases h
    have lm : lastMarks [op, op'] [b, d] = false := noSet_ok n1
    exact ⟨pd_chain (hp.e hc hx) (hp.e hc hy) (hp.e hc hz) (rd2_all o) (rd2_all o') fun ta tb tc ha hb hcc => pe_chain (cmpO_ok hc.un ho) (cmpO_ok hc.un ho') ha hb hcc lm,
      pdt_chain (hp.e hc hx) (hp.e hc hy) (hp.e hc hz) (rd2_all o) (rd2_all o') fun ta tb tc ha hb hcc => pt_chain (cmpO_ok hc.un ho) (cmpO_ok hc.un ho') ha hb hcc lm⟩
  · cases h
def cIf (p : Cp) (c : Ctx) (t a b : Expr) : Option AE := (p.t c t).bind fun x => (p.e c a).bind fun y => (p.e c b).bind fun z => some (.ife x y z)
theorem cIf_ok {t : Expr} (hp : CpOk p) (hc : CtxOk X c T) (h : cIf p c t a b = some r) : PD X (.IfExp t a b pos) (wpE T r) := by
  obtain ⟨x, hx, h⟩ := bnd h
  obtain ⟨y, hy, h⟩ := bnd h
  obtain ⟨z, hz, h⟩ := bnd h
  cases h
  exact pd_ifExp (hp.t hc hx) (hp.e hc hy) (hp.e hc hz)
/-! ### lists of expressions -/
def cEs (p : Cp) (c : Ctx) : List Expr → Option AEs
  | [] => some .nil
  | e :: es => gd (notStar e) ((p.e c e).bind fun a => (cEs p c es).bind fun as => some (.cons a as))
theorem cEs_ok (hp : CpOk p) (hc : CtxOk X c T) : ∀ {es : List Expr} {r : AEs}, cEs p c es = some r → PDA X es (wpEs T r) ∧ es.all notStar = true
  | [], _, h => by cases h; exact ⟨pda_nil, rfl⟩
  | e :: es, _, h => by
    obtain ⟨n1, h⟩ := gd_of h
    obtain ⟨x, hx, h⟩ := bnd h
    obtain ⟨y, hy, h⟩ := bnd h
    cases h
    obtain ⟨q1, q2⟩ := cEs_ok hp hc hy
    exact ⟨pda_cons (hp.e hc hx) q1 (star_cons n1 es X.env), by rw [List.all_cons, n1, q2]; rfl⟩
/-! ### parts -/
def poOk : AE → Bool
  | .var _ => true
  | .c _ => true
  | .op2 _ _ _ => true
  | .neg _ => true
  | .call _ _ => true
  | .bi _ _ => true
  | _ => false
theorem poOk_ok (h : poOk r = true) : wpO T r = fPart (wpE T r) := by
  cases r <;> first | rfl | cases h
def cO (p : Cp) (c : Ctx) : Option Expr → Option AE
  | none => some .omit
  | some e => (p.e c e).bind fun r => gd (poOk r) (some r)
theorem cO_ok (hp : CpOk p) (hc : CtxOk X c T) {o : Option Expr} (h : cO p c o = some r) : PDO X o (wpO T r) := by
  cases o with
  | none => cases h; exact pdo_none
  | some e =>
    obtain ⟨x, hx, h⟩ := bnd h
    obtain ⟨g1, h⟩ := gd_of h
    cases h
    rw [poOk_ok g1]
    exact pdo_some (hp.e hc hx)
def cSub (p : Cp) (c : Ctx) (a i : Expr) : Option AE := match i with
  | .Slice lo hi none _ => (p.e c a).bind fun x => (cO p c lo).bind fun y => (cO p c hi).bind fun z => some (.sl x y z)
  | i => gd (plainIx i) ((p.e c a).bind fun x => (p.e c i).bind fun y => some (.op2 .ix x y))
theorem cSub_ok (hp : CpOk p) (hc : CtxOk X c T) (h : cSub p c a i = some r) : PD X (.Subscript a i pos) (wpE T r) := by
  unfold cSub at h
  split at h
  · obtain ⟨x, hx, h⟩ := bnd h
    obtain ⟨y, hy, h⟩ := bnd h
    obtain ⟨z, hz, h⟩ := bnd h
    cases h
    exact pd_slice (hp.e hc hx) (cO_ok hp hc hy) (cO_ok hp hc hz)
  · obtain ⟨g1, h⟩ := gd_of h
    obtain ⟨x, hx, h⟩ := bnd h
    obtain ⟨y, hy, h⟩ := bnd h
    cases h
    exact pd_op (hp.e hc hx) (hp.e hc hy) rd_ix fun ta tb ha hb => pe_ix (ix_any (by have := hc.un; omega)) ha hb (plainIx_ok g1)
def cDict : List (Option Expr) → List Expr → Option AE
  | [], [] => some .dnew
  | _, _ => none
theorem cDict_ok {ks : List (Option Expr)} (h : cDict ks es = some r) : PD X (.Dict ks es pos) (wpE T r) := by
  unfold cDict at h
  split at h
  · cases h
    exact pd_dnew pe_dnewK pe_dnewT
  · cases h
end
end Dl

namespace Dl
open L2 PySem PyProof.Rows PySem.Spec

section
variable {X : Cx} {K : PySem.W.Frag} {θ : Th} {A : Env} {B : Mem} {σ : L2.St} {G H : Hp} {CX : CXT} {k : Nat} {f : Addr} {fd : FuncData} {ps ks : List Str} {sp : Sp} {x nm : Str} {p pos kpos : Pos} {e o : Expr} {es : List Expr} {kws : List Keyword} {te : TE} {t tk : TA} {g : List Value → List Value → List Value} {gV : List V → List V → List V}
/-! ### calls by keywords alone -/
def kwSome (k : Keyword) : Bool := k.arg.isSome
theorem kw_some : ∀ {kws : List Keyword} (pos : Pos) (env : PySem.Env), kws.all kwSome = true → (backToKw pos (keywordEach kws env)).all (·.1.isSome) = true ∧ (backToKw pos (keywordEach kws env)).any (·.1.isNone) = false
  | [], _, _, _ => ⟨rfl, rfl⟩
  | ⟨n, v, q⟩ :: kws, pos, env, h => by
    rw [List.all_cons, Bool.and_eq_true] at h
    obtain ⟨h1, h2⟩ := kw_some (kws := kws) pos env h.2
    have h3 : n.isSome = true := h.1
    have h4 : n.isNone = false := by cases n <;> first | rfl | cases h3
    refine ⟨?_, ?_⟩
    · show (n.isSome && (backToKw pos (keywordEach kws env)).all (·.1.isSome)) = true
      rw [h3, h1]; rfl
    · show (n.isNone || (backToKw pos (keywordEach kws env)).any (·.1.isNone)) = false
      rw [h4, h2]; rfl
theorem kw_names : ∀ (kws : List Keyword) (pos : Pos) (env : PySem.Env), (backToKw pos (keywordEach kws env)).filterMap (·.1) = kws.filterMap (·.arg)
  | [], _, _ => rfl
  | ⟨n, v, q⟩ :: kws, pos, env => by
    show List.filterMap _ ((n, _) :: backToKw pos (keywordEach kws env)) = _
    cases n with
    | none =>
      rw [List.filterMap_cons_none rfl, List.filterMap_cons_none rfl]
      exact kw_names kws pos env
    | some n =>
      exact congrArg (n :: ·) (kw_names kws pos env)
theorem pe_callKx {E : XK} (F : FnOk X.prog X.w X.K X.mg X.base CX k f fd ps sp) (hr : Room k X.A) (hg : Gl X x) (hm : X.mg x = some (.ref f)) (hk : PySem.W.keepIn X.K (.ref f) = true) (hb : KBinds X.K fd ps ks g gV) (hx : Passes CX X E)
    (hkw : PK X kws tk) (hall : kws.all kwSome = true) (hks : kws.filterMap (·.arg) = ks) (hdb : (x == ("__debug__" : Str)) = false) : PE X (.Call (.Name x p) [] kws pos) (tCallK sp gV E tNil tk) := by
  refine ⟨fun pins s σ H Q I h => ?_⟩
  obtain ⟨a1, a2⟩ := kw_some pos X.env hall
  refine wpAny_Call_Name_kw (ld_glob I hg hm ?_ hdb)
  refine PySem.W.callWith_KW0 (h₀ := X.base) I.ok.mod.kin hk a1 ?_ (by rw [a2]; rfl)
  have h' : tk σ H fun zs H2 => sp (gV [] zs) H2 Q E := h
  refine thn (hkw.run pos pins s σ H _ I h') fun ws s2 ⟨zs, H2, I2, rz, q2⟩ => ⟨I2.kIn, ?_⟩
  rw [kw_names kws pos X.env, hks]
  exact run_fnk F hr hb hx I2 .nil rz q2
structure PDK (X : Cx) (kws : List Keyword) (f : FA) : Prop where
  pk : PK X kws (tfA X.K f)
theorem PK.imp {t t' : TA} (h : PK X kws t) (i : ∀ σ H Q, t' σ H Q → t σ H Q) : PK X kws t' := ⟨fun pos pins s σ H Q I w => h.run pos pins s σ H Q I (i σ H Q w)⟩
theorem pdk_nil : PDK X [] fNil := ⟨PK.imp pk_nil fun σ H Q w => by
  obtain ⟨θ, A, B, G, k, S, hf, q⟩ := w
  exact q θ B G H [] [] Gr.refl S .nil hf⟩
theorem pdk_cons {n : Option Str} {fa : FE} {fs : FA} (ha : PD X e fa) (hs : PDK X kws fs) : PDK X (⟨n, e, kpos⟩ :: kws) (fCons fa fs) := ⟨PK.imp (pk_cons ha.pe hs.pk) fun σ H Q w => by
  obtain ⟨θ, A, B, G, k, S, hf, q⟩ := w
  refine ⟨θ, A, B, G, _, S, hf, fun θ1 B1 G1 H1 v x g1 S1 hv k1 => ?_⟩
  refine ⟨θ1, A, B1, G1, _, S1, k1, fun θ2 B2 G2 H2 us ys g2 S2 hu k2 => ?_⟩
  exact q θ2 B2 G2 H2 _ _ (g1.trans g2) S2 (.cons (hv.gr g2) hu) k2⟩
theorem pd_callF0 {F : FT} (h : PE X e (tCall (spOf X.K F) [] E0 tNil)) : PD X e (fCall F fNil) := ⟨PE.imp h fun σ H Q w => by
  obtain ⟨θ, A, B, G, k, S, hf, q⟩ := w
  show spOf X.K F ([] ++ []) H Q E0
  exact call_of (ws := []) S .nil hf fun θ2 B2 G2 H2 z w g2 S2 hz k2 => q θ2 B2 G2 H2 z w g2 S2 hz k2⟩
theorem avs_get : ∀ {vs : List V} {ws : List AV} (i : Nat), AVs K G θ vs ws → AVok K G θ (vs.getD i .non) (ws.getD i (.d .none))
  | _, _, _, .nil => .d .non
  | _, _, 0, .cons h _ => h
  | _, _, i + 1, .cons _ t => by simpa using avs_get i t
theorem avs_pick {vs : List V} {ws : List AV} (h : AVs K G θ vs ws) : ∀ ix : List Nat, AVs K G θ (ix.map fun i => vs.getD i .non) (pick ix ws)
  | [] => .nil
  | i :: ix => .cons (avs_get i h) (avs_pick h ix)
theorem pd_callK {F : FT} {fs : FA} (hl : ks.length = ps.length) (hs : PDK X kws fs) (h : ∀ tk, PK X kws tk → PE X e (tCallK (spOf X.K F) (kgV ps ks) E0 tNil tk)) : PD X e (fCallK F (kidx ps ks) fs) := ⟨PE.imp (h _ hs.pk) fun σ H Q w => by
  obtain ⟨θ, A, B, G, k, S, hf, q⟩ := w
  show tfA X.K fs σ H fun zs H2 => spOf X.K F (kgV ps ks [] zs) H2 Q E0
  refine ⟨θ, A, B, G, _, S, hf, fun θ1 B1 G1 H1 vs ws g1 S1 hv k1 => ?_⟩
  have e : vs.length = ks.length := by
    rw [paired_len hv, k1.1, hl]
    simp [kidx]
  show spOf X.K F (kgV ps ks [] vs) H1 Q E0
  unfold kgV
  rw [if_pos e]
  exact call_of S1 (avs_pick hv (kidx ps ks)) k1.2 fun θ2 B2 G2 H2 z w g2 S2 hz k2 => q θ2 B2 G2 H2 z w (g1.trans g2) S2 hz k2⟩
end
section
variable {X : Cx} {c : Ctx} {T : Nat → FT} {p : Cp} {x : Str} {e a b i : Expr} {es : List Expr} {kws : List Keyword} {q pos : Pos} {r : AE} {scope : Scope}
def cKs (p : Cp) (c : Ctx) : List Keyword → Option AEs
  | [] => some .nil
  | k :: kws => (p.e c k.value).bind fun a => (cKs p c kws).bind fun as => some (.cons a as)
theorem cKs_ok (hp : CpOk p) (hc : CtxOk X c T) : ∀ {kws : List Keyword} {r : AEs}, cKs p c kws = some r → PDK X kws (wpEs T r)
  | [], _, h => by cases h; exact pdk_nil
  | ⟨n, e, kp⟩ :: kws, _, h => by
    obtain ⟨x, hx, h⟩ := bnd h
    obtain ⟨y, hy, h⟩ := bnd h
    cases h
    exact pdk_cons (hp.e hc hx) (cKs_ok hp hc hy)
/-- the call of a def of the text -/
def cFn (p : Cp) (c : Ctx) (j : Nat) (ps : List Str) (pats : List (List Str)) (es : List Expr) (kws : List Keyword) : Option AE := match kws with
  | [] => (cEs p c es).map (.call j)
  | kws => gd (es.isEmpty && kws.all kwSome && decide (kws.filterMap (·.arg) ∈ pats) && decide ((kws.filterMap (·.arg)).length = ps.length)) ((cKs p c kws).map (.callK j (kidx ps (kws.filterMap (·.arg)))))
theorem cFn_ok {j : Nat} {ps : List Str} {pats : List (List Str)} (hp : CpOk p) (hc : CtxOk X c T) (hg : Gl X x) (hd : (x == ("__debug__" : Str)) = false) (hf : c.gl x = some (.fn j ps pats)) (h : cFn p c j ps pats es kws = some r) : PD X (.Call (.Name x q) es kws pos) (wpE T r) := by
  obtain ⟨f, fd, k, a1, a2, a3, a4, a5, a6⟩ := (hc.fns x j ps pats hf).ex
  unfold cFn at h
  split at h
  · obtain ⟨as, h1, rfl⟩ := mpd h
    obtain ⟨q1, q2⟩ := cEs_ok hp hc h1
    cases es with
    | nil =>
      cases h1
      exact pd_callF0 (pe_call0 (dvs := []) a1 a2 hg a3 a4 a5 .nil pass0 hd)
    | cons e es =>
      rw [List.all_cons, Bool.and_eq_true] at q2
      exact pd_callF q1 fun ta ht => pe_call (dvs := []) a1 a2 hg a3 a4 a5 .nil pass0 ht hd (star_cons q2.1 es X.env) (star_plain X.env pos q2.2)
  · obtain ⟨g1, h⟩ := gd_of h
    obtain ⟨as, h1, rfl⟩ := mpd h
    simp only [Bool.and_eq_true, decide_eq_true_eq, List.isEmpty_iff] at g1
    obtain ⟨⟨⟨rfl, g2⟩, g3⟩, g4⟩ := g1
    exact pd_callK g4 (cKs_ok hp hc h1) fun tk ht => pe_callKx a1 a2 hg a3 a4 (a6 _ g3) pass0 ht g2 rfl hd
end
end Dl

namespace Dl
open L2 PySem PyProof.Rows PySem.Spec
section
variable {X : Cx} {c : Ctx} {T : Nat → FT} {p : Cp} {x : Str} {e a b i o : Expr} {es : List Expr} {kws : List Keyword} {q pos apos : Pos} {r : AE} {scope : Scope}
/-! ### built-ins -/
def cBi (p : Cp) (c : Ctx) (b : BI) (es : List Expr) : Option AE := gd (!es.isEmpty) ((cEs p c es).map (.bi b))
def isTy : BI → Option String
  | .int => some "int" | .bool => some "bool" | .str => some "str" | .list => some "list" | .tuple => some "tuple"
  | _ => none
theorem cBi_ok {b : BI} (hp : CpOk p) (hc : CtxOk X c T) (hg : Gl X x) (hf : c.gl x = some .blt) (hb : biOf x = some b) (h : cBi p c b es = some r) : PD X (.Call (.Name x q) es [] pos) (wpE T r) := by
  obtain ⟨g1, h⟩ := gd_of h
  obtain ⟨as, h1, rfl⟩ := mpd h
  obtain ⟨q1, q2⟩ := cEs_ok hp hc h1
  have hx := bi_of hb
  have hm := hc.blt x hf
  subst hx
  cases es with
  | nil => cases g1
  | cons e es =>
    rw [List.all_cons, Bool.and_eq_true] at q2
    have cr := cr_BI (X := X) hc.calm (by have := hc.un; omega) b
    refine pd_call q1 rdl_bi fun ta ht => ?_
    have s1 := star_cons q2.1 es X.env
    have s2 := star_plain X.env pos q2.2
    have bb := bi_boot b
    obtain ⟨n1, n2⟩ := bi_ne (b := b)
    cases b <;> first | exact pe_callB cr hg hm bb ht n1 n2 s1 s2 | exact pe_callTy cr hg hm bb ht n1 n2 s1 s2
/-- names of types -/
def cTn (c : Ctx) : Expr → Option TN
  | .Name x _ => gd (isGl c x && (match c.gl x with | some .blt => true | _ => false)) (tnOf x)
  | _ => none
theorem cTn_ok {t : TN} (hc : CtxOk X c T) (h : cTn c e = some t) : PE X e (tC (.ty (nameTN t))) ∧ notStar e = true := by
  unfold cTn at h
  split at h
  · rename_i x pos
    obtain ⟨g1, h⟩ := gd_of h
    rw [Bool.and_eq_true] at g1
    have hm : X.mg x = none := by
      have g2 := g1.2
      split at g2
      · rename_i hb; exact hc.blt x hb
      · cases g2
    have hg := isGl_ok hc g1.1
    have hx := tn_of h
    subst hx
    obtain ⟨n1, n2⟩ := tn_ne (t := t)
    refine ⟨pe_bltn hg hm (tn_boot t) (show RelV (.ty (nameTN t)) (.type (nameTN t)) from rfl) n1 n2, rfl⟩
  · cases h
def cTns (c : Ctx) : List Expr → Option (List TN)
  | [] => some []
  | e :: es => (cTn c e).bind fun t => (cTns c es).bind fun ts => some (t :: ts)
theorem cTns_ok (hc : CtxOk X c T) : ∀ {es : List Expr} {ts : List TN}, cTns c es = some ts → PA X es (tTypes ts)
  | [], _, h => by cases h; exact pa_nil
  | e :: es, _, h => by
    obtain ⟨t, h1, h⟩ := bnd h
    obtain ⟨ts, h2, h⟩ := bnd h
    cases h
    obtain ⟨p1, p2⟩ := cTn_ok hc h1
    exact pa_cons p1 (cTns_ok hc h2) (star_cons p2 es X.env)
def cIsi (p : Cp) (c : Ctx) : List Expr → Option AE
  | [a, .Tuple es _ _] => gd (notStar a) ((p.e c a).bind fun x => (cTns c es).bind fun ts => gd (decide (ts.length ≤ 10)) (some (.isi ts x)))
  | [a, e] => gd (notStar a) ((p.e c a).bind fun x => (cTn c e).bind fun t => some (.isi [t] x))
  | _ => none
theorem isi_boot : bootBuiltins ("isinstance" : Str) = some (.builtin "isinstance") := by decide +kernel
theorem cIsi_ok (hp : CpOk p) (hc : CtxOk X c T) (hg : Gl X ("isinstance" : Str)) (hf : c.gl ("isinstance" : Str) = some .blt) (h : cIsi p c es = some r) : PD X (.Call (.Name ("isinstance" : Str) q) es [] pos) (wpE T r) := by
  have hm := hc.blt _ hf
  unfold cIsi at h
  split at h
  · obtain ⟨g1, h⟩ := gd_of h
    obtain ⟨x, hx, h⟩ := bnd h
    obtain ⟨ts, ht, h⟩ := bnd h
    obtain ⟨g2, h⟩ := gd_of h
    cases h
    exact pd_isiT (by simpa using g2) (hp.e hc hx) fun ta ha => pe_callB call_isiT hg hm isi_boot (pa_cons ha (pa_cons (pe_tup (cTns_ok hc ht)) pa_nil rfl) (star_cons g1 _ X.env)) (by decide) (by decide) (star_cons g1 _ X.env) rfl
  · obtain ⟨g1, h⟩ := gd_of h
    obtain ⟨x, hx, h⟩ := bnd h
    obtain ⟨t, ht, h⟩ := bnd h
    cases h
    obtain ⟨p1, p2⟩ := cTn_ok hc ht
    have s1 := star_cons p2 [] X.env
    exact pd_isi1 (hp.e hc hx) fun ta ha => pe_callB call_isi hg hm isi_boot (pa_cons ha (pa_cons p1 pa_nil s1) (star_cons g1 _ X.env)) (by decide) (by decide) (star_cons g1 _ X.env) (by rw [s1]; rfl)
  · cases h
/-! ### methods -/
def baseOk : Expr → Bool
  | .Call (.Name _ _) [] [] _ => false
  | _ => true
theorem baseOk_ok {m : Str} {env : PySem.Env} {w : Sem Value} (h : baseOk o = true) : attributeBase o m env w = w := by
  unfold attributeBase
  split
  · cases h
  · rfl
theorem all_plain : ∀ {es : List Expr} (env : PySem.Env) (pos : Pos), es.all notStar = true → (backTo pos (starEach es env)).all (fun x => !x.1) = true
  | [], _, _, _ => rfl
  | e :: es, env, pos, h => by
    rw [List.all_cons, Bool.and_eq_true] at h
    rw [star_cons h.1]
    exact all_plain env pos h.2
theorem few_ok (env : PySem.Env) (pos : Pos) (h : es.all notStar = true) (hl : es.length < 30) : ((backTo pos (starEach es env)).all (fun x => !x.1) && (backToKw pos (keywordEach [] env)).all (fun x => x.1.isSome)
    && decide (es.length + ([] : List Keyword).length + (if ([] : List Keyword).isEmpty then 0 else 1) < 30)) = true := by
  rw [all_plain env pos h]
  simpa [backToKw, keywordEach] using hl
theorem mm_slot (m : MM) : Slot "list" (Str.ofString (nameMM m)) ("list." ++ nameMM m) ∧ typeOf (.builtin ("list." ++ nameMM m)) = pure (.type "method_descriptor") ∧ MtR X ("list." ++ nameMM m) (rMM m) := by
  cases m
  · exact ⟨PySem.F.slot_list_append, PySem.F.type_list_append, mt_append⟩
  · exact ⟨PySem.F.slot_list_extend, PySem.F.type_list_extend, mt_extend⟩
  · exact ⟨PySem.F.slot_list_pop, PySem.F.type_list_pop, mt_popA⟩
def cMeth (p : Cp) (c : Ctx) (o : Expr) (m : Str) (apos : Pos) (es : List Expr) (pos : Pos) : Option AE := gd (baseOk o && apos.endLine == pos.line && decide (es.length < 30)) (match mmOf m with
  | some mm => (p.e c o).bind fun x => (cEs p c es).bind fun as => some (.mm mm x as)
  | none => if m = ("get" : Str) then (match es with
    | [a, b] => gd (notStar a && notStar b) ((p.e c o).bind fun x => (p.e c a).bind fun y => (p.e c b).bind fun z => some (.get2 x y z))
    | _ => none) else none)
theorem cMeth_ok {m : Str} (hp : CpOk p) (hc : CtxOk X c T) (h : cMeth p c o m apos es pos = some r) : PD X (.Call (.Attribute o m apos) es [] pos) (wpE T r) := by
  replace h := gd_of h
  obtain ⟨g1, h⟩ := h
  simp only [Bool.and_eq_true, decide_eq_true_eq] at g1
  obtain ⟨⟨g1, g2⟩, g3⟩ := g1
  split at h
  · rename_i mm hm
    obtain ⟨x, hx, h⟩ := bnd h
    obtain ⟨as, has, h⟩ := bnd h
    cases h
    obtain ⟨q1, q2⟩ := cEs_ok hp hc has
    have em := mm_ofS hm
    subst em
    obtain ⟨m1, m2, m3⟩ := mm_slot (X := X) mm
    cases es with
    | nil =>
      cases has
      exact pd_mm0 (hp.e hc hx) fun to ho => pe_bm0 PySem.F.plainAttrs_list m1 m2 m3 ho (baseOk_ok g1) g2
    | cons e es =>
      have q3 := q2
      rw [List.all_cons, Bool.and_eq_true] at q3
      exact pd_mm (hp.e hc hx) q1 fun to ta ho ht => pe_bm PySem.F.plainAttrs_list m1 m2 m3 ho ht (baseOk_ok g1) (few_ok X.env pos q2 g3) g2 (star_cons q3.1 es X.env) (star_plain X.env pos q3.2)
  · split at h
    · rename_i em
      subst em
      split at h
      · rename_i a b
        obtain ⟨g4, h⟩ := gd_of h
        rw [Bool.and_eq_true] at g4
        obtain ⟨x, hx, h⟩ := bnd h
        obtain ⟨y, hy, h⟩ := bnd h
        obtain ⟨z, hz, h⟩ := bnd h
        cases h
        have s1 := star_cons g4.1 [b] X.env
        have s2 := star_cons g4.2 [] X.env
        refine pd_get2 (hp.e hc hx) (hp.e hc hy) (hp.e hc hz) fun to ta tb ho ha hb => pe_dget2 (by have := hc.un; omega) ho ha hb ⟨baseOk_ok g1, few_ok X.env pos ?_ (by simp), g2, ?_⟩
        · simp [g4.1, g4.2]
        · rw [s1, s2]; rfl
      · cases h
    · cases h
/-! ### calls -/
def cCallN (p : Cp) (c : Ctx) (x : Str) (es : List Expr) (kws : List Keyword) : Option AE := match c.gl x with
  | some (.fn j ps pats) => cFn p c j ps pats es kws
  | some .blt => gd kws.isEmpty (if x = ("isinstance" : Str) then cIsi p c es else (biOf x).bind fun b => cBi p c b es)
  | _ => none
def cCall (p : Cp) (c : Ctx) (f : Expr) (es : List Expr) (kws : List Keyword) (pos : Pos) : Option AE := match f with
  | .Name x _ => gd (isGl c x && !(x == ("__debug__" : Str))) (cCallN p c x es kws)
  | .Attribute o m apos => gd kws.isEmpty (cMeth p c o m apos es pos)
  | _ => none
theorem cCall_ok {f : Expr} (hp : CpOk p) (hc : CtxOk X c T) (h : cCall p c f es kws pos = some r) : PD X (.Call f es kws pos) (wpE T r) := by
  unfold cCall at h
  split at h
  · rename_i x q
    replace h := gd_of h
    obtain ⟨g1, h⟩ := h
    rw [Bool.and_eq_true] at g1
    have hg := isGl_ok hc g1.1
    unfold cCallN at h
    split at h
    · rename_i j ps pats hf
      exact cFn_ok hp hc hg (dbg g1.2) hf h
    · rename_i hf
      replace h := gd_of h
      obtain ⟨g2, h⟩ := h
      rw [List.isEmpty_iff] at g2
      subst g2
      split at h
      · rename_i ex
        subst ex
        exact cIsi_ok hp hc hg hf h
      · obtain ⟨b, hb, h⟩ := bnd h
        exact cBi_ok hp hc hg hf hb h
    · cases h
  · obtain ⟨g2, h⟩ := gd_of h
    rw [List.isEmpty_iff] at g2
    subst g2
    exact cMeth_ok hp hc h
  · cases h
end
end Dl

namespace Dl
open L2 PySem PyProof.Rows PySem.Spec
section
variable {X : Cx} {K : PySem.W.Frag} {θ θa θb : Th} {A : Env} {B : Mem} {σ : L2.St} {G H Ga Ha Gb Hb : Hp}
theorem besideO {D : Addr} {o : HO} (g : Gr θa θb Ga Ha Gb Hb) (n1 : D ∉ θa.flatten) (n2 : Ga D = none) (n3 : Ha D = some o) : D ∉ θb.flatten ∧ Gb D = none ∧ Hb D = some o := by
  refine ⟨fun z => ?_, ?_, g.keep D _ n3 n1⟩
  · rcases g.new D z with q | q
    · exact n1 q
    · rw [n3] at q; cases q
  · cases z : Gb D with
    | none => rfl
    | some o =>
      rcases g.gnew D (by rw [z]; exact fun w => nomatch w) with q | q | q
      · exact absurd n2 q
      · exact absurd q n1
      · rw [n3] at q; cases q
theorem av_set {v : V} {w : AV} {j : Nat} {as : List Addr} (h : AVok K G θ v w) (e : hideJ j (some w) = some w) : AVok K G (θ.set j as) v w := by
  cases h with
  | d h => exact .d h
  | kt h q => exact .kt h q
  | sc h => exact .sc h
  | @m k a bs h =>
    simp only [hideJ] at e
    split at e
    · cases e
    · rename_i n
      exact .m (by rw [List.getElem?_set_ne (Ne.symm n)]; exact h)
  | @r k i a b bs h q =>
    simp only [hideJ] at e
    split at e
    · cases e
    · rename_i n
      exact .r (by rw [List.getElem?_set_ne (Ne.symm n)]; exact h) q
theorem hideJ_some {j : Nat} {u : Option AV} {w : AV} (e : hideJ j u = some w) : u = some w ∧ hideJ j (some w) = some w := by
  cases u with
  | none => cases e
  | some u =>
    cases u with
    | d x => cases e; exact ⟨rfl, rfl⟩
    | kt x => cases e; exact ⟨rfl, rfl⟩
    | sc x => cases e; exact ⟨rfl, rfl⟩
    | m k =>
      have e2 := e
      simp only [hideJ] at e
      split at e <;> cases e
      exact ⟨rfl, e2⟩
    | r k i =>
      have e2 := e
      simp only [hideJ] at e
      split at e <;> cases e
      exact ⟨rfl, e2⟩
theorem slots_hideJ {j : Nat} {as : List Addr} (h : SlotsOk K G θ σ A) : SlotsOk K G (θ.set j as) σ (A.map (hideJ j)) := by
  refine ⟨by rw [List.length_map]; exact h.1, fun i w e => ?_⟩
  rw [List.getElem?_map] at e
  cases q : A[i]? with
  | none => rw [q] at e; cases e
  | some u =>
    rw [q] at e
    obtain ⟨rfl, e2⟩ := hideJ_some (Option.some.inj e)
    obtain ⟨v, h1, h2⟩ := h.2 i w q
    exact ⟨v, h1, av_set h2 e2⟩
theorem flat_put : ∀ {θ : Th} {j : Nat} {d : Addr}, θ[j]? = some [] → (θ.set j [d]).flatten.Perm (d :: θ.flatten)
  | [], _, _, e => by simp at e
  | as :: θ, 0, d, e => by
    simp at e
    subst e
    simp
  | as :: θ, j + 1, d, e => by
    simp at e
    rw [List.set_cons_succ, List.flatten_cons, List.flatten_cons]
    exact ((flat_put e).append_left as).trans List.perm_middle
theorem CellsOk.put : ∀ {θ : Th} {B : Mem} {j : Nat} {as : List Addr} {c : MC}, CellsOk K G H θ B → CellOk K G H as c → CellsOk K G H (θ.set j as) (B.set j c)
  | _, _, _, _, _, .nil, _ => .nil
  | _, _, 0, _, _, .cons _ t, h => .cons h t
  | _, _, j + 1, _, _, .cons g t, h => .cons g (CellsOk.put t h)
theorem set_same_of {α : Type} : ∀ {xs : List α} {j : Nat} {x : α}, xs[j]? = some x → xs.set j x = xs
  | [], _, _, h => by simp at h
  | y :: xs, 0, x, h => by simp at h; subst h; rfl
  | y :: xs, j + 1, x, h => by
    simp at h
    rw [List.set_cons_succ, set_same_of h]
theorem dq_key (k : Key) : Dq K G (kV k) (keyPy k) := by
  cases k with
  | inl i => exact .int i
  | inr s => exact .str s
end
section
variable {X : Cx} {K : PySem.W.Frag} {f : FE} {t : FTt} {gt : FG}
theorem tf_lcD {i : Nat} {gT' : TG} {vs : List Nat} {σ : L2.St} {H : Hp} {Q : VK} (hg : ∀ v σ H Q, tfG K gt v σ H Q → gT' v σ H Q) (hq : Quiet gT' vs)
    (w : tf K (fLcD2 i gt t f vs) σ H Q) : tLockE (tLc (iKeys (tVar i)) gT' (tfT K t) (tf K f) vs) σ H Q := by
  obtain ⟨θ, A, B, G, k, S, ⟨j, kvs, hA, hB, Iv, h0, turn, done⟩, q⟩ := w
  obtain ⟨v, hv, hav⟩ := S.slots.2 i _ hA
  obtain ⟨as0, hk0, hc0⟩ := S.mem.cells.getB hB
  cases hav with
  | @m _ d as hk =>
  rw [hk] at hk0
  cases hk0
  cases hc0 with
  | @dK _ vs0 _ e kv =>
  have hdin : d ∈ θ.flatten := List.mem_flatten.mpr ⟨_, List.mem_of_getElem? hk, by simp⟩
  have hdG : G d = none := S.mem.free d hdin
  have hdout : d ∉ (θ.set j []).flatten := not_in_set S.mem.nd hk d (by simp)
  have hlen : (kvs.map fun p => keyPy p.1).length = vs0.length := by
    rw [List.length_map]
    have : ∀ {vs : List (Key × V)} {ds : List (Key × PyData)}, KvOk K G vs ds → ds.length = vs.length := fun h => by
      induction h with
      | nil => rfl
      | cons _ _ ih => simp [ih]
    exact this kv
  have hkey : ∀ {vs : List (Key × V)} {ds : List (Key × PyData)}, KvOk K G vs ds → ∀ (n : Nat) (k : Key) (u : V) (x : PyData), vs[n]? = some (k, u) → (ds.map fun p => keyPy p.1)[n]? = some x → x = keyPy k := fun h => by
    induction h with
    | nil => intro n k u x h1 h2; simp at h1
    | cons _ _ ih =>
      intro n k u x h1 h2
      cases n with
      | zero => simp at h1 h2; rw [← h2, h1.1]
      | succ n => exact ih n k u x (by simpa using h1) (by simpa using h2)
  refine ⟨d, .dK vs0, e, trivial, fun od => ?_⟩
  have exd : ∀ a ∈ (θ.set j []).flatten, ∀ o, H a = some o → upd H d (.frz od (.dK vs0)) a = some o := fun a ha o ho => by
    rw [upd_ne fun z : a = d => hdout (by rw [← z]; exact ha)]
    exact ho
  have S1 : StOk K (θ.set j []) (A.map (hideJ j)) (B.set j .gone) σ G (upd H d (.frz od (.dK vs0))) := by
    refine ⟨⟨S.mem.ex.side hdG, (cells_gone (Ext.refl G) j S.mem.cells).mono (Ext.refl G) exd, (flat_set j).nodup S.mem.nd, fun a ha => S.mem.free a ((flat_set j).subset ha)⟩, slots_hideJ S.slots⟩
  have hd1 : upd H d (.frz od (.dK vs0)) d = some (.frz od (.dK vs0)) := upd_same
  have hx : ∀ a o, H a = some o → a ≠ d → upd H d (.frz od (.dK vs0)) a = some o := fun a o h n => by rw [upd_ne n]; exact h
  have hn : ∀ a, upd H d (.frz od (.dK vs0)) a = none → H a = none := fun a h => by
    by_cases z : a = d
    · subst z; rw [upd_same] at h; cases h
    · rw [upd_ne z] at h; exact h
  generalize upd H d (.frz od (.dK vs0)) = H1 at S1 hd1 hx hn
  refine ⟨.ref d, hv, d, od, rfl, .inl ⟨vs0, hd1, ?_⟩⟩
  intro D hD
  have hDd : D ≠ d := fun z => by subst z; rw [hd1] at hD; cases hD
  generalize hxs : (kvs.map fun p => keyPy p.1) = xs at hlen turn done
  generalize hθ1 : θ.set j [] = θ1 at S1 hdout
  generalize hA1 : A.map (hideJ j) = A1 at S1 turn
  have exD : Ext H1 (upd H1 D (.lst [])) := Ext.new hD
  refine ⟨fun i m H' => m = xs.length - i ∧ i ≤ xs.length ∧ ∃ θ2 B2 G2 us acc, StOk K θ2 A1 B2 σ G2 H' ∧ Gr θ1 θ2 G H1 G2 H' ∧ D ∉ θ2.flatten ∧ G2 D = none ∧ H' D = some (.lst us) ∧ DqAll K G2 us acc ∧ Iv i acc B2, ⟨_, rfl, Nat.zero_le _, θ1, _, G, [], [], (Stp.junk S1.mem.ex hD).st S1, (Stp.junk S1.mem.ex hD).gr, S1.mem.fresh hD, S1.mem.ex.fresh hD, upd_same, .nil, h0⟩, ?_⟩
  rintro i m H' ⟨rfl, hil, θ2, B2, G2, us, acc, S2, g2, nD, fD, hD2, dd, iv⟩
  obtain ⟨z1, z2, z3⟩ := besideO g2 hdout hdG hd1
  by_cases hlt : i < xs.length
  · refine .inr ⟨⟨z3, by rw [← hlen]; exact hlt⟩, fun H' => ∃ θ2 B2 G2 us acc, StOk K θ2 A1 B2 σ G2 H' ∧ Gr θ1 θ2 G H1 G2 H' ∧ D ∉ θ2.flatten ∧ G2 D = none ∧ H' D = some (.lst us) ∧ DqAll K G2 us acc ∧ Iv (i + 1) acc B2, fun H3 z => ⟨_, by omega, rfl, hlt, z⟩, fun v H3 y => ?_⟩
    obtain ⟨rfl, k0, u0, hget, rfl⟩ := y
    obtain ⟨dx, hxd⟩ : ∃ d, xs[i]? = some d := ⟨xs[i], by simp [hlt]⟩
    have hdx : dx = keyPy k0 := hkey kv i k0 u0 dx hget (by rw [hxs]; exact hxd)
    subst hdx
    refine hq _ _ _ _ (hg _ _ _ _ ⟨θ2, wipeA A1 vs, B2, G2, _, _, wipe_st S2 vs, .d (dq_key k0), turn i _ acc B2 hxd iv, fun θ4 A4 B4 σ4 G4 H4 g4 S4 k4 => ?_⟩) _ (wipe_idem σ vs)
    obtain ⟨c1, c2, c3⟩ := beside g4 nD fD hD2
    have back4 : StOk K θ4 A1 B4 σ G4 H4 := ⟨S4.mem, S2.slots.mono g4.gx g4.th⟩
    refine ⟨θ4, A4, B4, G4, _, S4, k4, fun θ5 B5 G5 H5 bb g5 S5 k5 => ?_⟩
    obtain ⟨d1, d2, d3⟩ := beside g5 c1 c2 c3
    have g35 := ((g2.trans g4).trans g5)
    cases bb with
    | true =>
      refine iteT ⟨θ5, A4, B5, G5, _, S5, k5.1 rfl, fun θ6 B6 G6 H6 z w g6 S6 hz k6 => ?_⟩
      obtain ⟨e1, e2, e3⟩ := beside g6 d1 d2 d3
      obtain ⟨dz, hdz, hz2, k7⟩ := wK_of hz k6
      have dd6 := dqAll_mono ((g4.gx.trans g5.gx).trans g6.gx) dd
      refine ⟨us, e3, by rw [dqAll_len dd6]; exact hz2, θ6, B6, G6, us ++ [z], acc ++ [dz], ⟨⟨S6.mem.ex.side e2, S6.mem.cells.mono (Ext.refl _) fun a ha o ho => ?_, S6.mem.nd, S6.mem.free⟩, back4.slots.mono (g5.gx.trans g6.gx) (g5.th.trans g6.th)⟩, ?_, e1, e2, upd_same, dqAll_append dd6 (dqAll_one hdz), k7⟩
      · rw [upd_ne fun q : a = D => e1 (by rw [← q]; exact ha)]
        exact ho
      · have g36 := g35.trans g6
        exact ⟨g36.gx, g36.th, fun a o ha hn => by
          rw [upd_ne (ne_of_none ha hD)]
          exact g36.keep a o ha hn, g36.new, g36.gnew⟩
    | false =>
      refine iteF ⟨θ5, B5, G5, us, acc, ⟨S5.mem, back4.slots.mono g5.gx g5.th⟩, g35, d1, d2, d3, dqAll_mono (g4.gx.trans g5.gx) dd, k5.2 rfl⟩
  · have ei : i = xs.length := by omega
    subst ei
    refine .inl ⟨⟨z3, by rw [← hlen]; exact Nat.le_refl _⟩, ?_⟩
    obtain ⟨θ3, B3, G3, w, g3, m3, hw, hgone, hk2⟩ := fin_list S2.mem hD2 dd nD fD hD g2 (done acc B2 iv)
    obtain ⟨y1, y2, y3⟩ := besideO g3 hdout hdG hd1
    refine ⟨y3, ?_⟩
    obtain ⟨aj, hj3, hcj⟩ := m3.cells.getB hgone
    cases hcj with
    | gone =>
    have perm := flat_put (d := d) hj3
    have hH : ∀ a o, H' a = some o → a ≠ d → upd H' d (.dK vs0) a = some o := fun a o h n => by rw [upd_ne n]; exact h
    have th3 : θ <+: θ3.set j [d] := by
      obtain ⟨ψ, hψ⟩ := g3.th
      refine ⟨ψ, ?_⟩
      rw [← hψ, ← hθ1]
      have hl : j < (θ.set j []).length := by
        rw [List.length_set]
        exact (List.getElem?_eq_some_iff.mp hk).1
      rw [List.set_append_left _ _ hl, List.set_set]
      rw [set_same_of hk]
    have sub1 : ∀ a, a ∈ θ1.flatten → a ∈ θ.flatten := fun a ha => by
      rw [← hθ1] at ha
      exact (flat_set j).subset ha
    have g' : Gr θ (θ3.set j [d]) G H G3 (upd H' d (.dK vs0)) := by
      refine ⟨g3.gx, th3, fun a o h ha => ?_, fun a ha => ?_, fun a ha => ?_⟩
      · have n : a ≠ d := fun z => ha (by rw [z]; exact hdin)
        exact hH a o (g3.keep a o (hx a o h n) fun z => ha (sub1 a z)) n
      · rcases List.mem_cons.mp (perm.mem_iff.mp ha) with z | z
        · subst z; exact .inl hdin
        · rcases g3.new a z with z | z
          · exact .inl (sub1 a z)
          · exact .inr (hn a z)
      · rcases g3.gnew a ha with z | z | z
        · exact .inl z
        · exact .inr (.inl (sub1 a z))
        · exact .inr (.inr (hn a z))
    have m' : MemOk K (θ3.set j [d]) (B3.set j (.dK kvs)) G3 (upd H' d (.dK vs0)) := by
      refine ⟨m3.ex.side y2, ?_, ?_, fun a ha => ?_⟩
      · refine (m3.cells.mono (H' := upd H' d (.dK vs0)) (Ext.refl _) fun a ha o ho => hH a o ho fun z => y1 (by rw [← z]; exact ha)).put (.dK upd_same (kv.mono g3.gx))
      · exact perm.nodup_iff.mpr (List.nodup_cons.mpr ⟨y1, m3.nd⟩)
      · rcases List.mem_cons.mp (perm.mem_iff.mp ha) with z | z
        · subst z; exact y2
        · exact m3.free a z
    refine q _ _ G3 _ _ w g' ⟨m', S.slots.mono g3.gx th3⟩ ?_ hk2
    cases hw with
    | d h => exact .d h
    | kt h h2 => exact .kt h h2
    | sc h => exact .sc h
    | @m k' a bs h =>
      refine .m (as := bs) ?_
      by_cases z : k' = j
      · subst z; rw [hj3] at h; cases h
      · rw [List.getElem?_set_ne (Ne.symm z)]; exact h
    | @r k' i' a b bs h h2 =>
      refine .r (as := bs) (b := b) ?_ h2
      by_cases z : k' = j
      · subst z; rw [hj3] at h; cases h
      · rw [List.getElem?_set_ne (Ne.symm z)]; exact h
end
end Dl

namespace Dl
open L2 PySem PyProof.Rows PySem.Spec
/-! ### targets -/
mutual
def rawG (K : PySem.W.Frag) : AG → TG
  | .nm i => gName i
  | .tp gs => gTup K (lenG gs) (rawGs K gs)
def rawGs (K : PySem.W.Frag) : AGs → TGs
  | .nil => gNil
  | .cons g gs => gCons (rawG K g) (rawGs K gs)
end
mutual
def slG : AG → List Nat
  | .nm i => [i]
  | .tp gs => slGs gs
def slGs : AGs → List Nat
  | .nil => []
  | .cons g gs => slG g ++ slGs gs
end
section
variable {X : Cx} {K : PySem.W.Frag} {c : Ctx} {T : Nat → FT} {p : Cp} {x : Str} {e a b i o tg elt iter : Expr} {es ifs : List Expr} {kws : List Keyword} {q pos apos : Pos} {r : AE} {scope : Scope}
mutual
theorem tfG_raw : ∀ (g : AG) {v : V} {σ : L2.St} {H : Hp} {Q : L2.St → Hp → Prop}, tfG K (wpG g) v σ H Q → rawG K g v σ H Q
  | .nm i, v, σ, H, Q, w => by
    obtain ⟨θ, A, B, G, w, k, S, hv, hf, q⟩ := w
    exact q θ _ B _ G H Gr.refl (S.set i hv) hf
  | .tp gs, v, σ, H, Q, w => by
    obtain ⟨θ, A, B, G, w, k, S, hv, hf, q⟩ := w
    have hf' : gT (lenG gs) (wpGs gs) w A B k := hf
    unfold gT wT at hf'
    split at hf'
    · cases hv with
      | d hd =>
        cases hd with
        | tup e d => exact ⟨_, _, rfl, SqT.of (S.mem.ex _ _ e), by rw [dqAll_len d]; exact hf'.2.1, tfGs_raw gs ⟨θ, A, B, G, _, k, S, d, hf'.2.2, q⟩⟩
    · cases hf'.1
    · exact hf'.elim
theorem tfGs_raw : ∀ (gs : AGs) {vs : List V} {σ : L2.St} {H : Hp} {Q : L2.St → Hp → Prop}, tfGs K (wpGs gs) vs σ H Q → rawGs K gs vs σ H Q
  | .nil, vs, σ, H, Q, w => by
    obtain ⟨θ, A, B, G, ds, k, S, hv, ⟨rfl, hf⟩, q⟩ := w
    cases hv
    exact ⟨rfl, q θ A B σ G H Gr.refl S hf⟩
  | .cons g gs, vs, σ, H, Q, w => by
    obtain ⟨θ, A, B, G, ds, k, S, hv, ⟨d, r, rfl, hf⟩, q⟩ := w
    cases hv with
    | cons hd t =>
      refine ⟨_, _, rfl, tfG_raw g ⟨θ, A, B, G, _, _, S, .d hd, hf, fun θ1 A1 B1 σ1 G1 H1 g1 S1 k1 => ?_⟩⟩
      exact tfGs_raw gs ⟨θ1, A1, B1, G1, r, k, S1, dqAll_mono g1.gx t, k1, fun θ2 A2 B2 σ2 G2 H2 g2 S2 k2 => q θ2 A2 B2 σ2 G2 H2 (g1.trans g2) S2 k2⟩
end
mutual
theorem raw_quiet {vs : List Nat} {τ : L2.St} : ∀ (g : AG), (∀ i ∈ slG g, i ∈ vs) → ∀ {v : V} {σ : L2.St} {H : Hp} {Q Q' : L2.St → Hp → Prop}, wipe σ vs = τ → (∀ σ2 H2, wipe σ2 vs = τ → Q σ2 H2 → Q' σ2 H2) → rawG K g v σ H Q → rawG K g v σ H Q'
  | .nm i, hs, v, σ, H, Q, Q', hw, im, h => im _ _ (by rw [wipe_set (hs i (by simp [slG]))]; exact hw) h
  | .tp gs, hs, v, σ, H, Q, Q', hw, im, h => by
    obtain ⟨a, xs, h1, h2, h3, h4⟩ := (show gTup K (lenG gs) (rawGs K gs) v σ H Q from h)
    exact ⟨a, xs, h1, h2, h3, raws_quiet gs hs hw im h4⟩
theorem raws_quiet {vs : List Nat} {τ : L2.St} : ∀ (gs : AGs), (∀ i ∈ slGs gs, i ∈ vs) → ∀ {us : List V} {σ : L2.St} {H : Hp} {Q Q' : L2.St → Hp → Prop}, wipe σ vs = τ → (∀ σ2 H2, wipe σ2 vs = τ → Q σ2 H2 → Q' σ2 H2) → rawGs K gs us σ H Q → rawGs K gs us σ H Q'
  | .nil, hs, us, σ, H, Q, Q', hw, im, h => ⟨h.1, im _ _ hw h.2⟩
  | .cons g gs, hs, us, σ, H, Q, Q', hw, im, h => by
    obtain ⟨v, r, h1, h2⟩ := (show gCons (rawG K g) (rawGs K gs) us σ H Q from h)
    refine ⟨v, r, h1, raw_quiet g (fun i hi => hs i (by simp [slGs, hi])) hw (fun σ2 H2 hw2 h3 => ?_) h2⟩
    exact raws_quiet gs (fun i hi => hs i (by simp [slGs, hi])) hw2 im h3
end
theorem quiet_of {g : AG} {vs : List Nat} (h : (slG g).all (fun i => decide (i ∈ vs)) = true) : Quiet (rawG K g) vs := fun v σ H Q hq τ hw =>
  raw_quiet g (fun i hi => by simpa using List.all_eq_true.mp h i hi) hw (fun σ2 H2 h1 h2 => ⟨h1, h2⟩) hq
def cGL (f : Expr → Option AG) : List Expr → Option AGs
  | [] => some .nil
  | e :: es => gd (notStar e) ((f e).bind fun a => (cGL f es).bind fun as => some (.cons a as))
def cG (c : Ctx) : Nat → Expr → Option AG
  | 0, _ => none
  | n + 1, e => match e with
    | .Name x _ => (stoOf c x).map .nm
    | .Tuple es _ _ => (cGL (cG c n) es).map .tp
    | _ => none
theorem asg_cons (h : notStar e = true) (es : List Expr) (env : PySem.Env) : assignEach (e :: es) env = (false, assign e env) :: assignEach es env := by
  cases e <;> first | rfl | cases h
theorem sto_ok {i : Nat} (hc : CtxOk X c T) (h : stoOf c x = some i) : X.N[i]? = some x ∧ Loc X.env.scope x ∧ (X.fn x = true ∨ X.env.scope.names.lookup x = some .local) := by
  unfold stoOf at h
  rw [hc.hN, hc.sc]
  split at h
  · rename_i e; exact ⟨find_ok h, .inl e, .inr e⟩
  · rename_i e
    split at h
    · rename_i hf; exact ⟨find_ok h, .inr e, .inl (hc.fn x hf)⟩
    · cases h
  · cases h
theorem cGL_ok {f : Expr → Option AG} (hf : ∀ {e g}, f e = some g → PG X e (rawG X.K g)) : ∀ {es : List Expr} {gs : AGs}, cGL f es = some gs → PGs X es (rawGs X.K gs) ∧ (assignEach es X.env).length = lenG gs ∧ (assignEach es X.env).findIdx? (·.1) = none
  | [], _, h => by cases h; exact ⟨pgs_nil, rfl, rfl⟩
  | e :: es, _, h => by
    obtain ⟨g1, h⟩ := gd_of h
    obtain ⟨a, ha, h⟩ := bnd h
    obtain ⟨as, has, h⟩ := bnd h
    cases h
    obtain ⟨q1, q2, q3⟩ := cGL_ok hf has
    have ec := asg_cons g1 es X.env
    refine ⟨pgs_cons (hf ha) q1 (by rw [ec]; rfl), by rw [ec, List.length_cons, q2]; rfl, by rw [ec, List.findIdx?_cons, q3]; rfl⟩
theorem cG_ok (hc : CtxOk X c T) : ∀ {n : Nat} {e : Expr} {g : AG}, cG c n e = some g → PG X e (rawG X.K g)
  | 0, _, _, h => by cases h
  | n + 1, e, g, h => by
    unfold cG at h
    split at h
    · obtain ⟨i, hi, rfl⟩ := mpd h
      obtain ⟨s1, s2, s3⟩ := sto_ok hc hi
      exact pg_name (by rw [hc.hN]; exact hc.nd) s1 s2 s3
    · obtain ⟨gs, hg, rfl⟩ := mpd h
      obtain ⟨q1, q2, q3⟩ := cGL_ok (fun h => cG_ok hc h) hg
      exact pg_tup hc.calm q1 q2 q3
    · cases h
theorem cG_pdg (hc : CtxOk X c T) {n : Nat} {g : AG} (h : cG c n e = some g) : PDG X e (wpG g) := ⟨PG.imp (cG_ok hc h) fun v σ H Q w => tfG_raw g w⟩
/-! ### walks -/
def isTupE : Expr → Bool
  | .Tuple _ _ _ => true
  | _ => false
def cIB (p : Cp) (c : Ctx) (tg iter : Expr) : Option AI := match iter with
  | .Call (.Name x _) es [] _ => gd (isGl c x && (match c.gl x with | some .blt => true | _ => false)) (
      if x = ("range" : Str) then (match es with
        | [a] => (cEs p c [a]).map .r1
        | [a, b] => (cEs p c [a, b]).map .r2
        | [a, b, d] => (cEs p c [a, b, d]).map .r3
        | _ => none)
      else if x = ("zip" : Str) then (match es with
        | [a, b] => gd (isTupE tg) ((cEs p c [a, b]).map .zip)
        | _ => none)
      else if x = ("enumerate" : Str) then (match es with
        | [a] => gd (isTupE tg) ((cEs p c [a]).map .enum)
        | _ => none)
      else none)
  | _ => none
theorem isTupE_ok (h : isTupE e = true) : ∃ es k p, e = .Tuple es k p := by
  cases e <;> first | exact ⟨_, _, _, rfl⟩ | cases h
theorem cIB_ok {ai : AI} (hp : CpOk p) (hc : CtxOk X c T) (h : cIB p c tg iter = some ai) : PDI X tg iter (wpI T ai) := by
  unfold cIB at h
  split at h
  · rename_i x q es pos
    replace h := gd_of h
    obtain ⟨g1, h⟩ := h
    rw [Bool.and_eq_true] at g1
    have hg := isGl_ok hc g1.1
    have hm : X.mg x = none := by
      have g2 := g1.2
      split at g2
      · rename_i hb; exact hc.blt x hb
      · cases g2
    clear g1
    split at h
    · rename_i ex
      subst ex
      split at h
      · obtain ⟨as, has, rfl⟩ := mpd h
        obtain ⟨q1, q2⟩ := cEs_ok hp hc has
        simp only [List.all_cons, Bool.and_eq_true] at q2
        exact pdi_r1 q1 fun ta ha => pi_range1 hg hm ha (star_cons q2.1 [] X.env)
      · rename_i a b
        obtain ⟨as, has, rfl⟩ := mpd h
        obtain ⟨q1, q2⟩ := cEs_ok hp hc has
        simp only [List.all_cons, Bool.and_eq_true] at q2
        have s2 := star_cons q2.2.1 [] X.env
        have s1 := star_cons q2.1 [b] X.env
        rw [s2] at s1
        exact pdi_r2 q1 fun ta ha => pi_range2 hg hm ha s1 s2
      · rename_i a b d
        obtain ⟨as, has, rfl⟩ := mpd h
        obtain ⟨q1, q2⟩ := cEs_ok hp hc has
        rw [List.all_cons, Bool.and_eq_true] at q2
        exact pdi_r3 q1 fun ta ha => pi_range3 hg hm ha (star_cons q2.1 [b, d] X.env) (star_plain X.env _ q2.2)
      · cases h
    · split at h
      · rename_i ex
        subst ex
        split at h
        · rename_i a b
          obtain ⟨g2, h⟩ := gd_of h
          obtain ⟨es', k', p', rfl⟩ := isTupE_ok g2
          obtain ⟨as, has, rfl⟩ := mpd h
          obtain ⟨q1, q2⟩ := cEs_ok hp hc has
          rw [List.all_cons, Bool.and_eq_true] at q2
          exact pdi_zip q1 fun ta ha => RZ.pi_zipA hg hm ha (star_cons q2.1 [b] X.env) (star_plain X.env _ q2.2)
        · cases h
      · split at h
        · rename_i ex
          subst ex
          split at h
          · obtain ⟨g2, h⟩ := gd_of h
            obtain ⟨es', k', p', rfl⟩ := isTupE_ok g2
            obtain ⟨as, has, rfl⟩ := mpd h
            obtain ⟨q1, q2⟩ := cEs_ok hp hc has
            simp only [List.all_cons, Bool.and_eq_true] at q2
            exact pdi_enum q1 fun ta ha => pi_enum hg hm ha (star_cons q2.1 [] X.env)
          · cases h
        · cases h
  · cases h
def cI (p : Cp) (c : Ctx) (tg iter : Expr) : Option AI := gd (noSet iter) ((cIB p c tg iter).or ((p.e c iter).map .seq))
theorem cI_ok {ai : AI} (hp : CpOk p) (hc : CtxOk X c T) (h : cI p c tg iter = some ai) : PDI X tg iter (wpI T ai) ∧ noSet iter = true := by
  obtain ⟨g1, h⟩ := gd_of h
  refine ⟨?_, g1⟩
  cases z : cIB p c tg iter with
  | some y =>
    rw [z] at h
    cases h
    exact cIB_ok hp hc z
  | none =>
    rw [z] at h
    obtain ⟨x, hx, rfl⟩ := mpd (show Option.map AI.seq (p.e c iter) = some ai from h)
    exact pdi_seq (hp.e hc hx)
end
end Dl

namespace Dl
open L2 PySem PyProof.Rows PySem.Spec
section
variable {X : Cx} {K : PySem.W.Frag} {c : Ctx} {T : Nat → FT} {p : Cp} {x : Str} {e a b i o tg elt iter : Expr} {es ifs : List Expr} {kws : List Keyword} {q pos apos : Pos} {r : AE} {scope : Scope}
def ownOf (N : List Str) (scope : Scope) : List (Str × Nat) := scope.names.filterMap fun y => match y.2 with
  | .local => (find? N y.1).map fun i => (y.1, i)
  | .cell => (find? N y.1).map fun i => (y.1, i)
  | _ => none
def cIfs (p : Cp) (c : Ctx) : List Expr → Option AE
  | [] => some .omit
  | [t] => p.t c t
  | _ => none
theorem cIfs_ok (hp : CpOk p) (hc : CtxOk X c T) {r : AE} (h : cIfs p c ifs = some r) : PTs X ifs (tfT X.K (wpT T r)) := by
  unfold cIfs at h
  split at h
  · cases h
    refine ⟨fun pins s σ H Q I w => pts_nil.run pins s σ H Q I ?_⟩
    obtain ⟨θ, A, B, G, k, S, hf, q⟩ := w
    exact q θ B G H true Gr.refl S hf
  · exact pts_one (hp.t hc h).pt
  · cases h
/-- the line of a name's own place, if the walk of a dict is told there -/
def dictAt (c : Ctx) : Expr → Option Nat
  | .Name x pos => if pos.line ∈ c.dl then slotOf c x else none
  | _ => none
def cLc (p : Cp) (c : Ctx) (elt tg iter : Expr) (ifs : List Expr) (scope : Scope) : Option AE := gd (blkC c.N c.sc scope (ownOf c.N scope)) ((cG (c.blk scope) 8 tg).bind fun g =>
  gd ((slG g).all (fun i => decide (i ∈ (ownOf c.N scope).map (·.2)))) ((cIfs p (c.blk scope) ifs).bind fun t => (p.e (c.blk scope) elt).bind fun e =>
    match dictAt c iter with
    | some i => some (.lcD i g t e ((ownOf c.N scope).map (·.2)))
    | none => (cI p c tg iter).map fun it => .lc it g t e ((ownOf c.N scope).map (·.2))))
theorem slot_var (hc : CtxOk X c T) {i : Nat} (h : slotOf c x = some i) : PE X (.Name x pos) (tVar i) := by
  unfold slotOf at h
  split at h
  · rename_i hv
    rw [Bool.and_eq_true, Bool.not_eq_true'] at hv
    obtain ⟨s1, s2, s3⟩ := spec_ok hv.2
    exact pe_var (by rw [hc.hN]; exact find_ok h) (by rw [hc.sc]; exact vis_ok hv.1) s1 s2
  · cases h
theorem dictAt_ok (hc : CtxOk X c T) {i : Nat} (h : dictAt c iter = some i) : PE X iter (tVar i) ∧ noSet iter = true := by
  unfold dictAt at h
  split at h
  · split at h
    · exact ⟨slot_var hc h, rfl⟩
    · cases h
  · cases h
/-- the pieces of a comprehension -/
theorem lc_parts (hp : CpOk p) (hc : CtxOk X c T) (h : cLc p c elt tg iter ifs scope = some r) : ∃ (wi : TI) (g : TG) (tt : TT) (te : TE) (own : List (Str × Nat)), PI X tg iter wi ∧ BlkOk X.N X.env.scope scope own ∧
    (∀ (s : Shared) (H : Hp) (C : Addr) (cl : List (Str × Addr)) (fp : List Addr), PG (X.blk s H scope (compEnvC scope cl C X.env) fp) tg g) ∧
    (∀ (s : Shared) (H : Hp) (C : Addr) (cl : List (Str × Addr)) (fp : List Addr), PTs (X.blk s H scope (compEnvC scope cl C X.env) fp) ifs tt) ∧
    (∀ (s : Shared) (H : Hp) (C : Addr) (cl : List (Str × Addr)) (fp : List Addr), PE (X.blk s H scope (compEnvC scope cl C X.env) fp) elt te) ∧
    (∀ x, foldedSetIterable iter X.env x = pure x) ∧
    (((∃ i, dictAt c iter = some i) ∧ ∀ σ H Q, tf X.K (wpE T r) σ H Q → tLockE (tLc wi g tt te (own.map (·.2))) σ H Q) ∨ (dictAt c iter = none ∧ ∀ σ H Q, tf X.K (wpE T r) σ H Q → tLc wi g tt te (own.map (·.2)) σ H Q)) := by
  obtain ⟨g1, h⟩ := gd_of h
  obtain ⟨g, hg, h⟩ := bnd h
  obtain ⟨g2, h⟩ := gd_of h
  obtain ⟨t, ht, h⟩ := bnd h
  obtain ⟨e, he, h⟩ := bnd h
  have bk : BlkOk X.N X.env.scope scope (ownOf c.N scope) := by rw [hc.hN, hc.sc]; exact blkOk_by g1
  have inn := fun (s : Shared) (H : Hp) (C : Addr) (cl : List (Str × Addr)) (fp : List Addr) => hc.blk s H scope C cl fp bk.kind
  split at h
  · rename_i i hd
    cases h
    obtain ⟨d1, d2⟩ := dictAt_ok hc hd
    refine ⟨iKeys (tVar i), rawG X.K g, tfT X.K (wpT T t), tf X.K (wpE T e), ownOf c.N scope, pi_keys d1, bk, fun s H C cl fp => cG_ok (inn s H C cl fp) hg, fun s H C cl fp => cIfs_ok hp (inn s H C cl fp) ht, fun s H C cl fp => (hp.e (inn s H C cl fp) he).pe, noSet_hs d2, .inl ⟨⟨i, hd⟩, fun σ H Q w => ?_⟩⟩
    exact tf_lcD (fun v σ H Q w => tfG_raw g w) (quiet_of g2) w
  · rename_i hd
    obtain ⟨it, hit, rfl⟩ := mpd h
    obtain ⟨i1, i2⟩ := cI_ok hp hc hit
    refine ⟨tfI X.K (wpI T it), rawG X.K g, tfT X.K (wpT T t), tf X.K (wpE T e), ownOf c.N scope, i1.pi, bk, fun s H C cl fp => cG_ok (inn s H C cl fp) hg, fun s H C cl fp => cIfs_ok hp (inn s H C cl fp) ht, fun s H C cl fp => (hp.e (inn s H C cl fp) he).pe, noSet_hs i2, .inr ⟨hd, fun σ H Q w => ?_⟩⟩
    exact tf_lc (fun σ H R w => w) (fun v σ H Q w => tfG_raw g w) (quiet_of g2) w
def cComp (p : Cp) (c : Ctx) (elt : Expr) (gens : List Comprehension) (scope : Scope) : Option AE := match gens with
  | [⟨tg, iter, ifs, 0⟩] => cLc p c elt tg iter ifs scope
  | _ => none
theorem cComp_ok {gens : List Comprehension} (hp : CpOk p) (hc : CtxOk X c T) (h : cComp p c elt gens scope = some r) : PD X (.ListComp elt gens scope pos) (wpE T r) := by
  unfold cComp at h
  split at h
  · obtain ⟨wi, g, tt, te, own, h1, h2, h3, h4, h5, h6, h7⟩ := lc_parts hp hc h
    have base := pe_lc (pos := pos) hc.calm (by rw [hc.hN]; exact hc.nd) h1 h2 h3 h4 h5 h6
    rcases h7 with ⟨_, h7⟩ | ⟨_, h7⟩
    · exact ⟨PE.imp (pe_lock base) h7⟩
    · exact ⟨PE.imp base h7⟩
  · cases h
/-! ### one step -/
def stepE (p : Cp) (c : Ctx) (e : Expr) : Option AE := match e with
  | .Name x _ => cName c x
  | .Constant k _ _ => (cConst k).map .c
  | .BinOp a op b _ => cBin p c a op b
  | .UnaryOp op a _ => cUn p c op a
  | .BoolOp op es _ => cBoolV p c op es
  | .Compare a ops bs _ => cCmp p c a ops bs
  | .IfExp t a b _ => cIf p c t a b
  | .Subscript a i _ => cSub p c a i
  | .Call f es kws pos => cCall p c f es kws pos
  | .Tuple es _ _ => (cEs p c es).map .tup
  | .List es _ => (cEs p c es).map .lst
  | .Dict ks vs _ => cDict ks vs
  | .ListComp elt gens scope _ => cComp p c elt gens scope
  | _ => none
theorem stepE_ok (hp : CpOk p) (hc : CtxOk X c T) (h : stepE p c e = some r) : PD X e (wpE T r) := by
  unfold stepE at h
  split at h
  · exact cName_ok hc h
  · obtain ⟨d, hd, rfl⟩ := mpd h
    exact cConst_ok hd
  · exact cBin_ok hp hc h
  · exact cUn_ok hp hc h
  · exact cBoolV_ok hp hc h
  · exact (cCmp_ok hp hc h).1
  · exact cIf_ok hp hc h
  · exact cSub_ok hp hc h
  · exact cCall_ok hp hc h
  · obtain ⟨as, h1, rfl⟩ := mpd h
    exact pd_tup (cEs_ok hp hc h1).1
  · obtain ⟨as, h1, rfl⟩ := mpd h
    exact pd_lst (cEs_ok hp hc h1).1
  · exact cDict_ok h
  · exact cComp_ok hp hc h
  · cases h
/-! ### tests -/
def truOk : AE → Bool
  | .var _ => true
  | .c _ => true
  | .call _ _ => true
  | .bi _ _ => true
  | .isi _ _ => true
  | .lc _ _ _ _ _ => true
  | .op2 o _ _ => !isCmp o
  | _ => false
theorem truOk_ok (h : truOk r = true) : wpT T r = fTru (wpE T r) := by
  cases r <;> first | rfl | cases h | skip
  rename_i o a b
  have h' : isCmp o = false := by simpa [truOk] using h
  show (if isCmp o = true then _ else _) = _
  rw [h']
  rfl
def cBoolT (p : Cp) (c : Ctx) (op : BoolOp) : List Expr → Option AE
  | [] => none
  | [a] => p.t c a
  | a :: b :: es => (p.t c a).bind fun x => (cBoolT p c op (b :: es)).bind fun y => some (match op with
    | .And => .and x y
    | .Or => .or x y)
theorem cBoolT_ok (hp : CpOk p) (hc : CtxOk X c T) {op : BoolOp} : ∀ {es : List Expr} {r : AE}, cBoolT p c op es = some r → PDW X (.BoolOp op es pos) (wpT T r)
  | [], _, h => by cases h
  | [a], _, h => by
    cases op with
    | And => exact pdw_and1 (hp.t hc h)
    | Or => exact pdw_or1 (hp.t hc h)
  | a :: b :: es, _, h => by
    obtain ⟨x, hx, h⟩ := bnd h
    obtain ⟨y, hy, h⟩ := bnd h
    cases h
    cases op with
    | And => exact pdw_and (hp.t hc hx) (cBoolT_ok hp hc hy)
    | Or => exact pdw_or (hp.t hc hx) (cBoolT_ok hp hc hy)
def stepT (p : Cp) (c : Ctx) (e : Expr) : Option AE := match e with
  | .UnaryOp .Not a _ => (p.t c a).map .not
  | .BoolOp op es _ => cBoolT p c op es
  | .Compare a ops bs _ => cCmp p c a ops bs
  | e => gd (plainE e) ((p.e c e).bind fun r => gd (truOk r) (some r))
theorem stepT_ok (hp : CpOk p) (hc : CtxOk X c T) (h : stepT p c e = some r) : PDT X e (wpT T r) := by
  unfold stepT at h
  split at h
  · obtain ⟨x, hx, rfl⟩ := mpd h
    exact pdt_not (hp.t hc hx)
  · exact (cBoolT_ok hp hc h).pt
  · exact (cCmp_ok hp hc h).2
  · obtain ⟨g1, h⟩ := gd_of h
    obtain ⟨x, hx, h⟩ := bnd h
    obtain ⟨g2, h⟩ := gd_of h
    cases h
    rw [truOk_ok g2]
    exact pdt_tru (hp.e hc hx) (plain_ok g1)
def cp : Nat → Cp
  | 0 => ⟨fun _ _ => none, fun _ _ => none⟩
  | n + 1 => ⟨stepE (cp n), stepT (cp n)⟩
theorem cp_ok : ∀ n, CpOk (cp n)
  | 0 => ⟨fun _ h => (by cases h), fun _ h => (by cases h)⟩
  | n + 1 => ⟨fun hc h => stepE_ok (cp_ok n) hc h, fun hc h => stepT_ok (cp_ok n) hc h⟩
end
end Dl

namespace Dl
open L2 PySem PyProof.Rows PySem.Spec
/-! ### stores side by side -/
def isStarE : Expr → Bool
  | .Starred _ _ => true
  | _ => false
def swNames (sc : Scope) (line : Nat) (ts : List Expr) : List Str := ts.filterMap fun
  | .Name id pos => if sc.names.lookup id == some .local && pos.line == line then some id else none
  | _ => none
def lineOf (ts : List Expr) : Nat := (ts.head?.map (·.pos.line)).getD 0
def swF (sc : Scope) (ts vs : List Expr) : Option (Option (List Str)) :=
  if (!(ts.length == 2 || ts.length == 3) || vs.length != ts.length) = true then some none
  else if vs.any isStarE = true then some none
  else if ((swNames sc (lineOf ts) ts).length != ts.length || (swNames sc (lineOf ts) ts).eraseDups.length != (swNames sc (lineOf ts) ts).length) = true then some none
  else if vs.all (foldedForSure 8) = true then some none
  else if vs.all (constantsAlone 8) = true then none
  else some (some (swNames sc (lineOf ts) ts))
theorem sw_env {env : PySem.Env} {ts vs : List Expr} {k k2 : Nat} {p p2 : Pos} (hb : env.blockKind = .function) : swappedStores [.Tuple ts k p] (.Tuple vs k2 p2) env =
    (if (!(ts.length == 2 || ts.length == 3) || vs.length != ts.length) = true then pure none
    else if vs.any isStarE = true then pure none
    else if ((swNames env.scope (lineOf ts) ts).length != ts.length || (swNames env.scope (lineOf ts) ts).eraseDups.length != (swNames env.scope (lineOf ts) ts).length) = true then pure none
    else if vs.all (foldedForSure 8) = true then pure none
    else if vs.all (constantsAlone 8) = true then (do unsupported "assign.tuple-of-constant-expressions:order-of-the-stores"; pure (some (swNames env.scope (lineOf ts) ts)))
    else pure (some (swNames env.scope (lineOf ts) ts))) := by
  unfold swappedStores
  simp only [hb]
  have hff : (ScopeKind.function != ScopeKind.function) = false := by decide
  rw [hff, Bool.or_false]
  rfl
theorem sw_ok {sc : Scope} {env : PySem.Env} {ts vs : List Expr} {r : Option (List Str)} {k k2 : Nat} {p p2 : Pos} (hs : env.scope = sc) (hk : sc.kind = .function) (h : swF sc ts vs = some r) : swappedStores [.Tuple ts k p] (.Tuple vs k2 p2) env = pure r := by
  have hb : env.blockKind = .function := by
    unfold Env.blockKind
    rw [hs, hk]
    rfl
  rw [sw_env hb, hs]
  unfold swF at h
  split at h
  · rename_i e; cases h; rw [if_pos e]
  · rename_i e
    rw [if_neg e]
    split at h
    · rename_i e2; cases h; rw [if_pos e2]
    · rename_i e2
      rw [if_neg e2]
      split at h
      · rename_i e3; cases h; rw [if_pos e3]
      · rename_i e3
        rw [if_neg e3]
        split at h
        · rename_i e4; cases h; rw [if_pos e4]
        · rename_i e4
          rw [if_neg e4]
          split at h
          · cases h
          · rename_i e5
            cases h
            rw [if_neg e5]

section
variable {X : Cx} {c : Ctx} {T : Nat → FT} {p : Cp} {np : Nat} {x y z : Str} {e a b i o tg elt iter : Expr} {es ts vs ifs : List Expr} {kws : List Keyword} {q pos apos px py pz pt ps : Pos} {kt k2 : Nat} {r : AS} {scope : Scope} {st : Stmt} {f : FE} {gt : FG}
/-- a slot of a plain local name -/
def locOf (c : Ctx) (x : Str) : Option Nat := match c.sc.names.lookup x with
  | some .local => find? c.N x
  | _ => none
theorem locOf_ok (hc : CtxOk X c T) {i : Nat} (h : locOf c x = some i) : X.N[i]? = some x ∧ X.env.scope.names.lookup x = some .local := by
  unfold locOf at h
  rw [hc.hN, hc.sc]
  split at h
  · rename_i e; exact ⟨find_ok h, e⟩
  · cases h
theorem pds_asgT {te : TE} {g : TG} (hs : PS X st (tAsg te g)) (h1 : ∀ σ H Q, tf X.K f σ H Q → te σ H Q) (h2 : ∀ v σ H Q, tfG X.K gt v σ H Q → g v σ H Q) : PDS X np st (sAsg f gt) := ⟨fun N => PS.imp hs fun D σ H w => by
  obtain ⟨θ, A, B, G, E, S, gw, hf, ok⟩ := w
  refine h1 _ _ _ ⟨θ, A, B, G, _, S, hf, fun θ1 B1 G1 H1 v x g1 S1 hv k1 => ?_⟩
  exact h2 _ _ _ _ ⟨θ1, A, B1, G1, x, _, S1, hv, k1, fun θ2 A2 B2 σ2 G2 H2 g2 S2 k2 => ok.nx θ2 A2 B2 σ2 G2 H2 S2 ((gw.gr g1).gr g2) k2⟩⟩
theorem pds_par3 {i j l : Nat} {fs : FA} (hs : PDA X es fs) (h : ∀ ta, PA X es ta → PS X st (tPar3 i j l ta)) : PDS X np st (sPar3 i j l fs) := ⟨fun N => PS.imp (h _ hs.pa) fun D σ H w => by
  obtain ⟨θ, A, B, G, E, S, gw, hf, ok⟩ := w
  refine ⟨θ, A, B, G, _, S, hf, fun θ1 B1 G1 H1 vs ws g1 S1 hv k1 => ?_⟩
  split at k1
  · obtain ⟨v, u, w, rfl, h1, h2, h3⟩ := avs3 hv
    exact ⟨v, u, w, rfl, ok.nx θ1 _ B1 _ G1 H1 (((S1.set i h1).set j h2).set l h3) (gw.gr g1) k1⟩
  · exact k1.elim⟩
/-- x = [..]: does the store take place in the block -/
def swL (c : Ctx) (x : Str) (px : Pos) (scope : Scope) (pe : Pos) : Bool := c.sc.names.lookup x == some .local && px.line == pe.line && !(scope.names.any fun (n, k) => n == x && (k == .local || k == .cell))
theorem swL_ok {gens : List Comprehension} {l : Nat} (hc : CtxOk X c T) : swapsWith (.ListComp elt gens scope pos) (some (.Name x px)) l X.env = pure (swL c x px scope pos) := by
  have hb : X.env.blockKind = .function := by
    unfold Env.blockKind
    rw [hc.sc, hc.kind]
    rfl
  show (pure (X.env.blockKind == .function && X.env.kindOf x == some .local && px.line == pos.line && !(scope.names.any fun (n, k) => n == x && (k == .local || k == .cell))) : Sem Bool) = _
  rw [hb]
  unfold Env.kindOf swL
  rw [hc.sc]
  rfl
def cSet (p : Cp) (c : Ctx) (x : Str) (px : Pos) (e : Expr) : Option AS := match e with
  | .ListComp elt gens scope pe => if swL c x px scope pe = true then (match gens with
      | [⟨tg, iter, ifs, 0⟩] => (locOf c x).bind fun i => (cLc p c elt tg iter ifs scope).bind fun r => match dictAt c iter with
        | none => some (.asg (.nm i) r)
        | some _ => none
      | _ => none)
    else (stoOf c x).bind fun i => (p.e c e).map (.asg (.nm i))
  | e => gd (!isComp e) ((stoOf c x).bind fun i => (p.e c e).map (.asg (.nm i)))
theorem cSet_ok (hp : CpOk p) (hc : CtxOk X c T) (h : cSet p c x px e = some r) : PDS X np (.Assign [.Name x px] e pos) (wpS T np r) := by
  have nd : X.N.Nodup := by rw [hc.hN]; exact hc.nd
  unfold cSet at h
  split at h
  · rename_i elt gens scope pe
    split at h
    · rename_i hsw
      split at h
      · rename_i tg iter ifs
        obtain ⟨i, hi, h⟩ := bnd h
        obtain ⟨r0, hr, h⟩ := bnd h
        split at h
        · rename_i hd
          cases h
          obtain ⟨s1, s2⟩ := locOf_ok hc hi
          obtain ⟨wi, g, tt, te, own, h1, h2, h3, h4, h5, h6, h7⟩ := lc_parts hp hc hr
          rcases h7 with ⟨⟨_, z⟩, _⟩ | ⟨_, h7⟩
          · rw [hd] at z; cases z
          · exact pds_asgT (ps_setLc hc.calm nd s1 s2 (by rw [swL_ok hc, hsw]) h1 h2 h3 h4 h5 h6) h7 fun v σ H Q w => tfG_raw (.nm i) w
        · cases h
      · cases h
    · rename_i hsw
      obtain ⟨i, hi, h⟩ := bnd h
      obtain ⟨r0, hr, rfl⟩ := mpd h
      obtain ⟨s1, s2, s3⟩ := sto_ok hc hi
      exact pds_asgT (ps_set nd s1 s2 (hp.e hc hr).pe (by rw [swL_ok hc, show swL c x px scope pe = false by simpa using hsw]) s3) (fun σ H Q w => w) fun v σ H Q w => tfG_raw (.nm i) w
  · obtain ⟨g1, h⟩ := gd_of h
    obtain ⟨i, hi, h⟩ := bnd h
    obtain ⟨r0, hr, rfl⟩ := mpd h
    obtain ⟨s1, s2, s3⟩ := sto_ok hc hi
    exact pds_asgT (ps_set nd s1 s2 (hp.e hc hr).pe (swaps_plain (by simpa using g1)) s3) (fun σ H Q w => w) fun v σ H Q w => tfG_raw (.nm i) w
/-! ### a, b = .. -/
def cPar (p : Cp) (c : Ctx) (ts vs : List Expr) : Option AS := match ts, vs with
  | [.Name x _, .Name y _], [a, b] => gd (decide (swF c.sc ts vs = some (some [x, y]))) ((locOf c x).bind fun i => (locOf c y).bind fun j => gd (decide (i ≠ j)) ((cEs p c [a, b]).map (.par i j)))
  | [.Name x _, .Name y _, .Name z _], [a, b, d] => gd (decide (swF c.sc ts vs = some (some [x, y, z]))) ((locOf c x).bind fun i => (locOf c y).bind fun j => (locOf c z).bind fun l => gd (decide (i ≠ j) && decide (i ≠ l) && decide (j ≠ l)) ((cEs p c [a, b, d]).map (.par3 i j l)))
  | _, _ => none
theorem cPar_ok (hp : CpOk p) (hc : CtxOk X c T) (h : cPar p c ts vs = some r) : PDS X np (.Assign [.Tuple ts kt pt] (.Tuple vs k2 ps) pos) (wpS T np r) := by
  have nd : X.N.Nodup := by rw [hc.hN]; exact hc.nd
  unfold cPar at h
  split at h
  · obtain ⟨g1, h⟩ := gd_of h
    obtain ⟨i, hi, h⟩ := bnd h
    obtain ⟨j, hj, h⟩ := bnd h
    obtain ⟨g2, h⟩ := gd_of h
    obtain ⟨as, has, rfl⟩ := mpd h
    obtain ⟨s1, s2⟩ := locOf_ok hc hi
    obtain ⟨s3, s4⟩ := locOf_ok hc hj
    exact pds_par (cEs_ok hp hc has).1 fun ta ha => ps_par hc.calm nd s1 s3 (of_decide_eq_true g2) s2 s4 ha (sw_ok hc.sc hc.kind (of_decide_eq_true g1)) rfl
  · obtain ⟨g1, h⟩ := gd_of h
    obtain ⟨i, hi, h⟩ := bnd h
    obtain ⟨j, hj, h⟩ := bnd h
    obtain ⟨l, hl, h⟩ := bnd h
    obtain ⟨g2, h⟩ := gd_of h
    obtain ⟨as, has, rfl⟩ := mpd h
    simp only [Bool.and_eq_true, decide_eq_true_eq] at g2
    obtain ⟨s1, s2⟩ := locOf_ok hc hi
    obtain ⟨s3, s4⟩ := locOf_ok hc hj
    obtain ⟨s5, s6⟩ := locOf_ok hc hl
    exact pds_par3 (cEs_ok hp hc has).1 fun ta ha => ps_par3 hc.calm nd s1 s3 s5 g2.1.1 g2.1.2 g2.2 s2 s4 s6 ha (sw_ok hc.sc hc.kind (of_decide_eq_true g1)) rfl
  · cases h
theorem sw_other (h : isTupE e = false) : swappedStores [tg] e X.env = pure none := by
  unfold swappedStores
  cases e <;> first | cases h | skip
  all_goals (cases tg <;> rfl)
theorem asg1 (h : notStar tg = true) (env : PySem.Env) : (assignEach [tg] env).map (·.2) = [assign tg env] := by
  rw [asg_cons h]
  rfl
theorem sole {l : Nat} {env : PySem.Env} (h : swapsWith e (some tg) l env = pure false) : swapsWithSole [tg] e l env = pure false := h
def cTupA (p : Cp) (c : Ctx) (ts : List Expr) (kt : Nat) (pt : Pos) (e : Expr) : Option AS := match e with
  | .Tuple vs k2 ps => if swF c.sc ts vs = some none then (cG c 8 (.Tuple ts kt pt)).bind fun g => (p.e c (.Tuple vs k2 ps)).map (.asg g) else cPar p c ts vs
  | e => gd (!isTupE e && !isComp e) ((cG c 8 (.Tuple ts kt pt)).bind fun g => (p.e c e).map (.asg g))
theorem cTupA_ok (hp : CpOk p) (hc : CtxOk X c T) (h : cTupA p c ts kt pt e = some r) : PDS X np (.Assign [.Tuple ts kt pt] e pos) (wpS T np r) := by
  unfold cTupA at h
  split at h
  · split at h
    · rename_i hw
      obtain ⟨g, hg, h⟩ := bnd h
      obtain ⟨r0, hr, rfl⟩ := mpd h
      exact pds_asg (hp.e hc hr) (cG_pdg hc hg) fun ta tg ha ht => ps_asg ha ht rfl (sw_ok hc.sc hc.kind hw) (asg1 rfl X.env)
    · exact cPar_ok hp hc h
  · obtain ⟨g1, h⟩ := gd_of h
    simp only [Bool.and_eq_true, Bool.not_eq_true'] at g1
    obtain ⟨g, hg, h⟩ := bnd h
    obtain ⟨r0, hr, rfl⟩ := mpd h
    exact pds_asg (hp.e hc hr) (cG_pdg hc hg) fun ta tg ha ht => ps_asg ha ht (sole (swaps_plain g1.2)) (sw_other g1.1) (asg1 rfl X.env)
/-- o[i] = e -/
def cPut (p : Cp) (c : Ctx) (o i e : Expr) : Option AS := gd (!isComp e && plainIx i) ((p.e c e).bind fun v => (p.e c o).bind fun x => (p.e c i).bind fun y => some (.put v x y))
theorem asg_sub (h : plainIx i = true) (env : PySem.Env) (v : Value) : assign (.Subscript o i pos) env v = (do let ov ← holding [v] (eval o env); let iv ← holding [v, ov] (eval i env); standAt pos; holding [v, ov, iv] (setItem ov iv v); release [v, ov, iv] []) := by
  cases i <;> first | rfl | cases h
theorem sw_sub : swappedStores [.Subscript o i apos] e X.env = pure none := by
  unfold swappedStores
  cases e <;> rfl
theorem cPut_ok (hp : CpOk p) (hc : CtxOk X c T) (h : cPut p c o i e = some r) : PDS X np (.Assign [.Subscript o i apos] e pos) (wpS T np r) := by
  obtain ⟨g1, h⟩ := gd_of h
  simp only [Bool.and_eq_true, Bool.not_eq_true'] at g1
  obtain ⟨v, hv, h⟩ := bnd h
  obtain ⟨x, hx, h⟩ := bnd h
  obtain ⟨y, hy, h⟩ := bnd h
  cases h
  exact pds_put (hp.e hc hv) (hp.e hc hx) (hp.e hc hy) (by have := hc.un; omega) fun ta to ti ha ho hi hs => ps_asg ha (pg_sub ho hi hs (asg_sub g1.2 X.env)) (sole (swaps_plain g1.1)) sw_sub rfl
def cAsg (p : Cp) (c : Ctx) (tg e : Expr) : Option AS := match tg with
  | .Name x px => cSet p c x px e
  | .Tuple ts kt pt => cTupA p c ts kt pt e
  | .Subscript o i _ => cPut p c o i e
  | _ => none
theorem cAsg_ok (hp : CpOk p) (hc : CtxOk X c T) (h : cAsg p c tg e = some r) : PDS X np (.Assign [tg] e pos) (wpS T np r) := by
  unfold cAsg at h
  split at h
  · exact cSet_ok hp hc h
  · exact cTupA_ok hp hc h
  · exact cPut_ok hp hc h
  · cases h
def cAug (p : Cp) (c : Ctx) (x : Str) (op : Operator) (e : Expr) : Option AS := match op with
  | .Add => (stoOf c x).bind fun i => (p.e c e).map (.aug i true)
  | .Sub => (stoOf c x).bind fun i => (p.e c e).map (.aug i false)
  | _ => none
theorem cAug_ok {op : Operator} (hp : CpOk p) (hc : CtxOk X c T) (h : cAug p c x op e = some r) : PDS X np (.AugAssign (.Name x px) op e pos) (wpS T np r) := by
  have nd : X.N.Nodup := by rw [hc.hN]; exact hc.nd
  unfold cAug at h
  split at h
  · obtain ⟨i, hi, h⟩ := bnd h
    obtain ⟨r0, hr, rfl⟩ := mpd h
    obtain ⟨s1, s2, s3⟩ := sto_ok hc hi
    exact pds_aug (hp.e hc hr) fun ta ha => ps_aug nd s1 s2 ha ip_add s3
  · obtain ⟨i, hi, h⟩ := bnd h
    obtain ⟨r0, hr, rfl⟩ := mpd h
    obtain ⟨s1, s2, s3⟩ := sto_ok hc hi
    exact pds_aug (hp.e hc hr) fun ta ha => ps_aug nd s1 s2 ha ip_sub s3
  · cases h
def isStrC : Expr → Bool
  | .Constant (.str _) _ _ => true
  | _ => false
def cDrop (p : Cp) (c : Ctx) (e : Expr) : Option AS := if isStrC e = true then some .pass else gd (!isComp e) ((p.e c e).map .drop)
theorem cDrop_ok (hp : CpOk p) (hc : CtxOk X c T) (h : cDrop p c e = some r) : PDS X np (.Expr e pos) (wpS T np r) := by
  unfold cDrop at h
  split at h
  · rename_i hs
    cases h
    unfold isStrC at hs
    split at hs
    · exact pds_doc ps_doc
    · cases hs
  · obtain ⟨g1, h⟩ := gd_of h
    obtain ⟨r0, hr, rfl⟩ := mpd h
    exact pds_drop (hp.e hc hr) fun ta ha => ps_expr ha (swaps_plain (by simpa using g1))
/-! ### statements -/
def cL (f : Stmt → Option AS) : List Stmt → Option ASs
  | [] => some .nil
  | s :: ss => (f s).bind fun a => (cL f ss).bind fun as => some (.cons a as)
def stLine : Stmt → Nat
  | .Assign _ _ pos => pos.line
  | .Expr _ pos => pos.line
  | .For _ _ _ _ pos => pos.line
  | .While _ _ _ pos => pos.line
  | .If _ _ _ pos => pos.line
  | .Return _ pos => pos.line
  | .AugAssign _ _ _ pos => pos.line
  | _ => 0
def cS (p : Cp) (c : Ctx) : Nat → Stmt → Option AS
  | 0, _ => none
  | n + 1, st => (match st with
    | .Expr e _ => cDrop p c e
    | .Pass _ => some .pass
    | .Break _ => some .brk
    | .Continue _ => some .cont
    | .Raise _ _ _ => some .never
    | .Return (some e) _ => (p.e c e).map .ret
    | .Return none _ => some .retN
    | .Assign [tg] e _ => cAsg p c tg e
    | .AugAssign (.Name x _) op e _ => cAug p c x op e
    | .If t a b _ => (p.t c t).bind fun t' => (cL (cS p c n) a).bind fun a' => (cL (cS p c n) b).bind fun b' => some (.ife t' a' b')
    | .For tg iter body [] _ => (cI p c tg iter).bind fun i' => (cG c 8 tg).bind fun g' => (cL (cS p c n) body).bind fun b' => some (.for_ i' g' b')
    | .While t body [] _ => (p.t c t).bind fun t' => (cL (cS p c n) body).bind fun b' => some (.while_ t' b')
    | _ => none).bind fun r => some (if stLine st ∈ c.ghost then .sh r else r)
theorem cL_ok {f : Stmt → Option AS} (hf : ∀ {s r}, f s = some r → PDS X np s (wpS T np r)) : ∀ {ss : List Stmt} {r : ASs}, cL f ss = some r → PDSs X np ss (wpSs T np r)
  | [], _, h => by cases h; exact pdss_nil
  | [s], _, h => by
    obtain ⟨a, ha, h⟩ := bnd h
    cases h
    exact pdss_one (hf ha)
  | s :: s2 :: ss, _, h => by
    obtain ⟨a, ha, h⟩ := bnd h
    obtain ⟨as, has, h⟩ := bnd h
    cases h
    have q := cL_ok hf has
    cases as with
    | nil =>
      obtain ⟨_, _, h⟩ := bnd has
      obtain ⟨_, _, h⟩ := bnd h
      cases h
    | cons a2 as => exact pdss_cons (hf ha) q
theorem cS_ok (hp : CpOk p) (hc : CtxOk X c T) (ho : PassesOwn (model X.prog X.w) X.A X.env X.xe) : ∀ {n : Nat} {st : Stmt} {r : AS}, cS p c n st = some r → PDS X np st (wpS T np r)
  | 0, _, _, h => by cases h
  | n + 1, st, r, h => by
    have ih := fun {ss : List Stmt} {r : ASs} (h : cL (cS p c n) ss = some r) => cL_ok (fun {s r} h => cS_ok hp hc ho (n := n) h) h
    obtain ⟨r1, h, h2⟩ := bnd h
    have key : PDS X np st (wpS T np r1) := by
      clear h2
      split at h
      · exact cDrop_ok hp hc h
      · cases h; exact pds_pass
      · cases h; exact pds_break
      · cases h; exact pds_cont
      · cases h; exact pds_never
      · obtain ⟨r0, hr, rfl⟩ := mpd h
        exact pds_ret (hp.e hc hr)
      · cases h; exact pds_retN
      · exact cAsg_ok hp hc h
      · exact cAug_ok hp hc h
      · obtain ⟨t', ht, h⟩ := bnd h
        obtain ⟨a', ha, h⟩ := bnd h
        obtain ⟨b', hb, h⟩ := bnd h
        cases h
        exact pds_if (hp.t hc ht) (ih ha) (ih hb)
      · obtain ⟨i', hi, h⟩ := bnd h
        obtain ⟨g', hg, h⟩ := bnd h
        obtain ⟨b', hb, h⟩ := bnd h
        cases h
        obtain ⟨i1, i2⟩ := cI_ok hp hc hi
        exact pds_for i1 (cG_pdg hc hg) (ih hb) (fun ti tg' tb h1 h2 h3 => ps_for ho hc.calm h1 h2 h3 (noSet_hs i2)) (ih hb).pss
      · obtain ⟨t', ht, h⟩ := bnd h
        obtain ⟨b', hb, h⟩ := bnd h
        cases h
        exact pds_while (hp.t hc ht) (ih hb) fun tt tb h1 h2 => ps_while ho h1 h2
      · cases h
    cases h2
    split
    · exact pds_shift key
    · exact key
end
end Dl

namespace Dl
open L2 PySem PyProof.Rows PySem.Spec
section
variable {P : Program} {w : World} {K : PySem.W.Frag} {mg : Str → Option Value} {base : Heap}
/-- a def stands there and keeps its promise, at the level k -/
structure FnAtG (P : Program) (w : World) (K : PySem.W.Frag) (mg : Str → Option Value) (base : Heap) (k : Nat) (x : Str) (ps : List Str) (pats : List (List Str)) (F : FT) : Prop where
  ex : ∃ f fd, FnOk P w K mg base CX0 k f fd ps (spOf K F) ∧ mg x = some (.ref f) ∧ PySem.W.keepIn K (.ref f) = true ∧ Binds K fd ps [] ∧ ∀ ks ∈ pats, KBinds K fd ps ks (kg ps ks) (kgV ps ks)
/-- what the body finds in its module -/
structure GlOk (P : Program) (w : World) (K : PySem.W.Frag) (mg : Str → Option Value) (base : Heap) (k : Nat) (gl : Str → Option GK) (T : Nat → FT) : Prop where
  fns : ∀ x i ps pats, gl x = some (.fn i ps pats) → FnAtG P w K mg base k x ps pats (T i)
  cst : ∀ x d, gl x = some (.cst d) → ∃ v u, mg x = some u ∧ RelV v u ∧ Dq K (fun _ => none) v d
  kts : ∀ x xs, gl x = some (.kt xs) → ∃ a vs, mg x = some (.ref a) ∧ SqT K (fun _ => none) a vs ∧ DqAll K (fun _ => none) vs xs
  blt : ∀ x, gl x = some .blt → mg x = none
def ctxOf (N : List Str) (st : Stmt) (gl : Str → Option GK) (ghost dl : List Nat) : Ctx := ⟨N, defScope st, fun _ => true, gl, ghost, dl⟩
def compileDef (N : List Str) (st : Stmt) (gl : Str → Option GK) (ghost dl : List Nat) : Option ASs := cL (cS (cp 24) (ctxOf N st gl ghost dl) 24) (defBody st)
def glOf (tab : List (Str × GK)) (x : Str) : Option GK := tab.lookup x
theorem slots_start {G : Hp} {θ : Th} {N : List Str} : ∀ {vs : List V} {ws : List AV}, AVs K G θ vs ws → SlotsOk K G θ (vs.map some ++ List.replicate (N.length - vs.length) none) (ws.map some ++ List.replicate (N.length - ws.length) none) := fun {vs ws} h => by
  have hl := paired_len h
  refine ⟨by simp [hl], fun i w e => ?_⟩
  by_cases hi : i < ws.length
  · rw [List.getElem?_append_left (by simpa using hi), List.getElem?_map, List.getElem?_eq_getElem hi] at e
    rw [List.getElem?_append_left (by simpa [hl] using hi), List.getElem?_map]
    have key : ∀ {vs : List V} {ws : List AV} (i : Nat) (hi : i < ws.length), AVs K G θ vs ws → ∃ v, vs[i]? = some v ∧ AVok K G θ v ws[i] := fun i hi h => by
      induction h generalizing i with
      | nil => simp at hi
      | cons h t ih =>
        cases i with
        | zero => exact ⟨_, rfl, h⟩
        | succ i => simpa using ih i (by simpa using hi)
    obtain ⟨v, h1, h2⟩ := key i hi h
    have ew : ws[i] = w := by simpa using e
    rw [ew] at h2
    exact ⟨v, by rw [h1]; rfl, h2⟩
  · rw [List.getElem?_append_right (by simpa using hi)] at e
    rw [List.getElem?_replicate] at e
    split at e <;> cases e
theorem sub_pick {α : Type} : ∀ {xs : List α} {n j : Nat} {x : α}, n ≤ j → xs[j]? = some x → (xs.take n ++ [x]).Sublist xs
  | [], _, _, _, _, e => by simp at e
  | y :: xs, 0, j, x, _, e => by
    simp only [List.take_zero, List.nil_append]
    exact List.singleton_sublist.mpr (List.mem_of_getElem? e)
  | y :: xs, n + 1, 0, x, h, e => by omega
  | y :: xs, n + 1, j + 1, x, h, e => by
    simp only [List.take_succ_cons, List.cons_append]
    exact (sub_pick (Nat.le_of_succ_le_succ h) (show xs[j]? = some x by simpa using e)).cons_cons y
theorem flat_sub {xs ys : Th} (h : xs.Sublist ys) : xs.flatten.Sublist ys.flatten := by
  induction h with
  | slnil => exact .slnil
  | cons a _ ih => exact ih.trans (by rw [List.flatten_cons]; exact List.sublist_append_right _ _)
  | cons_cons a _ ih => rw [List.flatten_cons, List.flatten_cons]; exact ih.append_left a
theorem ret_back {θ θ1 : Th} {B B1 : Mem} {G G1 H H1 : Hp} {v : V} {u : AV} {kk : Kt} {Q : VK} (m : MemOk K θ B G H)
    (q : ∀ θ' B' G' H' v w, Gr θ θ' G H G' H' → MemOk K θ' B' G' H' → AVok K G' θ' v w → kk w B' → Q v H')
    (m1 : MemOk K θ1 B1 G1 H1) (gw : Gw B.length ⟨θ, G, H⟩ ⟨θ1, G1, H1⟩) (hv : AVok K G1 θ1 v u) (hk : retK B.length kk u B1) : Q v H1 := by
  have hl := m.cells.len
  have hth : θ1.take B.length = θ := by
    have := gw.th
    rw [← hl] at this ⊢
    rw [this, List.take_length]
  have hln : B.length ≤ θ1.length := gw.ln
  cases u with
  | d x =>
    obtain ⟨mc, _⟩ := mem_cut (np := 0) (n := B.length) m1
    rw [hth] at mc
    refine q θ _ G1 H1 v _ ⟨gw.gx, List.prefix_refl _, gw.keep, fun a h => .inl h, gw.gnew⟩ mc ?_ hk
    cases hv with
    | d h => exact .d h
  | kt x => exact hk.elim
  | sc x => exact hk.elim
  | r j i => exact hk.elim
  | m j =>
    obtain ⟨hj, c, hb, hng, h⟩ := hk
    cases hv with
    | @m _ a as h1 =>
    obtain ⟨c', hb', hc⟩ := m1.cells.get h1
    rw [hb] at hb'
    cases hb'
    rcases h with ⟨x, hx, h⟩ | h
    · obtain ⟨m2, g2⟩ := mem_frz (np := B.length) m1 h1
      obtain ⟨mc, _⟩ := mem_cut (np := 0) (n := B.length) m2
      have gw2 := gw.trans (g2 hj hln)
      rw [List.take_set_of_le hj, List.take_set_of_le hj, hth] at mc
      obtain ⟨a', rs, e1, e2⟩ := frz_dq (fun b hb => m1.free b (List.mem_flatten.mpr ⟨_, List.mem_of_getElem? h1, hb⟩)) hc hx
      cases e1
      exact q θ _ _ H1 _ _ ⟨gw2.gx, List.prefix_refl _, gw2.keep, fun a h => .inl h, gw2.gnew⟩ mc (.d e2) h
    · have sub : (θ ++ [a :: as]).Sublist θ1 := by
        have := sub_pick hj h1
        rw [hth] at this
        exact this
      have cells : CellsOk K G1 H1 (θ ++ [a :: as]) (B1.take B.length ++ [c]) := by
        have := m1.cells.take B.length
        rw [hth] at this
        exact this.append (.cons hc .nil)
      refine q (θ ++ [a :: as]) _ G1 H1 _ _ ⟨gw.gx, List.prefix_append _ _, gw.keep, fun b hb => gw.new b ((flat_sub sub).subset hb), gw.gnew⟩ ⟨m1.ex, cells, (flat_sub sub).nodup m1.nd, fun b hb => m1.free b ((flat_sub sub).subset hb)⟩ (.m (as := as) ?_) h
      rw [← hl, List.getElem?_append_right (Nat.le_refl _), Nat.sub_self]
      rfl
/-- THE RULE for a def whose body is told in the small syntax -/
theorem def_ok {x qual : Str} {st : Stmt} {f : Addr} {fd : FuncData} {N ps : List Str} {k : Nat} {gl : Str → Option GK} {ghost dl : List Nat} {T : Nat → FT} {F : FT} {as : ASs} (Fu : Fun K x qual st f fd) (S : FnScope N ps (defScope st)) (hg : GlOk P w K mg base k gl T)
    (hcomp : compileDef N st gl ghost dl = some as) (hlen : ∀ ws B k, F ws B k → ws.length = ps.length)
    (hwp : ∀ ws B k, F ws B k → wpSs T B.length as { nx := fun _ B' => retK B.length k (.d .none) B', rt := retK B.length k, bk := fun _ _ => False, ct := fun _ _ => False } (ws.map some ++ List.replicate (N.length - ws.length) none) B) : FnOk P w K mg base CX0 (k + 1) f fd ps (spOf K F) := by
  refine Fu.ok (N := N) S (fun vs H Q E h => ?_) (fun cdv A outer s H vs Q E hr h => ?_)
  · obtain ⟨θ, G, B, ws, kk, m, hv, hf, q⟩ := h
    rw [paired_len hv]
    exact hlen ws B kk hf
  · obtain ⟨θ, G, B, ws, kk, m, hv, hf, q⟩ := h
    have cx : CtxOk (cxOf CX0 P w K mg base N qual (defScope st) f cdv A outer s H E).nox (ctxOf N st gl ghost dl) T := by
      refine ⟨rfl, S.nd, rfl, S.kind, fun _ _ => rfl, rfl, by have := hr.un; show (A.deeper _).units + 65 < _; omega, fun y i ps' pats e => ?_, hg.cst, hg.kts, hg.blt⟩
      obtain ⟨f', fd', a1, a2, a3, a4, a5⟩ := (hg.fns y i ps' pats e).ex
      exact ⟨f', fd', k, a1, hr, a2, a3, a4, a5⟩
    have body := (cL_ok (np := B.length) (fun {s r} h => cS_ok (cp_ok 24) cx PassesOwn.never h) hcomp).pss ⟨θ, G, H⟩
    refine ⟨_, body, θ, _, B, G, _, ⟨m, slots_start (N := N) hv⟩, Gw.refl (by rw [m.cells.len]; exact Nat.le_refl _), hwp ws B kk hf, ?_⟩
    have back : ∀ θ1 B1 G1 H1 v u, MemOk K θ1 B1 G1 H1 → Gw B.length ⟨θ, G, H⟩ ⟨θ1, G1, H1⟩ → AVok K G1 θ1 v u → retK B.length kk u B1 → Q v H1 := fun θ1 B1 G1 H1 v u m1 gw hv1 hk => ret_back m q m1 gw hv1 hk
    exact ⟨fun θ1 A1 B1 σ1 G1 H1 S1 gw h => back θ1 B1 G1 H1 .non _ S1.mem gw (.d .non) h, back, fun _ _ _ _ _ _ _ _ h => h.elim, fun _ _ _ _ _ _ _ _ h => h.elim⟩
end
end Dl

namespace Dl
open L2 PySem PyProof.Rows PySem.Spec
theorem sh0 {np : Nat} {P : Env → Mem → Prop} {A : Env} {B : Mem} (h : P A B) : shiftTo np P A B := ⟨A, B, .refl, h⟩
/-- a cell frozen first -/
theorem shF {np : Nat} {P : Env → Mem → Prop} {A : Env} {B : Mem} (j : Nat) {c : MC} {x : PyData} (h1 : np ≤ j) (h2 : B[j]? = some c) (h3 : frzC c = some x) (h : shiftTo np P (A.map (subF j x)) (B.set j .gone)) : shiftTo np P A B := by
  obtain ⟨A', B', s, q⟩ := h
  exact ⟨A', B', .frz j h1 h2 h3 s, q⟩
theorem shC {np : Nat} {P : Env → Mem → Prop} {A : Env} {B : Mem} (n : Nat) (h1 : np ≤ n) (h : shiftTo np P (A.map (hideF n)) (B.take n)) : shiftTo np P A B := by
  obtain ⟨A', B', s, q⟩ := h
  exact ⟨A', B', .cut n h1 s, q⟩
theorem shH {np : Nat} {P : Env → Mem → Prop} {A : Env} {B : Mem} (i : Nat) (h : shiftTo np P (A.set i none) B) : shiftTo np P A B := by
  obtain ⟨A', B', s, q⟩ := h
  exact ⟨A', B', .hide i s, q⟩
/-! isinstance -/
theorem isi_int (d : PyData) : dIsi [.int] d = match d with | .int _ => true | .bool _ => true | _ => false := by cases d <;> simp [dIsi, isSub, tyD, nameTN]
theorem isi_bool (d : PyData) : dIsi [.bool] d = match d with | .bool _ => true | _ => false := by cases d <;> simp [dIsi, isSub, tyD, nameTN]
theorem isi_str (d : PyData) : dIsi [.str] d = match d with | .str _ => true | _ => false := by cases d <;> simp [dIsi, isSub, tyD, nameTN]
theorem isi_list (d : PyData) : dIsi [.list] d = match d with | .list _ => true | _ => false := by cases d <;> simp [dIsi, isSub, tyD, nameTN]
theorem isi_tuple (d : PyData) : dIsi [.tuple] d = match d with | .tuple _ => true | _ => false := by cases d <;> simp [dIsi, isSub, tyD, nameTN]
theorem isi_lt (d : PyData) : dIsi [.list, .tuple] d = match d with | .list _ => true | .tuple _ => true | _ => false := by cases d <;> simp [dIsi, isSub, tyD, nameTN]
theorem isi_is (d : PyData) : dIsi [.int, .str] d = match d with | .int _ => true | .bool _ => true | .str _ => true | _ => false := by cases d <;> simp [dIsi, isSub, tyD, nameTN]
/-- the last of a list -/
theorem dIx_last (xs : List PyData) (x : PyData) (k : Kr) : dIx (.list (xs ++ [x])) (.int (-1)) k = k (.v x) := by
  simp only [dIx, atI_last, Option.some.injEq, exists_eq_left']
theorem dIx_0t (x : PyData) (xs : List PyData) (k : Kr) : dIx (.tuple (x :: xs)) (.int 0) k = k (.v x) := by
  have : atI (x :: xs) (0 : Int) = some x := atI_nat (j := 0) rfl
  simp only [dIx, this, Option.some.injEq, exists_eq_left']
theorem dIx_1t (x y : PyData) (xs : List PyData) (k : Kr) : dIx (.tuple (x :: y :: xs)) (.int 1) k = k (.v y) := by
  have : atI (x :: y :: xs) (1 : Int) = some y := atI_nat (j := 1) rfl
  simp only [dIx, this, Option.some.injEq, exists_eq_left']
theorem dIx_0l (x : PyData) (xs : List PyData) (k : Kr) : dIx (.list (x :: xs)) (.int 0) k = k (.v x) := by
  have : atI (x :: xs) (0 : Int) = some x := atI_nat (j := 0) rfl
  simp only [dIx, this, Option.some.injEq, exists_eq_left']
theorem dIx_1l (x y : PyData) (xs : List PyData) (k : Kr) : dIx (.list (x :: y :: xs)) (.int 1) k = k (.v y) := by
  have : atI (x :: y :: xs) (1 : Int) = some y := atI_nat (j := 1) rfl
  simp only [dIx, this, Option.some.injEq, exists_eq_left']
theorem dIx_2l (x y z : PyData) (xs : List PyData) (k : Kr) : dIx (.list (x :: y :: z :: xs)) (.int 2) k = k (.v z) := by
  have : atI (x :: y :: z :: xs) (2 : Int) = some z := atI_nat (j := 2) rfl
  simp only [dIx, this, Option.some.injEq, exists_eq_left']
theorem ixN_lastN (n : Nat) : ixN (n + 1) (-1) = some n := by
  unfold ixN
  rw [if_neg (by decide), if_pos (by omega)]
  congr 1
  omega
theorem set_last {α : Type} (xs : List α) (x y : α) : (xs ++ [x]).set xs.length y = xs ++ [y] := by
  rw [List.set_append_right _ _ (Nat.le_refl _), Nat.sub_self]
  rfl
/-! data -/
def intsD' (ns : List Int) : List PyData := ns.map .int
def prs (L : List (Int × Int)) : List PyData := L.map fun p => .tuple [.int p.1, .int p.2]
theorem prs_app (L M : List (Int × Int)) : prs (L ++ M) = prs L ++ prs M := List.map_append
theorem prs_one (a b : Int) : prs [(a, b)] = [.tuple [.int a, .int b]] := rfl
theorem prs_len (L : List (Int × Int)) : (prs L).length = L.length := List.length_map _
theorem prs_get {L : List (Int × Int)} {i : Nat} {x : PyData} (h : (prs L)[i]? = some x) : ∃ a b, L[i]? = some (a, b) ∧ x = .tuple [.int a, .int b] := by
  unfold prs at h
  rw [List.getElem?_map] at h
  cases q : L[i]? with
  | none => rw [q] at h; cases h
  | some p =>
    rw [q] at h
    cases h
    exact ⟨p.1, p.2, rfl, rfl⟩
theorem ints_get {ns : List Int} {i : Nat} {x : PyData} (h : (ns.map PyData.int)[i]? = some x) : ∃ n, ns[i]? = some n ∧ x = .int n := by
  rw [List.getElem?_map] at h
  cases q : ns[i]? with
  | none => rw [q] at h; cases h
  | some p =>
    rw [q] at h
    cases h
    exact ⟨p, rfl, rfl⟩
theorem take_succ {α : Type} {xs : List α} {i : Nat} {x : α} (h : xs[i]? = some x) : xs.take (i + 1) = xs.take i ++ [x] := by
  rw [List.take_add_one, h]
  rfl
/-- a fold, one item more -/
theorem foldl_step {α β : Type} {g : β → α → β} {b : β} {xs : List α} {i : Nat} {x : α} (h : xs[i]? = some x) : (xs.take (i + 1)).foldl g b = g ((xs.take i).foldl g b) x := by
  rw [take_succ h, List.foldl_append]
  rfl
theorem sz {n : Nat} (h : n ≤ 1000000) : n ≤ sizeLine := Nat.le_trans h (by decide)
theorem sz' {n : Nat} (h : n ≤ 1000000) : n < sizeLine := Nat.lt_of_le_of_lt h (by decide)
theorem cut_1 (xs : List PyData) : Dl.cutD xs (some 1) none = xs.drop 1 := by
  unfold Dl.cutD
  rw [show HT.sIx xs.length 0 (some 1) = min 1 xs.length from HT.sIx_nat _ 0 1, HT.sIx_none]
  cases xs with
  | nil => rfl
  | cons x r =>
    rw [show min 1 (x :: r).length = 1 by rw [List.length_cons]; omega]
    show (List.take ((x :: r).length - 1) r) = r
    rw [List.length_cons, Nat.add_sub_cancel]
    exact List.take_length
/-- xs[:n] -/
theorem cut_to (xs : List PyData) (n : Nat) : Dl.cutD xs none (some (n : Int)) = xs.take n := by
  unfold Dl.cutD
  rw [HT.sIx_none, show HT.sIx xs.length xs.length (some (n : Int)) = min n xs.length from HT.sIx_nat xs.length xs.length n]
  rw [List.drop_zero, Nat.sub_zero]
  by_cases h : n ≤ xs.length
  · rw [Nat.min_eq_left h]
  · rw [Nat.min_eq_right (by omega), List.take_length, List.take_of_length_le (by omega)]
theorem bT {b : Bool} {P Q : Prop} (h : b = true) (p : P) : (b = true → P) ∧ (b = false → Q) := ⟨fun _ => p, fun e => absurd (h.symm.trans e) (by decide)⟩
theorem bF {b : Bool} {P Q : Prop} (h : b = false) (q : Q) : (b = true → P) ∧ (b = false → Q) := ⟨fun e => absurd (h.symm.trans e) (by decide), fun _ => q⟩
theorem dT {p : Prop} [Decidable p] {P Q : Prop} (h : p) (a : P) : (decide p = true → P) ∧ (decide p = false → Q) := bT (decide_eq_true h) a
theorem dF {p : Prop} [Decidable p] {P Q : Prop} (h : ¬ p) (a : Q) : (decide p = true → P) ∧ (decide p = false → Q) := bF (decide_eq_false h) a
theorem neT {α : Type} {xs : List α} {x : α} : (!(xs ++ [x]).isEmpty) = true := by cases xs <;> rfl
end Dl

namespace Dl
open L2 PySem PyProof.Rows PySem.Spec
def lexLe (p q : Int × Int) : Bool := decide (p.1 < q.1 ∨ (p.1 = q.1 ∧ p.2 ≤ q.2))
theorem sort_ints (ns : List Int) : (ns.map PyData.int).mergeSort (PySem.W.dataLe false id) = (ns.mergeSort fun a b => decide (a ≤ b)).map .int := by
  refine (List.map_mergeSort (r := fun a b => decide (a ≤ b)) fun a _ b _ => ?_).symm
  have := congrFun (congrFun (PySem.W.dataLe_int (β := Int) id) a) b
  exact this.symm
theorem sort_prs (L : List (Int × Int)) : (prs L).mergeSort (PySem.W.dataLe false id) = prs (L.mergeSort lexLe) := by
  refine (List.map_mergeSort (r := lexLe) fun a _ b _ => ?_).symm
  have := congrFun (congrFun (PySem.W.dataLe_ii (β := Int × Int) (·.1) (·.2)) a) b
  exact this.symm
theorem sorted_ints {ns : List Int} {k : Kr} (h : ns.length ≤ sizeLine) (hk : k (.l ((ns.mergeSort fun a b => decide (a ≤ b)).map .int))) : dSorted (.list (ns.map .int)) k := by
  refine ⟨?_, .inr ?_, by rw [List.length_map]; exact h, ?_, by rw [sort_ints]; exact hk⟩
  · intro d hd d' hd'
    obtain ⟨a, _, rfl⟩ := List.mem_map.mp hd
    obtain ⟨b, _, rfl⟩ := List.mem_map.mp hd'
    rfl
  · intro d hd
    obtain ⟨a, _, rfl⟩ := List.mem_map.mp hd
    exact ⟨(fun z => by cases z), (fun xs z => by cases z)⟩
  · intro d hd
    obtain ⟨a, _, rfl⟩ := List.mem_map.mp hd
    exact Nat.zero_le _
theorem sorted_prs {L : List (Int × Int)} {k : Kr} (h : L.length ≤ sizeLine) (hk : k (.l (prs (L.mergeSort lexLe)))) : dSorted (.list (prs L)) k := by
  refine ⟨?_, .inl ?_, by rw [prs_len]; exact h, ?_, by rw [sort_prs]; exact hk⟩
  · intro d hd d' hd'
    obtain ⟨a, _, rfl⟩ := List.mem_map.mp hd
    obtain ⟨b, _, rfl⟩ := List.mem_map.mp hd'
    rfl
  · intro d hd
    obtain ⟨a, _, rfl⟩ := List.mem_map.mp hd
    exact ⟨_, _, rfl⟩
  · intro d hd
    obtain ⟨a, _, rfl⟩ := List.mem_map.mp hd
    show max 0 (max 0 0) + 1 ≤ 60
    omega
theorem lay_ints : ∀ ns : List Int, PyData.canLayAll0 (ns.map .int) = true
  | [] => rfl
  | n :: ns => by
    show (PyData.canLay0 (.int n) && PyData.canLayAll0 (ns.map .int)) = true
    rw [lay_ints ns]
    rfl
theorem lay_prs : ∀ L : List (Int × Int), PyData.canLayAll0 (prs L) = true
  | [] => rfl
  | n :: ns => by
    show (PyData.canLay0 (.tuple [.int n.1, .int n.2]) && PyData.canLayAll0 (prs ns)) = true
    rw [lay_prs ns]
    rfl
theorem dep_ints : ∀ ns : List Int, PyData.depthAll (ns.map .int) = 0
  | [] => rfl
  | n :: ns => by
    show max 0 (PyData.depthAll (ns.map .int)) = 0
    rw [dep_ints ns]
    rfl
theorem dep_prs : ∀ L : List (Int × Int), PyData.depthAll (prs L) ≤ 1
  | [] => Nat.zero_le _
  | n :: ns => by
    show max (max 0 (max 0 0) + 1) (PyData.depthAll (prs ns)) ≤ 1
    have := dep_prs ns
    omega
theorem lay_app : ∀ xs ys : List PyData, PyData.canLayAll0 (xs ++ ys) = (PyData.canLayAll0 xs && PyData.canLayAll0 ys)
  | [], ys => by simp [PyData.canLayAll0]
  | x :: xs, ys => by
    show (PyData.canLay0 x && PyData.canLayAll0 (xs ++ ys)) = _
    rw [lay_app xs ys, ← Bool.and_assoc]
    rfl
theorem dep_app : ∀ xs ys : List PyData, PyData.depthAll (xs ++ ys) = max (PyData.depthAll xs) (PyData.depthAll ys)
  | [], ys => by simp [PyData.depthAll]
  | x :: xs, ys => by
    show max (PyData.depth x) (PyData.depthAll (xs ++ ys)) = max (max (PyData.depth x) (PyData.depthAll xs)) (PyData.depthAll ys)
    rw [dep_app xs ys]
    omega
theorem shaped_list {xs : List PyData} (h1 : PyData.canLayAll0 xs = true) (h2 : PyData.depthAll xs ≤ 63) : SeqAt.shaped (.list xs) = true := by
  show (PyData.canLayAll0 xs && decide (PyData.depthAll xs + 1 ≤ 64)) = true
  rw [h1, decide_eq_true (by omega)]
  rfl
theorem shaped_tuple {xs : List PyData} (h1 : PyData.canLayAll0 xs = true) (h2 : PyData.depthAll xs ≤ 63) : SeqAt.shaped (.tuple xs) = true := by
  show (PyData.canLayAll0 xs && decide (PyData.depthAll xs + 1 ≤ 64)) = true
  rw [h1, decide_eq_true (by omega)]
  rfl
theorem eqv_nil (xs : List PyData) : PyData.eqv (.list xs) (.list []) = xs.isEmpty := by
  cases xs <;> rfl
theorem eqvt_nil (xs : List PyData) : PyData.eqv (.tuple xs) (.tuple []) = xs.isEmpty := by
  cases xs <;> rfl
/-! targets -/
theorem tgt2 {i j : Nat} {d1 d2 : PyData} {A : Env} {B : Mem} {Q : Env → Mem → Prop} (h : Q ((A.set i (some (.d d1))).set j (some (.d d2))) B) : Dl.wpG (.tp (.cons (.nm i) (.cons (.nm j) .nil))) (.d (.tuple [d1, d2])) A B Q := ⟨rfl, rfl, _, _, rfl, _, _, rfl, rfl, h⟩
theorem tgt22 {i j l m : Nat} {d1 d2 d3 d4 : PyData} {A : Env} {B : Mem} {Q : Env → Mem → Prop} (h : Q ((((A.set i (some (.d d1))).set j (some (.d d2))).set l (some (.d d3))).set m (some (.d d4))) B) :
    Dl.wpG (.tp (.cons (.tp (.cons (.nm i) (.cons (.nm j) .nil))) (.cons (.tp (.cons (.nm l) (.cons (.nm m) .nil))) .nil))) (.d (.tuple [.tuple [d1, d2], .tuple [d3, d4]])) A B Q :=
  ⟨rfl, rfl, _, _, rfl, tgt2 ⟨_, _, rfl, tgt2 ⟨rfl, h⟩⟩⟩
/-! a dict of ints -/
def dk (d : List (Int × Int)) : List (L2.Key × PyData) := d.map fun p => (Sum.inl p.1, .int p.2)
def getI (d : List (Int × Int)) (k : Int) : Int := ((d.find? fun p => decide (p.1 = k)).map (·.2)).getD 0
def putI (d : List (Int × Int)) (k v : Int) : List (Int × Int) := if (d.any fun p => decide (p.1 = k)) = true then d.map (fun p => if p.1 = k then (p.1, v) else p) else d ++ [(k, v)]
theorem dk_look (d : List (Int × Int)) (k : Int) : lookK (dk d) (Sum.inl k) = (d.find? fun p => decide (p.1 = k)).map fun p => .int p.2 := by
  unfold lookK dk
  induction d with
  | nil => rfl
  | cons p d ih =>
    rw [List.map_cons, List.find?_cons, List.find?_cons]
    by_cases h : p.1 = k
    · simp [h]
    · simp only [h, Sum.inl.injEq, decide_false]
      exact ih
theorem dk_put (d : List (Int × Int)) (k v : Int) : putD (dk d) (Sum.inl k) (.int v) = dk (putI d k v) := by
  unfold putD putI
  have h : ((dk d).any fun kv => decide (kv.1 = Sum.inl k)) = d.any fun p => decide (p.1 = k) := by
    unfold dk
    rw [List.any_map]
    congr 1
    funext p
    simp
  rw [h]
  split
  · unfold dk
    rw [List.map_map, List.map_map]
    refine List.map_congr_left fun p _ => ?_
    by_cases e : p.1 = k <;> simp [e]
  · simp [dk]
theorem dk_keys (d : List (Int × Int)) : (dk d).map (·.1) = (d.map (·.1)).map Sum.inl := by
  simp [dk]
theorem dk_len (d : List (Int × Int)) : (dk d).length = d.length := by simp [dk]
theorem putI_len (d : List (Int × Int)) (k v : Int) : (putI d k v).length ≤ d.length + 1 := by
  unfold putI
  split <;> simp
theorem get_dk {B : Mem} {j : Nat} {d : List (Int × Int)} {q : Int} {k : Kt} (hb : B[j]? = some (.dK (dk d))) (h : k (.d (.int (getI d q))) B) : ∃ c, dictOf B (.m j) = some c ∧ Dl.wK (.d (.int q)) fun dd => dlook c dd fun r => selK r (.d (.int 0)) k B := by
  refine ⟨.k (dk d), by simp only [dictOf, hb], _, rfl, ?_⟩
  rw [dk_look]
  unfold getI at h
  cases z : d.find? fun p => decide (p.1 = q) with
  | none => rw [z] at h; exact h
  | some p => rw [z] at h; exact h
theorem look_in {d : List (Int × Int)} {q : Int} (hq : q ∈ d.map (·.1)) : lookK (dk d) (Sum.inl q) = some (.int (getI d q)) := by
  rw [dk_look]
  unfold getI
  cases z : d.find? fun p => decide (p.1 = q) with
  | none =>
    obtain ⟨p, hp, e⟩ := List.mem_map.mp hq
    have := List.find?_eq_none.mp z p hp
    simp [e] at this
  | some p => rfl
theorem put_dk {B : Mem} {j : Nat} {d : List (Int × Int)} {q v : Int} {k : Mem → Prop} (hl : d.length < 1000000) (h : k (B.set j (.dK (dk (putI d q v))))) : ∃ key, keyD (.int q) = some key ∧ (dk d).length < sizeLine ∧ k (B.set j (.dK (putD (dk d) key (.int v)))) :=
  ⟨_, rfl, by rw [dk_len]; exact sz' (by omega), by rw [dk_put]; exact h⟩
/-! a dict of marks -/
def bk (ms : List Int) : List (L2.Key × PyData) := ms.map fun m => (Sum.inl m, .bool true)
def insM (ms : List Int) (m : Int) : List Int := if m ∈ ms then ms else ms ++ [m]
theorem bk_put (ms : List Int) (m : Int) : putD (bk ms) (Sum.inl m) (.bool true) = bk (insM ms m) := by
  unfold putD insM
  have h : ((bk ms).any fun kv => decide (kv.1 = Sum.inl m)) = decide (m ∈ ms) := by
    unfold bk
    rw [List.any_map, Bool.eq_iff_iff]
    simp
  rw [h]
  by_cases e : m ∈ ms
  · rw [if_pos (by simpa using e), if_pos e]
    unfold bk
    rw [List.map_map]
    refine List.map_congr_left fun p _ => ?_
    by_cases q : p = m <;> simp [q]
  · rw [if_neg (by simpa using e), if_neg e]
    simp [bk]
theorem bk_keys (ms : List Int) : ((bk ms).map fun p => keyPy p.1) = ms.map PyData.int := by
  simp [bk, keyPy]
theorem bk_len (ms : List Int) : (bk ms).length = ms.length := by simp [bk]
theorem insM_nd {ms : List Int} {m : Int} (h : ms.Nodup) : (insM ms m).Nodup := by
  unfold insM
  split
  · exact h
  · rename_i e
    rw [List.nodup_append]
    refine ⟨h, by simp, fun a ha b hb z => ?_⟩
    simp at hb
    subst hb
    subst z
    exact e ha
theorem insM_mem {ms : List Int} {m x : Int} (h : x ∈ insM ms m) : x ∈ ms ∨ x = m := by
  unfold insM at h
  split at h
  · exact .inl h
  · simpa using h
theorem insM_len (ms : List Int) (m : Int) : (insM ms m).length ≤ ms.length + 1 := by
  unfold insM
  split <;> simp
theorem put_bk {B : Mem} {j : Nat} {ms : List Int} {m : Int} {k : Mem → Prop} (hl : ms.length < 1000000) (h : k (B.set j (.dK (bk (insM ms m))))) : ∃ key, keyD (.int m) = some key ∧ (bk ms).length < sizeLine ∧ k (B.set j (.dK (putD (bk ms) key (.bool true)))) :=
  ⟨_, rfl, by rw [bk_len]; exact sz' (by omega), by rw [bk_put]; exact h⟩
/-- the keys walked -/
theorem mem_lit {L : List Int} {x : PyData} (h : x ∈ L.map PyData.int) : ∃ i, i ∈ L ∧ x = .int i := by
  obtain ⟨i, h1, h2⟩ := List.mem_map.mp h
  exact ⟨i, h1, h2.symm⟩
theorem sort_le (ms : List Int) : (ms.mergeSort fun a b => decide (a ≤ b)).Pairwise fun a b => a ≤ b := by
  have := List.pairwise_mergeSort (le := fun a b : Int => decide (a ≤ b)) (fun a b c h1 h2 => by simp at *; omega) (fun a b => by simp; omega) ms
  exact this.imp fun h => by simpa using h
theorem sort_nd {ms : List Int} (h : ms.Nodup) : (ms.mergeSort fun a b => decide (a ≤ b)).Nodup := (List.mergeSort_perm ms _).nodup_iff.mpr h
theorem rangeD0_get {n i : Nat} {d : PyData} (h : (rangeD 0 n)[i]? = some d) : i < n ∧ d = .int (i : Int) := by
  obtain ⟨h1, h2⟩ := rangeD_get h
  exact ⟨h1, by rw [h2]; simp⟩
end Dl

namespace Dl
open L2 PySem PyProof.Rows PySem.Spec
section
variable {P : Program} {w : World} {K : PySem.W.Frag} {mg : Str → Option Value} {base : Heap} {k : Nat} {T : Nat → FT}
def Good (P : Program) (w : World) (K : PySem.W.Frag) (mg : Str → Option Value) (base : Heap) (k : Nat) (T : Nat → FT) (x : Str) : GK → Prop
  | .fn i ps pats => FnAtG P w K mg base k x ps pats (T i)
  | .cst d => ∃ v u, mg x = some u ∧ RelV v u ∧ Dq K (fun _ => none) v d
  | .kt xs => ∃ a vs, mg x = some (.ref a) ∧ SqT K (fun _ => none) a vs ∧ DqAll K (fun _ => none) vs xs
  | .blt => mg x = none
def GoodAll (P : Program) (w : World) (K : PySem.W.Frag) (mg : Str → Option Value) (base : Heap) (k : Nat) (T : Nat → FT) : List (Str × GK) → Prop
  | [] => True
  | p :: r => Good P w K mg base k T p.1 p.2 ∧ GoodAll P w K mg base k T r
theorem good_of : ∀ {tab : List (Str × GK)} {x : Str} {g : GK}, GoodAll P w K mg base k T tab → glOf tab x = some g → Good P w K mg base k T x g
  | [], _, _, _, e => by cases e
  | (y, h) :: r, x, g, ⟨h1, h2⟩, e => by
    unfold glOf at e
    rw [List.lookup_cons] at e
    split at e
    · rename_i q
      cases e
      have : x = y := by simpa using q
      subst this
      exact h1
    · exact good_of h2 e
theorem glOk {tab : List (Str × GK)} (h : GoodAll P w K mg base k T tab) : GlOk P w K mg base k (glOf tab) T :=
  ⟨fun x i ps pats e => good_of h e, fun x d e => good_of h e, fun x xs e => good_of h e, fun x e => good_of h e⟩
theorem Fun.kbinds {x qual : Str} {st : Stmt} {f : Addr} {fd : FuncData} {ps ks : List Str} (F : Fun K x qual st f fd) (hp : ps ≠ [])
    (h : ∀ (kV doc pm : Value) (an : Option Addr) (cdv ct : Value) (ws : List Value), ws.length = ks.length → bindArgs (PySem.W.fnOf x qual (defArgs st) (defBody st) (defScope st) .none kV doc pm an cdv ct) ⟨[], ks.zip ws⟩ = pure (ps.zip ((kidx ps ks).map fun i => ws.getD i .none))) : KBinds K fd ps ks (kg ps ks) (kgV ps ks) := by
  obtain ⟨oc, od, kV, doc, pm, an, cdv, ct, osl, rfl, lk, hcd⟩ := F.ex
  exact kbinds_of hp (h kV doc pm an cdv ct)
theorem at_mk {x qual : Str} {st : Stmt} {f : Addr} {fd : FuncData} {ps : List Str} {pats : List (List Str)} {F : FT} {j : Nat} (Fu : Fun K x qual st f fd) (h : FnOk P w K mg base CX0 j f fd ps (spOf K F)) (hj : j ≤ k) {y : Str} (hm : mg y = some (.ref f)) (hb : Binds K fd ps []) (hk : ∀ ks ∈ pats, KBinds K fd ps ks (kg ps ks) (kgV ps ks)) : FnAtG P w K mg base k y ps pats F :=
  ⟨f, fd, h.mono hj, hm, Fu.kp, hb, hk⟩
theorem no_pats {fd : FuncData} {ps : List Str} : ∀ ks ∈ ([] : List (List Str)), KBinds K fd ps ks (kg ps ks) (kgV ps ks) := fun _ h => by cases h
theorem int_cst {x : Str} {i : Int} {t : Tok} (h : mg x = some (.int i t)) : ∃ v u, mg x = some u ∧ RelV v u ∧ Dq K (fun _ => none) v (.int i) := ⟨.int i, _, h, ⟨t, rfl⟩, .int i⟩
theorem int_cst2 {x : Str} {i : Int} {u : Value} (h : mg x = some u ∧ RelV (.int i) u) : ∃ v u, mg x = some u ∧ RelV v u ∧ Dq K (fun _ => none) v (.int i) := ⟨.int i, u, h.1, h.2, .int i⟩
/-- the law's script -/
theorem sc_sp {F : FT} {vs : List V} {H : Hp} {Q : VK} {E : XK} {a : Addr} {ns : List Int} (hv : vs = [.ref a]) (ho : ∀ b, H b = none ∨ ∃ o xs, H b = some (.frz o (.lst xs))) (hs : SqL K H a (ns.map V.int)) (hf : ∀ k : Kt, (∀ w B, k w B → w = .d (.bool true)) → k (.d (.bool true)) [] → F [.sc ns] [] k) (hq : ∀ H', Q (.bl true) H') : spOf K F vs H Q E := by
  subst hv
  refine ⟨[], H, [], [.sc ns], fun w B => w = .d (.bool true), ⟨Ext.refl H, .nil, by simp, fun a ha => by simp at ha⟩, .cons (.sc hs) .nil, hf _ (fun w B h => h) rfl, fun θ' B' G' H' v w g m hv hw => ?_⟩
  subst hw
  cases hv with
  | d h => cases h; exact hq H'
end
end Dl

namespace K60
open PySem Dl
/-! the numbers alone -/
def spanStep (sl e : Int) (acc : List (Int × Int)) (o : Int) : List (Int × Int) :=
  match acc.getLast? with
  | some p => if o - e - sl ≤ p.2 + 1 then acc.dropLast ++ [(p.1, o - e + sl)] else acc ++ [(o - e - sl, o - e + sl)]
  | none => acc ++ [(o - e - sl, o - e + sl)]
def spansOf (e : Int) (ns : List Int) (sl : Int) : List (Int × Int) := ns.foldl (spanStep sl e) []
theorem spanStep_nil (sl e o : Int) : spanStep sl e [] o = [(o - e - sl, o - e + sl)] := rfl
theorem spanStep_snoc (sl e o : Int) (acc : List (Int × Int)) (p : Int × Int) : spanStep sl e (acc ++ [p]) o = if o - e - sl ≤ p.2 + 1 then acc ++ [(p.1, o - e + sl)] else acc ++ [p] ++ [(o - e - sl, o - e + sl)] := by
  unfold spanStep
  rw [List.getLast?_append, List.getLast?_singleton]
  simp
theorem snoc_cases {α : Type} (xs : List α) : xs = [] ∨ ∃ ys y, xs = ys ++ [y] := by
  cases xs with
  | nil => exact .inl rfl
  | cons x r => exact .inr ⟨_, _, (List.dropLast_concat_getLast (List.cons_ne_nil x r)).symm⟩
theorem spanStep_len (sl e o : Int) (acc : List (Int × Int)) : (spanStep sl e acc o).length ≤ acc.length + 1 := by
  rcases snoc_cases acc with rfl | ⟨ys, y, rfl⟩
  · simp [spanStep_nil]
  · rw [spanStep_snoc]
    split <;> simp
theorem spans_len (e sl : Int) (ns : List Int) : (spansOf e ns sl).length ≤ ns.length := by
  have key : ∀ (ns : List Int) (acc : List (Int × Int)), (ns.foldl (spanStep sl e) acc).length ≤ acc.length + ns.length := fun ns => by
    induction ns with
    | nil => intro acc; simp
    | cons n ns ih =>
      intro acc
      have := ih (spanStep sl e acc n)
      have := spanStep_len sl e n acc
      rw [List.foldl_cons, List.length_cons]
      omega
  simpa [spansOf] using key ns []
/-! a dict of ints -/
def bump (d : List (Int × Int)) (k δ : Int) : List (Int × Int) := putI d k (getI d k + δ)
/-- the changes of one span -/
def spanD (p : Int × Int) : List (Int × Int) := [(p.1, 1), (p.2 + 1, -1)]
def deltas (a b : List Int) (sl : Int) : List (Int × Int) := a.flatMap fun e => (spansOf e b sl).flatMap spanD
def bumps (d D : List (Int × Int)) : List (Int × Int) := D.foldl (fun d p => bump d p.1 p.2) d
def runs (d : List (Int × Int)) (ks : List Int) (c : Int) : List (Int × Int) := match ks with
  | [] => []
  | k :: ks => (k, c + getI d k) :: runs d ks (c + getI d k)
def sortI (ks : List Int) : List Int := ks.mergeSort fun a b => decide (a ≤ b)
def stepsOf (a b : List Int) (sl : Int) : List (Int × Int) := let d := bumps [] (deltas a b sl); runs d (sortI (d.map (·.1))) 0
theorem runs_snoc (d : List (Int × Int)) : ∀ (ks : List Int) (c k : Int), runs d (ks ++ [k]) c = runs d ks c ++ [(k, c + (ks.map (getI d)).sum + getI d k)]
  | [], c, k => by simp [runs]
  | x :: ks, c, k => by
    rw [List.cons_append, runs, runs, runs_snoc d ks]
    simp only [List.cons_append, List.map_cons, List.sum_cons]
    rw [show c + getI d x + (ks.map (getI d)).sum + getI d k = c + (getI d x + (ks.map (getI d)).sum) + getI d k by omega]
theorem runs_len (d : List (Int × Int)) : ∀ (ks : List Int) (c : Int), (runs d ks c).length = ks.length
  | [], _ => rfl
  | _ :: ks, _ => by rw [runs, List.length_cons, List.length_cons, runs_len d ks]
theorem bumps_len : ∀ (D d : List (Int × Int)), (bumps d D).length ≤ d.length + D.length
  | [], d => by simp [bumps]
  | p :: D, d => by
    have h := bumps_len D (bump d p.1 p.2)
    have h2 := putI_len d p.1 (getI d p.1 + p.2)
    unfold bumps at h ⊢
    rw [List.foldl_cons, List.length_cons]
    unfold bump at h ⊢
    omega
theorem bumps_app (d D E : List (Int × Int)) : bumps d (D ++ E) = bumps (bumps d D) E := List.foldl_append
def rangesStep (least : Int) (acc : List (Int × Int)) (x y : Int × Int) : List (Int × Int) :=
  if least ≤ x.2 then (match acc.getLast? with
    | some p => if p.2 + 1 = x.1 then acc.dropLast ++ [(p.1, y.1 - 1)] else acc ++ [(x.1, y.1 - 1)]
    | none => acc ++ [(x.1, y.1 - 1)]) else acc
def rangesWith (L : List (Int × Int)) (least : Int) : List (Int × Int) := (L.zip (L.drop 1)).foldl (fun acc q => rangesStep least acc q.1 q.2) []
theorem rangesStep_nil (least : Int) (x y : Int × Int) (h : least ≤ x.2) : rangesStep least [] x y = [(x.1, y.1 - 1)] := by
  unfold rangesStep
  rw [if_pos h]
  rfl
theorem rangesStep_snoc (least : Int) (acc : List (Int × Int)) (p x y : Int × Int) (h : least ≤ x.2) : rangesStep least (acc ++ [p]) x y = if p.2 + 1 = x.1 then acc ++ [(p.1, y.1 - 1)] else acc ++ [p] ++ [(x.1, y.1 - 1)] := by
  unfold rangesStep
  rw [if_pos h, List.getLast?_append, List.getLast?_singleton]
  simp
theorem rangesStep_no (least : Int) (acc : List (Int × Int)) (x y : Int × Int) (h : ¬ least ≤ x.2) : rangesStep least acc x y = acc := by
  unfold rangesStep
  rw [if_neg h]
theorem ranges_len (least : Int) (L : List (Int × Int)) (M : List ((Int × Int) × (Int × Int))) : (M.foldl (fun acc q => rangesStep least acc q.1 q.2) L).length ≤ L.length + M.length := by
  induction M generalizing L with
  | nil => simp
  | cons q M ih =>
    have := ih (rangesStep least L q.1 q.2)
    have h2 : (rangesStep least L q.1 q.2).length ≤ L.length + 1 := by
      by_cases h : least ≤ q.1.2
      · rcases snoc_cases L with rfl | ⟨ys, y, rfl⟩
        · rw [rangesStep_nil _ _ _ h]; simp
        · rw [rangesStep_snoc _ _ _ _ _ h]; split <;> simp
      · rw [rangesStep_no _ _ _ _ h]; omega
    rw [List.foldl_cons, List.length_cons]
    omega
/-- the greatest second number, and the first place of it -/
def IsBest (L : List (Int × Int)) (n s : Int) : Prop := ∃ pre post, L = pre ++ (s, n) :: post ∧ (∀ q ∈ pre, q.2 < n) ∧ ∀ q ∈ post, q.2 ≤ n
/-- a log -/
def Asc (ns : List Int) : Prop := ∀ i a b, ns[i]? = some a → ns[i + 1]? = some b → a < b
structure Log (ns : List Int) : Prop where
  asc : Asc ns
  len : ns.length ≤ 40
  pos : 0 < ns.length
  bd : ∀ n ∈ ns, -100000 ≤ n ∧ n ≤ 100000
theorem asc_sort {ms : List Int} (h : ms.Nodup) : Asc (ms.mergeSort fun a b => decide (a ≤ b)) := by
  intro i a b h1 h2
  obtain ⟨l1, e1⟩ := List.getElem?_eq_some_iff.mp h1
  obtain ⟨l2, e2⟩ := List.getElem?_eq_some_iff.mp h2
  have p := List.pairwise_iff_getElem.mp (sort_le ms) i (i + 1) l1 l2 (by omega)
  have n := List.pairwise_iff_getElem.mp (sort_nd h) i (i + 1) l1 l2 (by omega)
  rw [e1, e2] at p n
  omega
theorem asc_take {ns : List Int} (h : Asc ns) (n : Nat) : Asc (ns.take n) := by
  intro i a b h1 h2
  rw [List.getElem?_take] at h1 h2
  split at h1
  · split at h2
    · exact h i a b h1 h2
    · cases h2
  · cases h1
/-! the law's own -/
def absI (i : Int) : Int := if i < 0 then -i else i
def nearB (b : List Int) (sl s m : Int) : Bool := b.any fun o => decide (absI (m + s - o) ≤ sl)
def near (a b : List Int) (sl s : Int) : Nat := (a.filter fun m => nearB b sl s m).length
def rowsOf (a b : List Int) (sl : Int) : List (Int × Int) := (deltas a b sl).mergeSort lexLe
/-- the last row of its place -/
def ends (R : List (Int × Int)) (i : Nat) : Bool := decide (i + 1 = R.length) || decide ((R.getD (i + 1) (0, 0)).1 ≠ (R.getD i (0, 0)).1)
def gotD (cl : List (Int × Int)) (op : Option Int) : List PyData := prs cl ++ (match op with
  | none => []
  | some p => [.tuple [.int p]])
def lawStep (R : List (Int × Int)) (least : Int) (st : Int × List (Int × Int) × Option Int) (i : Nat) : Int × List (Int × Int) × Option Int :=
  let many := st.1 + (R.getD i (0, 0)).2
  if ends R i = true then (match st.2.2 with
    | none => if least ≤ many then (many, st.2.1, some (R.getD i (0, 0)).1) else (many, st.2.1, none)
    | some p => if many < least then (many, st.2.1 ++ [(p, (R.getD i (0, 0)).1 - 1)], none) else (many, st.2.1, some p))
  else (many, st.2.1, st.2.2)
def lawSt (R : List (Int × Int)) (least : Int) (n : Nat) : Int × List (Int × Int) × Option Int := (List.range n).foldl (lawStep R least) (0, [], none)
theorem lawSt_succ (R : List (Int × Int)) (least : Int) (n : Nat) : lawSt R least (n + 1) = lawStep R least (lawSt R least n) n := by
  unfold lawSt
  rw [List.range_succ, List.foldl_append]
  rfl
def bestStep (R : List (Int × Int)) (st : Int × Int × Int) (i : Nat) : Int × Int × Int :=
  let many := st.1 + (R.getD i (0, 0)).2
  if st.2.1 < many ∧ ends R i = true then (many, many, (R.getD i (0, 0)).1) else (many, st.2.1, st.2.2)
def bestSt (R : List (Int × Int)) (n : Nat) : Int × Int × Int := (List.range n).foldl (bestStep R) (0, 0, 0)
theorem bestSt_succ (R : List (Int × Int)) (n : Nat) : bestSt R (n + 1) = bestStep R (bestSt R n) n := by
  unfold bestSt
  rw [List.range_succ, List.foldl_append]
  rfl
theorem lawSt_len (R : List (Int × Int)) (least : Int) (n : Nat) : (lawSt R least n).2.1.length ≤ n := by
  induction n with
  | zero => simp [lawSt]
  | succ n ih =>
    rw [lawSt_succ]
    unfold lawStep
    simp only
    split
    · split
      · split <;> (simp only; omega)
      · split
        · simp only [List.length_append, List.length_singleton]; omega
        · simp only; omega
    · simp only; omega
end K60

namespace K60
open PySem Dl
/-! ### the sums -/
def ind (p : Prop) [Decidable p] : Int := if p then 1 else 0
def cum (D : List (Int × Int)) (s : Int) : Int := (D.map fun p => if p.1 ≤ s then p.2 else 0).sum
def eqs (D : List (Int × Int)) (k : Int) : Int := (D.map fun p => if p.1 = k then p.2 else 0).sum
theorem cum_app (D E : List (Int × Int)) (s : Int) : cum (D ++ E) s = cum D s + cum E s := by simp [cum]
theorem cum_cons (p : Int × Int) (D : List (Int × Int)) (s : Int) : cum (p :: D) s = (if p.1 ≤ s then p.2 else 0) + cum D s := by simp [cum]
theorem perm_sum {xs ys : List Int} (h : xs.Perm ys) : xs.sum = ys.sum := by
  induction h with
  | nil => rfl
  | cons x _ ih => simp [ih]
  | swap x y l => simp; omega
  | trans _ _ i j => exact i.trans j
theorem cum_perm {D E : List (Int × Int)} (h : D.Perm E) (s : Int) : cum D s = cum E s := perm_sum (h.map _)
/-! ### the dict -/
theorem getI_put (d : List (Int × Int)) (k v j : Int) : getI (putI d k v) j = if j = k then v else getI d j := by
  unfold putI
  split
  · rename_i h
    have key : ∀ d : List (Int × Int), (d.any fun p => decide (p.1 = k)) = true → getI (d.map fun p => if p.1 = k then (p.1, v) else p) j = if j = k then v else getI d j := fun d => by
      induction d with
      | nil => intro h; simp at h
      | cons p d ih =>
        intro h
        unfold getI at ih ⊢
        rw [List.map_cons, List.find?_cons, List.find?_cons]
        by_cases e : p.1 = k
        · by_cases q : j = k
          · subst q; simp [e]
          · have q' : ¬ k = j := fun z => q z.symm
            simp only [e, if_true, q', decide_false, q, if_false]
            by_cases h2 : (d.any fun p => decide (p.1 = k)) = true
            · have := ih h2
              simpa [q] using this
            · have : (d.map fun p => if p.1 = k then (p.1, v) else p) = d := by
                have h3 : ∀ p ∈ d, ¬ p.1 = k := fun p hp z => h2 (List.any_eq_true.mpr ⟨p, hp, by simpa using z⟩)
                rw [List.map_congr_left (g := id) fun p hp => by simp [h3 p hp]]
                simp
              rw [this]
        · have h2 : (d.any fun p => decide (p.1 = k)) = true := by simpa [e] using h
          simp only [e, if_false]
          by_cases q : p.1 = j
          · have : ¬ j = k := fun z => e (q.trans z)
            simp [q, this]
          · simp only [q, decide_false]
            exact ih h2
    exact key d h
  · rename_i h
    have h3 : ∀ p ∈ d, ¬ p.1 = k := fun p hp z => h (List.any_eq_true.mpr ⟨p, hp, by simpa using z⟩)
    unfold getI
    rw [List.find?_append]
    by_cases q : j = k
    · subst q
      rw [List.find?_eq_none.mpr fun p hp => by simpa using h3 p hp]
      simp
    · have q' : ¬ k = j := fun z => q z.symm
      simp [q, q']
theorem put_keys (d : List (Int × Int)) (k v : Int) : (putI d k v).map (·.1) = insM (d.map (·.1)) k := by
  unfold putI insM
  have e : (d.any fun p => decide (p.1 = k)) = decide (k ∈ d.map (·.1)) := by
    rw [Bool.eq_iff_iff, List.any_eq_true, decide_eq_true_iff, List.mem_map]
    simp
  rw [e]
  by_cases h : k ∈ d.map (·.1)
  · rw [if_pos (by simpa using h), if_pos h, List.map_map]
    refine List.map_congr_left fun p _ => ?_
    by_cases q : p.1 = k <;> simp [q]
  · rw [if_neg (by simpa using h), if_neg h]
    simp
theorem bumps_get : ∀ (D d : List (Int × Int)) (k : Int), getI (bumps d D) k = getI d k + eqs D k
  | [], d, k => by simp [bumps, eqs]
  | p :: D, d, k => by
    have ih := bumps_get D (bump d p.1 p.2) k
    have e : bumps d (p :: D) = bumps (bump d p.1 p.2) D := rfl
    rw [e, ih]
    unfold bump
    rw [getI_put]
    simp only [eqs, List.map_cons, List.sum_cons]
    by_cases q : k = p.1
    · subst q; simp; omega
    · have q' : ¬ p.1 = k := fun z => q z.symm
      simp [q, q']
theorem insM_in (ms : List Int) (m x : Int) : x ∈ insM ms m ↔ x ∈ ms ∨ x = m := by
  unfold insM
  split
  · rename_i h
    exact ⟨.inl, fun z => z.elim id fun e => e ▸ h⟩
  · simp
theorem bumps_keys : ∀ (D d : List (Int × Int)), (d.map (·.1)).Nodup → ((bumps d D).map (·.1)).Nodup ∧ ∀ k, k ∈ (bumps d D).map (·.1) ↔ k ∈ d.map (·.1) ∨ k ∈ D.map (·.1)
  | [], d, h => ⟨h, fun k => by simp [bumps]⟩
  | p :: D, d, h => by
    have h1 : ((bump d p.1 p.2).map (·.1)).Nodup := by
      unfold bump
      rw [put_keys]
      exact insM_nd h
    obtain ⟨a, b⟩ := bumps_keys D (bump d p.1 p.2) h1
    refine ⟨a, fun k => ?_⟩
    have e : bumps d (p :: D) = bumps (bump d p.1 p.2) D := rfl
    rw [e, b k]
    unfold bump
    rw [put_keys, insM_in, List.map_cons, List.mem_cons]
    constructor
    · rintro ((h | h) | h) <;> simp [h]
    · rintro (h | h | h) <;> simp [h]
/-! ### ascending pairs -/
def AscP (L : List (Int × Int)) : Prop := L.Pairwise fun p q => p.1 < q.1
theorem asc_ext : ∀ {L M : List (Int × Int)}, AscP L → AscP M → (∀ p, p ∈ L ↔ p ∈ M) → L = M
  | [], [], _, _, _ => rfl
  | [], q :: M, _, _, h => by have := (h q).mpr (by simp); simp at this
  | p :: L, [], _, _, h => by have := (h p).mp (by simp); simp at this
  | p :: L, q :: M, hl, hm, h => by
    unfold AscP at hl hm
    rw [List.pairwise_cons] at hl hm
    have e : p = q := by
      rcases List.mem_cons.mp ((h p).mp (by simp)) with z | z
      · exact z
      · rcases List.mem_cons.mp ((h q).mpr (by simp)) with y | y
        · exact y.symm
        · have := hm.1 p z
          have := hl.1 q y
          omega
    subst e
    have : L = M := asc_ext hl.2 hm.2 fun r => by
      constructor
      · intro hr
        rcases List.mem_cons.mp ((h r).mp (by simp [hr])) with z | z
        · subst z
          have := hl.1 r hr
          omega
        · exact z
      · intro hr
        rcases List.mem_cons.mp ((h r).mpr (by simp [hr])) with z | z
        · subst z
          have := hm.1 r hr
          omega
        · exact z
    rw [this]
theorem eqs_sum : ∀ (D : List (Int × Int)) (ks : List Int), ks.Pairwise (· < ·) → (ks.map (eqs D)).sum = (D.map fun p => if p.1 ∈ ks then p.2 else 0).sum
  | [], ks, _ => by
    have z : ∀ ks : List Int, (ks.map (eqs [])).sum = 0 := fun ks => by
      induction ks with
      | nil => rfl
      | cons k ks ih => rw [List.map_cons, List.sum_cons, ih]; simp [eqs]
    rw [z]
    simp
  | p :: D, ks, h => by
    have ih := eqs_sum D ks h
    have e : ∀ k, eqs (p :: D) k = (if p.1 = k then p.2 else 0) + eqs D k := fun k => by simp [eqs]
    have split : ∀ ks : List Int, (ks.map (eqs (p :: D))).sum = (ks.map fun k => if p.1 = k then p.2 else 0).sum + (ks.map (eqs D)).sum := fun ks => by
      induction ks with
      | nil => rfl
      | cons k ks ih => simp only [List.map_cons, List.sum_cons, ih, e]; omega
    have one : ∀ ks : List Int, ks.Pairwise (· < ·) → (ks.map fun k => if p.1 = k then p.2 else 0).sum = if p.1 ∈ ks then p.2 else 0 := fun ks => by
      induction ks with
      | nil => intro _; rfl
      | cons k ks ih =>
        intro h
        rw [List.pairwise_cons] at h
        rw [List.map_cons, List.sum_cons, ih h.2]
        by_cases q : p.1 = k
        · have : p.1 ∉ ks := fun z => by have := h.1 _ z; omega
          simp [q] at this ⊢
          simp [this]
        · simp [q]
    rw [split, one ks h, ih, List.map_cons, List.sum_cons]
theorem runs_map (D d : List (Int × Int)) (hget : ∀ k, getI d k = eqs D k) : ∀ (ks pre : List Int), (pre ++ ks).Pairwise (· < ·) → (∀ p ∈ D, p.1 ∈ pre ++ ks) → runs d ks ((pre.map (eqs D)).sum) = ks.map fun k => (k, cum D k)
  | [], pre, _, _ => rfl
  | k :: ks, pre, h, hm => by
    have e : (pre.map (eqs D)).sum + getI d k = ((pre ++ [k]).map (eqs D)).sum := by
      rw [hget, List.map_append, List.sum_append]
      simp
    have hp : (pre ++ [k]).Pairwise (· < ·) := by
      have : (pre ++ [k] ++ ks).Pairwise (· < ·) := by simpa using h
      exact (List.pairwise_append.mp this).1
    have hc : ((pre ++ [k]).map (eqs D)).sum = cum D k := by
      rw [eqs_sum D _ hp]
      unfold cum
      congr 1
      refine List.map_congr_left fun p hpd => ?_
      have hin := hm p hpd
      have iff : p.1 ∈ pre ++ [k] ↔ p.1 ≤ k := by
        constructor
        · intro z
          rcases List.mem_append.mp z with z | z
          · exact Int.le_of_lt ((List.pairwise_append.mp hp).2.2 p.1 z k (by simp))
          · simp at z; omega
        · intro z
          rcases List.mem_append.mp hin with y | y
          · simp [y]
          · rcases List.mem_cons.mp y with y | y
            · simp [y]
            · have := (List.pairwise_cons.mp (List.pairwise_append.mp h).2.1).1 p.1 y
              omega
      by_cases q : p.1 ≤ k
      · rw [if_pos (iff.mpr q), if_pos q]
      · rw [if_neg fun z => q (iff.mp z), if_neg q]
    rw [runs, e, List.map_cons, hc, ← hc, runs_map D d hget ks (pre ++ [k]) (by simpa using h) (by simpa using hm), hc]
theorem steps_map (a b : List Int) (sl : Int) : ∃ ks : List Int, ks.Pairwise (· < ·) ∧ (∀ k, k ∈ ks ↔ k ∈ (deltas a b sl).map (·.1)) ∧ stepsOf a b sl = ks.map fun k => (k, cum (deltas a b sl) k) := by
  obtain ⟨nd, mem⟩ := bumps_keys (deltas a b sl) [] List.nodup_nil
  have hs : (sortI ((bumps [] (deltas a b sl)).map (·.1))).Pairwise (· < ·) := by
    have h1 := sort_le ((bumps [] (deltas a b sl)).map (·.1))
    have h2 := sort_nd nd
    exact (h1.and h2).imp fun h => by have := h.1; have := h.2; omega
  have hk : ∀ k, k ∈ sortI ((bumps [] (deltas a b sl)).map (·.1)) ↔ k ∈ (deltas a b sl).map (·.1) := fun k => by
    unfold sortI
    rw [List.mem_mergeSort, mem k]
    simp
  refine ⟨_, hs, hk, ?_⟩
  exact runs_map (deltas a b sl) (bumps [] (deltas a b sl)) (fun k => by rw [bumps_get]; simp [getI]) _ [] hs fun p hp => (hk p.1).mpr (List.mem_map_of_mem hp)
/-! ### the rows in their groups -/
def grp (c : Int) : List (Int × Int) → List (Int × Int)
  | [] => []
  | [p] => [(p.1, c + p.2)]
  | p :: q :: r => if p.1 = q.1 then grp (c + p.2) (q :: r) else (p.1, c + p.2) :: grp (c + p.2) (q :: r)
theorem cum_zero {D : List (Int × Int)} {s : Int} (h : ∀ p ∈ D, s < p.1) : cum D s = 0 := by
  induction D with
  | nil => rfl
  | cons p D ih =>
    rw [cum_cons, ih fun q hq => h q (by simp [hq]), if_neg (by have := h p (by simp); omega)]
    rfl
theorem grp_ok : ∀ (R : List (Int × Int)) (c : Int), (R.Pairwise fun p q => p.1 ≤ q.1) → AscP (grp c R) ∧ ∀ x, x ∈ grp c R ↔ x.1 ∈ R.map (·.1) ∧ x.2 = c + cum R x.1
  | [], c, _ => ⟨List.Pairwise.nil, fun x => by simp [grp]⟩
  | [p], c, _ => by
    refine ⟨List.pairwise_singleton _ _, fun x => ?_⟩
    obtain ⟨x1, x2⟩ := x
    simp only [grp, List.mem_singleton, Prod.mk.injEq, List.map_cons, List.map_nil, cum, List.sum_cons, List.sum_nil]
    constructor
    · rintro ⟨rfl, rfl⟩; simp
    · rintro ⟨rfl, h⟩; simp at h; exact ⟨rfl, h⟩
  | p :: q :: r, c, h => by
    rw [List.pairwise_cons] at h
    obtain ⟨h1, h2⟩ := grp_ok (q :: r) (c + p.2) h.2
    have hq : ∀ z ∈ q :: r, q.1 ≤ z.1 := fun z hz => by
      rcases List.mem_cons.mp hz with y | y
      · rw [y]; exact Int.le_refl _
      · exact (List.pairwise_cons.mp h.2).1 z y
    unfold grp
    by_cases e : p.1 = q.1
    · rw [if_pos e]
      refine ⟨h1, fun x => ?_⟩
      rw [h2 x]
      have hm : x.1 ∈ (p :: q :: r).map (·.1) ↔ x.1 ∈ (q :: r).map (·.1) := by simp [e]
      rw [hm]
      constructor
      · rintro ⟨a, b⟩
        refine ⟨a, ?_⟩
        obtain ⟨z, hz, hz2⟩ := List.mem_map.mp a
        have := hq z hz
        rw [b, cum_cons p, if_pos (by omega)]
        omega
      · rintro ⟨a, b⟩
        refine ⟨a, ?_⟩
        obtain ⟨z, hz, hz2⟩ := List.mem_map.mp a
        have := hq z hz
        rw [b, cum_cons p, if_pos (by omega)]
        omega
    · rw [if_neg e]
      have hpq := h.1 q (by simp)
      refine ⟨?_, fun x => ?_⟩
      · unfold AscP
        rw [List.pairwise_cons]
        refine ⟨fun x hx => ?_, h1⟩
        obtain ⟨z, hz, hz2⟩ := List.mem_map.mp ((h2 x).mp hx).1
        have := hq z hz
        show p.1 < x.1
        omega
      · have hz0 : cum (q :: r) p.1 = 0 := cum_zero fun z hz => by have := hq z hz; omega
        rw [List.mem_cons, h2 x]
        constructor
        · rintro (rfl | ⟨a, b⟩)
          · refine ⟨by simp, ?_⟩
            show c + p.2 = c + cum (p :: q :: r) p.1
            rw [cum_cons p, if_pos (Int.le_refl _), hz0]
            omega
          · obtain ⟨z, hz, hz2⟩ := List.mem_map.mp a
            have := hq z hz
            refine ⟨by rw [List.map_cons, List.mem_cons]; exact .inr a, ?_⟩
            rw [b, cum_cons p, if_pos (by omega)]
            omega
        · rintro ⟨a, b⟩
          rw [List.map_cons, List.mem_cons] at a
          rcases a with a | a
          · refine .inl ?_
            rw [a, cum_cons p, if_pos (Int.le_refl _), hz0] at b
            obtain ⟨x1, x2⟩ := x
            simp only at a b
            rw [a, b]
            simp
          · obtain ⟨z, hz, hz2⟩ := List.mem_map.mp a
            have := hq z hz
            refine .inr ⟨a, ?_⟩
            rw [b, cum_cons p, if_pos (by omega)]
            omega
theorem rows_sorted (a b : List Int) (sl : Int) : (rowsOf a b sl).Pairwise fun p q => p.1 ≤ q.1 := by
  unfold rowsOf
  have := List.pairwise_mergeSort (le := lexLe) (fun x y z h1 h2 => by simp only [lexLe, decide_eq_true_eq] at *; omega) (fun x y => by simp only [lexLe, Bool.or_eq_true, decide_eq_true_eq]; omega) (deltas a b sl)
  refine this.imp fun h => ?_
  simp only [lexLe, decide_eq_true_eq] at h
  omega
theorem grp_steps (a b : List Int) (sl : Int) : grp 0 (rowsOf a b sl) = stepsOf a b sl := by
  obtain ⟨ks, h1, h2, h3⟩ := steps_map a b sl
  obtain ⟨g1, g2⟩ := grp_ok (rowsOf a b sl) 0 (rows_sorted a b sl)
  have perm : (rowsOf a b sl).Perm (deltas a b sl) := List.mergeSort_perm _ _
  rw [h3]
  refine asc_ext g1 ?_ fun p => ?_
  · unfold AscP
    rw [List.pairwise_map]
    exact h1
  · rw [g2 p, (perm.map _).mem_iff, cum_perm perm, ← h2, List.mem_map]
    constructor
    · rintro ⟨x, y⟩
      exact ⟨p.1, x, by rw [← Prod.eta p]; simp [y]⟩
    · rintro ⟨k, hk, rfl⟩
      exact ⟨hk, by simp⟩
/-! ### the law's loops -/
def gfold {σ : Type} (f : σ → Int × Int → Bool → σ) (s : σ) : List (Int × Int) → σ
  | [] => s
  | [p] => f s p true
  | p :: q :: r => gfold f (f s p (decide (q.1 ≠ p.1))) (q :: r)
theorem ends_succ (p : Int × Int) (R : List (Int × Int)) (i : Nat) : ends (p :: R) (i + 1) = ends R i := by
  unfold ends
  simp
theorem fold_idx {σ : Type} (f : σ → Int × Int → Bool → σ) : ∀ (R : List (Int × Int)) (s : σ), (List.range R.length).foldl (fun s i => f s (R.getD i (0, 0)) (ends R i)) s = gfold f s R
  | [], s => rfl
  | [p], s => by
    show f s p (ends [p] 0) = f s p true
    rfl
  | p :: q :: r, s => by
    rw [List.length_cons, List.range_succ_eq_map, List.foldl_cons, List.foldl_map]
    have e0 : ends (p :: q :: r) 0 = decide (q.1 ≠ p.1) := by
      unfold ends
      simp
    have := fold_idx f (q :: r) (f s p (decide (q.1 ≠ p.1)))
    rw [e0]
    show List.foldl (fun s i => f s ((q :: r).getD i (0, 0)) (ends (p :: q :: r) (i + 1))) (f s p (decide (q.1 ≠ p.1))) (List.range (q :: r).length) = gfold f (f s p (decide (q.1 ≠ p.1))) (q :: r)
    rw [← this]
    congr 1
    funext s i
    rw [ends_succ]
theorem gfold_grp {τ : Type} (g : τ → Int × Int → τ) : ∀ (R : List (Int × Int)) (m : Int) (t : τ), (gfold (fun (s : Int × τ) r e => (s.1 + r.2, if e = true then g s.2 (r.1, s.1 + r.2) else s.2)) (m, t) R).2 = (grp m R).foldl g t
  | [], m, t => rfl
  | [p], m, t => rfl
  | p :: q :: r, m, t => by
    have ih := gfold_grp g (q :: r)
    rw [gfold, grp]
    by_cases e : p.1 = q.1
    · have e' : ¬ (q.1 ≠ p.1) := fun z => z e.symm
      rw [if_pos e, decide_eq_false e']
      exact ih (m + p.2) t
    · have e' : q.1 ≠ p.1 := fun z => e z.symm
      rw [if_neg e, decide_eq_true e', List.foldl_cons]
      exact ih (m + p.2) (g t (p.1, m + p.2))
def gl (least : Int) (t : List (Int × Int) × Option Int) (p : Int × Int) : List (Int × Int) × Option Int := match t.2 with
  | none => if least ≤ p.2 then (t.1, some p.1) else (t.1, none)
  | some q => if p.2 < least then (t.1 ++ [(q, p.1 - 1)], none) else (t.1, some q)
def gb (t : Int × Int) (p : Int × Int) : Int × Int := if t.1 < p.2 then (p.2, p.1) else t
theorem lawSt_grp (R : List (Int × Int)) (least : Int) : (lawSt R least R.length).2 = (grp 0 R).foldl (gl least) ([], none) := by
  rw [← gfold_grp, ← fold_idx]
  unfold lawSt
  congr 2
  funext st i
  obtain ⟨m, cl, op⟩ := st
  unfold lawStep gl
  cases op with
  | none =>
    simp only
    split
    · split <;> rfl
    · rfl
  | some q =>
    simp only
    split
    · split <;> rfl
    · rfl
theorem bestSt_grp (R : List (Int × Int)) : (bestSt R R.length).2 = (grp 0 R).foldl gb (0, 0) := by
  rw [← gfold_grp, ← fold_idx]
  unfold bestSt
  congr 2
  funext st i
  unfold bestStep gb
  simp only
  by_cases h1 : st.2.1 < st.1 + (R.getD i (0, 0)).2
  · by_cases h2 : ends R i = true
    · rw [if_pos ⟨h1, h2⟩, if_pos h2, if_pos h1]
    · rw [if_neg fun z => h2 z.2, if_neg h2]
  · rw [if_neg fun z => h1 z.1, if_neg h1]
    split <;> rfl
def rfrom (least : Int) (acc : List (Int × Int)) (x : Int × Int) : List (Int × Int) → List (Int × Int)
  | [] => acc
  | y :: r => rfrom least (rangesStep least acc x y) y r
theorem ranges_from (least : Int) : ∀ (r : List (Int × Int)) (x : Int × Int) (acc : List (Int × Int)), (((x :: r).zip ((x :: r).drop 1)).foldl (fun acc q => rangesStep least acc q.1 q.2) acc) = rfrom least acc x r
  | [], x, acc => rfl
  | y :: r, x, acc => by
    have := ranges_from least r y (rangesStep least acc x y)
    exact this
theorem shifts_core (least : Int) : ∀ (r : List (Int × Int)) (x : Int × Int) (cl : List (Int × Int)) (op : Option Int) (acc : List (Int × Int)), AscP (x :: r) → (∀ p, (x :: r).getLast? = some p → p.2 < least) → (∀ p ∈ cl, p.2 + 1 ≤ x.1) →
    ((∃ q, op = some q ∧ least ≤ x.2 ∧ (acc = cl ++ [(q, x.1 - 1)] ∨ (q = x.1 ∧ acc = cl ∧ ∀ p ∈ cl, p.2 + 1 < x.1))) ∨ (op = none ∧ x.2 < least ∧ acc = cl)) → r.foldl (gl least) (cl, op) = (rfrom least acc x r, none)
  | [], x, cl, op, acc, _, hl, _, h => by
    have := hl x rfl
    rcases h with ⟨q, _, h2, _⟩ | ⟨rfl, _, rfl⟩
    · omega
    · rfl
  | y :: r, x, cl, op, acc, ha, hl, hc, h => by
    have hxy : x.1 < y.1 := (List.pairwise_cons.mp ha).1 y (by simp)
    have ha2 : AscP (y :: r) := (List.pairwise_cons.mp ha).2
    have hl2 : ∀ p, (y :: r).getLast? = some p → p.2 < least := fun p hp => hl p (by rw [List.getLast?_cons_cons]; exact hp)
    have hc2 : ∀ p ∈ cl, p.2 + 1 < y.1 := fun p hp => by have := hc p hp; omega
    rw [List.foldl_cons]
    show _ = (rfrom least (rangesStep least acc x y) y r, none)
    rcases h with ⟨q, rfl, h2, h3⟩ | ⟨rfl, h2, rfl⟩
    · have hacc : rangesStep least acc x y = cl ++ [(q, y.1 - 1)] := by
        rcases h3 with rfl | ⟨rfl, rfl, h4⟩
        · rw [rangesStep_snoc _ _ _ _ _ h2, if_pos (by show x.1 - 1 + 1 = x.1; omega)]
        · rcases snoc_cases acc with rfl | ⟨ys, p, rfl⟩
          · rw [rangesStep_nil _ _ _ h2]; rfl
          · have := h4 p (by simp)
            rw [rangesStep_snoc _ _ _ _ _ h2, if_neg (by omega)]
      rw [hacc]
      by_cases hy : y.2 < least
      · have e : gl least (cl, some q) y = (cl ++ [(q, y.1 - 1)], none) := by
          unfold gl
          simp only
          rw [if_pos hy]
        rw [e]
        refine shifts_core least r y _ none _ ha2 hl2 (fun p hp => ?_) (.inr ⟨rfl, hy, rfl⟩)
        rcases List.mem_append.mp hp with z | z
        · have := hc2 p z; omega
        · simp at z
          rw [z]
          show y.1 - 1 + 1 ≤ y.1
          omega
      · have e : gl least (cl, some q) y = (cl, some q) := by
          unfold gl
          simp only
          rw [if_neg hy]
        rw [e]
        exact shifts_core least r y cl (some q) _ ha2 hl2 (fun p hp => by have := hc2 p hp; omega) (.inl ⟨q, rfl, by omega, .inl rfl⟩)
    · have hacc : rangesStep least acc x y = acc := rangesStep_no _ _ _ _ (by omega)
      rw [hacc]
      by_cases hy : least ≤ y.2
      · have e : gl least (acc, none) y = (acc, some y.1) := by
          unfold gl
          simp only
          rw [if_pos hy]
        rw [e]
        exact shifts_core least r y acc (some y.1) acc ha2 hl2 (fun p hp => by have := hc2 p hp; omega) (.inl ⟨y.1, rfl, hy, .inr ⟨rfl, rfl, hc2⟩⟩)
      · have e : gl least (acc, none) y = (acc, none) := by
          unfold gl
          simp only
          rw [if_neg hy]
        rw [e]
        exact shifts_core least r y acc none acc ha2 hl2 (fun p hp => by have := hc2 p hp; omega) (.inr ⟨rfl, by omega, rfl⟩)
theorem shifts_all (least : Int) (L : List (Int × Int)) (ha : AscP L) (hl : ∀ p, L.getLast? = some p → p.2 < least) : L.foldl (gl least) ([], none) = (rangesWith L least, none) := by
  cases L with
  | nil => rfl
  | cons x r =>
    unfold rangesWith
    rw [ranges_from, List.foldl_cons]
    by_cases hx : least ≤ x.2
    · have e : gl least ([], none) x = ([], some x.1) := by
        unfold gl
        simp only
        rw [if_pos hx]
      rw [e]
      exact shifts_core least r x [] (some x.1) [] ha hl (fun p hp => by cases hp) (.inl ⟨x.1, rfl, hx, .inr ⟨rfl, rfl, fun p hp => by cases hp⟩⟩)
    · have e : gl least ([], none) x = ([], none) := by
        unfold gl
        simp only
        rw [if_neg hx]
      rw [e]
      exact shifts_core least r x [] none [] ha hl (fun p hp => by cases hp) (.inr ⟨rfl, by omega, rfl⟩)
theorem spanD_sum : ∀ L : List (Int × Int), ((L.flatMap spanD).map (·.2)).sum = 0 := fun L => by
  induction L with
  | nil => rfl
  | cons p L ih => rw [List.flatMap_cons, List.map_append, List.sum_append, ih]; rfl
theorem deltas_sum (a b : List Int) (sl : Int) : ((deltas a b sl).map (·.2)).sum = 0 := by
  unfold deltas
  induction a with
  | nil => rfl
  | cons e a ih => rw [List.flatMap_cons, List.map_append, List.sum_append, ih, spanD_sum]; rfl
theorem cum_all {D : List (Int × Int)} {s : Int} (h : ∀ p ∈ D, p.1 ≤ s) : cum D s = (D.map (·.2)).sum := by
  unfold cum
  congr 1
  exact List.map_congr_left fun p hp => by rw [if_pos (h p hp)]
theorem steps_asc (a b : List Int) (sl : Int) : AscP (stepsOf a b sl) := by
  obtain ⟨ks, h1, _, h3⟩ := steps_map a b sl
  rw [h3]
  unfold AscP
  rw [List.pairwise_map]
  exact h1
theorem steps_last (a b : List Int) (sl : Int) (p : Int × Int) (h : (stepsOf a b sl).getLast? = some p) : p.2 = 0 ∧ ∀ q ∈ deltas a b sl, q.1 ≤ p.1 := by
  obtain ⟨ks, h1, h2, h3⟩ := steps_map a b sl
  rcases snoc_cases ks with rfl | ⟨ys, y, rfl⟩
  · rw [h3] at h; simp at h
  · rw [h3] at h
    simp at h
    subst h
    have hall : ∀ q ∈ deltas a b sl, q.1 ≤ y := fun q hq => by
      have := (h2 q.1).mpr (List.mem_map_of_mem hq)
      rcases List.mem_append.mp this with z | z
      · exact Int.le_of_lt ((List.pairwise_append.mp h1).2.2 q.1 z y (by simp))
      · simp at z; omega
    exact ⟨by show cum _ y = 0; rw [cum_all hall, deltas_sum], hall⟩
theorem law_shifts0 {a b : List Int} {sl least : Int} (h1 : 1 ≤ least) : (lawSt (rowsOf a b sl) least (rowsOf a b sl).length).2 = (rangesWith (stepsOf a b sl) least, none) := by
  rw [lawSt_grp, grp_steps]
  exact shifts_all least _ (steps_asc a b sl) fun p hp => by have := (steps_last a b sl p hp).1; omega
/-! ### what is near -/
theorem last_span (sl e : Int) : ∀ (os : List Int) (o : Int), ∃ ys l, (os ++ [o]).foldl (spanStep sl e) [] = ys ++ [(l, o - e + sl)] := fun os o => by
  rw [List.foldl_append]
  show ∃ ys l, spanStep sl e (os.foldl (spanStep sl e) []) o = _
  rcases snoc_cases (os.foldl (spanStep sl e) []) with h | ⟨ys, p, h⟩
  · rw [h, spanStep_nil]
    exact ⟨[], _, rfl⟩
  · rw [h, spanStep_snoc]
    split
    · exact ⟨ys, _, rfl⟩
    · exact ⟨ys ++ [p], _, rfl⟩
theorem cum_span (p : Int × Int) (s : Int) : cum (spanD p) s = (if p.1 ≤ s then 1 else 0) - (if p.2 + 1 ≤ s then 1 else 0) := by
  unfold cum spanD
  simp only [List.map_cons, List.map_nil, List.sum_cons, List.sum_nil]
  split <;> split <;> omega
theorem cum_spans (ys : List (Int × Int)) (p : Int × Int) (s : Int) : cum ((ys ++ [p]).flatMap spanD) s = cum (ys.flatMap spanD) s + ((if p.1 ≤ s then 1 else 0) - (if p.2 + 1 ≤ s then 1 else 0)) := by
  rw [List.flatMap_append, cum_app, List.flatMap_cons, List.flatMap_nil, List.append_nil, cum_span]
theorem near_abs (m s o sl : Int) : absI (m + s - o) ≤ sl ↔ o - m - sl ≤ s ∧ s ≤ o - m + sl := by
  unfold absI
  split <;> omega
theorem spans_cum (sl e s : Int) (h0 : 0 ≤ sl) (n : Nat) : ∀ os : List Int, os.length = n → os.Pairwise (· < ·) → cum ((os.foldl (spanStep sl e) []).flatMap spanD) s = if nearB os sl s e = true then 1 else 0 := by
  induction n with
  | zero =>
    intro os hl _
    have : os = [] := List.length_eq_zero_iff.mp hl
    subst this
    rfl
  | succ n ih =>
    intro os hl hp
    rcases snoc_cases os with rfl | ⟨ps, o, rfl⟩
    · simp at hl
    have hps := (List.pairwise_append.mp hp).1
    have hlt : ∀ q ∈ ps, q < o := fun q hq => (List.pairwise_append.mp hp).2.2 q hq o (by simp)
    have ih2 := ih ps (by simp at hl; exact hl) hps
    have hB : nearB (ps ++ [o]) sl s e = (nearB ps sl s e || decide (absI (e + s - o) ≤ sl)) := by
      unfold nearB
      rw [List.any_append]
      simp
    rw [hB, List.foldl_append]
    show cum ((spanStep sl e (ps.foldl (spanStep sl e) []) o).flatMap spanD) s = _
    have habs := near_abs e s o sl
    rcases snoc_cases ps with rfl | ⟨qs, o1, rfl⟩
    · rw [List.foldl_nil, spanStep_nil]
      show cum (spanD (o - e - sl, o - e + sl) ++ []) s = _
      rw [List.append_nil, cum_span]
      have hn : nearB [] sl s e = false := rfl
      rw [hn, Bool.false_or]
      by_cases c1 : o - e - sl ≤ s
      · by_cases c2 : o - e + sl + 1 ≤ s
        · rw [if_pos c1, if_pos c2, decide_eq_false (by rw [habs]; omega)]; rfl
        · rw [if_pos c1, if_neg c2, decide_eq_true (by rw [habs]; omega)]; rfl
      · rw [if_neg c1, if_neg (by omega), decide_eq_false (by rw [habs]; omega)]; rfl
    · have h1 : o1 < o := hlt o1 (by simp)
      have hle : ∀ q ∈ qs ++ [o1], q ≤ o1 := fun q hq => by
        rcases List.mem_append.mp hq with z | z
        · exact Int.le_of_lt ((List.pairwise_append.mp hps).2.2 q z o1 (by simp))
        · simp at z; omega
      have hfar : o1 - e + sl < s → nearB (qs ++ [o1]) sl s e = false := fun hs => by
        unfold nearB
        rw [List.any_eq_false]
        intro q hq z
        have := (near_abs e s q sl).mp (of_decide_eq_true z)
        have := hle q hq
        omega
      have hin : o1 - e - sl ≤ s → s ≤ o1 - e + sl → nearB (qs ++ [o1]) sl s e = true := fun a b => by
        unfold nearB
        rw [List.any_eq_true]
        exact ⟨o1, by simp, decide_eq_true ((near_abs e s o1 sl).mpr ⟨a, b⟩)⟩
      obtain ⟨ys, l, hys⟩ := last_span sl e qs o1
      rw [hys] at ih2 ⊢
      rw [spanStep_snoc]
      rw [cum_spans] at ih2
      simp only at ih2 ⊢
      split
      · rename_i hc
        rw [cum_spans]
        simp only
        by_cases d : o1 - e + sl < s
        · rw [hfar d] at ih2 ⊢
          rw [if_pos (show o1 - e + sl + 1 ≤ s by omega)] at ih2
          rw [Bool.false_or]
          by_cases c2 : o - e + sl + 1 ≤ s
          · rw [if_pos c2, decide_eq_false (by rw [habs]; omega)]
            simpa using ih2
          · rw [if_neg c2, decide_eq_true (by rw [habs]; omega)]
            simp at ih2 ⊢
            omega
        · rw [if_neg (show ¬ o1 - e + sl + 1 ≤ s by omega)] at ih2
          rw [if_neg (show ¬ o - e + sl + 1 ≤ s by omega), ih2]
          by_cases c3 : absI (e + s - o) ≤ sl
          · have := habs.mp c3
            rw [hin (by omega) (by omega)]
            rfl
          · rw [decide_eq_false c3, Bool.or_false]
      · rename_i hc
        rw [cum_spans, cum_spans]
        simp only
        rw [ih2]
        by_cases c3 : absI (e + s - o) ≤ sl
        · have := habs.mp c3
          rw [hfar (by omega), decide_eq_true c3, if_pos (show o - e - sl ≤ s by omega), if_neg (show ¬ o - e + sl + 1 ≤ s by omega)]
          rfl
        · rw [decide_eq_false c3, Bool.or_false]
          have : ¬ (o - e - sl ≤ s ∧ s ≤ o - e + sl) := fun z => c3 (habs.mpr z)
          by_cases c1 : o - e - sl ≤ s
          · rw [if_pos c1, if_pos (show o - e + sl + 1 ≤ s by omega)]
            omega
          · rw [if_neg c1, if_neg (show ¬ o - e + sl + 1 ≤ s by omega)]
            omega
theorem asc_pw {ns : List Int} (h : Asc ns) : ns.Pairwise (· < ·) := by
  induction ns with
  | nil => exact .nil
  | cons x r ih =>
    have hr : Asc r := fun i a b h1 h2 => h (i + 1) a b (by simpa using h1) (by simpa using h2)
    have ih2 := ih hr
    cases r with
    | nil => exact List.pairwise_singleton _ _
    | cons y r =>
      have hxy := h 0 x y rfl rfl
      rw [List.pairwise_cons]
      refine ⟨fun z hz => ?_, ih2⟩
      rcases List.mem_cons.mp hz with q | q
      · omega
      · have := (List.pairwise_cons.mp ih2).1 z q
        omega
theorem near_cum {a b : List Int} {sl : Int} (lb : Log b) (h0 : 0 ≤ sl) (s : Int) : (near a b sl s : Int) = cum (deltas a b sl) s := by
  unfold near deltas
  induction a with
  | nil => rfl
  | cons e a ih =>
    rw [List.flatMap_cons, cum_app, ← ih]
    have : cum ((spansOf e b sl).flatMap spanD) s = if nearB b sl s e = true then 1 else 0 := spans_cum sl e s h0 b.length b rfl (asc_pw lb.asc)
    rw [this, List.filter_cons]
    split
    · rw [List.length_cons]; omega
    · omega
theorem cum_eq {D : List (Int × Int)} {s t : Int} (h : ∀ p ∈ D, p.1 ≤ s ↔ p.1 ≤ t) : cum D s = cum D t := by
  unfold cum
  congr 1
  refine List.map_congr_left fun p hp => ?_
  by_cases q : p.1 ≤ s
  · rw [if_pos q, if_pos ((h p hp).mp q)]
  · rw [if_neg q, if_neg fun z => q ((h p hp).mpr z)]
/-! ### the ranges cover what they should -/
def Inn (s : Int) (acc : List (Int × Int)) : Prop := ∃ p ∈ acc, p.1 ≤ s ∧ s ≤ p.2
def seg (least s : Int) (x : Int × Int) : List (Int × Int) → Prop
  | [] => False
  | y :: r => (least ≤ x.2 ∧ x.1 ≤ s ∧ s ≤ y.1 - 1) ∨ seg least s y r
theorem inn_app (s : Int) (xs ys : List (Int × Int)) : Inn s (xs ++ ys) ↔ Inn s xs ∨ Inn s ys := by
  unfold Inn
  constructor
  · rintro ⟨p, hp, h⟩
    rcases List.mem_append.mp hp with z | z
    · exact .inl ⟨p, z, h⟩
    · exact .inr ⟨p, z, h⟩
  · rintro (⟨p, hp, h⟩ | ⟨p, hp, h⟩)
    · exact ⟨p, by simp [hp], h⟩
    · exact ⟨p, by simp [hp], h⟩
theorem inn_one (s : Int) (p : Int × Int) : Inn s [p] ↔ p.1 ≤ s ∧ s ≤ p.2 := by
  unfold Inn
  simp
theorem step_inn (least s : Int) (acc : List (Int × Int)) (x y : Int × Int) (hxy : x.1 < y.1) (ha : ∀ p ∈ acc, p.1 ≤ p.2) :
    (Inn s (rangesStep least acc x y) ↔ Inn s acc ∨ (least ≤ x.2 ∧ x.1 ≤ s ∧ s ≤ y.1 - 1)) ∧ ∀ p ∈ rangesStep least acc x y, p.1 ≤ p.2 := by
  by_cases h : least ≤ x.2
  · rcases snoc_cases acc with rfl | ⟨ys, p, rfl⟩
    · rw [rangesStep_nil _ _ _ h, inn_one]
      refine ⟨⟨fun z => .inr ⟨h, z⟩, fun z => ?_⟩, fun p hp => ?_⟩
      · rcases z with ⟨p, hp, _⟩ | z
        · cases hp
        · exact z.2
      · simp at hp
        rw [hp]
        show x.1 ≤ y.1 - 1
        omega
    · have hp := ha p (by simp)
      rw [rangesStep_snoc _ _ _ _ _ h]
      split
      · rename_i e
        rw [inn_app, inn_app, inn_one, inn_one]
        refine ⟨?_, fun q hq => ?_⟩
        · simp only
          constructor
          · rintro (z | ⟨z1, z2⟩)
            · exact .inl (.inl z)
            · by_cases c : s ≤ p.2
              · exact .inl (.inr ⟨z1, c⟩)
              · exact .inr ⟨h, by omega, z2⟩
          · rintro ((z | ⟨z1, z2⟩) | ⟨_, z1, z2⟩)
            · exact .inl z
            · exact .inr ⟨z1, by omega⟩
            · exact .inr ⟨by omega, z2⟩
        · rcases List.mem_append.mp hq with z | z
          · exact ha q (by simp [z])
          · simp at z
            rw [z]
            show p.1 ≤ y.1 - 1
            omega
      · rw [inn_app, inn_one]
        refine ⟨⟨fun z => z.elim .inl fun z => .inr ⟨h, z⟩, fun z => z.elim .inl fun z => .inr z.2⟩, fun q hq => ?_⟩
        rcases List.mem_append.mp hq with z | z
        · exact ha q z
        · simp at z
          rw [z]
          show x.1 ≤ y.1 - 1
          omega
  · rw [rangesStep_no _ _ _ _ h]
    exact ⟨⟨.inl, fun z => z.elim id fun z => absurd z.1 h⟩, ha⟩
theorem rfrom_inn (least s : Int) : ∀ (r : List (Int × Int)) (x : Int × Int) (acc : List (Int × Int)), AscP (x :: r) → (∀ p ∈ acc, p.1 ≤ p.2) → (Inn s (rfrom least acc x r) ↔ Inn s acc ∨ seg least s x r)
  | [], x, acc, _, _ => by simp [rfrom, seg]
  | y :: r, x, acc, ha, hp => by
    have hxy : x.1 < y.1 := (List.pairwise_cons.mp ha).1 y (by simp)
    obtain ⟨h1, h2⟩ := step_inn least s acc x y hxy hp
    have ih := rfrom_inn least s r y (rangesStep least acc x y) (List.pairwise_cons.mp ha).2 h2
    show Inn s (rfrom least (rangesStep least acc x y) y r) ↔ Inn s acc ∨ ((least ≤ x.2 ∧ x.1 ≤ s ∧ s ≤ y.1 - 1) ∨ seg least s y r)
    rw [ih, h1]
    exact or_assoc
theorem seg_ge (least s : Int) : ∀ (r : List (Int × Int)) (x : Int × Int), AscP (x :: r) → seg least s x r → x.1 ≤ s
  | [], _, _, h => h.elim
  | y :: r, x, ha, h => by
    rcases h with h | h
    · exact h.2.1
    · have := seg_ge least s r y (List.pairwise_cons.mp ha).2 h
      have := (List.pairwise_cons.mp ha).1 y (by simp)
      omega
theorem seg_has (least s : Int) : ∀ (r : List (Int × Int)) (x : Int × Int), seg least s x r → ∃ q ∈ x :: r, least ≤ q.2
  | [], _, h => h.elim
  | y :: r, x, h => by
    rcases h with h | h
    · exact ⟨x, by simp, h.1⟩
    · obtain ⟨q, hq, h⟩ := seg_has least s r y h
      exact ⟨q, by simp [hq], h⟩
theorem seg_cum (D : List (Int × Int)) (least s : Int) (h1 : 1 ≤ least) : ∀ (r : List (Int × Int)) (x : Int × Int), AscP (x :: r) → (∀ p ∈ x :: r, p.2 = cum D p.1) → (∀ p ∈ D, p.1 ≤ x.1 ∨ p.1 ∈ r.map (·.1)) → (∀ p, (x :: r).getLast? = some p → p.2 = 0) → x.1 ≤ s → (seg least s x r ↔ least ≤ cum D s)
  | [], x, _, hv, hD, hl, hs => by
    have e : cum D s = cum D x.1 := cum_eq fun p hp => by
      rcases hD p hp with z | z
      · exact ⟨fun _ => z, fun _ => by omega⟩
      · simp at z
    have := hl x rfl
    have := hv x (by simp)
    constructor
    · exact fun z => z.elim
    · intro z; omega
  | y :: r, x, ha, hv, hD, hl, hs => by
    have hxy : x.1 < y.1 := (List.pairwise_cons.mp ha).1 y (by simp)
    have ha2 := (List.pairwise_cons.mp ha).2
    by_cases c : s ≤ y.1 - 1
    · have e : cum D s = cum D x.1 := cum_eq fun p hp => by
        rcases hD p hp with z | z
        · exact ⟨fun _ => z, fun _ => by omega⟩
        · obtain ⟨q, hq, e⟩ := List.mem_map.mp z
          have : y.1 ≤ q.1 := by
            rcases List.mem_cons.mp hq with w | w
            · rw [w]; exact Int.le_refl _
            · exact Int.le_of_lt ((List.pairwise_cons.mp ha2).1 q w)
          constructor <;> intro _ <;> omega
      rw [e, ← hv x (by simp)]
      constructor
      · rintro (z | z)
        · exact z.1
        · have := seg_ge least s r y ha2 z
          omega
      · exact fun z => .inl ⟨z, hs, c⟩
    · have ih := seg_cum D least s h1 r y ha2 (fun p hp => hv p (by simp [hp])) (fun p hp => by
        rcases hD p hp with z | z
        · exact .inl (by omega)
        · rw [List.map_cons, List.mem_cons] at z
          rcases z with z | z
          · exact .inl (by omega)
          · exact .inr z) (fun p hp => hl p (by rw [List.getLast?_cons_cons]; exact hp)) (by omega)
      rw [← ih]
      constructor
      · rintro (z | z)
        · omega
        · exact z
      · exact .inr
theorem steps_seg {a b : List Int} {sl least : Int} (s : Int) (h1 : 1 ≤ least) : least ≤ cum (deltas a b sl) s ↔ ∃ x r, stepsOf a b sl = x :: r ∧ seg least s x r := by
  obtain ⟨ks, k1, k2, k3⟩ := steps_map a b sl
  have asc := steps_asc a b sl
  have last := steps_last a b sl
  cases hL : stepsOf a b sl with
  | nil =>
    rw [hL] at k3
    have hk : ks = [] := by
      cases ks with
      | nil => rfl
      | cons _ _ => cases k3
    have : deltas a b sl = [] := by
      cases hd : deltas a b sl with
      | nil => rfl
      | cons p D =>
        have := (k2 p.1).mpr (by rw [hd]; simp)
        rw [hk] at this
        cases this
    rw [this]
    constructor
    · intro z
      have : cum [] s = 0 := rfl
      omega
    · rintro ⟨x, r, h, _⟩
      cases h
  | cons x r =>
    rw [hL] at asc last k3
    have hv : ∀ p ∈ x :: r, p.2 = cum (deltas a b sl) p.1 := fun p hp => by
      rw [k3] at hp
      obtain ⟨k, _, rfl⟩ := List.mem_map.mp hp
      rfl
    have hfst : (x :: r).map (·.1) = ks := by
      rw [k3, List.map_map]
      exact List.map_id' ks
    have hD : ∀ p ∈ deltas a b sl, p.1 ∈ (x :: r).map (·.1) := fun p hp => by
      rw [hfst]
      exact (k2 p.1).mpr (List.mem_map_of_mem hp)
    by_cases c : x.1 ≤ s
    · have := seg_cum (deltas a b sl) least s h1 r x asc hv (fun p hp => by
        have := hD p hp
        rw [List.map_cons, List.mem_cons] at this
        rcases this with z | z
        · exact .inl (by omega)
        · exact .inr z) (fun p hp => (last p hp).1) c
      rw [← this]
      exact ⟨fun z => ⟨x, r, rfl, z⟩, fun ⟨x', r', e, z⟩ => by cases e; exact z⟩
    · have e : cum (deltas a b sl) s = 0 := cum_zero fun p hp => by
        obtain ⟨q, hq, e⟩ := List.mem_map.mp (hD p hp)
        have : x.1 ≤ q.1 := by
          rcases List.mem_cons.mp hq with w | w
          · rw [w]; exact Int.le_refl _
          · exact Int.le_of_lt ((List.pairwise_cons.mp asc).1 q w)
        omega
      rw [e]
      constructor
      · intro z; omega
      · rintro ⟨x', r', e', z⟩
        cases e'
        have := seg_ge least s r x asc z
        omega
theorem law_near {a b : List Int} {sl least : Int} (la : Log a) (lb : Log b) (h0 : 0 ≤ sl) (h1 : 1 ≤ least) (s : Int) : least ≤ (near a b sl s : Int) ↔ ∃ p ∈ rangesWith (stepsOf a b sl) least, p.1 ≤ s ∧ s ≤ p.2 := by
  rw [near_cum lb h0, steps_seg s h1]
  have asc := steps_asc a b sl
  cases hL : stepsOf a b sl with
  | nil =>
    constructor
    · rintro ⟨x, r, h, _⟩; cases h
    · rintro ⟨p, hp, _⟩; cases hp
  | cons x r =>
    rw [hL] at asc
    unfold rangesWith
    rw [ranges_from]
    have := rfrom_inn least s r x [] asc (fun p hp => by cases hp)
    show _ ↔ Inn s (rfrom least [] x r)
    rw [this]
    constructor
    · rintro ⟨x', r', e, z⟩
      cases e
      exact .inr z
    · rintro (⟨p, hp, _⟩ | z)
      · cases hp
      · exact ⟨x, r, rfl, z⟩
theorem law_shifts {a b : List Int} {sl least : Int} (la : Log a) (lb : Log b) (h0 : 0 ≤ sl) (h1 : 1 ≤ least) : (lawSt (rowsOf a b sl) least (rowsOf a b sl).length).2 = (rangesWith (stepsOf a b sl) least, none) := law_shifts0 h1
theorem best_fold : ∀ (L : List (Int × Int)) (t : Int × Int), (L.foldl gb t = t ∧ ∀ q ∈ L, q.2 ≤ t.1) ∨ (t.1 < (L.foldl gb t).1 ∧ IsBest L (L.foldl gb t).1 (L.foldl gb t).2)
  | [], t => .inl ⟨rfl, fun q hq => by cases hq⟩
  | x :: r, t => by
    rw [List.foldl_cons]
    by_cases h : t.1 < x.2
    · have e : gb t x = (x.2, x.1) := if_pos h
      rw [e]
      rcases best_fold r (x.2, x.1) with ⟨h1, h2⟩ | ⟨h1, pre, post, h2, h3, h4⟩
      · rw [h1]
        exact .inr ⟨h, [], r, rfl, (fun q hq => by cases hq), h2⟩
      · refine .inr ⟨by simp only at h1; omega, x :: pre, post, by rw [List.cons_append, ← h2], fun q hq => ?_, h4⟩
        rcases List.mem_cons.mp hq with z | z
        · rw [z]; exact h1
        · exact h3 q z
    · have e : gb t x = t := if_neg h
      rw [e]
      rcases best_fold r t with ⟨h1, h2⟩ | ⟨h1, pre, post, h2, h3, h4⟩
      · refine .inl ⟨h1, fun q hq => ?_⟩
        rcases List.mem_cons.mp hq with z | z
        · rw [z]; omega
        · exact h2 q z
      · refine .inr ⟨h1, x :: pre, post, by rw [List.cons_append, ← h2], fun q hq => ?_, h4⟩
        rcases List.mem_cons.mp hq with z | z
        · rw [z]; omega
        · exact h3 q z
theorem law_best {a b : List Int} {sl : Int} (la : Log a) (lb : Log b) (h0 : 0 ≤ sl) : IsBest (stepsOf a b sl) (bestSt (rowsOf a b sl) (rowsOf a b sl).length).2.1 (bestSt (rowsOf a b sl) (rowsOf a b sl).length).2.2 ∧ 1 ≤ (bestSt (rowsOf a b sl) (rowsOf a b sl).length).2.1 ∧ (bestSt (rowsOf a b sl) (rowsOf a b sl).length).2.1 ≤ 40 := by
  rw [bestSt_grp, grp_steps]
  have some1 : ∃ q ∈ stepsOf a b sl, 1 ≤ q.2 := by
    have pa := la.pos
    have pb := lb.pos
    have hn : (1 : Int) ≤ (near a b sl (b[0] - a[0]) : Int) := by
      have hB : nearB b sl (b[0] - a[0]) a[0] = true := by
        unfold nearB
        rw [List.any_eq_true]
        exact ⟨b[0], List.getElem_mem pb, decide_eq_true ((near_abs _ _ _ _).mpr (by omega))⟩
      have : 0 < near a b sl (b[0] - a[0]) := by
        unfold near
        rw [List.length_pos_iff]
        intro z
        have := List.filter_eq_nil_iff.mp z a[0] (List.getElem_mem pa)
        exact this hB
      omega
    rw [near_cum lb h0] at hn
    obtain ⟨x, r, e, z⟩ := (steps_seg (b[0] - a[0]) (Int.le_refl 1)).mp hn
    obtain ⟨q, hq, h⟩ := seg_has 1 _ r x z
    exact ⟨q, by rw [e]; exact hq, h⟩
  rcases best_fold (stepsOf a b sl) (0, 0) with ⟨_, h2⟩ | ⟨h1, h2⟩
  · obtain ⟨q, hq, h⟩ := some1
    have := h2 q hq
    simp only at this
    omega
  · refine ⟨h2, by simp only at h1; omega, ?_⟩
    obtain ⟨pre, post, e, _, _⟩ := h2
    obtain ⟨ks, _, _, k3⟩ := steps_map a b sl
    generalize hn : ((stepsOf a b sl).foldl gb (0, 0)).1 = n at e
    generalize ((stepsOf a b sl).foldl gb (0, 0)).2 = s at e
    have hm : (s, n) ∈ stepsOf a b sl := by rw [e]; simp
    rw [k3] at hm
    obtain ⟨k, _, hk⟩ := List.mem_map.mp hm
    have hk2 : cum (deltas a b sl) k = n := (Prod.mk.inj hk).2
    rw [← hk2, ← near_cum lb h0]
    have : near a b sl k ≤ a.length := List.length_filter_le _ _
    have := la.len
    omega
end K60

namespace K60
open L2 Dl PySem PyProof.Rows PySem.Spec
def topS (i : Nat) : Stmt := PySem.Challenge.pw_hourstold_k60_whole_shifts_of_logs.main.body.getD i (.Pass ⟨0, 0, 0, 0⟩)
/-! is_integer -/
def n6 : List Str := ["thing"]
def g6 : List (Str × GK) := [("isinstance", .blt), ("int", .blt), ("bool", .blt)]
def a6 : ASs := (.cons (.ret (.and (.isi [.int] (.var 0)) (.not (.isi [.bool] (.var 0))))) .nil)
theorem c6 : compileDef n6 (topS 6) (glOf g6) [131] [107, 118] = some a6 := by decide +kernel
theorem s6 : FnScope n6 ["thing"] (defScope (topS 6)) := ⟨rfl, rfl, rfl, by decide +kernel, rfl, by decide +kernel, by decide +kernel⟩

/-! is_within -/
def n7 : List Str := ["thing", "least", "most"]
def g7 : List (Str × GK) := [("is_integer", .fn 6 ["thing"] [])]
def a7 : ASs := (.cons (.ret (.and (.call 6 (.cons (.var 0) .nil)) (.chain .le .le (.var 1) (.var 0) (.var 2)))) .nil)
theorem c7 : compileDef n7 (topS 7) (glOf g7) [131] [107, 118] = some a7 := by decide +kernel
theorem s7 : FnScope n7 ["thing", "least", "most"] (defScope (topS 7)) := ⟨rfl, rfl, rfl, by decide +kernel, rfl, by decide +kernel, by decide +kernel⟩

/-! is_minute -/
def n8 : List Str := ["thing"]
def g8 : List (Str × GK) := [("is_within", .fn 7 ["thing", "least", "most"] []), ("FAR", .cst (.int (100000)))]
def a8 : ASs := (.cons (.ret (.call 7 (.cons (.var 0) (.cons (.neg (.c (.int (100000)))) (.cons (.c (.int (100000))) .nil))))) .nil)
theorem c8 : compileDef n8 (topS 8) (glOf g8) [131] [107, 118] = some a8 := by decide +kernel
theorem s8 : FnScope n8 ["thing"] (defScope (topS 8)) := ⟨rfl, rfl, rfl, by decide +kernel, rfl, by decide +kernel, by decide +kernel⟩

/-! is_row -/
def n9 : List Str := ["thing", "least", "most"]
def g9 : List (Str × GK) := [("isinstance", .blt), ("tuple", .blt), ("len", .blt)]
def a9 : ASs := (.cons (.ret (.and (.isi [.tuple] (.var 0)) (.chain .le .le (.var 1) (.bi .len (.cons (.var 0) .nil)) (.var 2)))) .nil)
theorem c9 : compileDef n9 (topS 9) (glOf g9) [131] [107, 118] = some a9 := by decide +kernel
theorem s9 : FnScope n9 ["thing", "least", "most"] (defScope (topS 9)) := ⟨rfl, rfl, rfl, by decide +kernel, rfl, by decide +kernel, by decide +kernel⟩

/-! is_ascending -/
def n10 : List Str := ["things", "one", "other"]
def g10 : List (Str × GK) := [("all", .blt), ("zip", .blt)]
def a10 : ASs := (.cons (.ret (.bi .all (.cons (.lc (.zip (.cons (.var 0) (.cons (.sl (.var 0) (.c (.int (1))) .omit) .nil))) (.tp (.cons (.nm 1) (.cons (.nm 2) .nil))) .omit (.op2 .lt (.var 1) (.var 2)) [1, 2]) .nil))) .nil)
theorem c10 : compileDef n10 (topS 10) (glOf g10) [131] [107, 118] = some a10 := by decide +kernel
theorem s10 : FnScope n10 ["things"] (defScope (topS 10)) := ⟨rfl, rfl, rfl, by decide +kernel, rfl, by decide +kernel, by decide +kernel⟩

/-! need_number -/
def n11 : List Str := ["number", "least", "most"]
def g11 : List (Str × GK) := [("is_within", .fn 7 ["thing", "least", "most"] [])]
def a11 : ASs := (.cons (.ife (.not (.call 7 (.cons (.var 0) (.cons (.var 1) (.cons (.var 2) .nil))))) (.cons .never .nil) .nil) .nil)
theorem c11 : compileDef n11 (topS 11) (glOf g11) [131] [107, 118] = some a11 := by decide +kernel
theorem s11 : FnScope n11 ["number", "least", "most"] (defScope (topS 11)) := ⟨rfl, rfl, rfl, by decide +kernel, rfl, by decide +kernel, by decide +kernel⟩

/-! shifts_of -/
def n13 : List Str := ["entry", "log", "slack", "found", "other", "first", "last"]
def g13 : List (Str × GK) := []
def a13 : ASs := (.cons (.asg (.nm 3) (.lst .nil)) (.cons (.for_ (.seq (.var 1)) (.nm 4) (.cons (.par 5 6 (.cons (.op2 .sub (.op2 .sub (.var 4) (.var 0)) (.var 2)) (.cons (.op2 .add (.op2 .sub (.var 4) (.var 0)) (.var 2)) .nil))) (.cons (.ife (.and (.var 3) (.op2 .ge (.op2 .add (.op2 .ix (.op2 .ix (.var 3) (.neg (.c (.int (1))))) (.c (.int (1)))) (.c (.int (1)))) (.var 5))) (.cons (.put (.tup (.cons (.op2 .ix (.op2 .ix (.var 3) (.neg (.c (.int (1))))) (.c (.int (0)))) (.cons (.var 6) .nil))) (.var 3) (.neg (.c (.int (1))))) .nil) (.cons (.drop (.mm .append (.var 3) (.cons (.tup (.cons (.var 5) (.cons (.var 6) .nil))) .nil))) .nil)) .nil))) (.cons (.ret (.var 3)) .nil)))
theorem c13 : compileDef n13 (topS 13) (glOf g13) [131] [107, 118] = some a13 := by decide +kernel
theorem s13 : FnScope n13 ["entry", "log", "slack"] (defScope (topS 13)) := ⟨rfl, rfl, rfl, by decide +kernel, rfl, by decide +kernel, by decide +kernel⟩

/-! steps_of -/
def n14 : List Str := ["log", "other", "slack", "changes", "entry", "first", "last", "found", "many", "shift"]
def g14 : List (Str × GK) := [("shifts_of", .fn 13 ["entry", "log", "slack"] []), ("sorted", .blt)]
def a14 : ASs := (.cons (.asg (.nm 3) .dnew) (.cons (.for_ (.seq (.var 0)) (.nm 4) (.cons (.for_ (.seq (.call 13 (.cons (.var 4) (.cons (.var 1) (.cons (.var 2) .nil))))) (.tp (.cons (.nm 5) (.cons (.nm 6) .nil))) (.cons (.put (.op2 .add (.get2 (.var 3) (.var 5) (.c (.int (0)))) (.c (.int (1)))) (.var 3) (.var 5)) (.cons (.put (.op2 .sub (.get2 (.var 3) (.op2 .add (.var 6) (.c (.int (1)))) (.c (.int (0)))) (.c (.int (1)))) (.var 3) (.op2 .add (.var 6) (.c (.int (1))))) .nil))) .nil)) (.cons (.par 7 8 (.cons (.lst .nil) (.cons (.c (.int (0))) .nil))) (.cons (.for_ (.seq (.bi .sorted (.cons (.var 3) .nil))) (.nm 9) (.cons (.asg (.nm 8) (.op2 .add (.var 8) (.op2 .ix (.var 3) (.var 9)))) (.cons (.drop (.mm .append (.var 7) (.cons (.tup (.cons (.var 9) (.cons (.var 8) .nil))) .nil))) .nil))) (.cons (.ret (.var 7)) .nil)))))
theorem c14 : compileDef n14 (topS 14) (glOf g14) [131] [107, 118] = some a14 := by decide +kernel
theorem s14 : FnScope n14 ["log", "other", "slack"] (defScope (topS 14)) := ⟨rfl, rfl, rfl, by decide +kernel, rfl, by decide +kernel, by decide +kernel⟩

/-! ranges_with -/
def n15 : List Str := ["steps", "least", "found", "shift", "many", "later", "more"]
def g15 : List (Str × GK) := [("zip", .blt), ("tuple", .blt)]
def a15 : ASs := (.cons (.asg (.nm 2) (.lst .nil)) (.cons (.for_ (.zip (.cons (.var 0) (.cons (.sl (.var 0) (.c (.int (1))) .omit) .nil))) (.tp (.cons (.tp (.cons (.nm 3) (.cons (.nm 4) .nil))) (.cons (.tp (.cons (.nm 5) (.cons (.nm 6) .nil))) .nil))) (.cons (.ife (.op2 .ge (.var 4) (.var 1)) (.cons (.ife (.and (.var 2) (.op2 .eq (.op2 .add (.op2 .ix (.op2 .ix (.var 2) (.neg (.c (.int (1))))) (.c (.int (1)))) (.c (.int (1)))) (.var 3))) (.cons (.put (.tup (.cons (.op2 .ix (.op2 .ix (.var 2) (.neg (.c (.int (1))))) (.c (.int (0)))) (.cons (.op2 .sub (.var 5) (.c (.int (1)))) .nil))) (.var 2) (.neg (.c (.int (1))))) .nil) (.cons (.drop (.mm .append (.var 2) (.cons (.tup (.cons (.var 3) (.cons (.op2 .sub (.var 5) (.c (.int (1)))) .nil))) .nil))) .nil)) .nil) .nil) .nil)) (.cons (.ret (.bi .tuple (.cons (.var 2) .nil))) .nil)))
theorem c15 : compileDef n15 (topS 15) (glOf g15) [131] [107, 118] = some a15 := by decide +kernel
theorem s15 : FnScope n15 ["steps", "least"] (defScope (topS 15)) := ⟨rfl, rfl, rfl, by decide +kernel, rfl, by decide +kernel, by decide +kernel⟩

/-! best_of -/
def n16 : List Str := ["steps", "number", "shift", "many"]
def g16 : List (Str × GK) := [("max", .blt)]
def a16 : ASs := (.cons (.asg (.nm 1) (.bi .max (.cons (.lc (.seq (.var 0)) (.tp (.cons (.nm 2) (.cons (.nm 3) .nil))) .omit (.var 3) [2, 3]) .nil))) (.cons (.ret (.tup (.cons (.var 1) (.cons (.op2 .ix (.lc (.seq (.var 0)) (.tp (.cons (.nm 2) (.cons (.nm 3) .nil))) (.op2 .eq (.var 3) (.var 1)) (.var 2) [2, 3]) (.c (.int (0)))) .nil)))) .nil))
theorem c16 : compileDef n16 (topS 16) (glOf g16) [131] [107, 118] = some a16 := by decide +kernel
theorem s16 : FnScope n16 ["steps"] (defScope (topS 16)) := ⟨rfl, rfl, rfl, by decide +kernel, rfl, by decide +kernel, by decide +kernel⟩

/-! need_log -/
def n20 : List Str := ["log", "one"]
def g20 : List (Str × GK) := [("is_row", .fn 9 ["thing", "least", "most"] []), ("MOST_ENTRIES", .cst (.int (40))), ("all", .blt), ("is_minute", .fn 8 ["thing"] []), ("is_ascending", .fn 10 ["things"] [])]
def a20 : ASs := (.cons (.ife (.or (.not (.call 9 (.cons (.var 0) (.cons (.c (.int (1))) (.cons (.c (.int (40))) .nil))))) (.or (.not (.bi .all (.cons (.lc (.seq (.var 0)) (.nm 1) .omit (.call 8 (.cons (.var 1) .nil)) [1]) .nil))) (.not (.call 10 (.cons (.var 0) .nil))))) (.cons .never .nil) .nil) .nil)
theorem c20 : compileDef n20 (topS 20) (glOf g20) [131] [107, 118] = some a20 := by decide +kernel
theorem s20 : FnScope n20 ["log"] (defScope (topS 20)) := ⟨rfl, rfl, rfl, by decide +kernel, rfl, by decide +kernel, by decide +kernel⟩

/-! need_two_logs -/
def n21 : List Str := ["log", "other", "slack"]
def g21 : List (Str × GK) := [("need_log", .fn 20 ["log"] []), ("need_number", .fn 11 ["number", "least", "most"] []), ("MOST_SLACK", .cst (.int (100)))]
def a21 : ASs := (.cons (.drop (.call 20 (.cons (.var 0) .nil))) (.cons (.drop (.call 20 (.cons (.var 1) .nil))) (.cons (.drop (.call 11 (.cons (.var 2) (.cons (.c (.int (0))) (.cons (.c (.int (100))) .nil))))) .nil)))
theorem c21 : compileDef n21 (topS 21) (glOf g21) [131] [107, 118] = some a21 := by decide +kernel
theorem s21 : FnScope n21 ["log", "other", "slack"] (defScope (topS 21)) := ⟨rfl, rfl, rfl, by decide +kernel, rfl, by decide +kernel, by decide +kernel⟩

/-! shifts -/
def n22 : List Str := ["log", "other", "slack", "least"]
def g22 : List (Str × GK) := [("need_two_logs", .fn 21 ["log", "other", "slack"] []), ("need_number", .fn 11 ["number", "least", "most"] []), ("MOST_ENTRIES", .cst (.int (40))), ("ranges_with", .fn 15 ["steps", "least"] []), ("steps_of", .fn 14 ["log", "other", "slack"] [])]
def a22 : ASs := (.cons (.drop (.call 21 (.cons (.var 0) (.cons (.var 1) (.cons (.var 2) .nil))))) (.cons (.drop (.call 11 (.cons (.var 3) (.cons (.c (.int (1))) (.cons (.c (.int (40))) .nil))))) (.cons (.ret (.call 15 (.cons (.call 14 (.cons (.var 0) (.cons (.var 1) (.cons (.var 2) .nil)))) (.cons (.var 3) .nil)))) .nil)))
theorem c22 : compileDef n22 (topS 22) (glOf g22) [131] [107, 118] = some a22 := by decide +kernel
theorem s22 : FnScope n22 ["log", "other", "slack", "least"] (defScope (topS 22)) := ⟨rfl, rfl, rfl, by decide +kernel, rfl, by decide +kernel, by decide +kernel⟩

/-! best_shift -/
def n23 : List Str := ["log", "other", "slack"]
def g23 : List (Str × GK) := [("need_two_logs", .fn 21 ["log", "other", "slack"] []), ("best_of", .fn 16 ["steps"] []), ("steps_of", .fn 14 ["log", "other", "slack"] [])]
def a23 : ASs := (.cons (.drop (.call 21 (.cons (.var 0) (.cons (.var 1) (.cons (.var 2) .nil))))) (.cons (.ret (.call 16 (.cons (.call 14 (.cons (.var 0) (.cons (.var 1) (.cons (.var 2) .nil)))) .nil))) .nil))
theorem c23 : compileDef n23 (topS 23) (glOf g23) [131] [107, 118] = some a23 := by decide +kernel
theorem s23 : FnScope n23 ["log", "other", "slack"] (defScope (topS 23)) := ⟨rfl, rfl, rfl, by decide +kernel, rfl, by decide +kernel, by decide +kernel⟩

/-! _law_feed -/
def n25 : List Str := ["script", "k", "cell"]
def g25 : List (Str × GK) := [("sum", .blt), ("len", .blt), ("max", .blt), ("int", .blt)]
def a25 : ASs := (.cons (.asg (.nm 2) (.op2 .add (.op2 .mul (.c (.int (977))) (.var 1)) (.bi .sum (.cons (.sl (.var 0) .omit (.c (.int (1)))) .nil)))) (.cons (.ife (.op2 .lt (.var 1) (.bi .len (.cons (.var 0) .nil))) (.cons (.asg (.nm 2) (.op2 .ix (.var 0) (.var 1))) .nil) .nil) (.cons (.ret (.lst (.cons (.bi .max (.cons (.c (.int (0))) (.cons (.op2 .sub (.var 2) (.op2 .pow (.c (.int (10))) (.c (.int (18))))) .nil))) (.cons (.op2 .mod (.bi .int (.cons (.op2 .add (.op2 .mul (.var 2) (.c (.int (19)))) (.op2 .mul (.c (.int (7))) (.var 1))) .nil)) (.op2 .add (.op2 .pow (.c (.int (10))) (.c (.int (39)))) (.c (.int (23))))) (.cons (.c (.int (0))) .nil))))) .nil)))
theorem c25 : compileDef n25 (topS 25) (glOf g25) [131] [107, 118] = some a25 := by decide +kernel
theorem s25 : FnScope n25 ["script", "k"] (defScope (topS 25)) := ⟨rfl, rfl, rfl, by decide +kernel, rfl, by decide +kernel, by decide +kernel⟩

/-! _law_draw -/
def n26 : List Str := ["feed", "many", "rest", "got", "stir"]
def g26 : List (Str × GK) := [("int", .blt)]
def a26 : ASs := (.cons (.ife (.op2 .gt (.op2 .ix (.var 0) (.c (.int (0)))) (.c (.int (0)))) (.cons (.asg (.nm 2) (.op2 .div (.op2 .ix (.var 0) (.c (.int (0)))) (.var 1))) (.cons (.asg (.nm 3) (.op2 .sub (.op2 .ix (.var 0) (.c (.int (0)))) (.op2 .mul (.var 2) (.var 1)))) (.cons (.put (.var 2) (.var 0) (.c (.int (0)))) (.cons (.ret (.var 3)) .nil)))) .nil) (.cons (.put (.op2 .add (.op2 .ix (.var 0) (.c (.int (2)))) (.c (.int (1)))) (.var 0) (.c (.int (2)))) (.cons (.asg (.nm 4) (.op2 .add (.op2 .ix (.var 0) (.c (.int (1)))) (.op2 .mul (.c (.int (6700417))) (.op2 .ix (.var 0) (.c (.int (2))))))) (.cons (.asg (.nm 4) (.op2 .mod (.bi .int (.cons (.op2 .add (.op2 .mul (.op2 .mul (.var 4) (.var 4)) (.var 4)) (.op2 .mul (.c (.int (15485863))) (.op2 .ix (.var 0) (.c (.int (2)))))) .nil)) (.op2 .add (.op2 .pow (.c (.int (10))) (.c (.int (43)))) (.c (.int (57)))))) (.cons (.asg (.nm 4) (.op2 .mod (.bi .int (.cons (.op2 .add (.op2 .mul (.var 4) (.var 4)) (.c (.int (32452843)))) .nil)) (.op2 .add (.op2 .pow (.c (.int (10))) (.c (.int (38)))) (.c (.int (133)))))) (.cons (.ret (.op2 .mod (.bi .int (.cons (.op2 .div (.var 4) (.op2 .pow (.c (.int (10))) (.c (.int (9))))) .nil)) (.var 1))) .nil))))))
theorem c26 : compileDef n26 (topS 26) (glOf g26) [131] [107, 118] = some a26 := by decide +kernel
theorem s26 : FnScope n26 ["feed", "many"] (defScope (topS 26)) := ⟨rfl, rfl, rfl, by decide +kernel, rfl, by decide +kernel, by decide +kernel⟩

/-! _law_one -/
def n27 : List Str := ["feed", "things"]
def g27 : List (Str × GK) := [("_law_draw", .fn 26 ["feed", "many"] []), ("len", .blt)]
def a27 : ASs := (.cons (.ret (.op2 .ix (.var 1) (.call 26 (.cons (.var 0) (.cons (.bi .len (.cons (.var 1) .nil)) .nil))))) .nil)
theorem c27 : compileDef n27 (topS 27) (glOf g27) [131] [107, 118] = some a27 := by decide +kernel
theorem s27 : FnScope n27 ["feed", "things"] (defScope (topS 27)) := ⟨rfl, rfl, rfl, by decide +kernel, rfl, by decide +kernel, by decide +kernel⟩

/-! _law_same -/
def n28 : List Str := ["told", "due", "alike", "one", "two"]
def g28 : List (Str × GK) := [("isinstance", .blt), ("list", .blt), ("tuple", .blt), ("len", .blt), ("_law_same", .fn 28 ["told", "due"] []), ("zip", .blt), ("bool", .blt), ("str", .blt), ("int", .blt)]
def a28 : ASs := (.cons (.ife (.isi [.list, .tuple] (.var 1)) (.cons (.asg (.nm 2) (.ife (.isi [.list] (.var 1)) (.isi [.list] (.var 0)) (.isi [.tuple] (.var 0)))) (.cons (.ret (.and (.var 2) (.and (.op2 .eq (.bi .len (.cons (.var 0) .nil)) (.bi .len (.cons (.var 1) .nil))) (.op2 .nin (.c (.bool false)) (.lc (.zip (.cons (.var 0) (.cons (.var 1) .nil))) (.tp (.cons (.nm 3) (.cons (.nm 4) .nil))) .omit (.call 28 (.cons (.var 3) (.cons (.var 4) .nil))) [3, 4]))))) .nil)) .nil) (.cons (.ife (.op2 .is_ (.var 1) (.c .none)) (.cons (.ret (.op2 .is_ (.var 0) (.c .none))) .nil) .nil) (.cons (.ife (.or (.op2 .ne (.isi [.bool] (.var 1)) (.isi [.bool] (.var 0))) (.op2 .ne (.isi [.str] (.var 1)) (.isi [.str] (.var 0)))) (.cons (.ret (.c (.bool false))) .nil) .nil) (.cons (.ret (.and (.isi [.int, .str] (.var 0)) (.op2 .eq (.var 0) (.var 1)))) .nil))))
theorem c28 : compileDef n28 (topS 28) (glOf g28) [131] [107, 118] = some a28 := by decide +kernel
theorem s28 : FnScope n28 ["told", "due"] (defScope (topS 28)) := ⟨rfl, rfl, rfl, by decide +kernel, rfl, by decide +kernel, by decide +kernel⟩

/-! _law_log -/
def n29 : List Str := ["feed", "many", "near", "got", "step", "minute", "turn", "one"]
def g29 : List (Str × GK) := [("_law_one", .fn 27 ["feed", "things"] []), ("range", .blt), ("_law_draw", .fn 26 ["feed", "many"] []), ("tuple", .blt), ("sorted", .blt)]
def a29 : ASs := (.cons (.par 3 4 (.cons .dnew (.cons (.call 27 (.cons (.var 0) (.cons (.lst (.cons (.c (.int (1))) (.cons (.c (.int (3))) (.cons (.c (.int (10))) (.cons (.c (.int (40))) .nil))))) .nil))) .nil))) (.cons (.asg (.nm 5) (.var 2)) (.cons (.for_ (.r1 (.cons (.op2 .add (.c (.int (1))) (.call 26 (.cons (.var 0) (.cons (.var 1) .nil)))) .nil)) (.nm 6) (.cons (.put (.c (.bool true)) (.var 3) (.var 5)) (.cons (.asg (.nm 5) (.op2 .add (.op2 .add (.var 5) (.c (.int (1)))) (.call 26 (.cons (.var 0) (.cons (.var 4) .nil))))) .nil))) (.cons (.ret (.bi .tuple (.cons (.bi .sorted (.cons (.lcD 3 (.nm 7) .omit (.var 7) [7]) .nil)) .nil))) .nil))))
theorem c29 : compileDef n29 (topS 29) (glOf g29) [131] [107, 118] = some a29 := by decide +kernel
theorem s29 : FnScope n29 ["feed", "many", "near"] (defScope (topS 29)) := ⟨rfl, rfl, rfl, by decide +kernel, rfl, by decide +kernel, by decide +kernel⟩

/-! _law_two_logs -/
def n30 : List Str := ["feed", "one", "way", "moved", "got", "minute", "turn"]
def g30 : List (Str × GK) := [("_law_log", .fn 29 ["feed", "many", "near"] []), ("_law_one", .fn 27 ["feed", "things"] []), ("_law_draw", .fn 26 ["feed", "many"] []), ("range", .blt), ("tuple", .blt), ("sorted", .blt)]
def a30 : ASs := (.cons (.par 1 2 (.cons (.call 29 (.cons (.var 0) (.cons (.call 27 (.cons (.var 0) (.cons (.lst (.cons (.c (.int (2))) (.cons (.c (.int (5))) (.cons (.c (.int (12))) (.cons (.c (.int (40))) .nil))))) .nil))) (.cons (.op2 .sub (.call 26 (.cons (.var 0) (.cons (.c (.int (400))) .nil))) (.c (.int (200)))) .nil)))) (.cons (.call 26 (.cons (.var 0) (.cons (.c (.int (3))) .nil))) .nil))) (.cons (.ife (.op2 .eq (.var 2) (.c (.int (0)))) (.cons (.ret (.tup (.cons (.var 1) (.cons (.call 29 (.cons (.var 0) (.cons (.call 27 (.cons (.var 0) (.cons (.lst (.cons (.c (.int (2))) (.cons (.c (.int (5))) (.cons (.c (.int (12))) (.cons (.c (.int (40))) .nil))))) .nil))) (.cons (.op2 .sub (.call 26 (.cons (.var 0) (.cons (.c (.int (400))) .nil))) (.c (.int (200)))) .nil)))) .nil)))) .nil) .nil) (.cons (.par 3 4 (.cons (.op2 .sub (.call 26 (.cons (.var 0) (.cons (.c (.int (2000))) .nil))) (.c (.int (1000)))) (.cons .dnew .nil))) (.cons (.for_ (.seq (.var 1)) (.nm 5) (.cons (.ife (.or (.op2 .eq (.var 2) (.c (.int (1)))) (.op2 .gt (.call 26 (.cons (.var 0) (.cons (.c (.int (4))) .nil))) (.c (.int (0))))) (.cons (.put (.c (.bool true)) (.var 4) (.op2 .add (.op2 .add (.var 5) (.var 3)) (.call 27 (.cons (.var 0) (.cons (.lst (.cons (.c (.int (0))) (.cons (.c (.int (0))) (.cons (.c (.int (1))) (.cons (.op2 .sub (.call 26 (.cons (.var 0) (.cons (.c (.int (7))) .nil))) (.c (.int (3)))) .nil))))) .nil))))) .nil) .nil) .nil)) (.cons (.for_ (.r1 (.cons (.call 26 (.cons (.var 0) (.cons (.c (.int (3))) .nil))) .nil)) (.nm 6) (.cons (.put (.c (.bool true)) (.var 4) (.op2 .add (.op2 .add (.op2 .ix (.var 1) (.c (.int (0)))) (.var 3)) (.call 26 (.cons (.var 0) (.cons (.c (.int (60))) .nil))))) .nil)) (.cons (.ret (.tup (.cons (.var 1) (.cons (.ife (.dne0 4) (.bi .tuple (.cons (.sl (.bi .sorted (.cons (.lcD 4 (.nm 5) .omit (.var 5) [5]) .nil)) .omit (.c (.int (40)))) .nil)) (.var 1)) .nil)))) .nil))))))
theorem c30 : compileDef n30 (topS 30) (glOf g30) [131] [107, 118] = some a30 := by decide +kernel
theorem s30 : FnScope n30 ["feed"] (defScope (topS 30)) := ⟨rfl, rfl, rfl, by decide +kernel, rfl, by decide +kernel, by decide +kernel⟩

/-! _law_near_enough -/
def n31 : List Str := ["one", "other", "slack", "shift", "minute", "spot"]
def g31 : List (Str × GK) := [("len", .blt), ("abs", .blt)]
def a31 : ASs := (.cons (.ret (.bi .len (.cons (.lc (.seq (.var 0)) (.nm 4) (.op2 .ne (.lc (.seq (.var 1)) (.nm 5) (.op2 .le (.bi .abs (.cons (.op2 .sub (.op2 .add (.var 4) (.var 3)) (.var 5)) .nil)) (.var 2)) (.c (.int (1))) [5]) (.lst .nil)) (.c (.int (1))) [4]) .nil))) .nil)
theorem c31 : compileDef n31 (topS 31) (glOf g31) [131] [107, 118] = some a31 := by decide +kernel
theorem s31 : FnScope n31 ["one", "other", "slack", "shift"] (defScope (topS 31)) := ⟨rfl, rfl, rfl, by decide +kernel, rfl, by decide +kernel, by decide +kernel⟩

/-! _law_steps -/
def n32 : List Str := ["one", "other", "slack", "got", "minute", "spans", "spot", "low", "high"]
def g32 : List (Str × GK) := [("sorted", .blt)]
def a32 : ASs := (.cons (.asg (.nm 3) (.lst .nil)) (.cons (.for_ (.seq (.var 0)) (.nm 4) (.cons (.asg (.nm 5) (.lst .nil)) (.cons (.for_ (.seq (.var 1)) (.nm 6) (.cons (.par 7 8 (.cons (.op2 .sub (.op2 .sub (.var 6) (.var 4)) (.var 2)) (.cons (.op2 .add (.op2 .sub (.var 6) (.var 4)) (.var 2)) .nil))) (.cons (.ife (.and (.op2 .ne (.var 5) (.lst .nil)) (.op2 .le (.var 7) (.op2 .add (.op2 .ix (.op2 .ix (.var 5) (.neg (.c (.int (1))))) (.c (.int (1)))) (.c (.int (1)))))) (.cons (.put (.tup (.cons (.op2 .ix (.op2 .ix (.var 5) (.neg (.c (.int (1))))) (.c (.int (0)))) (.cons (.var 8) .nil))) (.var 5) (.neg (.c (.int (1))))) .nil) (.cons (.drop (.mm .append (.var 5) (.cons (.tup (.cons (.var 7) (.cons (.var 8) .nil))) .nil))) .nil)) .nil))) (.cons (.sh (.for_ (.seq (.var 5)) (.tp (.cons (.nm 7) (.cons (.nm 8) .nil))) (.cons (.drop (.mm .extend (.var 3) (.cons (.lst (.cons (.tup (.cons (.var 7) (.cons (.c (.int (1))) .nil))) (.cons (.tup (.cons (.op2 .add (.var 8) (.c (.int (1)))) (.cons (.op2 .sub (.c (.int (0))) (.c (.int (1)))) .nil))) .nil))) .nil))) .nil))) .nil)))) (.cons (.ret (.bi .sorted (.cons (.var 3) .nil))) .nil)))
theorem c32 : compileDef n32 (topS 32) (glOf g32) [131] [107, 118] = some a32 := by decide +kernel
theorem s32 : FnScope n32 ["one", "other", "slack"] (defScope (topS 32)) := ⟨rfl, rfl, rfl, by decide +kernel, rfl, by decide +kernel, by decide +kernel⟩

/-! _law_shifts -/
def n33 : List Str := ["one", "other", "slack", "least", "many", "got", "rows", "at"]
def g33 : List (Str × GK) := [("_law_steps", .fn 32 ["one", "other", "slack"] []), ("range", .blt), ("len", .blt), ("tuple", .blt)]
def a33 : ASs := (.cons (.par3 4 5 6 (.cons (.c (.int (0))) (.cons (.lst .nil) (.cons (.call 32 (.cons (.var 0) (.cons (.var 1) (.cons (.var 2) .nil)))) .nil)))) (.cons (.for_ (.r1 (.cons (.bi .len (.cons (.var 6) .nil)) .nil)) (.nm 7) (.cons (.asg (.nm 4) (.op2 .add (.var 4) (.op2 .ix (.op2 .ix (.var 6) (.var 7)) (.c (.int (1)))))) (.cons (.ife (.or (.op2 .eq (.op2 .add (.var 7) (.c (.int (1)))) (.bi .len (.cons (.var 6) .nil))) (.op2 .ne (.op2 .ix (.op2 .ix (.var 6) (.op2 .add (.var 7) (.c (.int (1))))) (.c (.int (0)))) (.op2 .ix (.op2 .ix (.var 6) (.var 7)) (.c (.int (0)))))) (.cons (.ife (.and (.op2 .ge (.var 4) (.var 3)) (.or (.op2 .eq (.var 5) (.lst .nil)) (.op2 .eq (.bi .len (.cons (.op2 .ix (.var 5) (.neg (.c (.int (1))))) .nil)) (.c (.int (2)))))) (.cons (.drop (.mm .append (.var 5) (.cons (.tup (.cons (.op2 .ix (.op2 .ix (.var 6) (.var 7)) (.c (.int (0)))) .nil)) .nil))) .nil) (.cons (.ife (.and (.op2 .lt (.var 4) (.var 3)) (.and (.op2 .ne (.var 5) (.lst .nil)) (.op2 .eq (.bi .len (.cons (.op2 .ix (.var 5) (.neg (.c (.int (1))))) .nil)) (.c (.int (1)))))) (.cons (.put (.op2 .add (.op2 .ix (.var 5) (.neg (.c (.int (1))))) (.tup (.cons (.op2 .sub (.op2 .ix (.op2 .ix (.var 6) (.var 7)) (.c (.int (0)))) (.c (.int (1)))) .nil))) (.var 5) (.neg (.c (.int (1))))) .nil) .nil) .nil)) .nil) .nil) .nil))) (.cons (.ret (.bi .tuple (.cons (.var 5) .nil))) .nil)))
theorem c33 : compileDef n33 (topS 33) (glOf g33) [131] [107, 118] = some a33 := by decide +kernel
theorem s33 : FnScope n33 ["one", "other", "slack", "least"] (defScope (topS 33)) := ⟨rfl, rfl, rfl, by decide +kernel, rfl, by decide +kernel, by decide +kernel⟩

/-! _law_best -/
def n34 : List Str := ["one", "other", "slack", "many", "best", "rows", "at"]
def g34 : List (Str × GK) := [("_law_steps", .fn 32 ["one", "other", "slack"] []), ("range", .blt), ("len", .blt)]
def a34 : ASs := (.cons (.par3 3 4 5 (.cons (.c (.int (0))) (.cons (.tup (.cons (.c (.int (0))) (.cons (.c (.int (0))) .nil))) (.cons (.call 32 (.cons (.var 0) (.cons (.var 1) (.cons (.var 2) .nil)))) .nil)))) (.cons (.for_ (.r1 (.cons (.bi .len (.cons (.var 5) .nil)) .nil)) (.nm 6) (.cons (.asg (.nm 3) (.op2 .add (.var 3) (.op2 .ix (.op2 .ix (.var 5) (.var 6)) (.c (.int (1)))))) (.cons (.ife (.and (.op2 .gt (.var 3) (.op2 .ix (.var 4) (.c (.int (0))))) (.or (.op2 .eq (.op2 .add (.var 6) (.c (.int (1)))) (.bi .len (.cons (.var 5) .nil))) (.op2 .ne (.op2 .ix (.op2 .ix (.var 5) (.op2 .add (.var 6) (.c (.int (1))))) (.c (.int (0)))) (.op2 .ix (.op2 .ix (.var 5) (.var 6)) (.c (.int (0))))))) (.cons (.asg (.nm 4) (.tup (.cons (.var 3) (.cons (.op2 .ix (.op2 .ix (.var 5) (.var 6)) (.c (.int (0)))) .nil)))) .nil) .nil) .nil))) (.cons (.ret (.var 4)) .nil)))
theorem c34 : compileDef n34 (topS 34) (glOf g34) [131] [107, 118] = some a34 := by decide +kernel
theorem s34 : FnScope n34 ["one", "other", "slack"] (defScope (topS 34)) := ⟨rfl, rfl, rfl, by decide +kernel, rfl, by decide +kernel, by decide +kernel⟩

/-! _law_right -/
def n35 : List Str := ["feed", "one", "other", "slack", "best", "least", "due", "spots", "low", "high", "shift"]
def g35 : List (Str × GK) := [("_law_two_logs", .fn 30 ["feed"] []), ("_law_one", .fn 27 ["feed", "things"] []), ("_law_draw", .fn 26 ["feed", "many"] []), ("_law_best", .fn 34 ["one", "other", "slack"] []), ("_law_same", .fn 28 ["told", "due"] []), ("best_shift", .fn 23 ["log", "other", "slack"] [["slack", "other", "log"]]), ("min", .blt), ("_law_shifts", .fn 33 ["one", "other", "slack", "least"] []), ("shifts", .fn 22 ["log", "other", "slack", "least"] [["least", "slack", "other", "log"]]), ("_law_near_enough", .fn 31 ["one", "other", "slack", "shift"] [])]
def a35 : ASs := (.cons (.asg (.tp (.cons (.nm 1) (.cons (.nm 2) .nil))) (.call 30 (.cons (.var 0) .nil))) (.cons (.asg (.nm 3) (.call 27 (.cons (.var 0) (.cons (.lst (.cons (.c (.int (0))) (.cons (.c (.int (0))) (.cons (.c (.int (1))) (.cons (.c (.int (2))) (.cons (.c (.int (5))) (.cons (.call 26 (.cons (.var 0) (.cons (.c (.int (101))) .nil))) .nil))))))) .nil)))) (.cons (.asg (.nm 4) (.call 34 (.cons (.var 1) (.cons (.var 2) (.cons (.var 3) .nil))))) (.cons (.ife (.not (.call 28 (.cons (.lst (.cons (.call 23 (.cons (.var 1) (.cons (.var 2) (.cons (.var 3) .nil)))) (.cons (.callK 23 [2, 1, 0] (.cons (.var 3) (.cons (.var 2) (.cons (.var 1) .nil)))) .nil))) (.cons (.lst (.cons (.var 4) (.cons (.var 4) .nil))) .nil)))) (.cons (.ret (.c (.bool false))) .nil) .nil) (.cons (.for_ (.seq (.lst (.cons (.op2 .ix (.var 4) (.c (.int (0)))) (.cons (.bi .min (.cons (.c (.int (40))) (.cons (.op2 .add (.op2 .ix (.var 4) (.c (.int (0)))) (.c (.int (1)))) .nil))) (.cons (.op2 .add (.c (.int (1))) (.call 26 (.cons (.var 0) (.cons (.op2 .ix (.var 4) (.c (.int (0)))) .nil)))) (.cons (.op2 .add (.c (.int (1))) (.call 26 (.cons (.var 0) (.cons (.c (.int (40))) .nil)))) .nil)))))) (.nm 5) (.cons (.asg (.nm 6) (.call 33 (.cons (.var 1) (.cons (.var 2) (.cons (.var 3) (.cons (.var 5) .nil)))))) (.cons (.ife (.not (.call 28 (.cons (.lst (.cons (.call 22 (.cons (.var 1) (.cons (.var 2) (.cons (.var 3) (.cons (.var 5) .nil))))) (.cons (.callK 22 [3, 2, 1, 0] (.cons (.var 5) (.cons (.var 3) (.cons (.var 2) (.cons (.var 1) .nil))))) .nil))) (.cons (.lst (.cons (.var 6) (.cons (.var 6) .nil))) .nil)))) (.cons (.ret (.c (.bool false))) .nil) .nil) (.cons (.asg (.nm 7) (.lst (.cons (.op2 .ix (.var 4) (.c (.int (1)))) (.cons (.op2 .sub (.op2 .add (.op2 .ix (.var 4) (.c (.int (1)))) (.call 26 (.cons (.var 0) (.cons (.c (.int (61))) .nil)))) (.c (.int (30)))) .nil)))) (.cons (.for_ (.seq (.sl (.var 6) .omit (.c (.int (3))))) (.tp (.cons (.nm 8) (.cons (.nm 9) .nil))) (.cons (.asg (.nm 7) (.op2 .add (.var 7) (.lst (.cons (.op2 .sub (.var 8) (.c (.int (1)))) (.cons (.var 8) (.cons (.var 9) (.cons (.op2 .add (.var 9) (.c (.int (1)))) .nil))))))) .nil)) (.cons (.for_ (.seq (.var 7)) (.nm 10) (.cons (.ife (.op2 .ne (.op2 .ge (.call 31 (.cons (.var 1) (.cons (.var 2) (.cons (.var 3) (.cons (.var 10) .nil))))) (.var 5)) (.op2 .ne (.lc (.seq (.var 6)) (.tp (.cons (.nm 8) (.cons (.nm 9) .nil))) (.chain .le .le (.var 8) (.var 10) (.var 9)) (.c (.int (1))) [8, 9]) (.lst .nil))) (.cons (.ret (.c (.bool false))) .nil) .nil) .nil)) .nil)))))) (.cons (.ret (.c (.bool true))) .nil))))))
theorem c35 : compileDef n35 (topS 35) (glOf g35) [131] [107, 118] = some a35 := by decide +kernel
theorem s35 : FnScope n35 ["feed"] (defScope (topS 35)) := ⟨rfl, rfl, rfl, by decide +kernel, rfl, by decide +kernel, by decide +kernel⟩

/-! law -/
def n36 : List Str := ["script", "k", "feed"]
def g36 : List (Str × GK) := [("range", .blt), ("max", .blt), ("min", .blt), ("len", .blt), ("_law_feed", .fn 25 ["script", "k"] []), ("_law_right", .fn 35 ["feed"] [])]
def a36 : ASs := (.cons (.for_ (.r1 (.cons (.bi .max (.cons (.c (.int (2))) (.cons (.bi .min (.cons (.bi .len (.cons (.var 0) .nil)) (.cons (.c (.int (6))) .nil))) .nil))) .nil)) (.nm 1) (.cons (.asg (.nm 2) (.call 25 (.cons (.var 0) (.cons (.var 1) .nil)))) (.cons (.ife (.not (.call 35 (.cons (.var 2) .nil))) (.cons (.ret (.c (.bool false))) .nil) .nil) .nil))) (.cons (.ret (.c (.bool true))) .nil))
theorem c36 : compileDef n36 (topS 36) (glOf g36) [131] [107, 118] = some a36 := by decide +kernel
theorem s36 : FnScope n36 ["script"] (defScope (topS 36)) := ⟨rfl, rfl, rfl, by decide +kernel, rfl, by decide +kernel, by decide +kernel⟩

end K60

namespace K60
open L2 Dl PySem PyProof.Rows PySem.Spec
section
variable {P : Program} {w : World} {K : PySem.W.Frag} {mg : Str → Option Value} {base : Heap} {k : Nat} {T : Nat → FT} {f : Addr} {fd : FuncData}
/-! ### what the defs do -/
def F6 : FT := fun ws B k => ∃ i : Int, ws = [.d (.int i)] ∧ B = [] ∧ k (.d (.bool true)) []
def F7 : FT := fun ws B k => ∃ i lo hi : Int, ws = [.d (.int i), .d (.int lo), .d (.int hi)] ∧ B = [] ∧ k (.d (.bool (decide (lo ≤ i ∧ i ≤ hi)))) []
def F8 : FT := fun ws B k => ∃ i : Int, ws = [.d (.int i)] ∧ B = [] ∧ k (.d (.bool (decide (-100000 ≤ i ∧ i ≤ 100000)))) []
def F9 : FT := fun ws B k => ∃ (ds : List PyData) (lo hi : Int), ws = [.d (.tuple ds), .d (.int lo), .d (.int hi)] ∧ B = [] ∧ k (.d (.bool (decide (lo ≤ (ds.length : Int) ∧ (ds.length : Int) ≤ hi)))) []
def F10 : FT := fun ws B k => ∃ ns : List Int, ws = [.d (.tuple (ns.map .int))] ∧ B = [] ∧ Asc ns ∧ ns.length ≤ 1000 ∧ k (.d (.bool true)) []
def F11 : FT := fun ws B k => ∃ i lo hi : Int, ws = [.d (.int i), .d (.int lo), .d (.int hi)] ∧ B = [] ∧ lo ≤ i ∧ i ≤ hi ∧ k (.d .none) []
theorem ok6 (Fu : Fun K "is_integer" "is_integer" (topS 6) f fd) (hg : GlOk P w K mg base k (glOf g6) T) : FnOk P w K mg base CX0 (k + 1) f fd ["thing"] (spOf K F6) := by
  refine def_ok Fu s6 hg c6 (fun ws B k h => ?_) fun ws B k h => ?_
  · obtain ⟨i, rfl, _⟩ := h; rfl
  · obtain ⟨i, rfl, rfl, h⟩ := h
    simp only [a6, n6, Dl.wpSs, Dl.wpS, Dl.wpE, Dl.wpT, Dl.wpO, Dl.wpEs, Dl.wpI, Dl.wpG, Dl.wpGs, lenG, isCmp, a2, sNext, sSeq, sIf, sRet, sRetN, sDrop, sAsg, sPar, sPar3, sPut, sAug, sNever, sBreak, sCont, fVar, fC, fOp, fUn, fL, fNil, fCons, fTru, fBool, fNot, fAnd, fOr, fAndV, fOrV, fNotV, fIf, fChain, fTup, fLst, wDs, fCall, fCallK, fSl, fPart, fNoPart, fIsi, fMM, fGet2, fDNew, aD2, aD1, aDL, wDL, wD, rd, wK, aTru, boolK, wpR, dAdd, dSub, dMul, dDiv, dMod, dPow, dNeg, dLt, dLe, dGt, dGe, dEq, dNe, aIs, aBi, dBi, dLen, dTup, gN, gT, gsCons, gsNil, Dl.wT, isKt, callF, refs, ren, pick, retK, frzC, aIx, kdOf, aAdd, aSl, dSl, aMM, isLst, aPut, List.map_cons, List.map_nil, List.length_cons, List.length_nil, List.cons_append, List.nil_append, List.replicate, List.getElem?_cons_zero, List.getElem?_cons_succ, List.set_cons_zero, List.set_cons_succ, Nat.reduceAdd, Nat.reduceSub , List.take_nil, List.take_zero, isi_int, isi_bool, isi_str, isi_list, isi_tuple, isi_lt, isi_is, Bool.not_true, Bool.not_false, true_and, and_true, forall_const, Bool.false_eq_true, Bool.true_eq_false, false_implies, true_implies]
    exact h
theorem ok7 (h6 : T 6 = F6) (Fu : Fun K "is_within" "is_within" (topS 7) f fd) (hg : GlOk P w K mg base k (glOf g7) T) : FnOk P w K mg base CX0 (k + 1) f fd ["thing", "least", "most"] (spOf K F7) := by
  refine def_ok Fu s7 hg c7 (fun ws B k h => ?_) fun ws B k h => ?_
  · obtain ⟨i, lo, hi, rfl, _⟩ := h; rfl
  · obtain ⟨i, lo, hi, rfl, rfl, h⟩ := h
    simp only [a7, n7, Dl.wpSs, Dl.wpS, Dl.wpE, Dl.wpT, Dl.wpO, Dl.wpEs, Dl.wpI, Dl.wpG, Dl.wpGs, lenG, isCmp, a2, sNext, sSeq, sIf, sRet, sRetN, sDrop, sAsg, sPar, sPar3, sPut, sAug, sNever, sBreak, sCont, fVar, fC, fOp, fUn, fL, fNil, fCons, fTru, fBool, fNot, fAnd, fOr, fAndV, fOrV, fNotV, fIf, fChain, fTup, fLst, wDs, fCall, fCallK, fSl, fPart, fNoPart, fIsi, fMM, fGet2, fDNew, aD2, aD1, aDL, wDL, wD, rd, wK, aTru, boolK, wpR, dAdd, dSub, dMul, dDiv, dMod, dPow, dNeg, dLt, dLe, dGt, dGe, dEq, dNe, aIs, aBi, dBi, dLen, dTup, gN, gT, gsCons, gsNil, Dl.wT, isKt, callF, refs, ren, pick, retK, frzC, aIx, kdOf, aAdd, aSl, dSl, aMM, isLst, aPut, List.map_cons, List.map_nil, List.length_cons, List.length_nil, List.cons_append, List.nil_append, List.replicate, List.getElem?_cons_zero, List.getElem?_cons_succ, List.set_cons_zero, List.set_cons_succ, Nat.reduceAdd, Nat.reduceSub , List.take_nil, List.take_zero, isi_int, isi_bool, isi_str, isi_list, isi_tuple, isi_lt, isi_is, Bool.not_true, Bool.not_false, true_and, and_true, forall_const, Bool.false_eq_true, Bool.true_eq_false, false_implies, true_implies, h6, F6]
    refine ⟨i, rfl, fun e => ?_, fun e => ?_⟩
    · have e' := of_decide_eq_true e
      simpa [e'] using h
    · have e' := of_decide_eq_false e
      simpa [e'] using h
theorem ok8 (h7 : T 7 = F7) (Fu : Fun K "is_minute" "is_minute" (topS 8) f fd) (hg : GlOk P w K mg base k (glOf g8) T) : FnOk P w K mg base CX0 (k + 1) f fd ["thing"] (spOf K F8) := by
  refine def_ok Fu s8 hg c8 (fun ws B k h => ?_) fun ws B k h => ?_
  · obtain ⟨i, rfl, _⟩ := h; rfl
  · obtain ⟨i, rfl, rfl, h⟩ := h
    simp only [a8, n8, Dl.wpSs, Dl.wpS, Dl.wpE, Dl.wpT, Dl.wpO, Dl.wpEs, Dl.wpI, Dl.wpG, Dl.wpGs, lenG, isCmp, a2, sNext, sSeq, sIf, sRet, sRetN, sDrop, sAsg, sPar, sPar3, sPut, sAug, sNever, sBreak, sCont, fVar, fC, fOp, fUn, fL, fNil, fCons, fTru, fBool, fNot, fAnd, fOr, fAndV, fOrV, fNotV, fIf, fChain, fTup, fLst, wDs, fCall, fCallK, fSl, fPart, fNoPart, fIsi, fMM, fGet2, fDNew, aD2, aD1, aDL, wDL, wD, rd, wK, aTru, boolK, wpR, dAdd, dSub, dMul, dDiv, dMod, dPow, dNeg, dLt, dLe, dGt, dGe, dEq, dNe, aIs, aBi, dBi, dLen, dTup, gN, gT, gsCons, gsNil, Dl.wT, isKt, callF, refs, ren, pick, retK, frzC, aIx, kdOf, aAdd, aSl, dSl, aMM, isLst, aPut, List.map_cons, List.map_nil, List.length_cons, List.length_nil, List.cons_append, List.nil_append, List.replicate, List.getElem?_cons_zero, List.getElem?_cons_succ, List.set_cons_zero, List.set_cons_succ, Nat.reduceAdd, Nat.reduceSub , List.take_nil, List.take_zero, isi_int, isi_bool, isi_str, isi_list, isi_tuple, isi_lt, isi_is, Bool.not_true, Bool.not_false, true_and, and_true, forall_const, Bool.false_eq_true, Bool.true_eq_false, false_implies, true_implies, h7, F7]
    exact ⟨_, _, _, rfl, h⟩
theorem ok9 (Fu : Fun K "is_row" "is_row" (topS 9) f fd) (hg : GlOk P w K mg base k (glOf g9) T) : FnOk P w K mg base CX0 (k + 1) f fd ["thing", "least", "most"] (spOf K F9) := by
  refine def_ok Fu s9 hg c9 (fun ws B k h => ?_) fun ws B k h => ?_
  · obtain ⟨i, lo, hi, rfl, _⟩ := h; rfl
  · obtain ⟨ds, lo, hi, rfl, rfl, h⟩ := h
    simp only [a9, n9, Dl.wpSs, Dl.wpS, Dl.wpE, Dl.wpT, Dl.wpO, Dl.wpEs, Dl.wpI, Dl.wpG, Dl.wpGs, lenG, isCmp, a2, sNext, sSeq, sIf, sRet, sRetN, sDrop, sAsg, sPar, sPar3, sPut, sAug, sNever, sBreak, sCont, fVar, fC, fOp, fUn, fL, fNil, fCons, fTru, fBool, fNot, fAnd, fOr, fAndV, fOrV, fNotV, fIf, fChain, fTup, fLst, wDs, fCall, fCallK, fSl, fPart, fNoPart, fIsi, fMM, fGet2, fDNew, aD2, aD1, aDL, wDL, wD, rd, wK, aTru, boolK, wpR, dAdd, dSub, dMul, dDiv, dMod, dPow, dNeg, dLt, dLe, dGt, dGe, dEq, dNe, aIs, aBi, dBi, dLen, dTup, gN, gT, gsCons, gsNil, Dl.wT, isKt, callF, refs, ren, pick, retK, frzC, aIx, kdOf, aAdd, aSl, dSl, aMM, isLst, aPut, List.map_cons, List.map_nil, List.length_cons, List.length_nil, List.cons_append, List.nil_append, List.replicate, List.getElem?_cons_zero, List.getElem?_cons_succ, List.set_cons_zero, List.set_cons_succ, Nat.reduceAdd, Nat.reduceSub , List.take_nil, List.take_zero, isi_int, isi_bool, isi_str, isi_list, isi_tuple, isi_lt, isi_is, Bool.not_true, Bool.not_false, true_and, and_true, forall_const, Bool.false_eq_true, Bool.true_eq_false, false_implies, true_implies]
    refine ⟨fun e => ?_, fun e => ?_⟩
    · have e' := of_decide_eq_true e
      simpa [e'] using h
    · have e' := of_decide_eq_false e
      simpa [e'] using h
theorem ok11 (h7 : T 7 = F7) (Fu : Fun K "need_number" "need_number" (topS 11) f fd) (hg : GlOk P w K mg base k (glOf g11) T) : FnOk P w K mg base CX0 (k + 1) f fd ["number", "least", "most"] (spOf K F11) := by
  refine def_ok Fu s11 hg c11 (fun ws B k h => ?_) fun ws B k h => ?_
  · obtain ⟨i, lo, hi, rfl, _⟩ := h; rfl
  · obtain ⟨i, lo, hi, rfl, rfl, h1, h2, h⟩ := h
    simp only [a11, n11, Dl.wpSs, Dl.wpS, Dl.wpE, Dl.wpT, Dl.wpO, Dl.wpEs, Dl.wpI, Dl.wpG, Dl.wpGs, lenG, isCmp, a2, sNext, sSeq, sIf, sRet, sRetN, sDrop, sAsg, sPar, sPar3, sPut, sAug, sNever, sBreak, sCont, fVar, fC, fOp, fUn, fL, fNil, fCons, fTru, fBool, fNot, fAnd, fOr, fAndV, fOrV, fNotV, fIf, fChain, fTup, fLst, wDs, fCall, fCallK, fSl, fPart, fNoPart, fIsi, fMM, fGet2, fDNew, aD2, aD1, aDL, wDL, wD, rd, wK, aTru, boolK, wpR, dAdd, dSub, dMul, dDiv, dMod, dPow, dNeg, dLt, dLe, dGt, dGe, dEq, dNe, aIs, aBi, dBi, dLen, dTup, gN, gT, gsCons, gsNil, Dl.wT, isKt, callF, refs, ren, pick, retK, frzC, aIx, kdOf, aAdd, aSl, dSl, aMM, isLst, aPut, List.map_cons, List.map_nil, List.length_cons, List.length_nil, List.cons_append, List.nil_append, List.replicate, List.getElem?_cons_zero, List.getElem?_cons_succ, List.set_cons_zero, List.set_cons_succ, Nat.reduceAdd, Nat.reduceSub , List.take_nil, List.take_zero, isi_int, isi_bool, isi_str, isi_list, isi_tuple, isi_lt, isi_is, Bool.not_true, Bool.not_false, true_and, and_true, forall_const, Bool.false_eq_true, Bool.true_eq_false, false_implies, true_implies, h7, F7]
    refine ⟨_, _, _, rfl, ?_⟩
    simp [h1, h2, h]
theorem ok10 (Fu : Fun K "is_ascending" "is_ascending" (topS 10) f fd) (hg : GlOk P w K mg base k (glOf g10) T) : FnOk P w K mg base CX0 (k + 1) f fd ["things"] (spOf K F10) := by
  refine def_ok Fu s10 hg c10 (fun ws B k h => ?_) fun ws B k h => ?_
  · obtain ⟨ns, rfl, _⟩ := h; rfl
  · obtain ⟨ns, rfl, rfl, asc, hl, h⟩ := h
    simp only [a10, n10, Dl.wpSs, Dl.wpS, Dl.wpE, Dl.wpT, Dl.wpO, Dl.wpEs, Dl.wpI, Dl.wpG, Dl.wpGs, lenG, isCmp, a2, sNext, sSeq, sIf, sRet, sRetN, sDrop, sAsg, sPar, sPar3, sPut, sAug, sNever, sBreak, sCont, fVar, fC, fOp, fUn, fL, fNil, fCons, fTru, fBool, fNot, fAnd, fOr, fAndV, fOrV, fNotV, fIf, fChain, fTup, fLst, wDs, fCall, fCallK, fSl, fPart, fNoPart, fIsi, fMM, fGet2, fDNew, aD2, aD1, aDL, wDL, wD, rd, wK, aTru, boolK, wpR, dAdd, dSub, dMul, dDiv, dMod, dPow, dNeg, dLt, dLe, dGt, dGe, dEq, dNe, aIs, aBi, dBi, dLen, dTup, gN, gT, gsCons, gsNil, Dl.wT, isKt, callF, refs, ren, pick, retK, frzC, aIx, kdOf, aAdd, aSl, dSl, aMM, isLst, aPut, List.map_cons, List.map_nil, List.length_cons, List.length_nil, List.cons_append, List.nil_append, List.replicate, List.getElem?_cons_zero, List.getElem?_cons_succ, List.set_cons_zero, List.set_cons_succ, Nat.reduceAdd, Nat.reduceSub , List.take_nil, List.take_zero, isi_int, isi_bool, isi_str, isi_list, isi_tuple, isi_lt, isi_is, Bool.not_true, Bool.not_false, true_and, and_true, forall_const, Bool.false_eq_true, Bool.true_eq_false, false_implies, true_implies, fLc, fZip, wZip, wipeA]
    refine ⟨1, rfl, fun i acc B2 => B2 = [] ∧ acc = List.replicate i (.bool true) ∧ i ≤ ns.length, ⟨rfl, rfl, Nat.zero_le _⟩, fun i x acc B2 hx hI => ?_, fun acc B2 hI => ?_⟩
    · obtain ⟨rfl, rfl, hi⟩ := hI
      obtain ⟨x1, x2, h1, h2, rfl⟩ := zipD_get hx
      rw [cut_1] at h2
      obtain ⟨n1, g1, rfl⟩ := ints_get h1
      rw [List.getElem?_drop, Nat.add_comm] at h2
      obtain ⟨n2, g2, rfl⟩ := ints_get h2
      have lt := asc i n1 n2 g1 g2
      have hil : i < ns.length := (List.getElem?_eq_some_iff.mp g1).1
      refine ⟨rfl, _, _, rfl, _, _, rfl, rfl, ?_⟩
      simp only [Dl.wpSs, Dl.wpS, Dl.wpE, Dl.wpT, Dl.wpO, Dl.wpEs, Dl.wpI, Dl.wpG, Dl.wpGs, lenG, isCmp, a2, sNext, sSeq, sIf, sRet, sRetN, sDrop, sAsg, sPar, sPar3, sPut, sAug, sNever, sBreak, sCont, fVar, fC, fOp, fUn, fL, fNil, fCons, fTru, fBool, fNot, fAnd, fOr, fAndV, fOrV, fNotV, fIf, fChain, fTup, fLst, wDs, fCall, fCallK, fSl, fPart, fNoPart, fIsi, fMM, fGet2, fDNew, aD2, aD1, aDL, wDL, wD, rd, wK, aTru, boolK, wpR, dAdd, dSub, dMul, dDiv, dMod, dPow, dNeg, dLt, dLe, dGt, dGe, dEq, dNe, aIs, aBi, dBi, dLen, dTup, gN, gT, gsCons, gsNil, Dl.wT, isKt, callF, refs, ren, pick, retK, frzC, aIx, kdOf, aAdd, aSl, dSl, aMM, isLst, aPut, List.map_cons, List.map_nil, List.length_cons, List.length_nil, List.cons_append, List.nil_append, List.replicate, List.getElem?_cons_zero, List.getElem?_cons_succ, List.set_cons_zero, List.set_cons_succ, Nat.reduceAdd, Nat.reduceSub , List.take_nil, List.take_zero, isi_int, isi_bool, isi_str, isi_list, isi_tuple, isi_lt, isi_is, Bool.not_true, Bool.not_false, true_and, and_true, forall_const, Bool.false_eq_true, Bool.true_eq_false, false_implies, true_implies]
      refine ⟨sz' (by rw [List.length_replicate]; omega), ?_, hil⟩
      rw [decide_eq_true lt, ← List.replicate_succ, List.replicate_succ']
    · obtain ⟨rfl, rfl, hi⟩ := hI
      refine .inl ?_
      simp only [Dl.wpSs, Dl.wpS, Dl.wpE, Dl.wpT, Dl.wpO, Dl.wpEs, Dl.wpI, Dl.wpG, Dl.wpGs, lenG, isCmp, a2, sNext, sSeq, sIf, sRet, sRetN, sDrop, sAsg, sPar, sPar3, sPut, sAug, sNever, sBreak, sCont, fVar, fC, fOp, fUn, fL, fNil, fCons, fTru, fBool, fNot, fAnd, fOr, fAndV, fOrV, fNotV, fIf, fChain, fTup, fLst, wDs, fCall, fCallK, fSl, fPart, fNoPart, fIsi, fMM, fGet2, fDNew, aD2, aD1, aDL, wDL, wD, rd, wK, aTru, boolK, wpR, dAdd, dSub, dMul, dDiv, dMod, dPow, dNeg, dLt, dLe, dGt, dGe, dEq, dNe, aIs, aBi, dBi, dLen, dTup, gN, gT, gsCons, gsNil, Dl.wT, isKt, callF, refs, ren, pick, retK, frzC, aIx, kdOf, aAdd, aSl, dSl, aMM, isLst, aPut, List.map_cons, List.map_nil, List.length_cons, List.length_nil, List.cons_append, List.nil_append, List.replicate, List.getElem?_cons_zero, List.getElem?_cons_succ, List.set_cons_zero, List.set_cons_succ, Nat.reduceAdd, Nat.reduceSub , List.take_nil, List.take_zero, isi_int, isi_bool, isi_str, isi_list, isi_tuple, isi_lt, isi_is, Bool.not_true, Bool.not_false, true_and, and_true, forall_const, Bool.false_eq_true, Bool.true_eq_false, false_implies, true_implies]
      refine ⟨List.replicate _ true, by rw [List.map_replicate], ?_⟩
      show k (AV.d (PyData.bool (List.all (List.replicate _ true) id))) []
      rw [show ∀ n : Nat, (List.replicate n true).all id = true from fun n => by simp]
      exact h
end
end K60

namespace K60
open L2 Dl PySem PyProof.Rows PySem.Spec
section
variable {P : Program} {w : World} {K : PySem.W.Frag} {mg : Str → Option Value} {base : Heap} {k : Nat} {T : Nat → FT} {f : Addr} {fd : FuncData}
def F13 : FT := fun ws B k => ∃ (e : Int) (ns : List Int) (sl : Int), ws = [.d (.int e), .d (.tuple (ns.map .int)), .d (.int sl)] ∧ B = [] ∧ ns.length ≤ 1000 ∧ k (.d (.list (prs (spansOf e ns sl)))) []
theorem ok13 (Fu : Fun K "shifts_of" "shifts_of" (topS 13) f fd) (hg : GlOk P w K mg base k (glOf g13) T) : FnOk P w K mg base CX0 (k + 1) f fd ["entry", "log", "slack"] (spOf K F13) := by
  refine def_ok Fu s13 hg c13 (fun ws B k h => ?_) fun ws B k h => ?_
  · obtain ⟨e, ns, sl, rfl, _⟩ := h; rfl
  · obtain ⟨e, ns, sl, rfl, rfl, hl, h⟩ := h
    conv => whnf
    refine ⟨Nat.zero_le _, .inr ?_⟩
    conv => whnf
    refine .inr (.inl ?_)
    conv => whnf
    refine ⟨fun i A B => B = [.lst (prs ((ns.take i).foldl (spanStep sl e) []))] ∧ ∃ y4 y5 y6, A = [some (.d (.int e)), some (.d (.tuple (ns.map .int))), some (.d (.int sl)), some (.m 0), y4, y5, y6], sh0 ⟨rfl, _, _, _, rfl⟩, fun i x A B hx hI => ?_, fun A B hI => ?_⟩
    · obtain ⟨rfl, y4, y5, y6, rfl⟩ := hI
      obtain ⟨o, ho, rfl⟩ := ints_get hx
      have hi := (List.getElem?_eq_some_iff.mp ho).1
      have hlen : ((ns.take i).foldl (spanStep sl e) []).length ≤ i := by
        have := spans_len e sl (ns.take i)
        rw [List.length_take] at this
        unfold spansOf at this
        omega
      rcases snoc_cases ((ns.take i).foldl (spanStep sl e) []) with hn | ⟨ys, p, hn⟩
      · have hs : (ns.take (i + 1)).foldl (spanStep sl e) [] = [(o - e - sl, o - e + sl)] := by rw [foldl_step ho, hn, spanStep_nil]
        rw [hn]
        conv => whnf
        refine bF rfl ?_
        conv => whnf
        refine bF rfl ?_
        conv => whnf
        refine ⟨⟨_, rfl⟩, ?_⟩
        conv => whnf
        refine ⟨sz (by simp), ?_⟩
        conv => whnf
        refine ⟨sz' (by simp [prs]), ?_⟩
        conv => whnf
        refine ⟨_, _, .refl, ?_, _, _, _, rfl⟩
        rw [hs]
        rfl
      · have hyl : ys.length + 1 ≤ i := by
          rw [hn, List.length_append] at hlen
          exact hlen
        have hs : (ns.take (i + 1)).foldl (spanStep sl e) [] = if o - e - sl ≤ p.2 + 1 then ys ++ [(p.1, o - e + sl)] else ys ++ [p] ++ [(o - e - sl, o - e + sl)] := by rw [foldl_step ho, hn, spanStep_snoc]
        rw [hn, prs_app]
        conv => whnf
        refine bT neT ?_
        conv => whnf
        refine ⟨_, atI_last _ _, ?_⟩
        conv => whnf
        refine ⟨_, atI_nat (j := 1) rfl, ?_⟩
        conv => whnf
        by_cases hc : o - e - sl ≤ p.2 + 1
        · refine dT hc ?_
          rw [if_pos hc] at hs
          conv => whnf
          refine ⟨_, atI_last _ _, ?_⟩
          conv => whnf
          refine ⟨_, atI_nat (j := 0) rfl, ?_⟩
          conv => whnf
          refine ⟨sz (by simp), ?_⟩
          conv => whnf
          refine ⟨-1, ys.length, rfl, by rw [List.length_append, prs_len]; exact ixN_lastN _, ?_⟩
          conv => whnf
          refine ⟨_, _, .refl, ?_, _, _, _, rfl⟩
          show [MC.lst ((prs ys ++ [PyData.tuple [.int p.1, .int p.2]]).set ys.length (PyData.tuple [.int p.1, .int (o - e + sl)]))] = _
          rw [hs, prs_app, ← prs_len ys, set_last]
          rfl
        · refine dF hc ?_
          rw [if_neg hc] at hs
          conv => whnf
          refine ⟨⟨_, rfl⟩, ?_⟩
          conv => whnf
          refine ⟨sz (by simp), ?_⟩
          conv => whnf
          refine ⟨sz' (by rw [List.length_append, prs_len]; show ys.length + 1 ≤ 1000000; omega), ?_⟩
          conv => whnf
          refine ⟨_, _, .refl, ?_, _, _, _, rfl⟩
          rw [hs, prs_app, prs_app]
          rfl
    · obtain ⟨rfl, y4, y5, y6, rfl⟩ := hI
      refine sh0 ?_
      conv => whnf
      refine ⟨Nat.zero_le _, _, rfl, by simp, .inl ⟨_, rfl, ?_⟩⟩
      rw [List.length_map, List.take_length]
      exact h
end
end K60

namespace K60
open L2 Dl PySem PyProof.Rows PySem.Spec
section
variable {P : Program} {w : World} {K : PySem.W.Frag} {mg : Str → Option Value} {base : Heap} {k : Nat} {T : Nat → FT} {f : Addr} {fd : FuncData}
def F14 : FT := fun ws B k => ∃ (a b : List Int) (sl : Int), ws = [.d (.tuple (a.map .int)), .d (.tuple (b.map .int)), .d (.int sl)] ∧ B = [] ∧ a.length ≤ 100 ∧ b.length ≤ 100 ∧ k (.d (.list (prs (stepsOf a b sl)))) []
theorem deltas_len (a b : List Int) (sl : Int) : (deltas a b sl).length ≤ a.length * (2 * b.length) := by
  unfold deltas
  induction a with
  | nil => simp
  | cons e a ih =>
    rw [List.flatMap_cons, List.length_append, List.length_cons, Nat.succ_mul]
    have h : ∀ L : List (Int × Int), (L.flatMap spanD).length = 2 * L.length := fun L => by
      induction L with
      | nil => rfl
      | cons p L ih => rw [List.flatMap_cons, List.length_append, ih, List.length_cons]; show 2 + _ = _; omega
    have := spans_len e sl b
    rw [h]
    omega
theorem ok14 (h13 : T 13 = F13) (Fu : Fun K "steps_of" "steps_of" (topS 14) f fd) (hg : GlOk P w K mg base k (glOf g14) T) : FnOk P w K mg base CX0 (k + 1) f fd ["log", "other", "slack"] (spOf K F14) := by
  refine def_ok Fu s14 hg c14 (fun ws B k h => ?_) fun ws B k h => ?_
  · obtain ⟨a, b, sl, rfl, _⟩ := h; rfl
  · obtain ⟨a, b, sl, rfl, rfl, ha, hb, h⟩ := h
    conv => whnf
    refine .inl ?_
    conv => whnf
    refine .inr (.inl ?_)
    conv => whnf
    refine ⟨fun i A B => B = [.dK (dk (bumps [] (deltas (a.take i) b sl)))] ∧ ∃ y4 y5 y6 y7 y8 y9, A = [some (.d (.tuple (a.map .int))), some (.d (.tuple (b.map .int))), some (.d (.int sl)), some (.m 0), y4, y5, y6, y7, y8, y9], sh0 ⟨rfl, _, _, _, _, _, _, rfl⟩, fun i x A B hx hI => ?_, fun A B hI => ?_⟩
    · obtain ⟨rfl, y4, y5, y6, y7, y8, y9, rfl⟩ := hI
      obtain ⟨e, he, rfl⟩ := ints_get hx
      refine .inl ?_
      conv => whnf
      rw [h13]
      refine ⟨e, b, sl, rfl, rfl, by omega, ?_⟩
      conv => whnf
      have hdel : deltas (a.take (i + 1)) b sl = deltas (a.take i) b sl ++ (spansOf e b sl).flatMap spanD := by
        unfold deltas
        rw [take_succ he, List.flatMap_append]
        simp
      have hsmall : (bumps [] (deltas (a.take i) b sl)).length ≤ 20000 := by
        have h1 := bumps_len (deltas (a.take i) b sl) []
        have h2 := deltas_len (a.take i) b sl
        have h3 : (a.take i).length ≤ 100 := by rw [List.length_take]; omega
        have h4 : (a.take i).length * (2 * b.length) ≤ 100 * 200 := Nat.mul_le_mul h3 (by omega)
        simp at h1
        omega
      have hsp := spans_len e sl b
      generalize hd0 : bumps [] (deltas (a.take i) b sl) = d0 at hsmall
      refine ⟨fun j A B => B = [.dK (dk (bumps d0 (((spansOf e b sl).take j).flatMap spanD)))] ∧ ∃ y4 y5 y6 y7 y8 y9, A = [some (.d (.tuple (a.map .int))), some (.d (.tuple (b.map .int))), some (.d (.int sl)), some (.m 0), y4, y5, y6, y7, y8, y9], sh0 ⟨rfl, _, _, _, _, _, _, rfl⟩, fun j x A B hx hI => ?_, fun A B hI => ?_⟩
      · obtain ⟨rfl, z4, z5, z6, z7, z8, z9, rfl⟩ := hI
        obtain ⟨lo, hi, hp, rfl⟩ := prs_get hx
        have hj := (List.getElem?_eq_some_iff.mp hp).1
        have hbig : (bumps d0 (((spansOf e b sl).take j).flatMap spanD)).length ≤ 21000 := by
          have h1 := bumps_len (((spansOf e b sl).take j).flatMap spanD) d0
          have h2 : ∀ L : List (Int × Int), (L.flatMap spanD).length = 2 * L.length := fun L => by
            induction L with
            | nil => rfl
            | cons p L ih => rw [List.flatMap_cons, List.length_append, ih, List.length_cons]; show 2 + _ = _; omega
          rw [h2, List.length_take] at h1
          omega
        have hst : bumps d0 (((spansOf e b sl).take (j + 1)).flatMap spanD) = bump (bump (bumps d0 (((spansOf e b sl).take j).flatMap spanD)) lo 1) (hi + 1) (-1) := by
          rw [take_succ hp, List.flatMap_append, bumps_app]
          rfl
        generalize bumps d0 (((spansOf e b sl).take j).flatMap spanD) = d at hbig hst
        refine tgt2 ?_
        conv => whnf
        refine ⟨⟨_, rfl⟩, ?_⟩
        conv => whnf
        refine get_dk rfl ?_
        conv => whnf
        refine put_dk (by omega) ?_
        conv => whnf
        refine ⟨⟨_, rfl⟩, ?_⟩
        conv => whnf
        refine get_dk rfl ?_
        conv => whnf
        have := putI_len d lo (getI d lo + 1)
        refine put_dk (by omega) ?_
        conv => whnf
        refine ⟨_, _, .refl, ?_, _, _, _, _, _, _, rfl⟩
        rw [hst]
        rfl
      · obtain ⟨rfl, z4, z5, z6, z7, z8, z9, rfl⟩ := hI
        refine ⟨_, _, .refl, _, _, .refl, ?_, _, _, _, _, _, _, rfl⟩
        rw [prs_len, List.take_length, hdel, bumps_app, hd0]
    · obtain ⟨rfl, y4, y5, y6, y7, y8, y9, rfl⟩ := hI
      rw [List.length_map, List.take_length]
      have hsmall : (bumps [] (deltas a b sl)).length ≤ 20000 := by
        have h1 := bumps_len (deltas a b sl) []
        have h2 := deltas_len a b sl
        have h4 : a.length * (2 * b.length) ≤ 100 * 200 := Nat.mul_le_mul ha (by omega)
        simp at h1
        omega
      have hst : stepsOf a b sl = runs (bumps [] (deltas a b sl)) (sortI ((bumps [] (deltas a b sl)).map (·.1))) 0 := rfl
      generalize bumps [] (deltas a b sl) = d at hsmall hst
      refine sh0 ?_
      conv => whnf
      refine ⟨Nat.zero_le _, .inr ?_⟩
      conv => whnf
      refine .inl ?_
      conv => whnf
      refine ⟨d.map (·.1), dk_keys d, sz (by rw [List.length_map]; omega), ?_⟩
      refine .inl ?_
      conv => whnf
      have hks : sortI (d.map (·.1)) = (d.map (·.1)).mergeSort fun a b => decide (a ≤ b) := rfl
      rw [← hks]
      have hmem : ∀ q ∈ sortI (d.map (·.1)), q ∈ d.map (·.1) := fun q hq => by
        rw [hks] at hq
        exact List.mem_mergeSort.mp hq
      have hlen : (sortI (d.map (·.1))).length ≤ 20000 := by
        rw [hks, List.length_mergeSort, List.length_map]
        exact hsmall
      generalize sortI (d.map (·.1)) = ks at hst hmem hlen
      refine ⟨fun i A B => B = [.dK (dk d), .lst (prs (runs d (ks.take i) 0))] ∧ ∃ y4 y5 y6 y9, A = [some (.d (.tuple (a.map .int))), some (.d (.tuple (b.map .int))), some (.d (.int sl)), some (.m 0), y4, y5, y6, some (.m 1), some (.d (.int (0 + ((ks.take i).map (getI d)).sum))), y9], sh0 ⟨rfl, _, _, _, _, rfl⟩, fun i x A B hx hI => ?_, fun A B hI => ?_⟩
      · obtain ⟨rfl, z4, z5, z6, z9, rfl⟩ := hI
        obtain ⟨q, hq, rfl⟩ := ints_get hx
        have hqm := hmem q (List.mem_of_getElem? hq)
        have hil := (List.getElem?_eq_some_iff.mp hq).1
        conv => whnf
        refine ⟨_, rfl, _, look_in hqm, ?_⟩
        conv => whnf
        refine ⟨⟨_, rfl⟩, ?_⟩
        conv => whnf
        refine ⟨sz (by simp), ?_⟩
        conv => whnf
        refine ⟨sz' (by rw [prs_len, runs_len, List.length_take]; omega), ?_⟩
        conv => whnf
        refine ⟨_, _, .refl, ?_, z4, z5, z6, some (.d (.int q)), ?_⟩
        · rw [take_succ hq, runs_snoc, prs_app]
          rfl
        · rw [take_succ hq, List.map_append, List.sum_append]
          show [_, _, _, _, _, _, _, _, some (AV.d (PyData.int (0 + ((ks.take i).map (getI d)).sum + getI d q))), _] = _
          simp [Int.add_assoc]
      · obtain ⟨rfl, z4, z5, z6, z9, rfl⟩ := hI
        rw [List.length_map, List.take_length]
        refine sh0 ?_
        conv => whnf
        refine ⟨Nat.zero_le _, _, rfl, by simp, .inl ⟨_, rfl, ?_⟩⟩
        rw [← hst]
        exact h
end
end K60

namespace K60
open L2 Dl PySem PyProof.Rows PySem.Spec
section
variable {P : Program} {w : World} {K : PySem.W.Frag} {mg : Str → Option Value} {base : Heap} {k : Nat} {T : Nat → FT} {f : Addr} {fd : FuncData}
def F15 : FT := fun ws B k => ∃ (L : List (Int × Int)) (least : Int), ws = [.d (.list (prs L)), .d (.int least)] ∧ B = [] ∧ L.length ≤ 100000 ∧ k (.d (.tuple (prs (rangesWith L least)))) []
theorem ok15 (Fu : Fun K "ranges_with" "ranges_with" (topS 15) f fd) (hg : GlOk P w K mg base k (glOf g15) T) : FnOk P w K mg base CX0 (k + 1) f fd ["steps", "least"] (spOf K F15) := by
  refine def_ok Fu s15 hg c15 (fun ws B k h => ?_) fun ws B k h => ?_
  · obtain ⟨L, n, rfl, _⟩ := h; rfl
  · obtain ⟨L, least, rfl, rfl, hl, h⟩ := h
    conv => whnf
    refine ⟨Nat.zero_le _, .inr ?_⟩
    conv => whnf
    refine ⟨1, rfl, ?_⟩
    conv => whnf
    refine ⟨rfl, ?_⟩
    conv => whnf
    refine .inl ?_
    conv => whnf
    refine ⟨fun i A B => B = [.lst (prs (((L.zip (L.drop 1)).take i).foldl (fun acc q => rangesStep least acc q.1 q.2) []))] ∧ ∃ y3 y4 y5 y6, A = [some (.d (.list (prs L))), some (.d (.int least)), some (.m 0), y3, y4, y5, y6], sh0 ⟨rfl, _, _, _, _, rfl⟩, fun i x A B hx hI => ?_, fun A B hI => ?_⟩
    · obtain ⟨rfl, y3, y4, y5, y6, rfl⟩ := hI
      obtain ⟨x1, x2, h1, h2, rfl⟩ := zipD_get hx
      rw [cut_1] at h2
      have h2' : (prs (L.drop 1))[i]? = some x2 := by
        unfold prs at h2 ⊢
        rw [← List.map_drop] at h2
        exact h2
      obtain ⟨p1, c1, g1, rfl⟩ := prs_get h1
      obtain ⟨p2, c2, g2, rfl⟩ := prs_get h2'
      have hz : (L.zip (L.drop 1))[i]? = some ((p1, c1), (p2, c2)) := by
        rw [List.getElem?_zip_eq_some]
        exact ⟨g1, g2⟩
      have hil : i < L.length := (List.getElem?_eq_some_iff.mp g1).1
      have hlen := ranges_len least [] ((L.zip (L.drop 1)).take i)
      rw [List.length_take] at hlen
      have hst := foldl_step (g := fun acc (q : (Int × Int) × (Int × Int)) => rangesStep least acc q.1 q.2) (b := []) hz
      generalize ((L.zip (L.drop 1)).take i).foldl (fun acc q => rangesStep least acc q.1 q.2) [] = acc at hst hlen
      refine tgt22 ?_
      conv => whnf
      by_cases hc : least ≤ c1
      · refine dT hc ?_
        rcases snoc_cases acc with rfl | ⟨ys, p, rfl⟩
        · rw [rangesStep_nil _ _ _ hc] at hst
          conv => whnf
          refine bF rfl ?_
          conv => whnf
          refine bF rfl ?_
          conv => whnf
          refine ⟨⟨_, rfl⟩, ?_⟩
          conv => whnf
          refine ⟨sz (by simp), ?_⟩
          conv => whnf
          refine ⟨sz' (by simp [prs]), ?_⟩
          conv => whnf
          refine ⟨_, _, .refl, ?_, _, _, _, _, rfl⟩
          rw [hst]
          rfl
        · rw [rangesStep_snoc _ _ _ _ _ hc] at hst
          rw [prs_app]
          conv => whnf
          refine bT neT ?_
          conv => whnf
          refine ⟨_, atI_last _ _, ?_⟩
          conv => whnf
          refine ⟨_, atI_nat (j := 1) rfl, ?_⟩
          conv => whnf
          by_cases he : p.2 + 1 = p1
          · refine dT he ?_
            rw [if_pos he] at hst
            conv => whnf
            refine ⟨_, atI_last _ _, ?_⟩
            conv => whnf
            refine ⟨_, atI_nat (j := 0) rfl, ?_⟩
            conv => whnf
            refine ⟨sz (by simp), ?_⟩
            conv => whnf
            refine ⟨-1, ys.length, rfl, by rw [List.length_append, prs_len]; exact ixN_lastN _, ?_⟩
            conv => whnf
            refine ⟨_, _, .refl, ?_, _, _, _, _, rfl⟩
            show [MC.lst ((prs ys ++ [PyData.tuple [.int p.1, .int p.2]]).set ys.length (PyData.tuple [.int p.1, .int (p2 - 1)]))] = _
            rw [hst, prs_app, ← prs_len ys, set_last]
            rfl
          · refine dF he ?_
            rw [if_neg he] at hst
            conv => whnf
            refine ⟨⟨_, rfl⟩, ?_⟩
            conv => whnf
            refine ⟨sz (by simp), ?_⟩
            conv => whnf
            rw [List.length_append, List.length_singleton] at hlen
            refine ⟨sz' (by rw [List.length_append, prs_len]; show ys.length + 1 ≤ 1000000; simp at hlen; omega), ?_⟩
            conv => whnf
            refine ⟨_, _, .refl, ?_, _, _, _, _, rfl⟩
            rw [hst, prs_app, prs_app]
            rfl
      · refine dF hc ?_
        rw [rangesStep_no _ _ _ _ hc] at hst
        conv => whnf
        refine ⟨_, _, .refl, ?_, _, _, _, _, rfl⟩
        rw [hst]
    · obtain ⟨rfl, y3, y4, y5, y6, rfl⟩ := hI
      refine sh0 ?_
      conv => whnf
      refine ⟨rfl, ?_⟩
      conv => whnf
      have e : (L.zip (L.drop 1)).take (zipD (prs L) (Dl.cutD (prs L) (some 1) none)).length = L.zip (L.drop 1) := by
        rw [List.take_of_length_le]
        rw [cut_1, zipD, List.length_zipWith, List.length_zip, List.length_drop, List.length_drop, prs_len]
        omega
      rw [e]
      exact h
end
end K60

namespace K60
open L2 Dl PySem PyProof.Rows PySem.Spec
section
variable {P : Program} {w : World} {K : PySem.W.Frag} {mg : Str → Option Value} {base : Heap} {k : Nat} {T : Nat → FT} {f : Addr} {fd : FuncData}
def F16 : FT := fun ws B k => ∃ (L : List (Int × Int)) (n s : Int), ws = [.d (.list (prs L))] ∧ B = [] ∧ L.length ≤ 100000 ∧ IsBest L n s ∧ k (.d (.tuple [.int n, .int s])) []
theorem best_max {L : List (Int × Int)} {n s m : Int} (h : IsBest L n s) (h1 : m ∈ L.map (·.2)) (h2 : ∀ y ∈ L.map (·.2), y ≤ m) : m = n := by
  obtain ⟨pre, post, rfl, a, b⟩ := h
  have hn := h2 n (by simp)
  obtain ⟨q, hq, rfl⟩ := List.mem_map.mp h1
  have : q.2 ≤ n := by
    rcases List.mem_append.mp hq with z | z
    · exact Int.le_of_lt (a q z)
    · rcases List.mem_cons.mp z with z | z
      · rw [z]; exact Int.le_refl _
      · exact b q z
  omega
theorem best_first {L : List (Int × Int)} {n s : Int} (h : IsBest L n s) : ∃ r, ((L.filter fun p => decide (p.2 = n)).map fun p => PyData.int p.1) = .int s :: r := by
  obtain ⟨pre, post, rfl, a, b⟩ := h
  have : pre.filter (fun p => decide (p.2 = n)) = [] := by
    rw [List.filter_eq_nil_iff]
    intro q hq
    have := a q hq
    simp
    omega
  rw [List.filter_append, this]
  simp
theorem ok16 (Fu : Fun K "best_of" "best_of" (topS 16) f fd) (hg : GlOk P w K mg base k (glOf g16) T) : FnOk P w K mg base CX0 (k + 1) f fd ["steps"] (spOf K F16) := by
  refine def_ok Fu s16 hg c16 (fun ws B k h => ?_) fun ws B k h => ?_
  · obtain ⟨L, n, s, rfl, _⟩ := h; rfl
  · obtain ⟨L, n, s, rfl, rfl, hl, hb, h⟩ := h
    conv => whnf
    refine .inl ?_
    conv => whnf
    refine ⟨fun i acc B => B = [] ∧ acc = ((L.take i).map (·.2)).map PyData.int, ⟨rfl, rfl⟩, fun i x acc B hx hI => ?_, fun acc B hI => ?_⟩
    · obtain ⟨rfl, rfl⟩ := hI
      obtain ⟨a, b, hp, rfl⟩ := prs_get hx
      have hi := (List.getElem?_eq_some_iff.mp hp).1
      refine tgt2 ?_
      conv => whnf
      refine bT rfl ?_
      conv => whnf
      refine ⟨sz' (by simp; omega), rfl, ?_⟩
      rw [take_succ hp]
      simp
    · obtain ⟨rfl, rfl⟩ := hI
      refine .inl ?_
      conv => whnf
      rw [prs_len, List.take_length]
      have hne : 0 < (L.map (·.2)).length := by
        obtain ⟨pre, post, rfl, _⟩ := hb
        simp
        omega
      refine ⟨L.map (·.2), rfl, hne, fun m h1 h2 => ?_⟩
      have := best_max hb h1 h2
      subst this
      conv => whnf
      refine .inl ?_
      conv => whnf
      refine ⟨fun i acc B => B = [] ∧ acc = ((L.take i).filter fun p => decide (p.2 = m)).map fun p => PyData.int p.1, ⟨rfl, rfl⟩, fun i x acc B hx hI => ?_, fun acc B hI => ?_⟩
      · obtain ⟨rfl, rfl⟩ := hI
        obtain ⟨a, b, hp, rfl⟩ := prs_get hx
        have hi := (List.getElem?_eq_some_iff.mp hp).1
        have hfl : ((L.take i).filter fun p => decide (p.2 = m)).length ≤ i := Nat.le_trans (List.length_filter_le _ _) (by rw [List.length_take]; omega)
        refine tgt2 ?_
        conv => whnf
        by_cases e : b = m
        · refine dT e ?_
          conv => whnf
          refine ⟨sz' (by rw [List.length_map]; omega), rfl, ?_⟩
          rw [take_succ hp, List.filter_append]
          simp [e]
        · refine dF e ?_
          refine ⟨rfl, ?_⟩
          rw [take_succ hp, List.filter_append]
          simp [e]
      · obtain ⟨rfl, rfl⟩ := hI
        rw [prs_len, List.take_length]
        obtain ⟨r, hr⟩ := best_first hb
        rw [hr]
        refine .inl ?_
        conv => whnf
        refine ⟨_, atI_nat (j := 0) rfl, ?_⟩
        conv => whnf
        refine ⟨sz (by simp), ?_⟩
        exact h
def F20 : FT := fun ws B k => ∃ ns : List Int, ws = [.d (.tuple (ns.map .int))] ∧ B = [] ∧ Log ns ∧ k (.d .none) []
theorem ok20 (h8 : T 8 = F8) (h9 : T 9 = F9) (h10 : T 10 = F10) (Fu : Fun K "need_log" "need_log" (topS 20) f fd) (hg : GlOk P w K mg base k (glOf g20) T) : FnOk P w K mg base CX0 (k + 1) f fd ["log"] (spOf K F20) := by
  refine def_ok Fu s20 hg c20 (fun ws B k h => ?_) fun ws B k h => ?_
  · obtain ⟨ns, rfl, _⟩ := h; rfl
  · obtain ⟨ns, rfl, rfl, lg, h⟩ := h
    conv => whnf
    rw [h9]
    have hl := lg.len
    have hp := lg.pos
    refine ⟨_, _, _, rfl, rfl, ?_⟩
    conv => whnf
    refine bF (by simp; omega) ?_
    conv => whnf
    refine .inr (.inl ?_)
    conv => whnf
    refine ⟨fun i acc B => B = [] ∧ acc = List.replicate i (.bool true) ∧ i ≤ ns.length, ⟨rfl, rfl, Nat.zero_le _⟩, fun i x acc B hx hI => ?_, fun acc B hI => ?_⟩
    · obtain ⟨rfl, rfl, hi⟩ := hI
      obtain ⟨n, hn, rfl⟩ := ints_get hx
      have hil := (List.getElem?_eq_some_iff.mp hn).1
      have hb := lg.bd n (List.mem_of_getElem? hn)
      conv => whnf
      refine bT rfl ?_
      conv => whnf
      rw [h8]
      refine ⟨n, rfl, rfl, ?_⟩
      conv => whnf
      refine ⟨sz' (by rw [List.length_replicate]; omega), rfl, ?_, hil⟩
      rw [decide_eq_true hb, List.replicate_succ']
    · obtain ⟨rfl, rfl, hi⟩ := hI
      refine .inl ?_
      conv => whnf
      refine ⟨List.replicate _ true, by rw [List.map_replicate], ?_⟩
      conv => whnf
      refine bF (by simp) ?_
      conv => whnf
      rw [h10]
      refine ⟨ns, rfl, rfl, lg.asc, by omega, ?_⟩
      conv => whnf
      refine bF rfl ?_
      exact h
def F21 : FT := fun ws B k => ∃ (a b : List Int) (sl : Int), ws = [.d (.tuple (a.map .int)), .d (.tuple (b.map .int)), .d (.int sl)] ∧ B = [] ∧ Log a ∧ Log b ∧ 0 ≤ sl ∧ sl ≤ 100 ∧ k (.d .none) []
theorem ok21 (h11 : T 11 = F11) (h20 : T 20 = F20) (Fu : Fun K "need_two_logs" "need_two_logs" (topS 21) f fd) (hg : GlOk P w K mg base k (glOf g21) T) : FnOk P w K mg base CX0 (k + 1) f fd ["log", "other", "slack"] (spOf K F21) := by
  refine def_ok Fu s21 hg c21 (fun ws B k h => ?_) fun ws B k h => ?_
  · obtain ⟨a, b, sl, rfl, _⟩ := h; rfl
  · obtain ⟨a, b, sl, rfl, rfl, la, lb, h1, h2, h⟩ := h
    conv => whnf
    rw [h20]
    refine ⟨a, rfl, rfl, la, ?_⟩
    conv => whnf
    rw [h20]
    refine ⟨b, rfl, rfl, lb, ?_⟩
    conv => whnf
    rw [h11]
    refine ⟨sl, 0, 100, rfl, rfl, h1, h2, ?_⟩
    exact h
def F22 : FT := fun ws B k => ∃ (a b : List Int) (sl least : Int), ws = [.d (.tuple (a.map .int)), .d (.tuple (b.map .int)), .d (.int sl), .d (.int least)] ∧ B = [] ∧ Log a ∧ Log b ∧ 0 ≤ sl ∧ sl ≤ 100 ∧ 1 ≤ least ∧ least ≤ 40 ∧ k (.d (.tuple (prs (rangesWith (stepsOf a b sl) least)))) []
theorem steps_len (a b : List Int) (sl : Int) (ha : a.length ≤ 100) (hb : b.length ≤ 100) : (stepsOf a b sl).length ≤ 100000 := by
  unfold stepsOf
  simp only
  rw [runs_len, sortI, List.length_mergeSort, List.length_map]
  have h1 := bumps_len (deltas a b sl) []
  have h2 := deltas_len a b sl
  have h4 : a.length * (2 * b.length) ≤ 100 * 200 := Nat.mul_le_mul ha (by omega)
  simp at h1
  omega
theorem ok22 (h11 : T 11 = F11) (h21 : T 21 = F21) (h14 : T 14 = F14) (h15 : T 15 = F15) (Fu : Fun K "shifts" "shifts" (topS 22) f fd) (hg : GlOk P w K mg base k (glOf g22) T) : FnOk P w K mg base CX0 (k + 1) f fd ["log", "other", "slack", "least"] (spOf K F22) := by
  refine def_ok Fu s22 hg c22 (fun ws B k h => ?_) fun ws B k h => ?_
  · obtain ⟨a, b, sl, n, rfl, _⟩ := h; rfl
  · obtain ⟨a, b, sl, least, rfl, rfl, la, lb, h1, h2, h3, h4, h⟩ := h
    have l1 := la.len
    have l2 := lb.len
    conv => whnf
    rw [h21]
    refine ⟨a, b, sl, rfl, rfl, la, lb, h1, h2, ?_⟩
    conv => whnf
    rw [h11]
    refine ⟨least, 1, 40, rfl, rfl, h3, h4, ?_⟩
    conv => whnf
    rw [h14]
    refine ⟨a, b, sl, rfl, rfl, by omega, by omega, ?_⟩
    conv => whnf
    rw [h15]
    refine ⟨stepsOf a b sl, least, rfl, rfl, steps_len a b sl (by omega) (by omega), ?_⟩
    exact h
def F23 : FT := fun ws B k => ∃ (a b : List Int) (sl n s : Int), ws = [.d (.tuple (a.map .int)), .d (.tuple (b.map .int)), .d (.int sl)] ∧ B = [] ∧ Log a ∧ Log b ∧ 0 ≤ sl ∧ sl ≤ 100 ∧ IsBest (stepsOf a b sl) n s ∧ k (.d (.tuple [.int n, .int s])) []
theorem ok23 (h21 : T 21 = F21) (h14 : T 14 = F14) (h16 : T 16 = F16) (Fu : Fun K "best_shift" "best_shift" (topS 23) f fd) (hg : GlOk P w K mg base k (glOf g23) T) : FnOk P w K mg base CX0 (k + 1) f fd ["log", "other", "slack"] (spOf K F23) := by
  refine def_ok Fu s23 hg c23 (fun ws B k h => ?_) fun ws B k h => ?_
  · obtain ⟨a, b, sl, n, s, rfl, _⟩ := h; rfl
  · obtain ⟨a, b, sl, n, s, rfl, rfl, la, lb, h1, h2, hb, h⟩ := h
    have l1 := la.len
    have l2 := lb.len
    conv => whnf
    rw [h21]
    refine ⟨a, b, sl, rfl, rfl, la, lb, h1, h2, ?_⟩
    conv => whnf
    rw [h14]
    refine ⟨a, b, sl, rfl, rfl, by omega, by omega, ?_⟩
    conv => whnf
    rw [h16]
    refine ⟨stepsOf a b sl, n, s, rfl, rfl, steps_len a b sl (by omega) (by omega), hb, ?_⟩
    exact h
end
end K60

namespace K60
open L2 Dl PySem PyProof.Rows PySem.Spec
section
variable {P : Program} {w : World} {K : PySem.W.Frag} {mg : Str → Option Value} {base : Heap} {k : Nat} {T : Nat → FT} {f : Addr} {fd : FuncData}
/-- a feed: how it may stand -/
def FeedOk (b : Int) (ds : List PyData) : Prop := ∃ f0 f1 f2 : Int, ds = [.int f0, .int f1, .int f2] ∧ 0 ≤ f0 ∧ 0 ≤ f1 ∧ f1 < 10 ^ 40 ∧ 0 ≤ f2 ∧ f2 ≤ b
theorem FeedOk.mono {b c : Int} {ds : List PyData} (h : FeedOk b ds) (e : b ≤ c) : FeedOk c ds := by
  obtain ⟨f0, f1, f2, h1, h2, h3, h4, h5, h6⟩ := h
  exact ⟨f0, f1, f2, h1, h2, h3, h4, h5, by omega⟩
theorem lg {n a : Nat} (h : n < 2 ^ a) : n.log2 ≤ a := by
  by_cases z : n = 0
  · subst z; simp
  · exact Nat.le_of_lt ((Nat.log2_lt z).mpr h)
theorem mulW {i j : Int} (h1 : i.natAbs < 2 ^ 400) (h2 : j.natAbs < 2 ^ 400) : MulOk i j := .inr (by
  have a := lg h1
  have b := lg h2
  show i.natAbs.log2 + j.natAbs.log2 < 1000000
  omega)
theorem mulL {i j : Int} (h1 : -(2 ^ 64) < i) (h2 : i < 2 ^ 64) : MulOk i j := .inl (.inl ⟨h1, h2⟩)
theorem mulR {i j : Int} (h1 : -(2 ^ 64) < j) (h2 : j < 2 ^ 64) : MulOk i j := .inl (.inr ⟨h1, h2⟩)
theorem divW {i j : Int} (h1 : 0 < j) (h2 : j < 2 ^ 64) : CDivW i j := ⟨h1, by
  have : j.natAbs < 2 ^ 64 := by omega
  have := lg this
  omega⟩
def F25 : FT := fun ws B k => ∃ (ns : List Int) (kk : Int), ws = [.sc ns, .d (.int kk)] ∧ B = [] ∧ 0 ≤ kk ∧ ∀ ds, FeedOk 0 ds → k (.m 0) [.lst ds]
theorem feed_new (c m : Int) (h : 0 < m) (hm : m ≤ 10 ^ 40) : ∀ i : Int, FeedOk 0 [.int (if c > 0 then c else 0), .int (i % m), .int 0] := fun i => by
  refine ⟨_, _, _, rfl, ?_, Int.emod_nonneg _ (by omega), ?_, Int.le_refl _, Int.le_refl _⟩
  · split <;> omega
  · have := Int.emod_lt_of_pos i h
    omega
theorem ok25 (Fu : Fun K "_law_feed" "_law_feed" (topS 25) f fd) (hg : GlOk P w K mg base k (glOf g25) T) : FnOk P w K mg base CX0 (k + 1) f fd ["script", "k"] (spOf K F25) := by
  refine def_ok Fu s25 hg c25 (fun ws B k h => ?_) fun ws B k h => ?_
  · obtain ⟨ns, kk, rfl, _⟩ := h; rfl
  · obtain ⟨ns, kk, rfl, rfl, hk, h⟩ := h
    conv => whnf
    refine ⟨mulL (by decide) (by decide), ?_⟩
    conv => whnf
    refine ⟨1, rfl, ?_⟩
    conv => whnf
    refine .inl ?_
    conv => whnf
    refine ⟨ns.take 1, (cut_to _ 1).trans (by rw [List.map_take]), ?_⟩
    conv => whnf
    by_cases hc : kk < ns.length
    · refine dT hc ?_
      conv => whnf
      refine ⟨kk, ns[kk.toNat]'(by omega), rfl, ?_, ?_⟩
      · have : ns[kk.toNat]? = some (ns[kk.toNat]'(by omega)) := List.getElem?_eq_getElem (by omega)
        have h2 := atI_nat this
        rw [show ((kk.toNat : Nat) : Int) = kk by omega] at h2
        exact h2
      conv => whnf
      refine ⟨⟨by decide, by decide, by decide⟩, ?_⟩
      conv => whnf
      refine ⟨mulR (by decide) (by decide), ?_⟩
      conv => whnf
      refine ⟨mulL (by decide) (by decide), ?_⟩
      conv => whnf
      refine ⟨⟨by decide, by decide, by decide⟩, ?_⟩
      conv => whnf
      refine ⟨by decide, ?_⟩
      conv => whnf
      refine ⟨sz (by simp), .inr ?_⟩
      conv => whnf
      refine ⟨Nat.le_refl _, _, rfl, by simp, .inr ?_⟩
      exact h _ (feed_new _ _ (by decide) (by decide) _)
    · refine dF hc ?_
      conv => whnf
      refine ⟨⟨by decide, by decide, by decide⟩, ?_⟩
      conv => whnf
      refine ⟨mulR (by decide) (by decide), ?_⟩
      conv => whnf
      refine ⟨mulL (by decide) (by decide), ?_⟩
      conv => whnf
      refine ⟨⟨by decide, by decide, by decide⟩, ?_⟩
      conv => whnf
      refine ⟨by decide, ?_⟩
      conv => whnf
      refine ⟨sz (by simp), .inr ?_⟩
      conv => whnf
      refine ⟨Nat.le_refl _, _, rfl, by simp, .inr ?_⟩
      exact h _ (feed_new _ _ (by decide) (by decide) _)
def F26 : FT := fun ws B k => ∃ (b : Int) (ds : List PyData) (many : Int), ws = [.m 0, .d (.int many)] ∧ B = [.lst ds] ∧ FeedOk b ds ∧ b ≤ 1000000 ∧ 0 < many ∧ many < 2 ^ 60 ∧ ∀ r ds', 0 ≤ r → r < many → FeedOk (b + 1) ds' → k (.d (.int r)) [.lst ds']
theorem ok26 (Fu : Fun K "_law_draw" "_law_draw" (topS 26) f fd) (hg : GlOk P w K mg base k (glOf g26) T) : FnOk P w K mg base CX0 (k + 1) f fd ["feed", "many"] (spOf K F26) := by
  refine def_ok Fu s26 hg c26 (fun ws B k h => ?_) fun ws B k h => ?_
  · obtain ⟨b, ds, many, rfl, _⟩ := h; rfl
  · obtain ⟨b, ds, many, rfl, rfl, ⟨f0, f1, f2, rfl, q0, q1, q2, q3, q4⟩, hb, hm, hm2, h⟩ := h
    conv => whnf
    refine ⟨_, atI_nat (j := 0) rfl, ?_⟩
    conv => whnf
    by_cases hc : 0 < f0
    · refine dT hc ?_
      conv => whnf
      refine ⟨_, atI_nat (j := 0) rfl, ?_⟩
      conv => whnf
      refine ⟨divW hm (by omega), ?_⟩
      conv => whnf
      refine ⟨_, atI_nat (j := 0) rfl, ?_⟩
      conv => whnf
      refine ⟨mulR (by omega) (by omega), ?_⟩
      conv => whnf
      refine ⟨0, 0, rfl, rfl, ?_⟩
      conv => whnf
      have e : f0 - f0 / many * many = f0 % many := by
        have := Int.emod_add_mul_ediv f0 many
        rw [Int.mul_comm (f0 / many)]
        omega
      refine h _ _ ?_ ?_ ⟨_, _, _, rfl, Int.ediv_nonneg q0 (by omega), q1, q2, q3, by omega⟩
      · rw [e]; exact Int.emod_nonneg _ (by omega)
      · rw [e]; exact Int.emod_lt_of_pos _ hm
    · refine dF hc ?_
      conv => whnf
      refine ⟨_, atI_nat (j := 2) rfl, ?_⟩
      conv => whnf
      refine ⟨2, 2, rfl, rfl, ?_⟩
      conv => whnf
      refine ⟨_, atI_nat (j := 1) rfl, ?_⟩
      conv => whnf
      refine ⟨_, atI_nat (j := 2) rfl, ?_⟩
      conv => whnf
      refine ⟨mulL (by decide) (by decide), ?_⟩
      conv => whnf
      have b1 : (f1 + 6700417 * (f2 + 1)).natAbs < 2 ^ 140 := by omega
      generalize f1 + 6700417 * (f2 + 1) = st at b1
      refine ⟨mulW (by omega) (by omega), ?_⟩
      conv => whnf
      have b2 : (st * st).natAbs < 2 ^ 280 := by
        rw [Int.natAbs_mul, show (2 : Nat) ^ 280 = 2 ^ 140 * 2 ^ 140 by decide]
        exact Nat.mul_lt_mul'' b1 b1
      refine ⟨mulW (by omega) (by omega), ?_⟩
      conv => whnf
      refine ⟨_, atI_nat (j := 2) rfl, ?_⟩
      conv => whnf
      refine ⟨mulL (by decide) (by decide), ?_⟩
      conv => whnf
      refine ⟨⟨by decide, by decide, by decide⟩, ?_⟩
      conv => whnf
      refine ⟨by decide, ?_⟩
      conv => whnf
      have c1 := Int.emod_nonneg (st * st * st + 15485863 * (f2 + 1)) (show (10 ^ (43 : Int).toNat + 57 : Int) ≠ 0 by decide)
      have c2 := Int.emod_lt_of_pos (st * st * st + 15485863 * (f2 + 1)) (show (0 : Int) < 10 ^ (43 : Int).toNat + 57 by decide)
      generalize (st * st * st + 15485863 * (f2 + 1)) % (10 ^ (43 : Int).toNat + 57) = s2 at c1 c2
      have c3 : (10 ^ (43 : Int).toNat + 57 : Int) ≤ 2 ^ 150 := by decide
      refine ⟨mulW (by omega) (by omega), ?_⟩
      conv => whnf
      refine ⟨⟨by decide, by decide, by decide⟩, ?_⟩
      conv => whnf
      refine ⟨by decide, ?_⟩
      conv => whnf
      refine ⟨⟨by decide, by decide, by decide⟩, ?_⟩
      conv => whnf
      refine ⟨divW (by decide) (by decide), ?_⟩
      conv => whnf
      refine ⟨hm, ?_⟩
      conv => whnf
      exact h _ _ (Int.emod_nonneg _ (by omega)) (Int.emod_lt_of_pos _ hm) ⟨_, _, _, rfl, q0, q1, q2, by omega, by omega⟩
def F27 : FT := fun ws B k => ∃ (b : Int) (ds xs : List PyData), ws = [.m 0, .d (.list xs)] ∧ B = [.lst ds] ∧ FeedOk b ds ∧ b ≤ 1000000 ∧ 0 < xs.length ∧ xs.length ≤ 1000 ∧ ∀ x ds', x ∈ xs → FeedOk (b + 1) ds' → k (.d x) [.lst ds']
theorem ok27 (h26 : T 26 = F26) (Fu : Fun K "_law_one" "_law_one" (topS 27) f fd) (hg : GlOk P w K mg base k (glOf g27) T) : FnOk P w K mg base CX0 (k + 1) f fd ["feed", "things"] (spOf K F27) := by
  refine def_ok Fu s27 hg c27 (fun ws B k h => ?_) fun ws B k h => ?_
  · obtain ⟨b, ds, xs, rfl, _⟩ := h; rfl
  · obtain ⟨b, ds, xs, rfl, rfl, hf, hb, hp, hl, h⟩ := h
    conv => whnf
    refine ⟨_, rfl, by simp, ?_⟩
    conv => whnf
    rw [h26]
    refine ⟨b, ds, _, rfl, rfl, hf, hb, by omega, by omega, fun r ds' r0 r1 hf' => ?_⟩
    conv => whnf
    have hr : r.toNat < xs.length := by omega
    have : xs[r.toNat]? = some xs[r.toNat] := List.getElem?_eq_getElem hr
    have h2 := atI_nat this
    rw [show ((r.toNat : Nat) : Int) = r by omega] at h2
    refine ⟨_, h2, ?_⟩
    exact h _ _ (List.getElem_mem hr) hf'
end
end K60

namespace K60
open L2 Dl PySem PyProof.Rows PySem.Spec
section
variable {P : Program} {w : World} {K : PySem.W.Frag} {mg : Str → Option Value} {base : Heap} {k : Nat} {T : Nat → FT} {f : Addr} {fd : FuncData}
theorem fn_false {CX : CXT} {ps : List Str} : FnOk P w K mg base CX k f fd ps (spOf K fun _ _ _ => False) := by
  refine ⟨fun vs H Q E h => ?_, fun A outer s H args us vs Q E _ _ _ _ h => ?_⟩
  · obtain ⟨_, _, _, _, _, _, _, h, _⟩ := h
    exact h.elim
  · obtain ⟨_, _, _, _, _, _, _, h, _⟩ := h
    exact h.elim
/-- ints, lists and tuples of them -/
def Simp : Nat → PyData → Prop
  | 0, _ => False
  | _ + 1, .int _ => True
  | n + 1, .list xs => xs.length ≤ 100000 ∧ ∀ x ∈ xs, Simp n x
  | n + 1, .tuple xs => xs.length ≤ 100000 ∧ ∀ x ∈ xs, Simp n x
  | _ + 1, _ => False
def F28 : Nat → FT
  | 0 => fun _ _ _ => False
  | n + 1 => fun ws B k => ∃ d, ws = [.d d, .d d] ∧ B = [] ∧ Simp (n + 1) d ∧ k (.d (.bool true)) []
theorem zip_self {xs : List PyData} {i : Nat} {x : PyData} (h : (zipD xs xs)[i]? = some x) : ∃ y, xs[i]? = some y ∧ x = .tuple [y, y] := by
  obtain ⟨a, b, h1, h2, rfl⟩ := zipD_get h
  rw [h1] at h2
  cases h2
  exact ⟨a, h1, rfl⟩
theorem all_flat : ∀ n : Nat, (List.replicate n (PyData.bool true)).all flatD = true := fun n => by simp [flatD]
theorem none_false : ∀ n : Nat, ((List.replicate n (PyData.bool true)).any fun z => PyData.eqv z (.bool false)) = false := fun n => by
  rw [List.any_eq_false]
  intro x hx
  rw [List.eq_of_mem_replicate hx]
  decide
theorem ok28 (n : Nat) (h28 : T 28 = F28 n) (Fu : Fun K "_law_same" "_law_same" (topS 28) f fd) (hg : GlOk P w K mg base k (glOf g28) T) : FnOk P w K mg base CX0 (k + 1) f fd ["told", "due"] (spOf K (F28 (n + 1))) := by
  refine def_ok Fu s28 hg c28 (fun ws B k h => ?_) fun ws B k h => ?_
  · obtain ⟨d, rfl, _⟩ := h; rfl
  · obtain ⟨d, rfl, rfl, hs, h⟩ := h
    cases d with
    | none => exact hs.elim
    | bool _ => exact hs.elim
    | str _ => exact hs.elim
    | dict _ => exact hs.elim
    | int i =>
      conv => whnf
      refine bF (by rw [isi_lt]) ?_
      conv => whnf
      refine bF rfl ?_
      conv => whnf
      refine bF (by simp [isi_bool]) ?_
      conv => whnf
      refine bF (by simp [isi_str]) ?_
      conv => whnf
      refine bT (by rw [isi_is]) ?_
      conv => whnf
      rw [decide_eq_true rfl]
      exact h
    | list xs =>
      obtain ⟨hz, hs⟩ := hs
      conv => whnf
      refine bT (by rw [isi_lt]) ?_
      conv => whnf
      refine bT (by rw [isi_list]) ?_
      conv => whnf
      refine bT (by rw [isi_list]) ?_
      conv => whnf
      refine dT rfl ?_
      conv => whnf
      refine ⟨fun i acc B => B = [] ∧ acc = List.replicate i (.bool true) ∧ i ≤ xs.length, ⟨rfl, rfl, Nat.zero_le _⟩, fun i x acc B hx hI => ?_, fun acc B hI => ?_⟩
      · obtain ⟨rfl, rfl, hi⟩ := hI
        obtain ⟨y, hy, rfl⟩ := zip_self hx
        have hil := (List.getElem?_eq_some_iff.mp hy).1
        refine tgt2 ?_
        conv => whnf
        refine bT rfl ?_
        conv => whnf
        rw [h28]
        have sy := hs y (List.mem_of_getElem? hy)
        cases n with
        | zero => exact sy.elim
        | succ n =>
          refine ⟨y, rfl, rfl, sy, ?_⟩
          conv => whnf
          refine ⟨sz' (by rw [List.length_replicate]; omega), rfl, ?_, hil⟩
          rw [List.replicate_succ']
      · obtain ⟨rfl, rfl, hi⟩ := hI
        refine .inl ?_
        conv => whnf
        refine ⟨.inl ⟨rfl, all_flat _⟩, ?_⟩
        rw [none_false]
        exact h
    | tuple xs =>
      obtain ⟨hz, hs⟩ := hs
      conv => whnf
      refine bT (by rw [isi_lt]) ?_
      conv => whnf
      refine bF (by rw [isi_list]) ?_
      conv => whnf
      refine bT (by rw [isi_tuple]) ?_
      conv => whnf
      refine dT rfl ?_
      conv => whnf
      refine ⟨fun i acc B => B = [] ∧ acc = List.replicate i (.bool true) ∧ i ≤ xs.length, ⟨rfl, rfl, Nat.zero_le _⟩, fun i x acc B hx hI => ?_, fun acc B hI => ?_⟩
      · obtain ⟨rfl, rfl, hi⟩ := hI
        obtain ⟨y, hy, rfl⟩ := zip_self hx
        have hil := (List.getElem?_eq_some_iff.mp hy).1
        refine tgt2 ?_
        conv => whnf
        refine bT rfl ?_
        conv => whnf
        rw [h28]
        have sy := hs y (List.mem_of_getElem? hy)
        cases n with
        | zero => exact sy.elim
        | succ n =>
          refine ⟨y, rfl, rfl, sy, ?_⟩
          conv => whnf
          refine ⟨sz' (by rw [List.length_replicate]; omega), rfl, ?_, hil⟩
          rw [List.replicate_succ']
      · obtain ⟨rfl, rfl, hi⟩ := hI
        refine .inl ?_
        conv => whnf
        refine ⟨.inl ⟨rfl, all_flat _⟩, ?_⟩
        rw [none_false]
        exact h
end
end K60

namespace K60
open L2 Dl PySem PyProof.Rows PySem.Spec
section
variable {P : Program} {w : World} {K : PySem.W.Frag} {mg : Str → Option Value} {base : Heap} {k : Nat} {T : Nat → FT} {f : Addr} {fd : FuncData}
/-- a log by its own bounds -/
structure LogIn (lo hi : Int) (ns : List Int) : Prop where
  asc : Asc ns
  len : ns.length ≤ 40
  pos : 0 < ns.length
  bd : ∀ n ∈ ns, lo ≤ n ∧ n ≤ hi
theorem LogIn.log {lo hi : Int} {ns : List Int} (h : LogIn lo hi ns) (h1 : -100000 ≤ lo) (h2 : hi ≤ 100000) : Log ns := ⟨h.asc, h.len, h.pos, fun n hn => by have := h.bd n hn; omega⟩
def F29 : FT := fun ws B k => ∃ (b : Int) (ds : List PyData) (many near : Int), ws = [.m 0, .d (.int many), .d (.int near)] ∧ B = [.lst ds] ∧ FeedOk b ds ∧ b ≤ 900000 ∧ 2 ≤ many ∧ many ≤ 40 ∧ -1000 ≤ near ∧ near ≤ 1000 ∧ ∀ ns ds', LogIn (-1000) 5000 ns → FeedOk (b + 100) ds' → k (.d (.tuple (ns.map .int))) [.lst ds']
theorem ok29 (h26 : T 26 = F26) (h27 : T 27 = F27) (Fu : Fun K "_law_log" "_law_log" (topS 29) f fd) (hg : GlOk P w K mg base k (glOf g29) T) : FnOk P w K mg base CX0 (k + 1) f fd ["feed", "many", "near"] (spOf K F29) := by
  refine def_ok Fu s29 hg c29 (fun ws B k h => ?_) fun ws B k h => ?_
  · obtain ⟨b, ds, m, n, rfl, _⟩ := h; rfl
  · obtain ⟨b, ds, many, near, rfl, rfl, hf, hb, m1, m2, n1, n2, h⟩ := h
    conv => whnf
    refine .inl ?_
    conv => whnf
    refine ⟨sz (by simp), .inl ?_⟩
    conv => whnf
    refine ⟨_, rfl, by simp, ?_⟩
    conv => whnf
    rw [h27]
    refine ⟨b, ds, _, rfl, rfl, hf, by omega, by simp, by simp, fun x ds1 hx hf1 => ?_⟩
    obtain ⟨st, hst, rfl⟩ := mem_lit (L := [1, 3, 10, 40]) hx
    have hst2 : 1 ≤ st ∧ st ≤ 40 := by
      simp at hst
      omega
    conv => whnf
    refine ⟨_, rfl, by simp, ?_⟩
    conv => whnf
    rw [h26]
    refine ⟨b + 1, ds1, many, rfl, rfl, hf1, by omega, by omega, by omega, fun r ds2 r0 r1 hf2 => ?_⟩
    conv => whnf
    refine ⟨1 + r, rfl, by omega, by omega, ?_⟩
    refine ⟨fun i A B => ∃ (ms : List Int) (ds' : List PyData) (mi : Int), B = [.lst ds', .dK (bk ms)] ∧ FeedOk (b + 2 + i) ds' ∧ ms.Nodup ∧ ms.length = i ∧ (∀ m ∈ ms, near ≤ m ∧ m < mi) ∧ near ≤ mi ∧ mi ≤ near + 40 * i ∧ ∃ y6 y7, A = [some (.m 0), some (.d (.int many)), some (.d (.int near)), some (.m 1), some (.d (.int st)), some (.d (.int mi)), y6, y7],
      sh0 ⟨[], ds2, near, rfl, hf2.mono (by omega), List.nodup_nil, rfl, fun m hm => by simp at hm, by omega, by omega, _, _, rfl⟩, fun i x A B hx hI => ?_, fun A B hI => ?_⟩
    · obtain ⟨ms, ds', mi, rfl, hf', nd, hl, hm, mi1, mi2, y6, y7, rfl⟩ := hI
      obtain ⟨hi, rfl⟩ := rangeD0_get hx
      have hi2 : (i : Int) < 1 + r := by omega
      conv => whnf
      refine put_bk (by omega) ?_
      conv => whnf
      refine ⟨_, rfl, by simp, ?_⟩
      conv => whnf
      rw [h26]
      refine ⟨b + 2 + i, ds', st, rfl, rfl, hf', by omega, by omega, by omega, fun r' ds3 r0' r1' hf3 => ?_⟩
      conv => whnf
      have hnot : mi ∉ ms := fun z => by have := hm mi z; omega
      refine ⟨_, _, .refl, insM ms mi, ds3, mi + 1 + r', rfl, hf3.mono (by omega), insM_nd nd, ?_, fun m hm' => ?_, by omega, by omega, _, _, rfl⟩
      · unfold insM
        rw [if_neg hnot, List.length_append, hl]
        rfl
      · rcases insM_mem hm' with z | z
        · have := hm m z
          omega
        · omega
    · obtain ⟨ms, ds', mi, rfl, hf', nd, hl, hm, mi1, mi2, y6, y7, rfl⟩ := hI
      rw [rangeD_len] at hl hf' mi2
      refine sh0 ?_
      conv => whnf
      refine ⟨1, _, rfl, rfl, ?_⟩
      rw [bk_keys]
      refine ⟨fun i acc B => B = [.lst ds', .gone] ∧ acc = (ms.take i).map .int, ⟨rfl, rfl⟩, fun i x acc B hx hI => ?_, fun acc B hI => ?_⟩
      · obtain ⟨rfl, rfl⟩ := hI
        obtain ⟨m, hm', rfl⟩ := ints_get hx
        have hil := (List.getElem?_eq_some_iff.mp hm').1
        conv => whnf
        refine bT rfl ?_
        conv => whnf
        refine ⟨sz' (by rw [List.length_map, List.length_take]; omega), rfl, ?_⟩
        rw [take_succ hm', List.map_append]
        rfl
      · obtain ⟨rfl, rfl⟩ := hI
        rw [List.length_map, List.take_length]
        refine .inl ⟨rfl, ?_⟩
        conv => whnf
        refine sorted_ints (sz (by omega)) ?_
        refine .inl ?_
        conv => whnf
        refine ⟨rfl, ?_⟩
        conv => whnf
        refine h _ ds' ⟨asc_sort nd, ?_, ?_, fun n hn => ?_⟩ (hf'.mono (by omega))
        · rw [List.length_mergeSort]; omega
        · rw [List.length_mergeSort]; omega
        · have := hm n (List.mem_mergeSort.mp hn)
          omega
end
end K60

namespace K60
open L2 Dl PySem PyProof.Rows PySem.Spec
section
variable {P : Program} {w : World} {K : PySem.W.Frag} {mg : Str → Option Value} {base : Heap} {k : Nat} {T : Nat → FT} {f : Addr} {fd : FuncData}
def F30 : FT := fun ws B k => ∃ (b : Int) (ds : List PyData), ws = [.m 0] ∧ B = [.lst ds] ∧ FeedOk b ds ∧ b ≤ 800000 ∧ ∀ ns ms ds', Log ns → Log ms → FeedOk (b + 1000) ds' → k (.d (.tuple [.tuple (ns.map .int), .tuple (ms.map .int)])) [.lst ds']
theorem ok30 (h26 : T 26 = F26) (h27 : T 27 = F27) (h29 : T 29 = F29) (Fu : Fun K "_law_two_logs" "_law_two_logs" (topS 30) f fd) (hg : GlOk P w K mg base k (glOf g30) T) : FnOk P w K mg base CX0 (k + 1) f fd ["feed"] (spOf K F30) := by
  refine def_ok Fu s30 hg c30 (fun ws B k h => ?_) fun ws B k h => ?_
  · obtain ⟨b, ds, rfl, _⟩ := h; rfl
  · obtain ⟨b, ds, rfl, rfl, hf, hb, h⟩ := h
    conv => whnf
    refine ⟨sz (by simp), .inl ?_⟩
    conv => whnf
    refine ⟨_, rfl, by simp, ?_⟩
    conv => whnf
    rw [h27]
    refine ⟨b, ds, _, rfl, rfl, hf, by omega, by simp, by simp, fun x ds1 hx hf1 => ?_⟩
    obtain ⟨mm, hmm, rfl⟩ := mem_lit (L := [2, 5, 12, 40]) hx
    have hmm2 : 2 ≤ mm ∧ mm ≤ 40 := by
      simp at hmm
      omega
    conv => whnf
    refine ⟨_, rfl, by simp, ?_⟩
    conv => whnf
    rw [h26]
    refine ⟨b + 1, ds1, 400, rfl, rfl, hf1, by omega, by omega, by omega, fun r ds2 r0 r1 hf2 => ?_⟩
    conv => whnf
    refine ⟨_, rfl, by simp, ?_⟩
    conv => whnf
    rw [h29]
    refine ⟨b + 1 + 1, ds2, mm, r - 200, rfl, rfl, hf2, by omega, by omega, by omega, by omega, by omega, fun one ds3 l1 hf3 => ?_⟩
    conv => whnf
    refine ⟨_, rfl, by simp, ?_⟩
    conv => whnf
    rw [h26]
    refine ⟨b + 102, ds3, 3, rfl, rfl, hf3.mono (by omega), by omega, by omega, by omega, fun way ds4 w0 w1 hf4 => ?_⟩
    conv => whnf
    by_cases hw : way = 0
    · refine dT hw ?_
      conv => whnf
      refine ⟨sz (by simp), .inl ?_⟩
      conv => whnf
      refine ⟨_, rfl, by simp, ?_⟩
      conv => whnf
      rw [h27]
      refine ⟨b + 103, ds4, _, rfl, rfl, hf4.mono (by omega), by omega, by simp, by simp, fun x ds5 hx hf5 => ?_⟩
      obtain ⟨m2, hm2, rfl⟩ := mem_lit (L := [2, 5, 12, 40]) hx
      have hm3 : 2 ≤ m2 ∧ m2 ≤ 40 := by
        simp at hm2
        omega
      conv => whnf
      refine ⟨_, rfl, by simp, ?_⟩
      conv => whnf
      rw [h26]
      refine ⟨b + 104, ds5, 400, rfl, rfl, hf5.mono (by omega), by omega, by omega, by omega, fun r' ds6 r0' r1' hf6 => ?_⟩
      conv => whnf
      refine ⟨_, rfl, by simp, ?_⟩
      conv => whnf
      rw [h29]
      refine ⟨b + 105, ds6, m2, r' - 200, rfl, rfl, hf6.mono (by omega), by omega, by omega, by omega, by omega, by omega, fun two ds7 l2 hf7 => ?_⟩
      conv => whnf
      refine ⟨sz (by simp), ?_⟩
      exact h one two ds7 (l1.log (by omega) (by omega)) (l2.log (by omega) (by omega)) (hf7.mono (by omega))
    · refine dF hw ?_
      conv => whnf
      refine ⟨_, rfl, by simp, ?_⟩
      conv => whnf
      rw [h26]
      refine ⟨b + 103, ds4, 2000, rfl, rfl, hf4.mono (by omega), by omega, by omega, by omega, fun mv ds5 mv0 mv1 hf5 => ?_⟩
      conv => whnf
      refine .inl ?_
      conv => whnf
      refine .inr (.inl ?_)
      conv => whnf
      refine ⟨fun i A B => ∃ (ms : List Int) (ds' : List PyData), B = [.lst ds', .dK (bk ms)] ∧ FeedOk (b + 110 + 3 * i) ds' ∧ ms.Nodup ∧ ms.length ≤ i ∧ (∀ m ∈ ms, -50000 ≤ m ∧ m ≤ 50000) ∧ ∃ y5 y6, A = [some (.m 0), some (.d (.tuple (one.map .int))), some (.d (.int way)), some (.d (.int (mv - 1000))), some (.m 1), y5, y6],
        sh0 ⟨[], ds5, rfl, hf5.mono (by omega), List.nodup_nil, Nat.le_refl _, fun m hm => by simp at hm, _, _, rfl⟩, fun i x A B hx hI => ?_, fun A B hI => ?_⟩
      · obtain ⟨ms, ds', rfl, hf', nd, hl, hm, y5, y6, rfl⟩ := hI
        obtain ⟨mi, hmi, rfl⟩ := ints_get hx
        have hil := (List.getElem?_eq_some_iff.mp hmi).1
        have hi40 : i < 40 := Nat.lt_of_lt_of_le hil l1.len
        have hbd := l1.bd mi (List.mem_of_getElem? hmi)
        -- the store
        have put : ∀ (ds6 : List PyData) (a4 : Int), -3 ≤ a4 → a4 ≤ 3 → FeedOk (b + 110 + 3 * i + 3) ds6 → ∃ ms2 : List Int, ms2 = insM ms (mi + (mv - 1000) + a4) ∧ ms2.Nodup ∧ ms2.length ≤ i + 1 ∧ ∀ m ∈ ms2, -50000 ≤ m ∧ m ≤ 50000 := fun ds6 a4 h1 h2 _ => by
          refine ⟨_, rfl, insM_nd nd, Nat.le_trans (insM_len _ _) (by omega), fun m hm' => ?_⟩
          rcases insM_mem hm' with z | z
          · exact hm m z
          · omega
        conv => whnf
        by_cases hw1 : way = 1
        · refine dT hw1 ?_
          refine bT rfl ?_
          conv => whnf
          refine ⟨_, rfl, by simp, ?_⟩
          conv => whnf
          rw [h26]
          refine ⟨b + 110 + 3 * i, ds', 7, rfl, rfl, hf', by omega, by omega, by omega, fun r6 ds6 r60 r61 hf6 => ?_⟩
          conv => whnf
          refine ⟨sz (by simp), .inl ?_⟩
          conv => whnf
          refine ⟨_, rfl, by simp, ?_⟩
          conv => whnf
          rw [h27]
          refine ⟨b + 110 + 3 * i + 1, ds6, _, rfl, rfl, hf6, by omega, by simp, by simp, fun x ds7 hx hf7 => ?_⟩
          obtain ⟨a4, ha4, rfl⟩ := mem_lit (L := [0, 0, 1, r6 - 3]) hx
          have ha5 : -3 ≤ a4 ∧ a4 ≤ 3 := by
            simp at ha4
            omega
          obtain ⟨ms2, e1, e2, e3, e4⟩ := put ds7 a4 ha5.1 ha5.2 (hf7.mono (by omega))
          conv => whnf
          refine put_bk (by omega) ?_
          conv => whnf
          refine ⟨_, _, .refl, ms2, ds7, by rw [e1]; rfl, hf7.mono (by omega), e2, e3, e4, _, _, rfl⟩
        · refine dF hw1 ?_
          conv => whnf
          refine ⟨_, rfl, by simp, ?_⟩
          conv => whnf
          rw [h26]
          refine ⟨b + 110 + 3 * i, ds', 4, rfl, rfl, hf', by omega, by omega, by omega, fun r8 ds8 r80 r81 hf8 => ?_⟩
          conv => whnf
          by_cases hr8 : 0 < r8
          · refine dT hr8 ?_
            conv => whnf
            refine ⟨_, rfl, by simp, ?_⟩
            conv => whnf
            rw [h26]
            refine ⟨b + 110 + 3 * i + 1, ds8, 7, rfl, rfl, hf8, by omega, by omega, by omega, fun r6 ds6 r60 r61 hf6 => ?_⟩
            conv => whnf
            refine ⟨sz (by simp), .inl ?_⟩
            conv => whnf
            refine ⟨_, rfl, by simp, ?_⟩
            conv => whnf
            rw [h27]
            refine ⟨b + 110 + 3 * i + 2, ds6, _, rfl, rfl, hf6.mono (by omega), by omega, by simp, by simp, fun x ds7 hx hf7 => ?_⟩
            obtain ⟨a4, ha4, rfl⟩ := mem_lit (L := [0, 0, 1, r6 - 3]) hx
            have ha5 : -3 ≤ a4 ∧ a4 ≤ 3 := by
              simp at ha4
              omega
            obtain ⟨ms2, e1, e2, e3, e4⟩ := put ds7 a4 ha5.1 ha5.2 (hf7.mono (by omega))
            conv => whnf
            refine put_bk (by omega) ?_
            conv => whnf
            refine ⟨_, _, .refl, ms2, ds7, by rw [e1]; rfl, hf7.mono (by omega), e2, e3, e4, _, _, rfl⟩
          · refine dF hr8 ?_
            conv => whnf
            refine ⟨_, _, .refl, ms, ds8, rfl, hf8.mono (by omega), nd, by omega, hm, _, _, rfl⟩
      · obtain ⟨ms0, ds6, rfl, hf6, nd0, hl0, hm0, y5, y6, rfl⟩ := hI
        rw [List.length_map] at hf6 hl0
        have l1len := l1.len
        refine sh0 ?_
        conv => whnf
        refine ⟨_, rfl, by simp, ?_⟩
        conv => whnf
        rw [h26]
        refine ⟨b + 230, ds6, 3, rfl, rfl, hf6.mono (by omega), by omega, by omega, by omega, fun tn ds7 tn0 tn1 hf7 => ?_⟩
        conv => whnf
        refine ⟨tn, rfl, by omega, by omega, ?_⟩
        refine ⟨fun i A B => ∃ (ms : List Int) (ds' : List PyData), B = [.lst ds', .dK (bk ms)] ∧ FeedOk (b + 231 + i) ds' ∧ ms.Nodup ∧ ms.length ≤ 40 + i ∧ (∀ m ∈ ms, -50000 ≤ m ∧ m ≤ 50000) ∧ ∃ y5 y6, A = [some (.m 0), some (.d (.tuple (one.map .int))), some (.d (.int way)), some (.d (.int (mv - 1000))), some (.m 1), y5, y6],
          sh0 ⟨ms0, ds7, rfl, hf7.mono (by omega), nd0, by omega, hm0, _, _, rfl⟩, fun i x A B hx hI => ?_, fun A B hI => ?_⟩
        · obtain ⟨ms, ds', rfl, hf', nd, hl, hm, y5, y6, rfl⟩ := hI
          obtain ⟨hi, rfl⟩ := rangeD0_get hx
          have hpos := l1.pos
          have h0 : one[0]? = some one[0] := List.getElem?_eq_getElem hpos
          have hbd := l1.bd _ (List.getElem_mem hpos)
          have h0' : (one.map PyData.int)[0]? = some (.int one[0]) := by rw [List.getElem?_map, h0]; rfl
          conv => whnf
          refine ⟨_, atI_nat (j := 0) h0', ?_⟩
          conv => whnf
          refine ⟨_, rfl, by simp, ?_⟩
          conv => whnf
          rw [h26]
          refine ⟨b + 231 + i, ds', 60, rfl, rfl, hf', by omega, by omega, by omega, fun r6 ds6 r60 r61 hf6 => ?_⟩
          conv => whnf
          refine put_bk (by omega) ?_
          conv => whnf
          refine ⟨_, _, .refl, insM ms (one[0] + (mv - 1000) + r6), ds6, rfl, hf6.mono (by omega), insM_nd nd, Nat.le_trans (insM_len _ _) (by omega), fun m hm' => ?_, _, _, rfl⟩
          rcases insM_mem hm' with z | z
          · exact hm m z
          · omega
        · obtain ⟨ms, ds', rfl, hf', nd, hl, hm, y5, y6, rfl⟩ := hI
          rw [rangeD_len] at hf' hl
          refine sh0 ?_
          conv => whnf
          refine ⟨1, _, rfl, rfl, ?_⟩
          conv => whnf
          cases ms with
          | nil =>
            refine bF rfl ?_
            conv => whnf
            refine ⟨sz (by simp), ?_⟩
            exact h one one ds' (l1.log (by omega) (by omega)) (l1.log (by omega) (by omega)) (hf'.mono (by omega))
          | cons m0 mr =>
            refine bT rfl ?_
            conv => whnf
            refine ⟨1, _, rfl, rfl, ?_⟩
            rw [bk_keys]
            generalize hms : m0 :: mr = ms at nd hl hm
            refine ⟨fun i acc B => B = [.lst ds', .gone] ∧ acc = (ms.take i).map .int, ⟨rfl, rfl⟩, fun i x acc B hx hI => ?_, fun acc B hI => ?_⟩
            · obtain ⟨rfl, rfl⟩ := hI
              obtain ⟨m, hm', rfl⟩ := ints_get hx
              have hil := (List.getElem?_eq_some_iff.mp hm').1
              conv => whnf
              refine bT rfl ?_
              conv => whnf
              refine ⟨sz' (by rw [List.length_map, List.length_take]; omega), rfl, ?_⟩
              rw [take_succ hm', List.map_append]
              rfl
            · obtain ⟨rfl, rfl⟩ := hI
              rw [List.length_map, List.take_length]
              refine .inl ⟨rfl, ?_⟩
              conv => whnf
              refine sorted_ints (sz (by omega)) ?_
              refine .inl ?_
              conv => whnf
              refine ⟨40, rfl, ?_⟩
              conv => whnf
              refine ⟨rfl, ?_⟩
              conv => whnf
              refine .inl ?_
              conv => whnf
              refine ⟨rfl, ?_⟩
              conv => whnf
              rw [show Dl.cutD ((ms.mergeSort fun a b => decide (a ≤ b)).map PyData.int) none (some 40) = ((ms.mergeSort fun a b => decide (a ≤ b)).take 40).map PyData.int from (cut_to _ 40).trans (by rw [List.map_take])]
              refine ⟨sz (by simp), ?_⟩
              refine h one _ ds' (l1.log (by omega) (by omega)) ⟨asc_take (asc_sort nd) 40, ?_, ?_, fun n hn => ?_⟩ (hf'.mono (by omega))
              · rw [List.length_take]; omega
              · rw [List.length_take, List.length_mergeSort, ← hms, List.length_cons]; omega
              · have := hm n (List.mem_mergeSort.mp (List.mem_of_mem_take hn))
                omega
end
end K60

namespace K60
open L2 Dl PySem PyProof.Rows PySem.Spec
section
variable {P : Program} {w : World} {K : PySem.W.Frag} {mg : Str → Option Value} {base : Heap} {k : Nat} {T : Nat → FT} {f : Addr} {fd : FuncData}
theorem rep_ints (n : Nat) : List.replicate n (PyData.int 1) = (List.replicate n (1 : Int)).map .int := by simp
theorem ne_nil_ints (n : Nat) : (!PyData.eqv (.list (List.replicate n (PyData.int 1))) (.list [])) = decide (0 < n) := by
  rw [eqv_nil]
  cases n <;> simp [List.replicate_succ]
theorem filt_pos {α : Type} (p : α → Bool) (xs : List α) : decide (0 < (xs.filter p).length) = xs.any p := by
  rw [Bool.eq_iff_iff]
  simp [List.length_pos_iff, List.filter_eq_nil_iff]
def F31 : FT := fun ws B k => ∃ (a b : List Int) (sl s : Int), ws = [.d (.tuple (a.map .int)), .d (.tuple (b.map .int)), .d (.int sl), .d (.int s)] ∧ B = [] ∧ a.length ≤ 100 ∧ b.length ≤ 100 ∧ k (.d (.int (near a b sl s : Int))) []
theorem ok31 (Fu : Fun K "_law_near_enough" "_law_near_enough" (topS 31) f fd) (hg : GlOk P w K mg base k (glOf g31) T) : FnOk P w K mg base CX0 (k + 1) f fd ["one", "other", "slack", "shift"] (spOf K F31) := by
  refine def_ok Fu s31 hg c31 (fun ws B k h => ?_) fun ws B k h => ?_
  · obtain ⟨a, b, sl, s, rfl, _⟩ := h; rfl
  · obtain ⟨a, b, sl, s, rfl, rfl, ha, hb, h⟩ := h
    conv => whnf
    refine .inr (.inl ?_)
    conv => whnf
    refine ⟨fun i acc B => B = [] ∧ acc = List.replicate (((a.take i).filter fun m => nearB b sl s m).length) (.int 1), ⟨rfl, rfl⟩, fun i x acc B hx hI => ?_, fun acc B hI => ?_⟩
    · obtain ⟨rfl, rfl⟩ := hI
      obtain ⟨m, hm, rfl⟩ := ints_get hx
      have hil := (List.getElem?_eq_some_iff.mp hm).1
      have hfl : ((a.take i).filter fun m => nearB b sl s m).length ≤ i := Nat.le_trans (List.length_filter_le _ _) (by rw [List.length_take]; omega)
      conv => whnf
      refine .inr (.inl ?_)
      conv => whnf
      refine ⟨fun j acc B => B = [] ∧ acc = List.replicate (((b.take j).filter fun o => decide (absI (m + s - o) ≤ sl)).length) (.int 1), ⟨rfl, rfl⟩, fun j x acc B hx hI => ?_, fun acc B hI => ?_⟩
      · obtain ⟨rfl, rfl⟩ := hI
        obtain ⟨o, ho, rfl⟩ := ints_get hx
        have hjl := (List.getElem?_eq_some_iff.mp ho).1
        have hfl2 : ((b.take j).filter fun o => decide (absI (m + s - o) ≤ sl)).length ≤ j := Nat.le_trans (List.length_filter_le _ _) (by rw [List.length_take]; omega)
        conv => whnf
        by_cases hc : absI (m + s - o) ≤ sl
        · refine dT hc ?_
          conv => whnf
          refine ⟨sz' (by rw [List.length_replicate]; omega), rfl, ?_⟩
          rw [take_succ ho, List.filter_append, List.length_append]
          simp [hc, List.replicate_succ']
        · refine dF hc ?_
          refine ⟨rfl, ?_⟩
          rw [take_succ ho, List.filter_append, List.length_append]
          simp [hc]
      · obtain ⟨rfl, rfl⟩ := hI
        rw [List.length_map, List.take_length]
        refine .inl ?_
        conv => whnf
        refine ⟨Nat.zero_le _, .inl ?_⟩
        conv => whnf
        refine ⟨by rw [rep_ints]; exact shaped_list (lay_ints _) (by rw [dep_ints]; omega), rfl, ?_⟩
        conv => whnf
        rw [ne_nil_ints, filt_pos]
        have hnb : nearB b sl s m = b.any fun o => decide (absI (m + s - o) ≤ sl) := rfl
        rw [← hnb]
        cases hnv : nearB b sl s m with
        | true =>
          refine bT rfl ?_
          conv => whnf
          refine ⟨sz' (by rw [List.length_replicate]; omega), rfl, ?_⟩
          rw [take_succ hm, List.filter_append, List.length_append]
          simp [hnv, List.replicate_succ']
        | false =>
          refine bF rfl ?_
          refine ⟨rfl, ?_⟩
          rw [take_succ hm, List.filter_append, List.length_append]
          simp [hnv]
    · obtain ⟨rfl, rfl⟩ := hI
      rw [List.length_map, List.take_length]
      refine .inl ?_
      conv => whnf
      rw [List.length_replicate]
      exact h
end
end K60

namespace K60
open L2 Dl PySem PyProof.Rows PySem.Spec
section
variable {P : Program} {w : World} {K : PySem.W.Frag} {mg : Str → Option Value} {base : Heap} {k : Nat} {T : Nat → FT} {f : Addr} {fd : FuncData}
def F32 : FT := fun ws B k => ∃ (a b : List Int) (sl : Int), ws = [.d (.tuple (a.map .int)), .d (.tuple (b.map .int)), .d (.int sl)] ∧ B = [] ∧ a.length ≤ 100 ∧ b.length ≤ 100 ∧ k (.d (.list (prs (rowsOf a b sl)))) []
theorem flat_len : ∀ L : List (Int × Int), (L.flatMap spanD).length = 2 * L.length := fun L => by
  induction L with
  | nil => rfl
  | cons p L ih => rw [List.flatMap_cons, List.length_append, ih, List.length_cons]; show 2 + _ = _; omega
theorem delta_small (a b : List Int) (sl : Int) (ha : a.length ≤ 100) (hb : b.length ≤ 100) : (deltas a b sl).length ≤ 20000 := by
  have h2 := deltas_len a b sl
  have h4 : a.length * (2 * b.length) ≤ 100 * 200 := Nat.mul_le_mul ha (by omega)
  omega
theorem ok32 (Fu : Fun K "_law_steps" "_law_steps" (topS 32) f fd) (hg : GlOk P w K mg base k (glOf g32) T) : FnOk P w K mg base CX0 (k + 1) f fd ["one", "other", "slack"] (spOf K F32) := by
  refine def_ok Fu s32 hg c32 (fun ws B k h => ?_) fun ws B k h => ?_
  · obtain ⟨a, b, sl, rfl, _⟩ := h; rfl
  · obtain ⟨a, b, sl, rfl, rfl, ha, hb, h⟩ := h
    conv => whnf
    refine ⟨Nat.zero_le _, .inr ?_⟩
    conv => whnf
    refine .inr (.inl ?_)
    conv => whnf
    refine ⟨fun i A B => B = [.lst (prs (deltas (a.take i) b sl))] ∧ ∃ y4 y5 y6 y7 y8, A = [some (.d (.tuple (a.map .int))), some (.d (.tuple (b.map .int))), some (.d (.int sl)), some (.m 0), y4, y5, y6, y7, y8], sh0 ⟨rfl, _, _, _, _, _, rfl⟩, fun i x A B hx hI => ?_, fun A B hI => ?_⟩
    · obtain ⟨rfl, y4, y5, y6, y7, y8, rfl⟩ := hI
      obtain ⟨e, he, rfl⟩ := ints_get hx
      have hdel : deltas (a.take (i + 1)) b sl = deltas (a.take i) b sl ++ (spansOf e b sl).flatMap spanD := by
        unfold deltas
        rw [take_succ he, List.flatMap_append]
        simp
      have hsmall := delta_small (a.take i) b sl (by rw [List.length_take]; omega) hb
      generalize deltas (a.take i) b sl = D at hdel hsmall
      conv => whnf
      refine ⟨Nat.zero_le _, .inr ?_⟩
      conv => whnf
      refine .inr (.inl ?_)
      conv => whnf
      refine ⟨fun j A B => B = [.lst (prs D), .lst (prs ((b.take j).foldl (spanStep sl e) []))] ∧ ∃ y6 y7 y8, A = [some (.d (.tuple (a.map .int))), some (.d (.tuple (b.map .int))), some (.d (.int sl)), some (.m 0), some (.d (.int e)), some (.m 1), y6, y7, y8], sh0 ⟨rfl, _, _, _, rfl⟩, fun j x A B hx hI => ?_, fun A B hI => ?_⟩
      · obtain ⟨rfl, z6, z7, z8, rfl⟩ := hI
        obtain ⟨o, ho, rfl⟩ := ints_get hx
        have hj := (List.getElem?_eq_some_iff.mp ho).1
        have hlen : ((b.take j).foldl (spanStep sl e) []).length ≤ j := by
          have := spans_len e sl (b.take j)
          rw [List.length_take] at this
          unfold spansOf at this
          omega
        have hst := foldl_step (g := spanStep sl e) (b := []) ho
        generalize (b.take j).foldl (spanStep sl e) [] = acc at hst hlen
        conv => whnf
        refine ⟨Nat.zero_le _, .inl ?_⟩
        conv => whnf
        refine ⟨shaped_list (lay_prs _) (by have := dep_prs acc; omega), rfl, ?_⟩
        conv => whnf
        rw [eqv_nil]
        rcases snoc_cases acc with rfl | ⟨ys, p, rfl⟩
        · rw [spanStep_nil] at hst
          refine bF rfl ?_
          conv => whnf
          refine bF rfl ?_
          conv => whnf
          refine ⟨⟨_, rfl⟩, ?_⟩
          conv => whnf
          refine ⟨sz (by simp), ?_⟩
          conv => whnf
          refine ⟨sz' (by simp [prs]), ?_⟩
          conv => whnf
          refine ⟨_, _, .refl, ?_, _, _, _, rfl⟩
          rw [hst]
          rfl
        · rw [spanStep_snoc] at hst
          rw [prs_app]
          refine bT neT ?_
          conv => whnf
          refine ⟨_, atI_last _ _, ?_⟩
          conv => whnf
          refine ⟨_, atI_nat (j := 1) rfl, ?_⟩
          conv => whnf
          by_cases hc : o - e - sl ≤ p.2 + 1
          · refine dT hc ?_
            rw [if_pos hc] at hst
            conv => whnf
            refine ⟨_, atI_last _ _, ?_⟩
            conv => whnf
            refine ⟨_, atI_nat (j := 0) rfl, ?_⟩
            conv => whnf
            refine ⟨sz (by simp), ?_⟩
            conv => whnf
            refine ⟨-1, ys.length, rfl, by rw [List.length_append, prs_len]; exact ixN_lastN _, ?_⟩
            conv => whnf
            refine ⟨_, _, .refl, ?_, _, _, _, rfl⟩
            show [MC.lst (prs D), MC.lst ((prs ys ++ [PyData.tuple [.int p.1, .int p.2]]).set ys.length (PyData.tuple [.int p.1, .int (o - e + sl)]))] = _
            rw [hst, prs_app, ← prs_len ys, set_last]
            rfl
          · refine dF hc ?_
            rw [if_neg hc] at hst
            conv => whnf
            refine ⟨⟨_, rfl⟩, ?_⟩
            conv => whnf
            refine ⟨sz (by simp), ?_⟩
            conv => whnf
            rw [List.length_append, List.length_singleton] at hlen
            refine ⟨sz' (by rw [List.length_append, prs_len]; show ys.length + 1 ≤ 1000000; omega), ?_⟩
            conv => whnf
            refine ⟨_, _, .refl, ?_, _, _, _, rfl⟩
            rw [hst, prs_app, prs_app]
            rfl
      · obtain ⟨rfl, z6, z7, z8, rfl⟩ := hI
        rw [List.length_map, List.take_length]
        have hsp := spans_len e sl b
        have hdef : b.foldl (spanStep sl e) [] = spansOf e b sl := rfl
        rw [hdef]
        generalize spansOf e b sl = S at hsp hdel
        refine sh0 ?_
        conv => whnf
        refine ⟨_, _, .frz 1 (Nat.zero_le _) rfl rfl .refl, ?_⟩
        conv => whnf
        refine .inl ?_
        conv => whnf
        refine ⟨fun j A B => B = [.lst (prs (D ++ (S.take j).flatMap spanD)), .gone] ∧ ∃ y4 y5 y6 y7 y8, A = [some (.d (.tuple (a.map .int))), some (.d (.tuple (b.map .int))), some (.d (.int sl)), some (.m 0), y4, y5, y6, y7, y8], sh0 ⟨?_, _, _, _, _, _, rfl⟩, fun j x A B hx hI => ?_, fun A B hI => ?_⟩
        · show [MC.lst (prs D), MC.gone] = [MC.lst (prs (D ++ [])), MC.gone]
          rw [List.append_nil]
        · obtain ⟨rfl, u4, u5, u6, u7, u8, rfl⟩ := hI
          obtain ⟨lo, hi, hp, rfl⟩ := prs_get hx
          have hj := (List.getElem?_eq_some_iff.mp hp).1
          refine tgt2 ?_
          conv => whnf
          refine ⟨⟨_, rfl⟩, ?_⟩
          conv => whnf
          refine ⟨sz (by simp), ?_⟩
          conv => whnf
          refine ⟨sz (by simp), ?_⟩
          conv => whnf
          refine ⟨sz (by simp), .inl ?_⟩
          conv => whnf
          refine ⟨_, rfl, sz ?_, ?_⟩
          · rw [prs_len, List.length_append, flat_len, List.length_take]
            show _ + 2 ≤ _
            omega
          conv => whnf
          refine ⟨_, _, .refl, ?_, _, _, _, _, _, rfl⟩
          rw [take_succ hp, List.flatMap_append, ← List.append_assoc, prs_app (D ++ (S.take j).flatMap spanD)]
          rfl
        · obtain ⟨rfl, u4, u5, u6, u7, u8, rfl⟩ := hI
          rw [prs_len, List.take_length, ← hdel]
          refine sh0 ?_
          refine ⟨_, _, .cut 1 (Nat.zero_le _) .refl, rfl, _, _, _, _, _, rfl⟩
    · obtain ⟨rfl, y4, y5, y6, y7, y8, rfl⟩ := hI
      rw [List.length_map, List.take_length]
      have hsmall := delta_small a b sl ha hb
      refine sh0 ?_
      conv => whnf
      refine sorted_prs (sz (by omega)) ?_
      refine .inl ?_
      exact h
end
end K60

namespace K60
open L2 Dl PySem PyProof.Rows PySem.Spec
section
variable {P : Program} {w : World} {K : PySem.W.Frag} {mg : Str → Option Value} {base : Heap} {k : Nat} {T : Nat → FT} {f : Addr} {fd : FuncData}
theorem rows_len (a b : List Int) (sl : Int) (ha : a.length ≤ 100) (hb : b.length ≤ 100) : (rowsOf a b sl).length ≤ 20000 := by
  unfold rowsOf
  rw [List.length_mergeSort]
  exact delta_small a b sl ha hb
/-- a row by its place -/
theorem row_at {R : List (Int × Int)} {i : Nat} (h : i < R.length) : atI (prs R) (i : Int) = some (.tuple [.int (R.getD i (0, 0)).1, .int (R.getD i (0, 0)).2]) := by
  refine atI_nat ?_
  unfold prs
  rw [List.getElem?_map, List.getElem?_eq_getElem h, List.getD_eq_getElem?_getD, List.getElem?_eq_getElem h]
  rfl
theorem row_at1 {R : List (Int × Int)} {i : Nat} (h : i + 1 < R.length) : atI (prs R) ((i : Int) + 1) = some (.tuple [.int (R.getD (i + 1) (0, 0)).1, .int (R.getD (i + 1) (0, 0)).2]) := row_at h
def F34 : FT := fun ws B k => ∃ (a b : List Int) (sl : Int), ws = [.d (.tuple (a.map .int)), .d (.tuple (b.map .int)), .d (.int sl)] ∧ B = [] ∧ a.length ≤ 100 ∧ b.length ≤ 100 ∧ k (.d (.tuple [.int (bestSt (rowsOf a b sl) (rowsOf a b sl).length).2.1, .int (bestSt (rowsOf a b sl) (rowsOf a b sl).length).2.2])) []
theorem ok34 (h32 : T 32 = F32) (Fu : Fun K "_law_best" "_law_best" (topS 34) f fd) (hg : GlOk P w K mg base k (glOf g34) T) : FnOk P w K mg base CX0 (k + 1) f fd ["one", "other", "slack"] (spOf K F34) := by
  refine def_ok Fu s34 hg c34 (fun ws B k h => ?_) fun ws B k h => ?_
  · obtain ⟨a, b, sl, rfl, _⟩ := h; rfl
  · obtain ⟨a, b, sl, rfl, rfl, ha, hb, h⟩ := h
    conv => whnf
    refine ⟨sz (by simp), ?_⟩
    conv => whnf
    rw [h32]
    refine ⟨a, b, sl, rfl, rfl, ha, hb, ?_⟩
    have hR := rows_len a b sl ha hb
    generalize rowsOf a b sl = R at hR h
    conv => whnf
    refine ⟨_, rfl, by rw [prs_len]; omega, by rw [prs_len]; omega, ?_⟩
    rw [prs_len, show ((R.length : Nat) : Int).toNat = R.length by omega]
    refine ⟨fun i A B => B = [] ∧ ∃ y6, A = [some (.d (.tuple (a.map .int))), some (.d (.tuple (b.map .int))), some (.d (.int sl)), some (.d (.int (bestSt R i).1)), some (.d (.tuple [.int (bestSt R i).2.1, .int (bestSt R i).2.2])), some (.d (.list (prs R))), y6], sh0 ⟨rfl, _, rfl⟩, fun i x A B hx hI => ?_, fun A B hI => ?_⟩
    · obtain ⟨rfl, y6, rfl⟩ := hI
      obtain ⟨hi, rfl⟩ := rangeD0_get hx
      have hst := bestSt_succ R i
      generalize bestSt R i = st at hst
      obtain ⟨m0, bn, bs⟩ := st
      unfold bestStep at hst
      simp only at hst
      conv => whnf
      refine ⟨_, row_at hi, ?_⟩
      conv => whnf
      refine ⟨_, atI_nat (j := 1) rfl, ?_⟩
      conv => whnf
      refine ⟨_, atI_nat (j := 0) rfl, ?_⟩
      conv => whnf
      generalize hm : m0 + (R.getD i (0, 0)).2 = m1 at hst
      by_cases hc : bn < m1
      · refine dT hc ?_
        conv => whnf
        by_cases he : (i : Int) + 1 = ((prs R).length : Int)
        · refine dT he ?_
          rw [prs_len] at he
          have hen : ends R i = true := by
            unfold ends
            rw [decide_eq_true (show i + 1 = R.length by omega)]
            rfl
          rw [if_pos ⟨hc, hen⟩] at hst
          refine bT rfl ?_
          conv => whnf
          refine ⟨_, row_at hi, ?_⟩
          conv => whnf
          refine ⟨_, atI_nat (j := 0) rfl, ?_⟩
          conv => whnf
          refine ⟨sz (by simp), ?_⟩
          conv => whnf
          refine ⟨_, _, .refl, rfl, some (.d (.int (i : Int))), ?_⟩
          rw [hst]
          rfl
        · refine dF he ?_
          rw [prs_len] at he
          have hi1 : i + 1 < R.length := by omega
          conv => whnf
          refine ⟨_, row_at1 hi1, ?_⟩
          conv => whnf
          refine ⟨_, atI_nat (j := 0) rfl, ?_⟩
          conv => whnf
          refine ⟨_, row_at hi, ?_⟩
          conv => whnf
          refine ⟨_, atI_nat (j := 0) rfl, ?_⟩
          conv => whnf
          by_cases hq : (R.getD (i + 1) (0, 0)).1 = (R.getD i (0, 0)).1
          · refine bF (by rw [decide_eq_true hq]; rfl) ?_
            have hen : ends R i = false := by
              unfold ends
              rw [decide_eq_false (show ¬ i + 1 = R.length by omega), decide_eq_false (by simpa using hq)]
              rfl
            rw [if_neg (by rw [hen]; simp)] at hst
            conv => whnf
            refine ⟨_, _, .refl, rfl, some (.d (.int (i : Int))), ?_⟩
            rw [hst]
            rfl
          · refine bT (by rw [decide_eq_false hq]; rfl) ?_
            have hen : ends R i = true := by
              unfold ends
              rw [decide_eq_true (show (R.getD (i + 1) (0, 0)).1 ≠ (R.getD i (0, 0)).1 from hq), Bool.or_true]
            rw [if_pos ⟨hc, hen⟩] at hst
            conv => whnf
            refine ⟨_, row_at hi, ?_⟩
            conv => whnf
            refine ⟨_, atI_nat (j := 0) rfl, ?_⟩
            conv => whnf
            refine ⟨sz (by simp), ?_⟩
            conv => whnf
            refine ⟨_, _, .refl, rfl, some (.d (.int (i : Int))), ?_⟩
            rw [hst]
            rfl
      · refine dF hc ?_
        rw [if_neg fun z => hc z.1] at hst
        refine bF rfl ?_
        conv => whnf
        refine ⟨_, _, .refl, rfl, some (.d (.int (i : Int))), ?_⟩
        rw [hst]
        rfl
    · obtain ⟨rfl, y6, rfl⟩ := hI
      rw [rangeD_len]
      refine sh0 ?_
      exact h
end
end K60

namespace K60
open L2 Dl PySem PyProof.Rows PySem.Spec
section
variable {P : Program} {w : World} {K : PySem.W.Frag} {mg : Str → Option Value} {base : Heap} {k : Nat} {T : Nat → FT} {f : Addr} {fd : FuncData}
theorem gotD_lay (cl : List (Int × Int)) (op : Option Int) : PyData.canLayAll0 (gotD cl op) = true := by
  unfold gotD
  rw [lay_app, lay_prs]
  cases op <;> rfl
theorem gotD_dep (cl : List (Int × Int)) (op : Option Int) : PyData.depthAll (gotD cl op) ≤ 63 := by
  unfold gotD
  rw [dep_app]
  have := dep_prs cl
  cases op with
  | none => show max _ 0 ≤ 63; omega
  | some q => show max _ (max (max 0 0 + 1) 0) ≤ 63; omega
theorem gotD_snoc (ys : List (Int × Int)) (p : Int × Int) : gotD (ys ++ [p]) none = prs ys ++ [PyData.tuple [PyData.int p.1, PyData.int p.2]] := by
  unfold gotD
  rw [prs_app, List.append_nil]
  rfl
theorem gotD_some (cl : List (Int × Int)) (q : Int) : gotD cl (some q) = prs cl ++ [PyData.tuple [PyData.int q]] := rfl
theorem isE_snoc {α : Type} {xs : List α} {x : α} : (xs ++ [x]).isEmpty = false := by cases xs <;> rfl
def F33 : FT := fun ws B k => ∃ (a b : List Int) (sl least : Int), ws = [.d (.tuple (a.map .int)), .d (.tuple (b.map .int)), .d (.int sl), .d (.int least)] ∧ B = [] ∧ a.length ≤ 100 ∧ b.length ≤ 100 ∧ k (.d (.tuple (gotD (lawSt (rowsOf a b sl) least (rowsOf a b sl).length).2.1 (lawSt (rowsOf a b sl) least (rowsOf a b sl).length).2.2))) []
theorem ok33 (h32 : T 32 = F32) (Fu : Fun K "_law_shifts" "_law_shifts" (topS 33) f fd) (hg : GlOk P w K mg base k (glOf g33) T) : FnOk P w K mg base CX0 (k + 1) f fd ["one", "other", "slack", "least"] (spOf K F33) := by
  refine def_ok Fu s33 hg c33 (fun ws B k h => ?_) fun ws B k h => ?_
  · obtain ⟨a, b, sl, n, rfl, _⟩ := h; rfl
  · obtain ⟨a, b, sl, least, rfl, rfl, ha, hb, h⟩ := h
    conv => whnf
    refine ⟨Nat.zero_le _, .inr ?_⟩
    conv => whnf
    rw [h32]
    refine ⟨a, b, sl, rfl, rfl, ha, hb, ?_⟩
    have hR := rows_len a b sl ha hb
    generalize rowsOf a b sl = R at hR h
    conv => whnf
    refine ⟨_, rfl, by rw [prs_len]; omega, by rw [prs_len]; omega, ?_⟩
    rw [prs_len, show ((R.length : Nat) : Int).toNat = R.length by omega]
    refine ⟨fun i A B => B = [.lst (gotD (lawSt R least i).2.1 (lawSt R least i).2.2)] ∧ ∃ y7, A = [some (.d (.tuple (a.map .int))), some (.d (.tuple (b.map .int))), some (.d (.int sl)), some (.d (.int least)), some (.d (.int (lawSt R least i).1)), some (.m 0), some (.d (.list (prs R))), y7], sh0 ⟨rfl, _, rfl⟩, fun i x A B hx hI => ?_, fun A B hI => ?_⟩
    · obtain ⟨rfl, y7, rfl⟩ := hI
      obtain ⟨hi, rfl⟩ := rangeD0_get hx
      have hlen := lawSt_len R least i
      have hst := lawSt_succ R least i
      generalize lawSt R least i = st at hst hlen
      obtain ⟨m0, cl, op⟩ := st
      unfold lawStep at hst
      simp only at hst hlen
      conv => whnf
      refine ⟨_, row_at hi, ?_⟩
      conv => whnf
      refine ⟨_, atI_nat (j := 1) rfl, ?_⟩
      conv => whnf
      generalize hm : m0 + (R.getD i (0, 0)).2 = m1 at hst
      by_cases he : (i : Int) + 1 = ((prs R).length : Int)
      · refine dT he ?_
        rw [prs_len] at he
        have hen : ends R i = true := by
          unfold ends
          rw [decide_eq_true (show i + 1 = R.length by omega)]
          rfl
        rw [if_pos hen] at hst
        refine bT rfl ?_
        conv => whnf
        rcases op with _ | q
        · -- none open
          simp only at hst
          by_cases hl : least ≤ m1
          · refine dT hl ?_
            rw [if_pos hl] at hst
            conv => whnf
            refine ⟨Nat.zero_le _, .inl ?_⟩
            conv => whnf
            refine ⟨shaped_list (gotD_lay _ _) (gotD_dep _ _), rfl, ?_⟩
            conv => whnf
            rw [eqv_nil]
            rcases snoc_cases cl with rfl | ⟨ys, p, rfl⟩
            · refine bT rfl ?_
              refine bT rfl ?_
              conv => whnf
              refine ⟨⟨_, rfl⟩, ?_⟩
              conv => whnf
              refine ⟨_, row_at hi, ?_⟩
              conv => whnf
              refine ⟨_, atI_nat (j := 0) rfl, ?_⟩
              conv => whnf
              refine ⟨sz (by simp), ?_⟩
              conv => whnf
              refine ⟨sz' (by simp [gotD, prs]), ?_⟩
              conv => whnf
              refine ⟨_, _, .refl, ?_, some (.d (.int (i : Int))), ?_⟩
              · rw [hst]; rfl
              · rw [hst]; rfl
            · rw [gotD_snoc]
              refine bF isE_snoc ?_
              conv => whnf
              refine ⟨_, atI_last _ _, ?_⟩
              conv => whnf
              refine dT rfl ?_
              conv => whnf
              refine ⟨⟨_, rfl⟩, ?_⟩
              conv => whnf
              refine ⟨_, row_at hi, ?_⟩
              conv => whnf
              refine ⟨_, atI_nat (j := 0) rfl, ?_⟩
              conv => whnf
              refine ⟨sz (by simp), ?_⟩
              conv => whnf
              refine ⟨sz' (by rw [List.length_append, prs_len]; rw [List.length_append] at hlen; simp at hlen ⊢; omega), ?_⟩
              conv => whnf
              refine ⟨_, _, .refl, ?_, some (.d (.int (i : Int))), ?_⟩
              · rw [hst]
                show [MC.lst (prs ys ++ [PyData.tuple [PyData.int p.1, PyData.int p.2]] ++ [PyData.tuple [PyData.int (R.getD i (0, 0)).1]])] = [MC.lst (gotD (ys ++ [p]) (some (R.getD i (0, 0)).1))]
                unfold gotD
                rw [prs_app]
                rfl
              · rw [hst]; rfl
          · refine dF hl ?_
            rw [if_neg hl] at hst
            refine bF rfl ?_
            conv => whnf
            refine dT (by omega) ?_
            conv => whnf
            refine ⟨Nat.zero_le _, .inl ?_⟩
            conv => whnf
            refine ⟨shaped_list (gotD_lay _ _) (gotD_dep _ _), rfl, ?_⟩
            conv => whnf
            rw [eqv_nil]
            rcases snoc_cases cl with rfl | ⟨ys, p, rfl⟩
            · refine bF rfl ?_
              refine bF rfl ?_
              conv => whnf
              refine ⟨_, _, .refl, ?_, some (.d (.int (i : Int))), ?_⟩
              · rw [hst]
              · rw [hst]; rfl
            · rw [gotD_snoc]
              refine bT neT ?_
              conv => whnf
              refine ⟨_, atI_last _ _, ?_⟩
              conv => whnf
              refine dF (by simp) ?_
              conv => whnf
              refine ⟨_, _, .refl, ?_, some (.d (.int (i : Int))), ?_⟩
              · rw [hst, gotD_snoc]
              · rw [hst]; rfl
        · -- one open
          simp only at hst
          by_cases hl : least ≤ m1
          · refine dT hl ?_
            rw [if_neg (show ¬ m1 < least by omega)] at hst
            conv => whnf
            refine ⟨Nat.zero_le _, .inl ?_⟩
            conv => whnf
            refine ⟨shaped_list (gotD_lay _ _) (gotD_dep _ _), rfl, ?_⟩
            conv => whnf
            rw [eqv_nil, gotD_some]
            refine bF isE_snoc ?_
            conv => whnf
            refine ⟨_, atI_last _ _, ?_⟩
            conv => whnf
            refine dF (by simp) ?_
            conv => whnf
            refine dF (by omega) ?_
            refine bF rfl ?_
            conv => whnf
            refine ⟨_, _, .refl, ?_, some (.d (.int (i : Int))), ?_⟩
            · rw [hst, gotD_some]
            · rw [hst]; rfl
          · refine dF hl ?_
            rw [if_pos (show m1 < least by omega)] at hst
            refine bF rfl ?_
            conv => whnf
            refine dT (by omega) ?_
            conv => whnf
            refine ⟨Nat.zero_le _, .inl ?_⟩
            conv => whnf
            refine ⟨shaped_list (gotD_lay _ _) (gotD_dep _ _), rfl, ?_⟩
            conv => whnf
            rw [eqv_nil, gotD_some]
            refine bT neT ?_
            conv => whnf
            refine ⟨_, atI_last _ _, ?_⟩
            conv => whnf
            refine dT rfl ?_
            conv => whnf
            refine ⟨_, atI_last _ _, ?_⟩
            conv => whnf
            refine ⟨_, row_at hi, ?_⟩
            conv => whnf
            refine ⟨_, atI_nat (j := 0) rfl, ?_⟩
            conv => whnf
            refine ⟨sz (by simp), ?_⟩
            conv => whnf
            refine ⟨sz (by simp), ?_⟩
            conv => whnf
            refine ⟨-1, cl.length, rfl, by rw [List.length_append, prs_len]; exact ixN_lastN _, ?_⟩
            conv => whnf
            refine ⟨_, _, .refl, ?_, some (.d (.int (i : Int))), ?_⟩
            · rw [hst]
              show [MC.lst ((prs cl ++ [PyData.tuple [PyData.int q]]).set cl.length (PyData.tuple [PyData.int q, PyData.int ((R.getD i (0, 0)).1 - 1)]))] = [MC.lst (gotD (cl ++ [(q, (R.getD i (0, 0)).1 - 1)]) none)]
              rw [← prs_len cl, set_last]
              unfold gotD
              rw [prs_app, List.append_nil]
              rfl
            · rw [hst]; rfl
      · refine dF he ?_
        rw [prs_len] at he
        have hi1 : i + 1 < R.length := by omega
        conv => whnf
        refine ⟨_, row_at1 hi1, ?_⟩
        conv => whnf
        refine ⟨_, atI_nat (j := 0) rfl, ?_⟩
        conv => whnf
        refine ⟨_, row_at hi, ?_⟩
        conv => whnf
        refine ⟨_, atI_nat (j := 0) rfl, ?_⟩
        conv => whnf
        by_cases hq : (R.getD (i + 1) (0, 0)).1 = (R.getD i (0, 0)).1
        · refine bF (by rw [decide_eq_true hq]; rfl) ?_
          have hen : ends R i = false := by
            unfold ends
            rw [decide_eq_false (show ¬ i + 1 = R.length by omega), decide_eq_false (by simpa using hq)]
            rfl
          rw [if_neg (by rw [hen]; simp)] at hst
          conv => whnf
          refine ⟨_, _, .refl, ?_, some (.d (.int (i : Int))), ?_⟩
          · rw [hst]
          · rw [hst]; rfl
        · refine bT (by rw [decide_eq_false hq]; rfl) ?_
          have hen : ends R i = true := by
            unfold ends
            rw [decide_eq_true (show (R.getD (i + 1) (0, 0)).1 ≠ (R.getD i (0, 0)).1 from hq), Bool.or_true]
          rw [if_pos hen] at hst
          conv => whnf
          rcases op with _ | q
          · -- none open
            simp only at hst
            by_cases hl : least ≤ m1
            · refine dT hl ?_
              rw [if_pos hl] at hst
              conv => whnf
              refine ⟨Nat.zero_le _, .inl ?_⟩
              conv => whnf
              refine ⟨shaped_list (gotD_lay _ _) (gotD_dep _ _), rfl, ?_⟩
              conv => whnf
              rw [eqv_nil]
              rcases snoc_cases cl with rfl | ⟨ys, p, rfl⟩
              · refine bT rfl ?_
                refine bT rfl ?_
                conv => whnf
                refine ⟨⟨_, rfl⟩, ?_⟩
                conv => whnf
                refine ⟨_, row_at hi, ?_⟩
                conv => whnf
                refine ⟨_, atI_nat (j := 0) rfl, ?_⟩
                conv => whnf
                refine ⟨sz (by simp), ?_⟩
                conv => whnf
                refine ⟨sz' (by simp [gotD, prs]), ?_⟩
                conv => whnf
                refine ⟨_, _, .refl, ?_, some (.d (.int (i : Int))), ?_⟩
                · rw [hst]; rfl
                · rw [hst]; rfl
              · rw [gotD_snoc]
                refine bF isE_snoc ?_
                conv => whnf
                refine ⟨_, atI_last _ _, ?_⟩
                conv => whnf
                refine dT rfl ?_
                conv => whnf
                refine ⟨⟨_, rfl⟩, ?_⟩
                conv => whnf
                refine ⟨_, row_at hi, ?_⟩
                conv => whnf
                refine ⟨_, atI_nat (j := 0) rfl, ?_⟩
                conv => whnf
                refine ⟨sz (by simp), ?_⟩
                conv => whnf
                refine ⟨sz' (by rw [List.length_append, prs_len]; rw [List.length_append] at hlen; simp at hlen ⊢; omega), ?_⟩
                conv => whnf
                refine ⟨_, _, .refl, ?_, some (.d (.int (i : Int))), ?_⟩
                · rw [hst]
                  show [MC.lst (prs ys ++ [PyData.tuple [PyData.int p.1, PyData.int p.2]] ++ [PyData.tuple [PyData.int (R.getD i (0, 0)).1]])] = [MC.lst (gotD (ys ++ [p]) (some (R.getD i (0, 0)).1))]
                  unfold gotD
                  rw [prs_app]
                  rfl
                · rw [hst]; rfl
            · refine dF hl ?_
              rw [if_neg hl] at hst
              refine bF rfl ?_
              conv => whnf
              refine dT (by omega) ?_
              conv => whnf
              refine ⟨Nat.zero_le _, .inl ?_⟩
              conv => whnf
              refine ⟨shaped_list (gotD_lay _ _) (gotD_dep _ _), rfl, ?_⟩
              conv => whnf
              rw [eqv_nil]
              rcases snoc_cases cl with rfl | ⟨ys, p, rfl⟩
              · refine bF rfl ?_
                refine bF rfl ?_
                conv => whnf
                refine ⟨_, _, .refl, ?_, some (.d (.int (i : Int))), ?_⟩
                · rw [hst]
                · rw [hst]; rfl
              · rw [gotD_snoc]
                refine bT neT ?_
                conv => whnf
                refine ⟨_, atI_last _ _, ?_⟩
                conv => whnf
                refine dF (by simp) ?_
                conv => whnf
                refine ⟨_, _, .refl, ?_, some (.d (.int (i : Int))), ?_⟩
                · rw [hst, gotD_snoc]
                · rw [hst]; rfl
          · -- one open
            simp only at hst
            by_cases hl : least ≤ m1
            · refine dT hl ?_
              rw [if_neg (show ¬ m1 < least by omega)] at hst
              conv => whnf
              refine ⟨Nat.zero_le _, .inl ?_⟩
              conv => whnf
              refine ⟨shaped_list (gotD_lay _ _) (gotD_dep _ _), rfl, ?_⟩
              conv => whnf
              rw [eqv_nil, gotD_some]
              refine bF isE_snoc ?_
              conv => whnf
              refine ⟨_, atI_last _ _, ?_⟩
              conv => whnf
              refine dF (by simp) ?_
              conv => whnf
              refine dF (by omega) ?_
              refine bF rfl ?_
              conv => whnf
              refine ⟨_, _, .refl, ?_, some (.d (.int (i : Int))), ?_⟩
              · rw [hst, gotD_some]
              · rw [hst]; rfl
            · refine dF hl ?_
              rw [if_pos (show m1 < least by omega)] at hst
              refine bF rfl ?_
              conv => whnf
              refine dT (by omega) ?_
              conv => whnf
              refine ⟨Nat.zero_le _, .inl ?_⟩
              conv => whnf
              refine ⟨shaped_list (gotD_lay _ _) (gotD_dep _ _), rfl, ?_⟩
              conv => whnf
              rw [eqv_nil, gotD_some]
              refine bT neT ?_
              conv => whnf
              refine ⟨_, atI_last _ _, ?_⟩
              conv => whnf
              refine dT rfl ?_
              conv => whnf
              refine ⟨_, atI_last _ _, ?_⟩
              conv => whnf
              refine ⟨_, row_at hi, ?_⟩
              conv => whnf
              refine ⟨_, atI_nat (j := 0) rfl, ?_⟩
              conv => whnf
              refine ⟨sz (by simp), ?_⟩
              conv => whnf
              refine ⟨sz (by simp), ?_⟩
              conv => whnf
              refine ⟨-1, cl.length, rfl, by rw [List.length_append, prs_len]; exact ixN_lastN _, ?_⟩
              conv => whnf
              refine ⟨_, _, .refl, ?_, some (.d (.int (i : Int))), ?_⟩
              · rw [hst]
                show [MC.lst ((prs cl ++ [PyData.tuple [PyData.int q]]).set cl.length (PyData.tuple [PyData.int q, PyData.int ((R.getD i (0, 0)).1 - 1)]))] = [MC.lst (gotD (cl ++ [(q, (R.getD i (0, 0)).1 - 1)]) none)]
                rw [← prs_len cl, set_last]
                unfold gotD
                rw [prs_app, List.append_nil]
                rfl
              · rw [hst]; rfl
    · obtain ⟨rfl, y7, rfl⟩ := hI
      rw [rangeD_len]
      refine sh0 ?_
      conv => whnf
      refine ⟨rfl, ?_⟩
      exact h
end
end K60

namespace K60
open L2 Dl PySem PyProof.Rows PySem.Spec
section
variable {P : Program} {w : World} {K : PySem.W.Frag} {mg : Str → Option Value} {base : Heap} {k : Nat} {T : Nat → FT} {f : Addr} {fd : FuncData}
def F35 : FT := fun ws B k => ∃ (b : Int) (ds : List PyData), ws = [.m 0] ∧ B = [.lst ds] ∧ FeedOk b ds ∧ b ≤ 1000 ∧ ∀ ds', k (.d (.bool true)) [.lst ds']
theorem simp_prs (n : Nat) (L : List (Int × Int)) : ∀ x ∈ prs L, Simp (n + 2) x := fun x hx => by
  obtain ⟨p, _, rfl⟩ := List.mem_map.mp hx
  refine ⟨by simp, fun y hy => ?_⟩
  simp at hy
  rcases hy with rfl | rfl <;> trivial
theorem ok35 (h22 : T 22 = F22) (h23 : T 23 = F23) (h26 : T 26 = F26) (h27 : T 27 = F27) (h28 : T 28 = F28 4) (h30 : T 30 = F30) (h31 : T 31 = F31) (h33 : T 33 = F33) (h34 : T 34 = F34) (Fu : Fun K "_law_right" "_law_right" (topS 35) f fd) (hg : GlOk P w K mg base k (glOf g35) T) : FnOk P w K mg base CX0 (k + 1) f fd ["feed"] (spOf K F35) := by
  refine def_ok Fu s35 hg c35 (fun ws B k h => ?_) fun ws B k h => ?_
  · obtain ⟨b, ds, rfl, _⟩ := h; rfl
  · obtain ⟨b, ds, rfl, rfl, hf, hb, h⟩ := h
    conv => whnf
    refine ⟨_, rfl, by simp, ?_⟩
    conv => whnf
    rw [h30]
    refine ⟨b, ds, rfl, rfl, hf, by omega, fun one two ds1 la lb hf1 => ?_⟩
    conv => whnf
    refine ⟨rfl, rfl, ?_⟩
    conv => whnf
    refine ⟨_, _, rfl, ?_⟩
    conv => whnf
    refine ⟨_, _, rfl, ?_⟩
    conv => whnf
    refine ⟨rfl, ?_⟩
    conv => whnf
    have l1 := la.len
    have l2 := lb.len
    refine ⟨_, rfl, by simp, ?_⟩
    conv => whnf
    rw [h26]
    refine ⟨b + 1000, ds1, 101, rfl, rfl, hf1, by omega, by omega, by omega, fun r ds2 r0 r1 hf2 => ?_⟩
    conv => whnf
    refine ⟨sz (by simp), .inl ?_⟩
    conv => whnf
    refine ⟨_, rfl, by simp, ?_⟩
    conv => whnf
    rw [h27]
    refine ⟨b + 1001, ds2, _, rfl, rfl, hf2.mono (by omega), by omega, by simp, by simp, fun x ds3 hx hf3 => ?_⟩
    obtain ⟨sl, hsl, rfl⟩ := mem_lit (L := [0, 0, 1, 2, 5, r]) hx
    have hsl2 : 0 ≤ sl ∧ sl ≤ 100 := by
      simp at hsl
      omega
    conv => whnf
    rw [h34]
    refine ⟨one, two, sl, rfl, rfl, by omega, by omega, ?_⟩
    obtain ⟨b1, b2, b3⟩ := law_best la lb hsl2.1
    generalize (bestSt (rowsOf one two sl) (rowsOf one two sl).length).2.1 = bn at b1 b2 b3
    generalize (bestSt (rowsOf one two sl) (rowsOf one two sl).length).2.2 = bs at b1
    conv => whnf
    rw [h23]
    refine ⟨one, two, sl, bn, bs, rfl, rfl, la, lb, hsl2.1, hsl2.2, b1, ?_⟩
    conv => whnf
    refine ⟨rfl, ?_⟩
    conv => whnf
    rw [h23]
    refine ⟨one, two, sl, bn, bs, rfl, rfl, la, lb, hsl2.1, hsl2.2, b1, ?_⟩
    conv => whnf
    refine ⟨sz (by simp), .inl ?_⟩
    conv => whnf
    refine ⟨sz (by simp), .inl ?_⟩
    conv => whnf
    rw [h28]
    refine ⟨_, rfl, rfl, ⟨by simp, fun y hy => ?_⟩, ?_⟩
    · have hy' : y = PyData.tuple [.int bn, .int bs] := by simpa using hy
      subst hy'
      exact simp_prs 1 [(bn, bs)] _ (by simp [prs])
    conv => whnf
    refine bF rfl ?_
    conv => whnf
    refine .inl ?_
    conv => whnf
    refine ⟨_, atI_nat (j := 0) rfl, ?_⟩
    conv => whnf
    refine ⟨_, atI_nat (j := 0) rfl, ?_⟩
    conv => whnf
    refine ⟨_, atI_nat (j := 0) rfl, ?_⟩
    conv => whnf
    refine ⟨_, rfl, by simp, ?_⟩
    conv => whnf
    rw [h26]
    refine ⟨b + 1002, ds3, bn, rfl, rfl, hf3.mono (by omega), by omega, by omega, by omega, fun q1 ds4 q10 q11 hf4 => ?_⟩
    conv => whnf
    refine ⟨_, rfl, by simp, ?_⟩
    conv => whnf
    rw [h26]
    refine ⟨b + 1003, ds4, 40, rfl, rfl, hf4.mono (by omega), by omega, by omega, by omega, fun q2 ds5 q20 q21 hf5 => ?_⟩
    conv => whnf
    refine ⟨sz (by simp), .inl ?_⟩
    conv => whnf
    refine ⟨fun i A B => ∃ ds' : List PyData, B = [.lst ds'] ∧ FeedOk (b + 1004 + i) ds' ∧ ∃ y5 y6 y7 y8 y9 y10, A = [some (.m 0), some (.d (.tuple (one.map .int))), some (.d (.tuple (two.map .int))), some (.d (.int sl)), some (.d (.tuple [.int bn, .int bs])), y5, y6, y7, y8, y9, y10],
      sh0 ⟨ds5, rfl, hf5.mono (by omega), _, _, _, _, _, _, rfl⟩, fun i x A B hx hI => ?_, fun A B hI => ?_⟩
    · obtain ⟨ds', rfl, hf', y5, y6, y7, y8, y9, y10, rfl⟩ := hI
      have hi4 : i < 4 := (List.getElem?_eq_some_iff.mp hx).1
      have hxm := List.mem_of_getElem? hx
      obtain ⟨least, hle, rfl⟩ := mem_lit (L := [bn, (if bn + 1 < 40 then bn + 1 else 40), 1 + q1, 1 + q2]) hxm
      have hl2 : 1 ≤ least ∧ least ≤ 40 := by
        simp at hle
        rcases hle with rfl | rfl | rfl | rfl
        · omega
        · split <;> omega
        · omega
        · omega
      conv => whnf
      rw [h33]
      refine ⟨one, two, sl, least, rfl, rfl, by omega, by omega, ?_⟩
      have hm := law_shifts la lb hsl2.1 hl2.1
      have hnear := law_near la lb hsl2.1 hl2.1
      have hrl := ranges_len least [] ((stepsOf one two sl).zip ((stepsOf one two sl).drop 1))
      rw [hm]
      have hsl3 := steps_len one two sl (by omega) (by omega)
      have hrd : (rangesWith (stepsOf one two sl) least).length ≤ 100000 := by
        have h9 : ((stepsOf one two sl).zip ((stepsOf one two sl).drop 1)).length ≤ (stepsOf one two sl).length := by rw [List.length_zip]; exact Nat.min_le_left _ _
        rw [List.length_nil, Nat.zero_add] at hrl
        exact Nat.le_trans hrl (Nat.le_trans h9 hsl3)
      have hgot : gotD (rangesWith (stepsOf one two sl) least) none = prs (rangesWith (stepsOf one two sl) least) := by
        unfold gotD
        rw [List.append_nil]
      rw [hgot]
      conv => whnf
      rw [h22]
      refine ⟨one, two, sl, least, rfl, rfl, la, lb, hsl2.1, hsl2.2, hl2.1, hl2.2, ?_⟩
      conv => whnf
      refine ⟨rfl, ?_⟩
      conv => whnf
      rw [h22]
      refine ⟨one, two, sl, least, rfl, rfl, la, lb, hsl2.1, hsl2.2, hl2.1, hl2.2, ?_⟩
      generalize rangesWith (stepsOf one two sl) least = D at hnear hrd
      conv => whnf
      refine ⟨sz (by simp), .inl ?_⟩
      conv => whnf
      refine ⟨sz (by simp), .inl ?_⟩
      conv => whnf
      rw [h28]
      refine ⟨_, rfl, rfl, ⟨by simp, fun y hy => ?_⟩, ?_⟩
      · have hy' : y = PyData.tuple (prs D) := by simpa using hy
        subst hy'
        exact ⟨by rw [prs_len]; exact hrd, simp_prs 0 D⟩
      conv => whnf
      refine bF rfl ?_
      conv => whnf
      refine ⟨_, atI_nat (j := 1) rfl, ?_⟩
      conv => whnf
      refine ⟨_, atI_nat (j := 1) rfl, ?_⟩
      conv => whnf
      refine ⟨_, rfl, by simp, ?_⟩
      conv => whnf
      rw [h26]
      refine ⟨b + 1004 + i, ds', 61, rfl, rfl, hf', by omega, by omega, by omega, fun q3 ds6 q30 q31 hf6 => ?_⟩
      conv => whnf
      refine ⟨sz (by simp), .inl ?_⟩
      conv => whnf
      refine .inr (.inl ?_)
      conv => whnf
      refine ⟨3, rfl, ?_⟩
      conv => whnf
      refine ⟨rfl, ?_⟩
      conv => whnf
      rw [show Dl.cutD (prs D) none (some 3) = prs (D.take 3) from (cut_to _ 3).trans (by unfold prs; rw [List.map_take])]
      refine ⟨fun j A B => B = [.lst ds6] ∧ ∃ (L : List Int) (y8 y9 y10 : Option AV), L.length ≤ 2 + 4 * j ∧ A = [some (.m 0), some (.d (.tuple (one.map .int))), some (.d (.tuple (two.map .int))), some (.d (.int sl)), some (.d (.tuple [.int bn, .int bs])), some (.d (.int least)), some (.d (.tuple (prs D))), some (.d (.list (L.map .int))), y8, y9, y10],
        sh0 ⟨rfl, [bs, bs + q3 - 30], _, _, _, by simp, rfl⟩, fun j x A B hx hI => ?_, fun A B hI => ?_⟩
      · obtain ⟨rfl, L, z8, z9, z10, hL, rfl⟩ := hI
        obtain ⟨lo, hi, hp, rfl⟩ := prs_get hx
        have hj := (List.getElem?_eq_some_iff.mp hp).1
        rw [List.length_take] at hj
        refine tgt2 ?_
        conv => whnf
        refine ⟨sz (by simp), .inl ?_⟩
        conv => whnf
        refine ⟨sz (by rw [List.length_map]; show L.length + 4 ≤ 1000000; omega), .inl ?_⟩
        conv => whnf
        refine ⟨_, _, .refl, rfl, L ++ [lo - 1, lo, hi, hi + 1], some (.d (.int lo)), some (.d (.int hi)), z10, by rw [List.length_append]; show L.length + 4 ≤ 2 + 4 * (j + 1); omega, ?_⟩
        rw [List.map_append]
        rfl
      · obtain ⟨rfl, L, z8, z9, z10, hL, rfl⟩ := hI
        refine sh0 ?_
        conv => whnf
        refine .inl ?_
        conv => whnf
        refine ⟨fun j A B => B = [.lst ds6] ∧ ∃ (y8 y9 y10 : Option AV), A = [some (.m 0), some (.d (.tuple (one.map .int))), some (.d (.tuple (two.map .int))), some (.d (.int sl)), some (.d (.tuple [.int bn, .int bs])), some (.d (.int least)), some (.d (.tuple (prs D))), some (.d (.list (L.map .int))), y8, y9, y10],
          sh0 ⟨rfl, _, _, _, rfl⟩, fun j x A B hx hI => ?_, fun A B hI => ?_⟩
        · obtain ⟨rfl, u8, u9, u10, rfl⟩ := hI
          obtain ⟨s, hs, rfl⟩ := ints_get hx
          conv => whnf
          rw [h31]
          refine ⟨one, two, sl, s, rfl, rfl, by omega, by omega, ?_⟩
          conv => whnf
          refine .inr (.inl ?_)
          conv => whnf
          refine ⟨fun m acc B => B = [.lst ds6] ∧ acc = List.replicate (((D.take m).filter fun p => decide (p.1 ≤ s ∧ s ≤ p.2)).length) (.int 1), ⟨rfl, rfl⟩, fun m x acc B hx hI => ?_, fun acc B hI => ?_⟩
          · obtain ⟨rfl, rfl⟩ := hI
            obtain ⟨lo, hi, hp, rfl⟩ := prs_get hx
            have hml := (List.getElem?_eq_some_iff.mp hp).1
            have hfl : ((D.take m).filter fun p => decide (p.1 ≤ s ∧ s ≤ p.2)).length ≤ m := Nat.le_trans (List.length_filter_le _ _) (by rw [List.length_take]; omega)
            refine tgt2 ?_
            conv => whnf
            by_cases c1 : lo ≤ s
            · refine dT c1 ?_
              conv => whnf
              by_cases c2 : s ≤ hi
              · refine dT c2 ?_
                conv => whnf
                refine ⟨sz' (by rw [List.length_replicate]; omega), rfl, ?_⟩
                rw [take_succ hp, List.filter_append, List.length_append]
                simp [c1, c2, List.replicate_succ']
              · refine dF c2 ?_
                refine ⟨rfl, ?_⟩
                rw [take_succ hp, List.filter_append, List.length_append]
                simp [c1, c2]
            · refine dF c1 ?_
              refine bF rfl ?_
              refine ⟨rfl, ?_⟩
              rw [take_succ hp, List.filter_append, List.length_append]
              simp [c1]
          · obtain ⟨rfl, rfl⟩ := hI
            rw [prs_len, List.take_length]
            refine .inl ?_
            conv => whnf
            refine ⟨sz (by simp), .inl ?_⟩
            conv => whnf
            refine ⟨by rw [rep_ints]; exact shaped_list (lay_ints _) (by rw [dep_ints]; omega), rfl, ?_⟩
            conv => whnf
            rw [ne_nil_ints, filt_pos]
            have e : decide (least ≤ (near one two sl s : Int)) = D.any fun p => decide (p.1 ≤ s ∧ s ≤ p.2) := by
              rw [Bool.eq_iff_iff, decide_eq_true_iff, hnear s, List.any_eq_true]
              simp
            rw [e]
            refine bF (by simp) ?_
            conv => whnf
            refine ⟨_, _, .refl, rfl, u8, u9, _, rfl⟩
        · obtain ⟨rfl, u8, u9, u10, rfl⟩ := hI
          refine ⟨_, _, .refl, _, _, .refl, ds6, rfl, hf6.mono (by omega), _, _, _, _, _, _, rfl⟩
    · obtain ⟨ds', rfl, hf', y5, y6, y7, y8, y9, y10, rfl⟩ := hI
      refine sh0 ?_
      exact h ds'
end
end K60

namespace K60
open L2 Dl PySem PyProof.Rows PySem.Spec
section
variable {P : Program} {w : World} {K : PySem.W.Frag} {mg : Str → Option Value} {base : Heap} {k : Nat} {T : Nat → FT} {f : Addr} {fd : FuncData}
def F36 : FT := fun ws B k => ∃ ns : List Int, ws = [.sc ns] ∧ B = [] ∧ ns.length ≤ 63 ∧ k (.d (.bool true)) []
theorem ok36 (h25 : T 25 = F25) (h35 : T 35 = F35) (Fu : Fun K "law" "law" (topS 36) f fd) (hg : GlOk P w K mg base k (glOf g36) T) : FnOk P w K mg base CX0 (k + 1) f fd ["script"] (spOf K F36) := by
  refine def_ok Fu s36 hg c36 (fun ws B k h => ?_) fun ws B k h => ?_
  · obtain ⟨ns, rfl, _⟩ := h; rfl
  · obtain ⟨ns, rfl, rfl, hl, h⟩ := h
    conv => whnf
    have hb : ∀ m : Int, (if (if (6 : Int) < m then (6 : Int) else m) > 2 then (if (6 : Int) < m then (6 : Int) else m) else 2) ≤ 6 ∧ 2 ≤ (if (if (6 : Int) < m then (6 : Int) else m) > 2 then (if (6 : Int) < m then (6 : Int) else m) else 2) := fun m => by
      split
      · split at * <;> omega
      · omega
    refine ⟨_, rfl, ?_, ?_, ?_⟩
    · have := (hb ns.length).2
      exact Int.le_trans (by decide) this
    · have := (hb ns.length).1
      exact Int.lt_of_le_of_lt this (by decide)
    refine ⟨fun i A B => B = [] ∧ ∃ y1 y2, A = [some (.sc ns), y1, y2], sh0 ⟨rfl, _, _, rfl⟩, fun i x A B hx hI => ?_, fun A B hI => ?_⟩
    · obtain ⟨rfl, y1, y2, rfl⟩ := hI
      obtain ⟨hi, rfl⟩ := rangeD0_get hx
      conv => whnf
      rw [h25]
      refine ⟨ns, i, rfl, rfl, by omega, fun ds hf => ?_⟩
      conv => whnf
      refine ⟨_, rfl, by simp, ?_⟩
      conv => whnf
      rw [h35]
      refine ⟨0, ds, rfl, rfl, hf, by omega, fun ds' => ?_⟩
      conv => whnf
      refine bF rfl ?_
      conv => whnf
      refine ⟨_, _, .cut 0 (Nat.zero_le _) .refl, rfl, _, _, rfl⟩
    · obtain ⟨rfl, y1, y2, rfl⟩ := hI
      refine sh0 ?_
      exact h
end
end K60

namespace K60
open L2 Dl PySem PyProof.Rows PySem.Spec
def TT (n : Nat) (i : Nat) : FT := match i with
  | 6 => F6
  | 7 => F7
  | 8 => F8
  | 9 => F9
  | 10 => F10
  | 11 => F11
  | 13 => F13
  | 14 => F14
  | 15 => F15
  | 16 => F16
  | 20 => F20
  | 21 => F21
  | 22 => F22
  | 23 => F23
  | 25 => F25
  | 26 => F26
  | 27 => F27
  | 28 => F28 n
  | 29 => F29
  | 30 => F30
  | 31 => F31
  | 32 => F32
  | 33 => F33
  | 34 => F34
  | 35 => F35
  | 36 => F36
  | _ => fun _ _ _ => False
section
variable {P : Program} {w : World} {K : PySem.W.Frag} {mg : Str → Option Value} {base : Heap}
/-- what the top of the text has left -/
structure Env60 (K : PySem.W.Frag) (mg : Str → Option Value) : Prop where
  d6 : ∃ f fd, Fun K "is_integer" "is_integer" (topS 6) f fd ∧ mg "is_integer" = some (.ref f)
  d7 : ∃ f fd, Fun K "is_within" "is_within" (topS 7) f fd ∧ mg "is_within" = some (.ref f)
  d8 : ∃ f fd, Fun K "is_minute" "is_minute" (topS 8) f fd ∧ mg "is_minute" = some (.ref f)
  d9 : ∃ f fd, Fun K "is_row" "is_row" (topS 9) f fd ∧ mg "is_row" = some (.ref f)
  d10 : ∃ f fd, Fun K "is_ascending" "is_ascending" (topS 10) f fd ∧ mg "is_ascending" = some (.ref f)
  d11 : ∃ f fd, Fun K "need_number" "need_number" (topS 11) f fd ∧ mg "need_number" = some (.ref f)
  d13 : ∃ f fd, Fun K "shifts_of" "shifts_of" (topS 13) f fd ∧ mg "shifts_of" = some (.ref f)
  d14 : ∃ f fd, Fun K "steps_of" "steps_of" (topS 14) f fd ∧ mg "steps_of" = some (.ref f)
  d15 : ∃ f fd, Fun K "ranges_with" "ranges_with" (topS 15) f fd ∧ mg "ranges_with" = some (.ref f)
  d16 : ∃ f fd, Fun K "best_of" "best_of" (topS 16) f fd ∧ mg "best_of" = some (.ref f)
  d20 : ∃ f fd, Fun K "need_log" "need_log" (topS 20) f fd ∧ mg "need_log" = some (.ref f)
  d21 : ∃ f fd, Fun K "need_two_logs" "need_two_logs" (topS 21) f fd ∧ mg "need_two_logs" = some (.ref f)
  d22 : ∃ f fd, Fun K "shifts" "shifts" (topS 22) f fd ∧ mg "shifts" = some (.ref f)
  d23 : ∃ f fd, Fun K "best_shift" "best_shift" (topS 23) f fd ∧ mg "best_shift" = some (.ref f)
  d25 : ∃ f fd, Fun K "_law_feed" "_law_feed" (topS 25) f fd ∧ mg "_law_feed" = some (.ref f)
  d26 : ∃ f fd, Fun K "_law_draw" "_law_draw" (topS 26) f fd ∧ mg "_law_draw" = some (.ref f)
  d27 : ∃ f fd, Fun K "_law_one" "_law_one" (topS 27) f fd ∧ mg "_law_one" = some (.ref f)
  d28 : ∃ f fd, Fun K "_law_same" "_law_same" (topS 28) f fd ∧ mg "_law_same" = some (.ref f)
  d29 : ∃ f fd, Fun K "_law_log" "_law_log" (topS 29) f fd ∧ mg "_law_log" = some (.ref f)
  d30 : ∃ f fd, Fun K "_law_two_logs" "_law_two_logs" (topS 30) f fd ∧ mg "_law_two_logs" = some (.ref f)
  d31 : ∃ f fd, Fun K "_law_near_enough" "_law_near_enough" (topS 31) f fd ∧ mg "_law_near_enough" = some (.ref f)
  d32 : ∃ f fd, Fun K "_law_steps" "_law_steps" (topS 32) f fd ∧ mg "_law_steps" = some (.ref f)
  d33 : ∃ f fd, Fun K "_law_shifts" "_law_shifts" (topS 33) f fd ∧ mg "_law_shifts" = some (.ref f)
  d34 : ∃ f fd, Fun K "_law_best" "_law_best" (topS 34) f fd ∧ mg "_law_best" = some (.ref f)
  d35 : ∃ f fd, Fun K "_law_right" "_law_right" (topS 35) f fd ∧ mg "_law_right" = some (.ref f)
  d36 : ∃ f fd, Fun K "law" "law" (topS 36) f fd ∧ mg "law" = some (.ref f)
  cFAR : ∃ u, mg "FAR" = some u ∧ RelV (.int 100000) u
  cMOST_ENTRIES : ∃ u, mg "MOST_ENTRIES" = some u ∧ RelV (.int 40) u
  cMOST_SLACK : ∃ u, mg "MOST_SLACK" = some u ∧ RelV (.int 100) u
  babs : mg "abs" = none
  ball : mg "all" = none
  bbool : mg "bool" = none
  bint : mg "int" = none
  bisinstance : mg "isinstance" = none
  blen : mg "len" = none
  blist : mg "list" = none
  bmax : mg "max" = none
  bmin : mg "min" = none
  brange : mg "range" = none
  bsorted : mg "sorted" = none
  bstr : mg "str" = none
  bsum : mg "sum" = none
  btuple : mg "tuple" = none
  bzip : mg "zip" = none
theorem at6 (E : Env60 K mg) {k : Nat} (hk : 1 ≤ k) : FnAtG P w K mg base k "is_integer" ["thing"] [] F6 := by
  obtain ⟨f, fd, Fu, hm⟩ := E.d6
  have hb := Fu.binds (ps := ["thing"]) fun _ _ _ _ _ _ us hl => match us, hl with | [_], _ => rfl
  exact at_mk Fu (ok6 (k := 0) (T := TT 4)  Fu (glOk ⟨E.bisinstance, E.bint, E.bbool, trivial⟩)) hk hm hb (no_pats)
theorem at7 (E : Env60 K mg) {k : Nat} (hk : 2 ≤ k) : FnAtG P w K mg base k "is_within" ["thing", "least", "most"] [] F7 := by
  obtain ⟨f, fd, Fu, hm⟩ := E.d7
  have hb := Fu.binds (ps := ["thing", "least", "most"]) fun _ _ _ _ _ _ us hl => match us, hl with | [_, _, _], _ => rfl
  exact at_mk Fu (ok7 (k := 1) (T := TT 4) rfl Fu (glOk ⟨at6 E (by decide), trivial⟩)) hk hm hb (no_pats)
theorem at8 (E : Env60 K mg) {k : Nat} (hk : 3 ≤ k) : FnAtG P w K mg base k "is_minute" ["thing"] [] F8 := by
  obtain ⟨f, fd, Fu, hm⟩ := E.d8
  have hb := Fu.binds (ps := ["thing"]) fun _ _ _ _ _ _ us hl => match us, hl with | [_], _ => rfl
  exact at_mk Fu (ok8 (k := 2) (T := TT 4) rfl Fu (glOk ⟨at7 E (by decide), (let ⟨_, h⟩ := E.cFAR; int_cst2 h), trivial⟩)) hk hm hb (no_pats)
theorem at9 (E : Env60 K mg) {k : Nat} (hk : 1 ≤ k) : FnAtG P w K mg base k "is_row" ["thing", "least", "most"] [] F9 := by
  obtain ⟨f, fd, Fu, hm⟩ := E.d9
  have hb := Fu.binds (ps := ["thing", "least", "most"]) fun _ _ _ _ _ _ us hl => match us, hl with | [_, _, _], _ => rfl
  exact at_mk Fu (ok9 (k := 0) (T := TT 4)  Fu (glOk ⟨E.bisinstance, E.btuple, E.blen, trivial⟩)) hk hm hb (no_pats)
theorem at10 (E : Env60 K mg) {k : Nat} (hk : 1 ≤ k) : FnAtG P w K mg base k "is_ascending" ["things"] [] F10 := by
  obtain ⟨f, fd, Fu, hm⟩ := E.d10
  have hb := Fu.binds (ps := ["things"]) fun _ _ _ _ _ _ us hl => match us, hl with | [_], _ => rfl
  exact at_mk Fu (ok10 (k := 0) (T := TT 4)  Fu (glOk ⟨E.ball, E.bzip, trivial⟩)) hk hm hb (no_pats)
theorem at11 (E : Env60 K mg) {k : Nat} (hk : 3 ≤ k) : FnAtG P w K mg base k "need_number" ["number", "least", "most"] [] F11 := by
  obtain ⟨f, fd, Fu, hm⟩ := E.d11
  have hb := Fu.binds (ps := ["number", "least", "most"]) fun _ _ _ _ _ _ us hl => match us, hl with | [_, _, _], _ => rfl
  exact at_mk Fu (ok11 (k := 2) (T := TT 4) rfl Fu (glOk ⟨at7 E (by decide), trivial⟩)) hk hm hb (no_pats)
theorem at13 (E : Env60 K mg) {k : Nat} (hk : 1 ≤ k) : FnAtG P w K mg base k "shifts_of" ["entry", "log", "slack"] [] F13 := by
  obtain ⟨f, fd, Fu, hm⟩ := E.d13
  have hb := Fu.binds (ps := ["entry", "log", "slack"]) fun _ _ _ _ _ _ us hl => match us, hl with | [_, _, _], _ => rfl
  exact at_mk Fu (ok13 (k := 0) (T := TT 4)  Fu (glOk trivial)) hk hm hb (no_pats)
theorem at14 (E : Env60 K mg) {k : Nat} (hk : 2 ≤ k) : FnAtG P w K mg base k "steps_of" ["log", "other", "slack"] [] F14 := by
  obtain ⟨f, fd, Fu, hm⟩ := E.d14
  have hb := Fu.binds (ps := ["log", "other", "slack"]) fun _ _ _ _ _ _ us hl => match us, hl with | [_, _, _], _ => rfl
  exact at_mk Fu (ok14 (k := 1) (T := TT 4) rfl Fu (glOk ⟨at13 E (by decide), E.bsorted, trivial⟩)) hk hm hb (no_pats)
theorem at15 (E : Env60 K mg) {k : Nat} (hk : 1 ≤ k) : FnAtG P w K mg base k "ranges_with" ["steps", "least"] [] F15 := by
  obtain ⟨f, fd, Fu, hm⟩ := E.d15
  have hb := Fu.binds (ps := ["steps", "least"]) fun _ _ _ _ _ _ us hl => match us, hl with | [_, _], _ => rfl
  exact at_mk Fu (ok15 (k := 0) (T := TT 4)  Fu (glOk ⟨E.bzip, E.btuple, trivial⟩)) hk hm hb (no_pats)
theorem at16 (E : Env60 K mg) {k : Nat} (hk : 1 ≤ k) : FnAtG P w K mg base k "best_of" ["steps"] [] F16 := by
  obtain ⟨f, fd, Fu, hm⟩ := E.d16
  have hb := Fu.binds (ps := ["steps"]) fun _ _ _ _ _ _ us hl => match us, hl with | [_], _ => rfl
  exact at_mk Fu (ok16 (k := 0) (T := TT 4)  Fu (glOk ⟨E.bmax, trivial⟩)) hk hm hb (no_pats)
theorem at20 (E : Env60 K mg) {k : Nat} (hk : 4 ≤ k) : FnAtG P w K mg base k "need_log" ["log"] [] F20 := by
  obtain ⟨f, fd, Fu, hm⟩ := E.d20
  have hb := Fu.binds (ps := ["log"]) fun _ _ _ _ _ _ us hl => match us, hl with | [_], _ => rfl
  exact at_mk Fu (ok20 (k := 3) (T := TT 4) rfl rfl rfl Fu (glOk ⟨at9 E (by decide), (let ⟨_, h⟩ := E.cMOST_ENTRIES; int_cst2 h), E.ball, at8 E (by decide), at10 E (by decide), trivial⟩)) hk hm hb (no_pats)
theorem at21 (E : Env60 K mg) {k : Nat} (hk : 5 ≤ k) : FnAtG P w K mg base k "need_two_logs" ["log", "other", "slack"] [] F21 := by
  obtain ⟨f, fd, Fu, hm⟩ := E.d21
  have hb := Fu.binds (ps := ["log", "other", "slack"]) fun _ _ _ _ _ _ us hl => match us, hl with | [_, _, _], _ => rfl
  exact at_mk Fu (ok21 (k := 4) (T := TT 4) rfl rfl Fu (glOk ⟨at20 E (by decide), at11 E (by decide), (let ⟨_, h⟩ := E.cMOST_SLACK; int_cst2 h), trivial⟩)) hk hm hb (no_pats)
theorem at22 (E : Env60 K mg) {k : Nat} (hk : 6 ≤ k) : FnAtG P w K mg base k "shifts" ["log", "other", "slack", "least"] [["least", "slack", "other", "log"]] F22 := by
  obtain ⟨f, fd, Fu, hm⟩ := E.d22
  have hb := Fu.binds (ps := ["log", "other", "slack", "least"]) fun _ _ _ _ _ _ us hl => match us, hl with | [_, _, _, _], _ => rfl
  exact at_mk Fu (ok22 (k := 5) (T := TT 4) rfl rfl rfl rfl Fu (glOk ⟨at21 E (by decide), at11 E (by decide), (let ⟨_, h⟩ := E.cMOST_ENTRIES; int_cst2 h), at15 E (by decide), at14 E (by decide), trivial⟩)) hk hm hb (fun ks hks => by
    have e : ks = (["least", "slack", "other", "log"] : List Str) := by simpa using hks
    subst e
    exact Dl.Fun.kbinds Fu (by simp) fun _ _ _ _ _ _ ws hl => match ws, hl with | [_, _, _, _], _ => rfl)
theorem at23 (E : Env60 K mg) {k : Nat} (hk : 6 ≤ k) : FnAtG P w K mg base k "best_shift" ["log", "other", "slack"] [["slack", "other", "log"]] F23 := by
  obtain ⟨f, fd, Fu, hm⟩ := E.d23
  have hb := Fu.binds (ps := ["log", "other", "slack"]) fun _ _ _ _ _ _ us hl => match us, hl with | [_, _, _], _ => rfl
  exact at_mk Fu (ok23 (k := 5) (T := TT 4) rfl rfl rfl Fu (glOk ⟨at21 E (by decide), at16 E (by decide), at14 E (by decide), trivial⟩)) hk hm hb (fun ks hks => by
    have e : ks = (["slack", "other", "log"] : List Str) := by simpa using hks
    subst e
    exact Dl.Fun.kbinds Fu (by simp) fun _ _ _ _ _ _ ws hl => match ws, hl with | [_, _, _], _ => rfl)
theorem at25 (E : Env60 K mg) {k : Nat} (hk : 1 ≤ k) : FnAtG P w K mg base k "_law_feed" ["script", "k"] [] F25 := by
  obtain ⟨f, fd, Fu, hm⟩ := E.d25
  have hb := Fu.binds (ps := ["script", "k"]) fun _ _ _ _ _ _ us hl => match us, hl with | [_, _], _ => rfl
  exact at_mk Fu (ok25 (k := 0) (T := TT 4)  Fu (glOk ⟨E.bsum, E.blen, E.bmax, E.bint, trivial⟩)) hk hm hb (no_pats)
theorem at26 (E : Env60 K mg) {k : Nat} (hk : 1 ≤ k) : FnAtG P w K mg base k "_law_draw" ["feed", "many"] [] F26 := by
  obtain ⟨f, fd, Fu, hm⟩ := E.d26
  have hb := Fu.binds (ps := ["feed", "many"]) fun _ _ _ _ _ _ us hl => match us, hl with | [_, _], _ => rfl
  exact at_mk Fu (ok26 (k := 0) (T := TT 4)  Fu (glOk ⟨E.bint, trivial⟩)) hk hm hb (no_pats)
theorem at27 (E : Env60 K mg) {k : Nat} (hk : 2 ≤ k) : FnAtG P w K mg base k "_law_one" ["feed", "things"] [] F27 := by
  obtain ⟨f, fd, Fu, hm⟩ := E.d27
  have hb := Fu.binds (ps := ["feed", "things"]) fun _ _ _ _ _ _ us hl => match us, hl with | [_, _], _ => rfl
  exact at_mk Fu (ok27 (k := 1) (T := TT 4) rfl Fu (glOk ⟨at26 E (by decide), E.blen, trivial⟩)) hk hm hb (no_pats)
theorem at28 (E : Env60 K mg) {k : Nat} : ∀ n : Nat, n ≤ k → FnAtG P w K mg base k "_law_same" ["told", "due"] [] (F28 n) := by
  obtain ⟨f, fd, Fu, hm⟩ := E.d28
  have hb := Fu.binds (ps := ["told", "due"]) fun _ _ _ _ _ _ us hl => match us, hl with | [_, _], _ => rfl
  have base0 : ∀ (n : Nat), FnOk P w K mg base CX0 n f fd ["told", "due"] (spOf K (F28 n)) := fun n => by
    induction n with
    | zero => exact fn_false
    | succ n ih =>
      exact ok28 n (T := TT n) rfl Fu (glOk ⟨E.bisinstance, E.blist, E.btuple, E.blen, at_mk Fu ih (Nat.le_refl _) hm hb no_pats, E.bzip, E.bbool, E.bstr, E.bint, trivial⟩)
  exact fun n hn => at_mk Fu (base0 n) hn hm hb no_pats
theorem at29 (E : Env60 K mg) {k : Nat} (hk : 3 ≤ k) : FnAtG P w K mg base k "_law_log" ["feed", "many", "near"] [] F29 := by
  obtain ⟨f, fd, Fu, hm⟩ := E.d29
  have hb := Fu.binds (ps := ["feed", "many", "near"]) fun _ _ _ _ _ _ us hl => match us, hl with | [_, _, _], _ => rfl
  exact at_mk Fu (ok29 (k := 2) (T := TT 4) rfl rfl Fu (glOk ⟨at27 E (by decide), E.brange, at26 E (by decide), E.btuple, E.bsorted, trivial⟩)) hk hm hb (no_pats)
theorem at30 (E : Env60 K mg) {k : Nat} (hk : 4 ≤ k) : FnAtG P w K mg base k "_law_two_logs" ["feed"] [] F30 := by
  obtain ⟨f, fd, Fu, hm⟩ := E.d30
  have hb := Fu.binds (ps := ["feed"]) fun _ _ _ _ _ _ us hl => match us, hl with | [_], _ => rfl
  exact at_mk Fu (ok30 (k := 3) (T := TT 4) rfl rfl rfl Fu (glOk ⟨at29 E (by decide), at27 E (by decide), at26 E (by decide), E.brange, E.btuple, E.bsorted, trivial⟩)) hk hm hb (no_pats)
theorem at31 (E : Env60 K mg) {k : Nat} (hk : 1 ≤ k) : FnAtG P w K mg base k "_law_near_enough" ["one", "other", "slack", "shift"] [] F31 := by
  obtain ⟨f, fd, Fu, hm⟩ := E.d31
  have hb := Fu.binds (ps := ["one", "other", "slack", "shift"]) fun _ _ _ _ _ _ us hl => match us, hl with | [_, _, _, _], _ => rfl
  exact at_mk Fu (ok31 (k := 0) (T := TT 4)  Fu (glOk ⟨E.blen, E.babs, trivial⟩)) hk hm hb (no_pats)
theorem at32 (E : Env60 K mg) {k : Nat} (hk : 1 ≤ k) : FnAtG P w K mg base k "_law_steps" ["one", "other", "slack"] [] F32 := by
  obtain ⟨f, fd, Fu, hm⟩ := E.d32
  have hb := Fu.binds (ps := ["one", "other", "slack"]) fun _ _ _ _ _ _ us hl => match us, hl with | [_, _, _], _ => rfl
  exact at_mk Fu (ok32 (k := 0) (T := TT 4)  Fu (glOk ⟨E.bsorted, trivial⟩)) hk hm hb (no_pats)
theorem at33 (E : Env60 K mg) {k : Nat} (hk : 2 ≤ k) : FnAtG P w K mg base k "_law_shifts" ["one", "other", "slack", "least"] [] F33 := by
  obtain ⟨f, fd, Fu, hm⟩ := E.d33
  have hb := Fu.binds (ps := ["one", "other", "slack", "least"]) fun _ _ _ _ _ _ us hl => match us, hl with | [_, _, _, _], _ => rfl
  exact at_mk Fu (ok33 (k := 1) (T := TT 4) rfl Fu (glOk ⟨at32 E (by decide), E.brange, E.blen, E.btuple, trivial⟩)) hk hm hb (no_pats)
theorem at34 (E : Env60 K mg) {k : Nat} (hk : 2 ≤ k) : FnAtG P w K mg base k "_law_best" ["one", "other", "slack"] [] F34 := by
  obtain ⟨f, fd, Fu, hm⟩ := E.d34
  have hb := Fu.binds (ps := ["one", "other", "slack"]) fun _ _ _ _ _ _ us hl => match us, hl with | [_, _, _], _ => rfl
  exact at_mk Fu (ok34 (k := 1) (T := TT 4) rfl Fu (glOk ⟨at32 E (by decide), E.brange, E.blen, trivial⟩)) hk hm hb (no_pats)
theorem at35 (E : Env60 K mg) {k : Nat} (hk : 7 ≤ k) : FnAtG P w K mg base k "_law_right" ["feed"] [] F35 := by
  obtain ⟨f, fd, Fu, hm⟩ := E.d35
  have hb := Fu.binds (ps := ["feed"]) fun _ _ _ _ _ _ us hl => match us, hl with | [_], _ => rfl
  exact at_mk Fu (ok35 (k := 6) (T := TT 4) rfl rfl rfl rfl rfl rfl rfl rfl rfl Fu (glOk ⟨at30 E (by decide), at27 E (by decide), at26 E (by decide), at34 E (by decide), at28 E 4 (by decide), at23 E (by decide), E.bmin, at33 E (by decide), at22 E (by decide), at31 E (by decide), trivial⟩)) hk hm hb (no_pats)
theorem at36 (E : Env60 K mg) {k : Nat} (hk : 8 ≤ k) : FnAtG P w K mg base k "law" ["script"] [] F36 := by
  obtain ⟨f, fd, Fu, hm⟩ := E.d36
  have hb := Fu.binds (ps := ["script"]) fun _ _ _ _ _ _ us hl => match us, hl with | [_], _ => rfl
  exact at_mk Fu (ok36 (k := 7) (T := TT 4) rfl rfl Fu (glOk ⟨E.brange, E.bmax, E.bmin, E.blen, at25 E (by decide), at35 E (by decide), trivial⟩)) hk hm hb (no_pats)
end
end K60

namespace K60
open L2 Dl PySem PyProof.Rows PySem.Spec
section
variable {P : Program} {w : World} {K : PySem.W.Frag} {mg : Str → Option Value} {base : Heap}
def spLaw (K : PySem.W.Frag) : Sp := fun vs H Q _ => ∃ (a : Addr) (ns : List Int), vs = [.ref a] ∧ Only H ∧ SqL K H a (ns.map V.int) ∧ ns.length ≤ 63 ∧ ∀ H', Q (.bl true) H'
theorem law_ok (E : Env60 K mg) {fa : Addr} (hfa : mg "law" = some (.ref fa)) : ∃ fd : FuncData, (∀ (s : Shared) (v : Value), BindsTo s fd ⟨[v], []⟩ [("script", v)]) ∧ ∀ base : Heap, FnOk P w K mg base CX0 8 fa fd ["script"] (spLaw K) := by
  obtain ⟨f, fd, Fu, hm⟩ := E.d36
  have e := hm.symm.trans hfa
  cases e
  refine ⟨fd, fun s v => ?_, fun base => ?_⟩
  · obtain ⟨oc, od, kV, doc, pm, an, cdv, ct, osl, rfl, lk, hcd⟩ := Fu.ex
    exact .of_eq rfl
  · refine (ok36 (k := 7) (T := TT 4) rfl rfl Fu (glOk ⟨E.brange, E.bmax, E.bmin, E.blen, at25 E (by decide), at35 E (by decide), trivial⟩)).imp fun vs H Q E h => ?_
    obtain ⟨a, ns, hv, ho, hs, hl, hq⟩ := h
    exact sc_sp hv ho hs (fun k _ hk => ⟨ns, rfl, rfl, hl, hk⟩) hq
theorem fact {h : Heap} (X : K.In h) (G : h.Ns mainGlobals mg) {x : Str} {st : Stmt} {f : Addr} {oc : Value} {od an : Option Addr} {osl : Array (Option Value)} {kV doc pm cdv ct : Value} (a : PySem.W.nsIn K mainGlobals x = some (some (.ref f)))
    (l : K.lookup f = some ⟨oc, od, .func (PySem.W.fnOf x x (defArgs st) (defBody st) (defScope st) .none kV doc pm an cdv ct), osl⟩) (c : PySem.W.codeIn K cdv x = true) (k : PySem.W.keepIn K (.ref f) = true) : ∃ f fd, Fun K x x st f fd ∧ mg x = some (.ref f) :=
  ⟨f, _, fun_mk l c k, PySem.W.mg_of X G a⟩
theorem all_mk {l : PySem.W.OpenLaw} {h : Heap} {fa : Addr} (X : K.In h) (G : h.Ns mainGlobals mg) (hfa : mg "law" = some (.ref fa)) (E : Env60 K mg) : ∃ fd : FuncData, (∀ (s : Shared) (v : Value), BindsTo s fd ⟨[v], []⟩ [("script", v)]) ∧ ∀ base : Heap, K.In base → base.Ns mainGlobals mg → FnOk l.prog w K mg base CX0 8 fa fd ["script"] (spLaw K) := by
  obtain ⟨fd, h1, h2⟩ := law_ok (P := l.prog) (w := w) E hfa
  exact ⟨fd, h1, fun base _ _ => h2 base⟩
end
end K60
open PySem PySem.W PyProof.Rows
theorem PySem.Challenge.cw_hourstold_k60_whole_shifts_of_logs_holds : PySem.Challenge.rw_hourstold_k60_whole_shifts_of_logs.Holds := by
  w_on; o_law; k_head; (case hw => w_witness2)
  k_fill
  refine L2.walk_of (l := PySem.Challenge.rw_hourstold_k60_whole_shifts_of_logs) (n := 63) (k := 8) (x := "script") (CX := fun _ => L2.CX0) (sp := fun w => K60.spLaw _) rfl (by decide) rfl ⟨rfl, by decide, by decide⟩ (fun w h Y => PySem.W.kIn_of Y) ?F (fun _ _ a ns hl hO hS => ⟨a, ns, rfl, hO, hS, hl, fun _ => rfl⟩) (fun _ _ _ _ _ h => h)
  case F =>
    intro w mg fa h KX G hmg
    refine' K60.all_mk KX G hmg ⟨K60.fact (st := K60.topS 6) KX G ?a6 ?l6 ?c6 ?k6, K60.fact (st := K60.topS 7) KX G ?a7 ?l7 ?c7 ?k7, K60.fact (st := K60.topS 8) KX G ?a8 ?l8 ?c8 ?k8, K60.fact (st := K60.topS 9) KX G ?a9 ?l9 ?c9 ?k9, K60.fact (st := K60.topS 10) KX G ?a10 ?l10 ?c10 ?k10, K60.fact (st := K60.topS 11) KX G ?a11 ?l11 ?c11 ?k11, K60.fact (st := K60.topS 13) KX G ?a13 ?l13 ?c13 ?k13, K60.fact (st := K60.topS 14) KX G ?a14 ?l14 ?c14 ?k14, K60.fact (st := K60.topS 15) KX G ?a15 ?l15 ?c15 ?k15, K60.fact (st := K60.topS 16) KX G ?a16 ?l16 ?c16 ?k16, K60.fact (st := K60.topS 20) KX G ?a20 ?l20 ?c20 ?k20, K60.fact (st := K60.topS 21) KX G ?a21 ?l21 ?c21 ?k21, K60.fact (st := K60.topS 22) KX G ?a22 ?l22 ?c22 ?k22, K60.fact (st := K60.topS 23) KX G ?a23 ?l23 ?c23 ?k23, K60.fact (st := K60.topS 25) KX G ?a25 ?l25 ?c25 ?k25, K60.fact (st := K60.topS 26) KX G ?a26 ?l26 ?c26 ?k26, K60.fact (st := K60.topS 27) KX G ?a27 ?l27 ?c27 ?k27, K60.fact (st := K60.topS 28) KX G ?a28 ?l28 ?c28 ?k28, K60.fact (st := K60.topS 29) KX G ?a29 ?l29 ?c29 ?k29, K60.fact (st := K60.topS 30) KX G ?a30 ?l30 ?c30 ?k30, K60.fact (st := K60.topS 31) KX G ?a31 ?l31 ?c31 ?k31, K60.fact (st := K60.topS 32) KX G ?a32 ?l32 ?c32 ?k32, K60.fact (st := K60.topS 33) KX G ?a33 ?l33 ?c33 ?k33, K60.fact (st := K60.topS 34) KX G ?a34 ?l34 ?c34 ?k34, K60.fact (st := K60.topS 35) KX G ?a35 ?l35 ?c35 ?k35, K60.fact (st := K60.topS 36) KX G ?a36 ?l36 ?c36 ?k36, ⟨_, PySem.W.mg_of KX G ?vFAR, ?rFAR⟩, ⟨_, PySem.W.mg_of KX G ?vMOST_ENTRIES, ?rMOST_ENTRIES⟩, ⟨_, PySem.W.mg_of KX G ?vMOST_SLACK, ?rMOST_SLACK⟩, PySem.W.mg_none_of KX G ?zabs, PySem.W.mg_none_of KX G ?zall, PySem.W.mg_none_of KX G ?zbool, PySem.W.mg_none_of KX G ?zint, PySem.W.mg_none_of KX G ?zisinstance, PySem.W.mg_none_of KX G ?zlen, PySem.W.mg_none_of KX G ?zlist, PySem.W.mg_none_of KX G ?zmax, PySem.W.mg_none_of KX G ?zmin, PySem.W.mg_none_of KX G ?zrange, PySem.W.mg_none_of KX G ?zsorted, PySem.W.mg_none_of KX G ?zstr, PySem.W.mg_none_of KX G ?zsum, PySem.W.mg_none_of KX G ?ztuple, PySem.W.mg_none_of KX G ?zzip⟩
    (case a6 => k_is)
    (case l6 => k_is)
    (case c6 => k_is)
    (case k6 => k_is)
    (case a7 => k_is)
    (case l7 => k_is)
    (case c7 => k_is)
    (case k7 => k_is)
    (case a8 => k_is)
    (case l8 => k_is)
    (case c8 => k_is)
    (case k8 => k_is)
    (case a9 => k_is)
    (case l9 => k_is)
    (case c9 => k_is)
    (case k9 => k_is)
    (case a10 => k_is)
    (case l10 => k_is)
    (case c10 => k_is)
    (case k10 => k_is)
    (case a11 => k_is)
    (case l11 => k_is)
    (case c11 => k_is)
    (case k11 => k_is)
    (case a13 => k_is)
    (case l13 => k_is)
    (case c13 => k_is)
    (case k13 => k_is)
    (case a14 => k_is)
    (case l14 => k_is)
    (case c14 => k_is)
    (case k14 => k_is)
    (case a15 => k_is)
    (case l15 => k_is)
    (case c15 => k_is)
    (case k15 => k_is)
    (case a16 => k_is)
    (case l16 => k_is)
    (case c16 => k_is)
    (case k16 => k_is)
    (case a20 => k_is)
    (case l20 => k_is)
    (case c20 => k_is)
    (case k20 => k_is)
    (case a21 => k_is)
    (case l21 => k_is)
    (case c21 => k_is)
    (case k21 => k_is)
    (case a22 => k_is)
    (case l22 => k_is)
    (case c22 => k_is)
    (case k22 => k_is)
    (case a23 => k_is)
    (case l23 => k_is)
    (case c23 => k_is)
    (case k23 => k_is)
    (case a25 => k_is)
    (case l25 => k_is)
    (case c25 => k_is)
    (case k25 => k_is)
    (case a26 => k_is)
    (case l26 => k_is)
    (case c26 => k_is)
    (case k26 => k_is)
    (case a27 => k_is)
    (case l27 => k_is)
    (case c27 => k_is)
    (case k27 => k_is)
    (case a28 => k_is)
    (case l28 => k_is)
    (case c28 => k_is)
    (case k28 => k_is)
    (case a29 => k_is)
    (case l29 => k_is)
    (case c29 => k_is)
    (case k29 => k_is)
    (case a30 => k_is)
    (case l30 => k_is)
    (case c30 => k_is)
    (case k30 => k_is)
    (case a31 => k_is)
    (case l31 => k_is)
    (case c31 => k_is)
    (case k31 => k_is)
    (case a32 => k_is)
    (case l32 => k_is)
    (case c32 => k_is)
    (case k32 => k_is)
    (case a33 => k_is)
    (case l33 => k_is)
    (case c33 => k_is)
    (case k33 => k_is)
    (case a34 => k_is)
    (case l34 => k_is)
    (case c34 => k_is)
    (case k34 => k_is)
    (case a35 => k_is)
    (case l35 => k_is)
    (case c35 => k_is)
    (case k35 => k_is)
    (case a36 => k_is)
    (case l36 => k_is)
    (case c36 => k_is)
    (case k36 => k_is)
    (case vFAR => k_is)
    (case vMOST_ENTRIES => k_is)
    (case vMOST_SLACK => k_is)
    (case zabs => k_is)
    (case zall => k_is)
    (case zbool => k_is)
    (case zint => k_is)
    (case zisinstance => k_is)
    (case zlen => k_is)
    (case zlist => k_is)
    (case zmax => k_is)
    (case zmin => k_is)
    (case zrange => k_is)
    (case zsorted => k_is)
    (case zstr => k_is)
    (case zsum => k_is)
    (case ztuple => k_is)
    (case zzip => k_is)
    (case rFAR => exact ⟨_, rfl⟩)
    (case rMOST_ENTRIES => exact ⟨_, rfl⟩)
    (case rMOST_SLACK => exact ⟨_, rfl⟩)
