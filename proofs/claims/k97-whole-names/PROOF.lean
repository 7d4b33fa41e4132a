import PyProof.Rows.All
import Wide.All
import OpenK.AllK
import Wide.FinOn
import HandS.ForMost
import HandS.Evl
import HandS.Deep
import HandS.IsInst
import HandS.Zip
import HandS.SetKeys
import HandS.DictTup
import HandS.TupAny
import HandS.Strs
import HandS.Style
import HandS.Flow
import KE.SortData
import KE.DataEq
import KE.KDictPairs
import HandS.Steps
import PySem.Challenge.RW_readorder_k97_whole_names_do_not_matter
import KE.KStateDown
import HandS.Defaults
import HandS.Words
import HandS.WordsExc
import HandS.Head0
import HandS.Head1
import HandS.Head2
import HandS.HeadEnd
import HandS.HeadHook1
import HandS.HeadHook2
import HandS.HeadWalk
import KE.GoesMore
import HandS.More
import HandS.SetBool
import HandS.ListItems
import PyProof.AutoSeq1
import KE.KDictWalk
import KE.KDictDisplayH
import PyProof.SumWalkG
import HandS.TupSets
import KE.KeyNested
set_option Elab.async false
set_option linter.all false
set_option maxRecDepth 100000
set_option maxHeartbeats 4000000
/-! K97, core: data that a value stands for in a tracked heap; an environment of data; what a reading evaluates to. -/
namespace K97
open PySem L2

abbrev Fg := PySem.W.Frag
/-- more is tracked, nothing is changed -/
abbrev Ex (H H' : Hp) : Prop := ∀ a o, H a = some o → H' a = some o
theorem Ex.rfl' (H : Hp) : Ex H H := fun _ _ h => h
theorem Ex.tr {H H1 H2 : Hp} (a : Ex H H1) (b : Ex H1 H2) : Ex H H2 := fun x o h => b x o (a x o h)
theorem Ex.new {H : Hp} {p : Addr} {o : HO} (h : H p = none) : Ex H (upd H p o) := fun a u e => by
  rw [upd_ne (ne_of_none e h)]
  exact e
theorem Ex.free {H H' : Hp} {p : Addr} (e : Ex H H') (h : H' p = none) : H p = none := by
  cases h1 : H p with
  | none => rfl
  | some o =>
    rw [e p o h1] at h
    cases h
theorem Ex.rd {H H' : Hp} {a : Addr} {u : HO} (e : Ex H H') (h : Rd H a u) : Rd H' a u := by
  rcases h with h | ⟨o, h⟩
  · exact Or.inl (e a _ h)
  · exact Or.inr ⟨o, e a _ h⟩
theorem Ex.l {K : Fg} {H H' : Hp} {a : Addr} {xs : List V} (e : Ex H H') (h : SqL K H a xs) : SqL K H' a xs := by
  rcases h with h | h
  · exact Or.inl (e.rd h)
  · exact Or.inr h
theorem Ex.t {K : Fg} {H H' : Hp} {a : Addr} {xs : List V} (e : Ex H H') (h : SqT K H a xs) : SqT K H' a xs := by
  rcases h with h | h
  · exact Or.inl (e.rd h)
  · exact Or.inr h

/-- a tuple of ours: its object is told, it has no dict -/
def TupF (H : Hp) (a : Addr) (xs : List V) : Prop := ∃ o : Obj, H a = some (.frz o (.tup xs)) ∧ o.dict = none
theorem TupF.sq {K : Fg} {H : Hp} {a : Addr} {xs : List V} (h : TupF H a xs) : SqT K H a xs := let ⟨o, e, _⟩ := h; .inl (.inr ⟨o, e⟩)
theorem TupF.up {H H' : Hp} {a : Addr} {xs : List V} (h : TupF H a xs) (e : Ex H H') : TupF H' a xs := let ⟨o, q, d⟩ := h; ⟨o, e _ _ q, d⟩
/-- a dict that stands still: its object is told -/
def DicF (H : Hp) (a : Addr) (kvs : List (Key × V)) : Prop := ∃ o : Obj, H a = some (.frz o (.dK kvs))
theorem DicF.up {H H' : Hp} {a : Addr} {kvs : List (Key × V)} (h : DicF H a kvs) (e : Ex H H') : DicF H' a kvs := let ⟨o, q⟩ := h; ⟨o, e _ _ q⟩
theorem DicF.rd {H : Hp} {a : Addr} {kvs : List (Key × V)} (h : DicF H a kvs) : Rd H a (.dK kvs) := let ⟨o, q⟩ := h; .inr ⟨o, q⟩
/-! ### what a value stands for -/
def kD : Key → PyData
  | .inl i => .int i
  | .inr s => .str s
mutual
inductive Rp (K : Fg) (H : Hp) : V → PyData → Prop
  | non : Rp K H .non .none
  | bl (b : Bool) : Rp K H (.bl b) (.bool b)
  | int (i : Int) : Rp K H (.int i) (.int i)
  | str (x : Str) : Rp K H (.str x) (.str x)
  | lst {a : Addr} {xs : List V} {ds : List PyData} : SqL K H a xs → RpAll K H xs ds → Rp K H (.ref a) (.list ds)
  | tup {a : Addr} {xs : List V} {ds : List PyData} : TupF H a xs → RpAll K H xs ds → Rp K H (.ref a) (.tuple ds)
  | dic {a : Addr} {kvs : List (Key × V)} {ds : List (PyData × PyData)} : DicF H a kvs → RpKV K H kvs ds → Rp K H (.ref a) (.dict ds)
inductive RpAll (K : Fg) (H : Hp) : List V → List PyData → Prop
  | nil : RpAll K H [] []
  | cons {v : V} {vs : List V} {d : PyData} {ds : List PyData} : Rp K H v d → RpAll K H vs ds → RpAll K H (v :: vs) (d :: ds)
inductive RpKV (K : Fg) (H : Hp) : List (Key × V) → List (PyData × PyData) → Prop
  | nil : RpKV K H [] []
  | cons {k : Key} {v : V} {vs : List (Key × V)} {d : PyData} {ds : List (PyData × PyData)} : Rp K H v d → RpKV K H vs ds → RpKV K H ((k, v) :: vs) ((kD k, d) :: ds)
end
section
variable {K : Fg} {H H' : Hp}
mutual
theorem Rp.mono (e : Ex H H') : ∀ (d : PyData) (v : V), Rp K H v d → Rp K H' v d
  | .none, _, h => by cases h; exact .non
  | .bool b, _, h => by cases h; exact .bl b
  | .int i, _, h => by cases h; exact .int i
  | .str x, _, h => by cases h; exact .str x
  | .list ds, _, h => by
    cases h with
    | lst h1 h2 => exact .lst (e.l h1) (RpAll.mono e ds _ h2)
  | .tuple ds, _, h => by
    cases h with
    | tup h1 h2 => exact .tup (h1.up e) (RpAll.mono e ds _ h2)
  | .dict ds, _, h => by
    cases h with
    | dic h1 h2 => exact .dic (h1.up e) (RpKV.mono e ds _ h2)
theorem RpAll.mono (e : Ex H H') : ∀ (ds : List PyData) (vs : List V), RpAll K H vs ds → RpAll K H' vs ds
  | [], _, h => by cases h; exact .nil
  | d :: ds, _, h => by
    cases h with
    | cons h1 h2 => exact .cons (Rp.mono e d _ h1) (RpAll.mono e ds _ h2)
theorem RpKV.mono (e : Ex H H') : ∀ (ds : List (PyData × PyData)) (vs : List (Key × V)), RpKV K H vs ds → RpKV K H' vs ds
  | [], _, h => by cases h; exact .nil
  | (_, d) :: ds, _, h => by
    cases h with
    | cons h1 h2 => exact .cons (Rp.mono e d _ h1) (RpKV.mono e ds _ h2)
end
theorem Rp.up {v : V} {d : PyData} (h : Rp K H v d) (e : Ex H H') : Rp K H' v d := Rp.mono e d v h
theorem RpAll.up {v : List V} {d : List PyData} (h : RpAll K H v d) (e : Ex H H') : RpAll K H' v d := RpAll.mono e d v h
theorem RpKV.up {v : List (Key × V)} {d : List (PyData × PyData)} (h : RpKV K H v d) (e : Ex H H') : RpKV K H' v d := RpKV.mono e d v h
theorem RpAll.len : ∀ {vs : List V} {ds : List PyData}, RpAll K H vs ds → vs.length = ds.length
  | [], _, h => by cases h; rfl
  | _ :: _, _, h => by
    cases h with
    | cons h1 h2 => rw [List.length_cons, List.length_cons, RpAll.len h2]
theorem RpAll.app : ∀ {vs ws : List V} {ds es : List PyData}, RpAll K H vs ds → RpAll K H ws es → RpAll K H (vs ++ ws) (ds ++ es)
  | [], _, _, _, h, g => by cases h; exact g
  | _ :: _, _, _, _, h, g => by
    cases h with
    | cons h1 h2 => exact .cons h1 (RpAll.app h2 g)
theorem RpAll.one {v : V} {d : PyData} (h : Rp K H v d) : RpAll K H [v] [d] := .cons h .nil
theorem RpAll.get : ∀ {vs : List V} {ds : List PyData} {i : Nat} {d : PyData}, RpAll K H vs ds → ds[i]? = some d → ∃ v, vs[i]? = some v ∧ Rp K H v d
  | [], _, _, _, h, e => by cases h; simp at e
  | v :: _, _, 0, _, h, e => by
    cases h with
    | cons h1 h2 =>
      simp at e
      subst e
      exact ⟨v, rfl, h1⟩
  | _ :: _, _, i + 1, d, h, e => by
    cases h with
    | cons h1 h2 =>
      obtain ⟨w, e1, r⟩ := RpAll.get (i := i) (d := d) h2 (by simpa using e)
      exact ⟨w, by simpa using e1, r⟩
theorem RpAll.getV : ∀ {vs : List V} {ds : List PyData} {i : Nat} {v : V}, RpAll K H vs ds → vs[i]? = some v → ∃ d, ds[i]? = some d ∧ Rp K H v d
  | [], _, _, _, h, e => by simp at e
  | w :: _, _, 0, _, h, e => by
    cases h with
    | cons h1 h2 =>
      simp at e
      subst e
      exact ⟨_, rfl, h1⟩
  | _ :: _, _, i + 1, v, h, e => by
    cases h with
    | cons h1 h2 =>
      obtain ⟨w, e1, r⟩ := RpAll.getV (i := i) (v := v) h2 (by simpa using e)
      exact ⟨w, by simpa using e1, r⟩
theorem RpAll.take : ∀ {vs : List V} {ds : List PyData} (n : Nat), RpAll K H vs ds → RpAll K H (vs.take n) (ds.take n)
  | _, _, 0, _ => .nil
  | [], _, _ + 1, h => by cases h; exact .nil
  | _ :: _, _, n + 1, h => by
    cases h with
    | cons h1 h2 => exact .cons h1 (RpAll.take n h2)
theorem RpAll.drop : ∀ {vs : List V} {ds : List PyData} (n : Nat), RpAll K H vs ds → RpAll K H (vs.drop n) (ds.drop n)
  | _, _, 0, h => h
  | [], _, _ + 1, h => by cases h; exact .nil
  | _ :: _, _, n + 1, h => by
    cases h with
    | cons h1 h2 => exact RpAll.drop n h2
theorem RpAll.dropLast : ∀ {vs : List V} {ds : List PyData}, RpAll K H vs ds → RpAll K H vs.dropLast ds.dropLast := fun {vs ds} h => by
  rw [List.dropLast_eq_take, List.dropLast_eq_take, h.len]
  exact h.take _
theorem RpAll.erase : ∀ {vs : List V} {ds : List PyData} (n : Nat), RpAll K H vs ds → RpAll K H (vs.eraseIdx n) (ds.eraseIdx n)
  | [], _, _, h => by cases h; exact .nil
  | _ :: _, _, 0, h => by
    cases h with
    | cons h1 h2 => exact h2
  | _ :: _, _, n + 1, h => by
    cases h with
    | cons h1 h2 => exact .cons h1 (RpAll.erase n h2)
theorem RpAll.mapE {α : Type} {enc : α → PyData} : ∀ {vs : List V} {xs : List α}, RpAll K H vs (xs.map enc) → ∀ v ∈ vs, ∃ x ∈ xs, Rp K H v (enc x)
  | [], _, _ => fun v hv => by cases hv
  | w :: vs, [], h => by cases h
  | w :: vs, x :: xs, h => fun v hv => by
    cases h with
    | cons h1 h2 =>
      rcases List.mem_cons.mp hv with rfl | hv
      · exact ⟨x, List.mem_cons_self, h1⟩
      · obtain ⟨y, hy, r⟩ := RpAll.mapE (enc := enc) h2 v hv
        exact ⟨y, List.mem_cons_of_mem _ hy, r⟩
mutual
theorem Rp.dp : ∀ (d : PyData) (v : V), d.plain = true → Rp K H v d → Dp K H v d
  | .none, _, _, h => by cases h; exact .non
  | .bool b, _, _, h => by cases h; exact .bl b
  | .int i, _, _, h => by cases h; exact .int i
  | .str x, _, _, h => by cases h; exact .str x
  | .list ds, _, p, h => by
    cases h with
    | lst h1 h2 => exact .lst h1 (RpAll.dp ds _ (by simpa [PyData.plain] using p) h2)
  | .tuple ds, _, p, h => by
    cases h with
    | tup h1 h2 => exact .tup h1.sq (RpAll.dp ds _ (by simpa [PyData.plain] using p) h2)
  | .dict ds, _, p, h => by simp [PyData.plain] at p
theorem RpAll.dp : ∀ (ds : List PyData) (vs : List V), PyData.plainAll ds = true → RpAll K H vs ds → DpAll K H vs ds
  | [], _, _, h => by cases h; exact .nil
  | d :: ds, _, p, h => by
    have p' : d.plain = true ∧ PyData.plainAll ds = true := by simpa [PyData.plainAll] using p
    cases h with
    | cons h1 h2 => exact .cons (Rp.dp d _ p'.1 h1) (RpAll.dp ds _ p'.2 h2)
end
theorem Rp.strI {v : V} {x : Str} (h : Rp K H v (.str x)) : v = .str x := by cases h; rfl
theorem Rp.intI {v : V} {x : Int} (h : Rp K H v (.int x)) : v = .int x := by cases h; rfl
theorem Rp.blI {v : V} {x : Bool} (h : Rp K H v (.bool x)) : v = .bl x := by cases h; rfl
theorem Rp.nonI {v : V} (h : Rp K H v .none) : v = .non := by cases h; rfl
theorem RpAll.strs : ∀ {vs : List V} {xs : List Str}, RpAll K H vs (xs.map .str) → vs = xs.map .str
  | _, [], h => by cases h; rfl
  | _, x :: xs, h => by
    have h : RpAll K H _ (.str x :: xs.map .str) := h
    cases h with
    | cons h1 h2 => rw [h1.strI, RpAll.strs h2]; rfl
theorem RpAll.ints : ∀ {vs : List V} {xs : List Int}, RpAll K H vs (xs.map .int) → vs = xs.map .int
  | _, [], h => by cases h; rfl
  | _, x :: xs, h => by
    have h : RpAll K H _ (.int x :: xs.map .int) := h
    cases h with
    | cons h1 h2 => rw [h1.intI, RpAll.ints h2]; rfl
theorem RpAll.bls : ∀ {vs : List V} {xs : List Bool}, RpAll K H vs (xs.map .bool) → vs = xs.map .bl
  | _, [], h => by cases h; rfl
  | _, x :: xs, h => by
    have h : RpAll K H _ (.bool x :: xs.map .bool) := h
    cases h with
    | cons h1 h2 => rw [h1.blI, RpAll.bls h2]; rfl
theorem RpKV.len : ∀ {vs : List (Key × V)} {ds : List (PyData × PyData)}, RpKV K H vs ds → vs.length = ds.length
  | [], _, h => by cases h; rfl
  | _ :: _, _, h => by
    cases h with
    | cons h1 h2 => rw [List.length_cons, List.length_cons, RpKV.len h2]
end

/-! ### the heap without some addresses -/
open Classical in
/-- the heap but for the addresses M -/
noncomputable def cut (M : Addr → Prop) (H : Hp) : Hp := fun a => if M a then none else H a
section
variable {M N : Addr → Prop} {H H' : Hp} {a : Addr} {o : HO}
theorem cut_in (h : M a) : cut M H a = none := by unfold cut; rw [if_pos h]
theorem cut_out (h : ¬ M a) : cut M H a = H a := by unfold cut; rw [if_neg h]
theorem cut_ex : Ex (cut M H) H := fun a o e => by
  by_cases h : M a
  · rw [cut_in h] at e; cases e
  · rwa [cut_out h] at e
theorem cut_some (e : cut M H a = some o) : ¬ M a ∧ H a = some o := by
  by_cases h : M a
  · rw [cut_in h] at e; cases e
  · exact ⟨h, by rwa [cut_out h] at e⟩
theorem cut_of (h : ¬ M a) (e : H a = some o) : cut M H a = some o := by rw [cut_out h]; exact e
/-- all but M is kept -/
theorem cut_keep (k : ∀ a o, ¬ M a → H a = some o → H' a = some o) : Ex (cut M H) (cut M H') := fun a o e =>
  let ⟨h, e'⟩ := cut_some e
  cut_of h (k a o h e')
theorem cut_mono (e : Ex H H') : Ex (cut M H) (cut M H') := cut_keep fun a o _ h => e a o h
theorem cut_less (h : ∀ a, N a → M a) : Ex (cut M H) (cut N H) := fun a o e =>
  let ⟨n, e'⟩ := cut_some e
  cut_of (fun z => n (h a z)) e'
theorem cut_cut : Ex (cut (fun a => M a ∨ N a) H) (cut N (cut M H)) := fun a o e => by
  obtain ⟨n, e'⟩ := cut_some e
  exact cut_of (fun z => n (.inr z)) (cut_of (fun z => n (.inl z)) e')
end

/-! ### an environment of data -/
/-- what a slot holds: nothing told; data that does not change; a list, a dict of ours that changes; the box of three numbers -/
inductive Ent where
  | no
  | im (d : PyData)
  | ac (ds : List PyData)
  | dc (kvs : List (PyData × PyData))
  | bx (n : Addr × Int × Int × Int)
def Ent.mut : Ent → Bool
  | .ac _ => true
  | .dc _ => true
  | .bx _ => true
  | _ => false
abbrev En := List Ent
/-- the addresses of what changes -/
def mu (Γ : En) (σ : St) : Addr → Prop := fun a => ∃ (i : Nat) (e : Ent), Γ[i]? = some e ∧ e.mut = true ∧ σ[i]? = some (some (.ref a))
/-- the box: where it stands, its three numbers -/
def BoxOk (n : Addr × Int × Int × Int) (p : Addr) (vs : List V) : Prop := p = n.1 ∧ vs = [.int n.2.1, .int n.2.2.1, .int n.2.2.2]

/-- the slots hold what Γ says; F: what belongs to callers; B: the part of the heap that must stand -/
structure EnvR (K : Fg) (F : Addr → Prop) (B : Hp) (Γ : En) (σ : St) (H : Hp) : Prop where
  len : σ.length = Γ.length
  base : Ex B H
  low : ∀ a, mu Γ σ a → B a = none
  out : ∀ a, mu Γ σ a → ¬ F a
  fin : ∀ a, F a → H a ≠ none
  im : ∀ (i : Nat) (d : PyData), Γ[i]? = some (.im d) → ∃ v, σ[i]? = some (some v) ∧ Rp K (cut (fun a => F a ∨ mu Γ σ a) H) v d
  ac : ∀ (i : Nat) (ds : List PyData), Γ[i]? = some (.ac ds) → ∃ p vs, σ[i]? = some (some (.ref p)) ∧ H p = some (.lst vs) ∧ RpAll K (cut (fun a => F a ∨ mu Γ σ a) H) vs ds
  dc : ∀ (i : Nat) (ds : List (PyData × PyData)), Γ[i]? = some (.dc ds) → ∃ p vs, σ[i]? = some (some (.ref p)) ∧ H p = some (.dK vs) ∧ RpKV K (cut (fun a => F a ∨ mu Γ σ a) H) vs ds
  bx : ∀ (i : Nat) (n : Addr × Int × Int × Int), Γ[i]? = some (.bx n) → ∃ p vs, σ[i]? = some (some (.ref p)) ∧ H p = some (.lst vs) ∧ BoxOk n p vs
  inj : ∀ (i j : Nat) (e f : Ent) (a : Addr), Γ[i]? = some e → Γ[j]? = some f → e.mut = true → f.mut = true → σ[i]? = some (some (.ref a)) → σ[j]? = some (some (.ref a)) → i = j
/-- the part that does not change -/
noncomputable abbrev frz (F : Addr → Prop) (Γ : En) (σ : St) (H : Hp) : Hp := cut (fun a => F a ∨ mu Γ σ a) H

section
variable {K : Fg} {F : Addr → Prop} {B : Hp} {Γ : En} {σ : St} {H H' : Hp}
theorem EnvR.muIn (E : EnvR K F B Γ σ H) {a : Addr} (h : mu Γ σ a) : H a ≠ none := by
  obtain ⟨i, e, h1, h2, h3⟩ := h
  cases e with
  | no => cases h2
  | im d => cases h2
  | ac ds =>
    obtain ⟨p, vs, e1, e2, _⟩ := E.ac i ds h1
    rw [h3] at e1; cases e1
    rw [e2]; simp
  | dc ds =>
    obtain ⟨p, vs, e1, e2, _⟩ := E.dc i ds h1
    rw [h3] at e1; cases e1
    rw [e2]; simp
  | bx n =>
    obtain ⟨p, vs, e1, e2, _⟩ := E.bx i n h1
    rw [h3] at e1; cases e1
    rw [e2]; simp
theorem EnvR.fresh (E : EnvR K F B Γ σ H) {p : Addr} (h : H p = none) : ¬ (F p ∨ mu Γ σ p) := fun z => by
  rcases z with z | z
  · exact E.fin p z h
  · exact E.muIn z h
theorem EnvR.ext (E : EnvR K F B Γ σ H) (e : Ex H H') : EnvR K F B Γ σ H' where
  len := E.len
  base := E.base.tr e
  low := E.low
  out := E.out
  fin := fun a h => by
    cases q : H a with
    | none => exact absurd q (E.fin a h)
    | some o => rw [e a o q]; simp
  im := fun i d h => by
    obtain ⟨v, h1, h2⟩ := E.im i d h
    exact ⟨v, h1, h2.up (cut_mono e)⟩
  ac := fun i ds h => by
    obtain ⟨p, vs, h1, h2, h3⟩ := E.ac i ds h
    exact ⟨p, vs, h1, e _ _ h2, h3.up (cut_mono e)⟩
  dc := fun i ds h => by
    obtain ⟨p, vs, h1, h2, h3⟩ := E.dc i ds h
    exact ⟨p, vs, h1, e _ _ h2, h3.up (cut_mono e)⟩
  bx := fun i n h => by
    obtain ⟨p, vs, h1, h2, h3⟩ := E.bx i n h
    exact ⟨p, vs, h1, e _ _ h2, h3⟩
  inj := E.inj
end
end K97
set_option Elab.async false
set_option linter.all false
set_option maxRecDepth 100000
set_option maxHeartbeats 4000000
/-! K97, rules of the layer that were lacking: tuples whose object is told; == and in of any plain data; dict of a tuple of pairs. -/
namespace K97
open PySem L2
open PyProof.Rows (IsTup)

theorem objF {P : Program} {w : World} {H : Hp} {h : Heap} {a : Addr} {xs : List V} {its : List Value} (hz : xs.length ≤ sizeLine) (r : Vals xs its) (e : h.get? a = some { cls := .type "tuple", data := .seq its.toArray }) :
    ObjOk P w H h a (.frz { cls := .type "tuple", data := .seq its.toArray } (.tup xs)) := ⟨e, hz, its, r, ⟨_, e, rfl, _, rfl⟩⟩

section
variable {X : Cx}
/-- the wish for a new tuple -/
abbrev NewT (xs : List V) (H : Hp) (Q : VK) : Prop := ∀ (p : Addr) (o : Obj), H p = none → o.dict = none → Q (.ref p) (upd H p (.frz o (.tup xs)))
def tTupF (t : TA) : TE := fun σ H Q => t σ H fun xs H1 => xs.length ≤ sizeLine ∧ NewT xs H1 Q
theorem pe_tupF {es : List Expr} {t : TA} {x1} {pos : Pos} (h : PA X es t) : PE X (.Tuple es x1 pos) (tTupF t) := by
  refine ⟨fun pins s σ H Q I hq => ?_⟩
  refine wpAny_Tuple_spliced (thn (h.run pos pins s σ H _ I hq) fun us s1 ⟨xs, H1, I1, r, z, q⟩ => ⟨by rw [← r.length]; exact z, ?_⟩)
  have hf : H1 s1.heap.objs.size = none := I1.hok.fresh (Nat.le_refl _)
  exact ⟨.ref s1.heap.objs.size, _, I1.laid (t' := s1.toks) (fun b u e => Heap.get?_push_of_some _ e) (Nat.le_refl _) (objF z r (Heap.get?_push_size _ rfl)), rfl, q _ _ hf rfl⟩
/-- tuple(x) -/
def rTupF (K : Fg) : List V → Hp → VK → Prop := fun xs H Q => ∃ p ys, xs = [.ref p] ∧ ((SqL K H p ys ∧ NewT ys H Q) ∨ (TupF H p ys ∧ Q (.ref p) H))
theorem call_tupF : CallR X (.type "tuple") (rTupF X.K) := by
  intro pins s σ H xs us Q I r h
  obtain ⟨p, ys, rfl, h⟩ := h
  obtain ⟨u, rfl, rx⟩ := vals1 r
  cases rx
  rcases h with ⟨hq, q⟩ | ⟨hq, q⟩
  · obtain ⟨its, r', pl, hz⟩ := I.list hq
    have hlen := r'.length
    refine call_tuple_list pl.isList (fun h' kp => ?_) (by simp only [List.size_toArray] <;> omega)
    have I1 : Inv X pins σ H { s with heap := h' } := I.kept (t' := s.toks) kp
    exact ⟨.ref h'.objs.size, _, I1.laid (t' := s.toks) (fun b o e => Heap.get?_push_of_some _ e) (Nat.le_refl _) (objF hz r' (Heap.get?_push_size _ rfl)), rfl, q _ _ (I1.hok.fresh (Nat.le_refl _)) rfl⟩
  · obtain ⟨its, r', pl, hz⟩ := I.tuple (TupF.sq (K := X.K) hq)
    exact call_tuple_same pl ⟨.ref p, H, I, rfl, q⟩
/-- list(x) of a list or a tuple -/
def rLstF (K : Fg) : List V → Hp → VK → Prop := fun xs H Q => ∃ p ys, xs = [.ref p] ∧ (SqL K H p ys ∨ SqT K H p ys) ∧ ∀ l, H l = none → Q (.ref l) (upd H l (.lst ys))
theorem call_lstF : CallR X (.type "list") (rLstF X.K) := call_list_of
/-- t + u -/
def rCatF (K : Fg) : R2 := fun x y H Q => ∃ a b xs ys, x = .ref a ∧ y = .ref b ∧ TupF H a xs ∧ TupF H b ys ∧ xs.length + ys.length ≤ sizeLine ∧
  (xs = [] → Q (.ref b) H) ∧ (xs ≠ [] → ys = [] → Q (.ref a) H) ∧ (xs ≠ [] → ys ≠ [] → NewT (xs ++ ys) H Q)
theorem op_catF : OpR X (binaryOp .Add) (rCatF X.K) := by
  intro pins s σ H x y v u Q I rx ry h
  obtain ⟨a, b, xs, ys, rfl, rfl, ha, hb, hz, q0, q1, q2⟩ := h
  cases rx
  cases ry
  obtain ⟨its, r1, p1, _⟩ := I.tuple (TupF.sq (K := X.K) ha)
  obtain ⟨its2, r2, p2, _⟩ := I.tuple (TupF.sq (K := X.K) hb)
  by_cases hx : xs = []
  · subst hx
    cases r1
    exact cat_tup0 p1 p2 ⟨.ref b, H, I, rfl, q0 rfl⟩
  · refine HT.cat_tup p1 p2 (fun z => hx (r1.nil_iff.mp z)) (fun z => ⟨.ref a, H, I, rfl, q1 hx (r2.nil_iff.mp z)⟩) (fun z => ?_) (by rw [← r1.length, ← r2.length]; exact hz)
    exact ⟨.ref s.heap.objs.size, _, I.laid (t' := s.toks) (fun b ob q => Heap.get?_push_of_some _ q) (Nat.le_refl _) (objF (by rw [List.length_append]; exact hz) (r1.append r2) (Heap.get?_push_size _ rfl)), rfl, q2 hx (fun w => z (r2.nil_iff.mpr w)) _ _ (I.hok.fresh (Nat.le_refl _)) rfl⟩
theorem tup_noiadd : typeLookup (.type "tuple") (dunderI "add") = pure none := PySem.am_miss_of_fast (by decide +kernel)
/-- t += u, by values -/
theorem ip_catF : PIp X .Add (rCatF X.K) := by
  intro pins s σ H x y v u Q I rx ry h
  obtain ⟨a, b, xs, ys, rfl, rfl, ha, hb, hz, q0, q1, q2⟩ := h
  cases rx
  cases ry
  obtain ⟨its, r1, ⟨⟨cls, dd, data, sl⟩, ho, hc, n, hd⟩, _⟩ := I.tuple (TupF.sq (K := X.K) ha)
  obtain ⟨its2, r2, ⟨⟨cls2, dd2, data2, sl2⟩, ho2, hc2, n2, hd2⟩, _⟩ := I.tuple (TupF.sq (K := X.K) hb)
  simp only at hc hd hc2 hd2
  subst hc hd hc2 hd2
  refine PySem.wpAny_inplaceOp_concat (T := "tuple") ⟨_, ho, rfl⟩ ⟨_, ho2, rfl⟩ tup_noiadd noFill_tuple_add seq_tuple_add ?_
  by_cases hx : xs = []
  · subst hx
    cases r1
    exact call_meets PySem.F.slot_tuple_add ⟨_, ho, rfl⟩ PySem.F.entry_tuple_add (PySem.F.args_tuple_add_2 _ _) (PyProof.Rows.tuple_addW0 a b ([] : List Value).toArray its2.toArray n n2 dd dd2 sl sl2 (by simp)) ⟨ho, ho2, ⟨.ref b, H, I, rfl, q0 rfl⟩⟩
  · have hv : its ≠ [] := fun z => hx (r1.nil_iff.mp z)
    by_cases hy : ys = []
    · exact call_meets PySem.F.slot_tuple_add ⟨_, ho, rfl⟩ PySem.F.entry_tuple_add (PySem.F.args_tuple_add_2 _ _) (PyProof.Rows.tuple_addW1 a b its.toArray its2.toArray n n2 dd dd2 sl sl2 (by simpa using hv) (by simpa using r2.nil_iff.mpr hy)) ⟨ho, ho2, ⟨.ref a, H, I, rfl, q1 hx hy⟩⟩
    · have hw : its2 ≠ [] := fun z => hy (r2.nil_iff.mp z)
      have e : its.toArray ++ its2.toArray = (its ++ its2).toArray := by simp
      refine call_meets PySem.F.slot_tuple_add ⟨_, ho, rfl⟩ PySem.F.entry_tuple_add (PySem.F.args_tuple_add_2 _ _) (PyProof.Rows.tuple_addW2 a b its.toArray its2.toArray n n2 dd dd2 sl sl2 (by simpa using hv) (by simpa using hw) (by rw [List.size_toArray, List.size_toArray, ← r1.length, ← r2.length]; exact hz)) ⟨ho, ho2, ?_⟩
      rw [e]
      exact ⟨.ref s.heap.objs.size, _, I.laid (t' := s.toks) (fun b ob q => Heap.get?_push_of_some _ q) (Nat.le_refl _) (objF (by rw [List.length_append]; exact hz) (r1.append r2) (Heap.get?_push_size _ rfl)), rfl, q2 hx hy _ _ (I.hok.fresh (Nat.le_refl _)) rfl⟩
/-- t[lo:hi] -/
def rSlF (K : Fg) : V → Option Int → Option Int → Hp → VK → Prop := fun x lo hi H Q => ∃ a xs, x = .ref a ∧ TupF H a xs ∧
  (cutV xs lo hi = xs → Q (.ref a) H) ∧ NewT (cutV xs lo hi) H Q
theorem cutV_whole {xs : List V} {lo hi : Option Int} (h : HT.sIx xs.length 0 lo = 0 ∧ HT.sIx xs.length xs.length hi = xs.length) : cutV xs lo hi = xs := by
  unfold cutV
  rw [h.1, h.2]
  simp
theorem sl_tupF : SlR X (rSlF X.K) := by
  intro pins s σ H x v vl vu lo hi sl Q I rx hs pl pu h
  obtain ⟨a, xs, rfl, hx, q1, q2⟩ := h
  cases rx
  obtain ⟨its, r, ht, hz⟩ := I.tuple (TupF.sq (K := X.K) hx)
  have hlen : its.toArray.size = xs.length := by rw [List.size_toArray]; exact r.length.symm
  refine ⟨"tuple", _, PyProof.Rows.slot_tuple_getitem.lookup, ht.typeIs, ?_⟩
  by_cases hw : HT.sIx xs.length 0 lo = 0 ∧ HT.sIx xs.length xs.length hi = xs.length
  · exact getItem_tuple_whole ht hs pl pu (by rw [hlen]; exact hw) ⟨.ref a, H, I, rfl, q1 (cutV_whole hw)⟩
  · refine HT.getItem_tuple_cut ht hs pl pu (by rw [hlen]; exact hw) ?_ (by rw [hlen]; exact hz)
    rw [hlen]
    exact ⟨.ref s.heap.objs.size, _, I.laid (t' := s.toks) (fun b ob q => Heap.get?_push_of_some _ q) (Nat.le_refl _) (objF (Nat.le_trans (cutV_length xs lo hi) hz) ((r.drop (HT.sIx xs.length 0 lo)).take (HT.sIx xs.length xs.length hi - HT.sIx xs.length 0 lo)) (Heap.get?_push_size _ rfl)), rfl, q2 _ _ (I.hok.fresh (Nat.le_refl _)) rfl⟩

/-! ### ==, !=, in, not in of plain data -/
def rEqP (K : Fg) (neg : Bool) : R2 := fun x y H Q => ∃ d e, Rp K H x d ∧ Rp K H y e ∧ d.plain = true ∧ e.plain = true ∧ d.depth ≤ 60 ∧ Q (.bl (if neg then !PyData.eqv d e else PyData.eqv d e)) H
theorem op_eqP (hu : X.A.units + 64 < cLine) : OpR X (compareOp .Eq) (rEqP X.K false) := by
  intro pins s σ H x y v u Q I rx ry h
  obtain ⟨d, e, hd, he, pd, pe, dd, q⟩ := h
  obtain ⟨as, r1⟩ := Dp.reads I d x v (Rp.dp d x pd hd) rx
  obtain ⟨bs, r2⟩ := Dp.reads I e y u (Rp.dp e y pe he) ry
  exact SeqAt.eq_plain r1 r2 pd pe (by have := Nat.min_le_left d.depth e.depth; omega) ⟨.bl _, H, I, rfl, q⟩
theorem op_neP (hu : X.A.units + 64 < cLine) : OpR X (compareOp .NotEq) (rEqP X.K true) := by
  intro pins s σ H x y v u Q I rx ry h
  obtain ⟨d, e, hd, he, pd, pe, dd, q⟩ := h
  obtain ⟨as, r1⟩ := Dp.reads I d x v (Rp.dp d x pd hd) rx
  obtain ⟨bs, r2⟩ := Dp.reads I e y u (Rp.dp e y pe he) ry
  exact SeqAt.ne_plain r1 r2 pd pe (by have := Nat.min_le_left d.depth e.depth; omega) ⟨.bl _, H, I, rfl, q⟩
def rInP (K : Fg) (neg : Bool) : R2 := fun x y H Q => ∃ d es, Rp K H x d ∧ (Rp K H y (.tuple es) ∨ Rp K H y (.list es)) ∧ d.plain = true ∧ PyData.plainAll es = true ∧ d.depth ≤ 60 ∧ Q (.bl (if neg then !es.any fun z => PyData.eqv z d else es.any fun z => PyData.eqv z d)) H
theorem op_inP (hu : X.A.units + 64 < cLine) : OpR X (compareOp .In) (rInP X.K false) := by
  intro pins s σ H x y v u Q I rx ry h
  obtain ⟨d, es, hd, he, pd, pe, dd, q⟩ := h
  obtain ⟨as, r1⟩ := Dp.reads I d x v (Rp.dp d x pd hd) rx
  have hm := Nat.min_le_right (PyData.depthAll es) d.depth
  rcases he with he | he
  · obtain ⟨bs, r2⟩ := Dp.reads I (.tuple es) y u (Rp.dp _ y (by simpa [PyData.plain] using pe) he) ry
    exact SeqAt.in_tuple_data r2 r1 pe pd (by omega) ⟨.bl _, H, I, rfl, q⟩
  · obtain ⟨bs, r2⟩ := Dp.reads I (.list es) y u (Rp.dp _ y (by simpa [PyData.plain] using pe) he) ry
    exact SeqAt.in_list_data r2 r1 pe pd (by omega) ⟨.bl _, H, I, rfl, q⟩
theorem op_niP (hu : X.A.units + 64 < cLine) : OpR X (compareOp .NotIn) (rInP X.K true) := by
  intro pins s σ H x y v u Q I rx ry h
  obtain ⟨d, es, hd, he, pd, pe, dd, q⟩ := h
  obtain ⟨as, r1⟩ := Dp.reads I d x v (Rp.dp d x pd hd) rx
  have hm := Nat.min_le_right (PyData.depthAll es) d.depth
  rcases he with he | he
  · obtain ⟨bs, r2⟩ := Dp.reads I (.tuple es) y u (Rp.dp _ y (by simpa [PyData.plain] using pe) he) ry
    exact SeqAt.notIn_tuple_data r2 r1 pe pd (by omega) ⟨.bl _, H, I, rfl, q⟩
  · obtain ⟨bs, r2⟩ := Dp.reads I (.list es) y u (Rp.dp _ y (by simpa [PyData.plain] using pe) he) ry
    exact SeqAt.notIn_list_data r2 r1 pe pd (by omega) ⟨.bl _, H, I, rfl, q⟩

/-! ### dict(t), t a tuple (or list) of pairs -/
theorem pairsR {pins : List (Addr × Obj)} {σ : L2.St} {H : Hp} {s : Shared} (I : Inv X pins σ H s) : ∀ {xs : List V} {us : List Value} {kvs : List (Key × V)}, Vals xs us → Paired (fun x (kv : Key × V) => ∃ p, x = .ref p ∧ SqT X.K H p [kV kv.1, kv.2]) xs kvs →
    ∃ (Ts : List Addr) (prs : List (Key × Value)) (ks : List Value), us = Ts.map Value.ref ∧ KV kvs prs ∧ ks.length = prs.length ∧ prs.length = Ts.length ∧ ∀ (j : Nat) (T : Addr), Ts[j]? = some T → ∃ (k : Key) (u y : Value), prs[j]? = some (k, y) ∧ ks[j]? = some u ∧ IsTup s.heap T #[u, y] ∧ keyIs k u = true
  | _, _, _, r, .nil => by
    cases r
    exact ⟨[], [], [], rfl, .nil, rfl, rfl, fun j T e => by simp at e⟩
  | _, _, _, r, .cons h t => by
    cases r with
    | cons r1 r2 =>
      obtain ⟨p, rfl, hp⟩ := h
      cases r1
      obtain ⟨Ts, prs, ks, e1, e2, e3, e4, e5⟩ := pairsR I r2 t
      obtain ⟨its, rv, ht, _⟩ := I.tuple hp
      obtain ⟨u, y, ei, ru, ry⟩ := vals2 rv
      subst ei
      subst e1
      refine ⟨p :: Ts, (_, y) :: prs, u :: ks, rfl, .cons ⟨rfl, ry⟩ e2, by rw [List.length_cons, List.length_cons, e3], by rw [List.length_cons, List.length_cons, e4], fun j T e => ?_⟩
      cases j with
      | zero =>
        have e' : p = T := Option.some.inj e
        subst e'
        exact ⟨_, u, y, rfl, rfl, ht, kV_is (P := X.prog) (w := X.w) ru⟩
      | succ j =>
        obtain ⟨k, u', y', q1, q2, q3, q4⟩ := e5 j T (by simpa using e)
        exact ⟨k, u', y', by simpa using q1, by simpa using q2, q3, q4⟩
def rDicF (K : Fg) : List V → Hp → VK → Prop := fun xs H Q => ∃ (a : Addr) (ps : List V) (kvs : List (Key × V)), xs = [.ref a] ∧ TupF H a ps ∧ Paired (fun x (kv : Key × V) => ∃ p, x = .ref p ∧ SqT K H p [kV kv.1, kv.2]) ps kvs ∧
    ∀ p, H p = none → Q (.ref p) (upd H p (.dK (mergeK [] kvs)))
theorem call_dicF (hc : X.calm = true) : CallR X (.type "dict") (rDicF X.K) := by
  intro pins s σ H xs us Q I r h
  obtain ⟨a, ps, kvs, rfl, ⟨o, ho, hdn⟩, hp, q⟩ := h
  obtain ⟨u, rfl, rx⟩ := vals1 r
  cases rx
  obtain ⟨hob, hz, its, rv, o', ho', hcl, n, hdat⟩ := I.hok a _ ho
  rw [hob] at ho'
  cases ho'
  obtain ⟨Ts, prs, ks, e1, e2, e3, e4, e5⟩ := pairsR I rv hp
  have hlen := rv.length
  have tsl : Ts.length = ps.length := by rw [hlen, e1, List.length_map]
  have zl : (ks.zip (prs.map (·.2))).length = Ts.length := by rw [List.length_zip, List.length_map, e3, e4, Nat.min_self]
  have ok : PlainSeq "tuple" s.heap a its.toArray ∧ PairItems s.heap its.toArray (fun j => Ts.getD j 0) (ks.zip (prs.map (·.2))) := by
    refine ⟨⟨o, n, hob, hcl, hdn, hdat⟩, by rw [List.size_toArray, e1, List.length_map, zl], fun j k v hj => ?_⟩
    have hjl : j < Ts.length := by rw [← zl]; exact (List.getElem?_eq_some_iff.mp hj).1
    have hT : Ts[j]? = some Ts[j] := List.getElem?_eq_getElem hjl
    obtain ⟨k', u', y', q1, q2, q3, q4⟩ := e5 j _ hT
    have ez : (ks.zip (prs.map (·.2)))[j]? = some (u', y') := by
      rw [List.getElem?_zip_eq_some]
      exact ⟨q2, by rw [List.getElem?_map, q1] <;> rfl⟩
    rw [ez] at hj
    cases hj
    have eg : Ts.getD j 0 = Ts[j] := by rw [List.getD_eq_getElem?_getD, hT] <;> rfl
    refine ⟨?_, .inl ?_⟩
    · show its.toArray[j]? = some (Value.ref (Ts.getD j 0))
      rw [eg, e1]; simp [hT]
    · show s.heap.IsTuple (Ts.getD j 0) #[k, v]
      rw [eg]; exact q3
  have hpn : PairsHave (mixKind X.prog X.w) (ks.zip (prs.map (·.2))).length (PairRel (ks.zip (prs.map (·.2)))) prs := by
    refine ⟨by rw [zl, e4], fun i key v hi => ?_⟩
    have hil : i < Ts.length := by rw [← zl]; exact (List.getElem?_eq_some_iff.mp hi).1
    obtain ⟨k', u', y', q1, q2, q3, q4⟩ := e5 i _ (List.getElem?_eq_getElem hil)
    have ez : (ks.zip (prs.map (·.2)))[i]? = some (u', y') := by
      rw [List.getElem?_zip_eq_some]
      exact ⟨q2, by rw [List.getElem?_map, q1] <;> rfl⟩
    have hi' : (ks.zip (prs.map (·.2)))[i]? = some (key, v) := hi
    rw [ez] at hi'
    cases hi'
    exact ⟨k', q1, q4⟩
  refine PySem.call_dict_pairs (PairArg.tuple a its.toArray (fun j => Ts.getD j 0) (ks.zip (prs.map (·.2)))) (I.ok.hd hc) ok hpn (by rw [zl, tsl]; exact hz) fun h' tk hd' k => ?_
  have hm : (s.heap.objs.size == sysModules) = false := beq_eq_false_iff_ne.mpr (Nat.ne_of_gt I.big)
  have hl2 : (mergeK [] kvs).length ≤ sizeLine := by
    refine Nat.le_trans (length_mergeK kvs []) ?_
    rw [List.length_nil, Nat.zero_add, e2.length, e4, tsl]
    exact hz
  exact ⟨.ref s.heap.objs.size, upd H s.heap.objs.size (.dK (mergeK [] kvs)), I.laid (t' := tk) (fun b o e => k b o (by simp) e) (Nat.le_refl _) (show ObjOk X.prog X.w _ _ _ (.dK (mergeK [] kvs)) from ⟨hl2, hm, merged [] prs, KV.merge e2 .nil, hd'⟩), rfl, q _ (I.hok.fresh (Nat.le_refl _))⟩
/-- .. which stands still from its birth -/
def rDicZ (K : Fg) : List V → Hp → VK → Prop := fun xs H Q => rDicF K xs H fun v H' => ∃ d u, v = .ref d ∧ H' d = some u ∧ Mut (some u) ∧ ∀ od, Q v (upd H' d (.frz od u))
theorem call_dicZ (hc : X.calm = true) : CallR X (.type "dict") (rDicZ X.K) := by
  intro pins s σ H xs us Q I r h
  refine thn (call_dicF hc pins s σ H xs us _ I r h) fun v s1 ⟨x, H1, I1, r1, d, u, e, hd, mu, q⟩ => ?_
  obtain ⟨od, I2⟩ := I1.lock hd mu
  exact ⟨x, _, I2, r1, q od⟩
end
end K97
set_option Elab.async false
set_option linter.all false
set_option maxRecDepth 100000
set_option maxHeartbeats 4000000
/-! K97, judgements: what a reading evaluates to, in an environment of data. -/
namespace K97
open PySem L2

/-! ### changing the environment -/
section
variable {K : Fg} {F : Addr → Prop} {B : Hp} {Γ : En} {σ : L2.St} {H H' : Hp}
theorem mu_set {j : Nat} {e e' : Ent} {x : Option V} (h : Γ[j]? = some e) (he : e.mut = false) (he' : e'.mut = false) : mu (Γ.set j e') (σ.set j x) = mu Γ σ := by
  funext a
  apply propext
  constructor
  · rintro ⟨i, f, h1, h2, h3⟩
    by_cases hi : j = i
    · subst hi
      rw [List.getElem?_set_self (List.getElem?_eq_some_iff.mp h).1] at h1
      cases h1
      rw [he'] at h2; cases h2
    · rw [List.getElem?_set_ne hi] at h1 h3
      exact ⟨i, f, h1, h2, h3⟩
  · rintro ⟨i, f, h1, h2, h3⟩
    by_cases hi : j = i
    · subst hi
      rw [h] at h1; cases h1
      rw [he] at h2; cases h2
    · exact ⟨i, f, by rw [List.getElem?_set_ne hi]; exact h1, h2, by rw [List.getElem?_set_ne hi]; exact h3⟩
/-- a slot that holds nothing that changes is told anew -/
theorem EnvR.put (E : EnvR K F B Γ σ H) {j : Nat} {e e' : Ent} {x : Option V} (h : Γ[j]? = some e) (he : e.mut = false) (he' : e'.mut = false)
    (hx : ∀ d, e' = .im d → ∃ v, x = some v ∧ Rp K (frz F Γ σ H) v d) : EnvR K F B (Γ.set j e') (σ.set j x) H := by
  have hm := mu_set (σ := σ) (x := x) h he he'
  have hj : j < Γ.length := (List.getElem?_eq_some_iff.mp h).1
  have hjs : j < σ.length := by rw [E.len]; exact hj
  refine ⟨by rw [List.length_set, List.length_set, E.len], E.base, by rw [hm]; exact E.low, by rw [hm]; exact E.out, E.fin, fun i d q => ?_, fun i d q => ?_, fun i d q => ?_, fun i n q => ?_, fun i k f g a h1 h2 h3 h4 h5 h6 => ?_⟩
  · rw [hm]
    by_cases hi : j = i
    · subst hi
      rw [List.getElem?_set_self hj] at q
      obtain ⟨v, e1, e2⟩ := hx d (Option.some.inj q)
      exact ⟨v, by rw [List.getElem?_set_self hjs, e1], e2⟩
    · rw [List.getElem?_set_ne hi] at q ⊢
      exact E.im i d q
  · rw [hm]
    by_cases hi : j = i
    · subst hi
      rw [List.getElem?_set_self hj] at q
      cases q
      cases he'
    · rw [List.getElem?_set_ne hi] at q ⊢
      exact E.ac i d q
  · rw [hm]
    by_cases hi : j = i
    · subst hi
      rw [List.getElem?_set_self hj] at q
      cases q
      cases he'
    · rw [List.getElem?_set_ne hi] at q ⊢
      exact E.dc i d q
  · by_cases hi : j = i
    · subst hi
      rw [List.getElem?_set_self hj] at q
      cases q
      cases he'
    · rw [List.getElem?_set_ne hi] at q ⊢
      exact E.bx i n q
  · have ni : j ≠ i := fun z => by
      subst z
      rw [List.getElem?_set_self hj] at h1
      cases h1
      rw [he'] at h3; cases h3
    have nk : j ≠ k := fun z => by
      subst z
      rw [List.getElem?_set_self hj] at h2
      cases h2
      rw [he'] at h4; cases h4
    rw [List.getElem?_set_ne ni] at h1 h5
    rw [List.getElem?_set_ne nk] at h2 h6
    exact E.inj i k f g a h1 h2 h3 h4 h5 h6
theorem EnvR.frzIn (E : EnvR K F B Γ σ H) : Ex (frz F Γ σ H) H := cut_ex
/-- the slots vs forgotten -/
def wipeE (Γ : En) : List Nat → En
  | [] => Γ
  | v :: vs => (wipeE Γ vs).set v .no
def NoMut (Γ : En) (vs : List Nat) : Prop := ∀ v ∈ vs, ∃ e, Γ[v]? = some e ∧ e.mut = false
theorem wipeE_at {Γ : En} {v : Nat} {e : Ent} (h : Γ[v]? = some e) (he : e.mut = false) : ∀ vs : List Nat, ∃ e', (wipeE Γ vs)[v]? = some e' ∧ e'.mut = false
  | [] => ⟨e, h, he⟩
  | u :: us => by
    obtain ⟨e', h1, h2⟩ := wipeE_at h he us
    unfold wipeE
    by_cases q : u = v
    · subst q
      exact ⟨.no, List.getElem?_set_self (List.getElem?_eq_some_iff.mp h1).1, rfl⟩
    · exact ⟨e', by rw [List.getElem?_set_ne q]; exact h1, h2⟩
theorem EnvR.wipe (E : EnvR K F B Γ σ H) : ∀ {vs : List Nat}, NoMut Γ vs → EnvR K F B (wipeE Γ vs) (L2.wipe σ vs) H ∧ mu (wipeE Γ vs) (L2.wipe σ vs) = mu Γ σ
  | [], _ => ⟨E, rfl⟩
  | v :: vs, h => by
    obtain ⟨E1, m1⟩ := EnvR.wipe E (vs := vs) fun u hu => h u (List.mem_cons_of_mem _ hu)
    obtain ⟨e, h1, h2⟩ := h v List.mem_cons_self
    obtain ⟨e', h3, h4⟩ := wipeE_at h1 h2 vs
    refine ⟨E1.put h3 h4 rfl (fun d q => nomatch q), ?_⟩
    rw [← m1]
    exact mu_set h3 h4 rfl
theorem wipe_get {σ : L2.St} {i : Nat} : ∀ vs : List Nat, (L2.wipe σ vs)[i]? = if i ∈ vs ∧ i < σ.length then some none else σ[i]?
  | [] => by simp [L2.wipe]
  | v :: vs => by
    unfold L2.wipe
    by_cases hv : v = i
    · subst hv
      by_cases hl : v < σ.length
      · rw [List.getElem?_set_self (by rw [wipe_length]; exact hl)]
        simp [hl]
      · rw [List.getElem?_eq_none (by rw [List.length_set, wipe_length]; omega), List.getElem?_eq_none (by omega)]
        simp [hl]
    · rw [List.getElem?_set_ne hv, wipe_get vs]
      have : ¬ i = v := fun z => hv z.symm
      simp [this]
/-- what a target has stored lies within the wiped slots -/
theorem wipe_same {σ σ2 : L2.St} {vs js : List Nat} (hl : σ2.length = (L2.wipe σ vs).length) (hj : ∀ j ∈ js, j ∈ vs) (h : ∀ i, i ∉ js → σ2[i]? = (L2.wipe σ vs)[i]?) : L2.wipe σ2 vs = L2.wipe σ vs := by
  rw [wipe_length] at hl
  apply List.ext_getElem?
  intro i
  rw [wipe_get, wipe_get, hl]
  by_cases hi : i ∈ vs ∧ i < σ.length
  · rw [if_pos hi, if_pos hi]
  · rw [if_neg hi, if_neg hi]
    by_cases hv : i ∈ js
    · have h1 : i ∈ vs := hj i hv
      have h2 : ¬ i < σ.length := fun z => hi ⟨h1, z⟩
      rw [List.getElem?_eq_none (by omega), List.getElem?_eq_none (by omega)]
    · rw [h i hv, wipe_get, if_neg hi]
/-- one more address belongs to others -/
theorem EnvR.addF (E : EnvR K F B Γ σ H) {D : Addr} (hD : H D = none) (e : Ex H H') (hn : H' D ≠ none) : EnvR K (fun a => F a ∨ a = D) B Γ σ H' := by
  have cm : Ex (frz F Γ σ H) (cut (fun a => (F a ∨ a = D) ∨ mu Γ σ a) H') := fun a o q => by
    obtain ⟨h1, h2⟩ := cut_some q
    refine cut_of (fun z => ?_) (e a o h2)
    rcases z with (z | z) | z
    · exact h1 (.inl z)
    · rw [z, hD] at h2; cases h2
    · exact h1 (.inr z)
  refine ⟨E.len, E.base.tr e, E.low, fun a h z => ?_, fun a h => ?_, fun i d q => ?_, fun i d q => ?_, fun i d q => ?_, fun i n q => ?_, E.inj⟩
  · rcases z with z | z
    · exact E.out a h z
    · rw [z] at h; exact E.muIn h hD
  · rcases h with h | h
    · cases q : H a with
      | none => exact absurd q (E.fin a h)
      | some o => rw [e a o q]; simp
    · rw [h]; exact hn
  · obtain ⟨v, h1, h2⟩ := E.im i d q
    exact ⟨v, h1, h2.up cm⟩
  · obtain ⟨p, vs, h1, h2, h3⟩ := E.ac i d q
    exact ⟨p, vs, h1, e _ _ h2, h3.up cm⟩
  · obtain ⟨p, vs, h1, h2, h3⟩ := E.dc i d q
    exact ⟨p, vs, h1, e _ _ h2, h3.up cm⟩
  · obtain ⟨p, vs, h1, h2, h3⟩ := E.bx i n q
    exact ⟨p, vs, h1, e _ _ h2, h3⟩
end

/-! ### judgements -/
/-- a value that may be a list or a dict of ours -/
def RpC (K : Fg) (G H : Hp) (v : V) (d : PyData) : Prop := Rp K G v d ∨ (∃ p vs ds, v = .ref p ∧ d = .list ds ∧ H p = some (.lst vs) ∧ RpAll K G vs ds) ∨ ∃ p vs ds, v = .ref p ∧ d = .dict ds ∧ H p = some (.dK vs) ∧ RpKV K G vs ds
section
variable {K : Fg} {G G' H H' : Hp} {v : V}
theorem RpC.lst {ds : List PyData} (e : Ex G H) (h : RpC K G H v (.list ds)) : ∃ p vs, v = .ref p ∧ SqL K H p vs ∧ RpAll K G vs ds := by
  rcases h with h | ⟨p, vs, es, e1, e2, e3, e4⟩ | ⟨p, vs, es, e1, e2, _⟩
  · cases h with
    | lst h1 h2 => exact ⟨_, _, rfl, e.l h1, h2⟩
  · cases e2
    exact ⟨p, vs, e1, .inl (.inl e3), e4⟩
  · cases e2
theorem RpC.tup {ds : List PyData} (h : RpC K G H v (.tuple ds)) : ∃ p vs, v = .ref p ∧ TupF G p vs ∧ RpAll K G vs ds := by
  rcases h with h | ⟨p, vs, es, e1, e2, _⟩ | ⟨p, vs, es, e1, e2, _⟩
  · cases h with
    | tup h1 h2 => exact ⟨_, _, rfl, h1, h2⟩
  · cases e2
  · cases e2
theorem RpC.dic {ds : List (PyData × PyData)} (e : Ex G H) (h : RpC K G H v (.dict ds)) : ∃ p vs, v = .ref p ∧ Rd H p (.dK vs) ∧ RpKV K G vs ds := by
  rcases h with h | ⟨p, vs, es, e1, e2, _⟩ | ⟨p, vs, es, e1, e2, e3, e4⟩
  · cases h with
    | dic h1 h2 => exact ⟨_, _, rfl, e.rd h1.rd, h2⟩
  · cases e2
  · cases e2
    exact ⟨p, vs, e1, .inl e3, e4⟩
theorem nodic {d : PyData} (h : d.plain = true) : ∀ ds, d ≠ .dict ds := fun ds z => by rw [z] at h; cases h
theorem RpC.rp {d : PyData} (h : RpC K G H v d) (e : Ex G H) (nd : ∀ ds, d ≠ .dict ds := by intro _ z; cases z) : Rp K H v d := by
  rcases h with h | ⟨p, vs, es, rfl, rfl, e3, e4⟩ | ⟨p, vs, es, rfl, rfl, e3, e4⟩
  · exact h.up e
  · exact .lst (.inl (.inl e3)) (e4.up e)
  · exact absurd rfl (nd _)
theorem RpC.up {d : PyData} (h : RpC K G H v d) (e : Ex G G') (e' : Ex H H') : RpC K G' H' v d := by
  rcases h with h | ⟨p, vs, es, rfl, rfl, e3, e4⟩ | ⟨p, vs, es, rfl, rfl, e3, e4⟩
  · exact .inl (h.up e)
  · exact .inr (.inl ⟨p, vs, es, rfl, rfl, e' _ _ e3, e4.up e⟩)
  · exact .inr (.inr ⟨p, vs, es, rfl, rfl, e' _ _ e3, e4.up e⟩)
end

def EvG (K : Fg) (Γ : En) (te : TE) (d : PyData) : Prop := ∀ (F : Addr → Prop) (B : Hp) (σ : L2.St) (H : Hp), EnvR K F B Γ σ H → ∀ Q : VK, (∀ v H', Ex H H' → Rp K (frz F Γ σ H') v d → Q v H') → te σ H Q
def EvC (K : Fg) (Γ : En) (te : TE) (d : PyData) : Prop := ∀ (F : Addr → Prop) (B : Hp) (σ : L2.St) (H : Hp), EnvR K F B Γ σ H → ∀ Q : VK, (∀ v H', Ex H H' → RpC K (frz F Γ σ H') H' v d → Q v H') → te σ H Q
/-- a new list -/
def EvL (K : Fg) (Γ : En) (te : TE) (ds : List PyData) : Prop := ∀ (F : Addr → Prop) (B : Hp) (σ : L2.St) (H : Hp), EnvR K F B Γ σ H → ∀ Q : VK, (∀ p vs H', H p = none → Ex H H' → H' p = some (.lst vs) → RpAll K (cut (fun a => (F a ∨ a = p) ∨ mu Γ σ a) H') vs ds → Q (.ref p) H') → te σ H Q
def EtG (K : Fg) (Γ : En) (tt : TT) (b : Bool) : Prop := ∀ (F : Addr → Prop) (B : Hp) (σ : L2.St) (H : Hp), EnvR K F B Γ σ H → ∀ Q : Bool → Hp → Prop, (∀ H', Ex H H' → Q b H') → tt σ H Q
def EaG (K : Fg) (Γ : En) (ta : TA) (ds : List PyData) : Prop := ∀ (F : Addr → Prop) (B : Hp) (σ : L2.St) (H : Hp), EnvR K F B Γ σ H → ∀ Q : List V → Hp → Prop, (∀ vs H', Ex H H' → RpAll K (frz F Γ σ H') vs ds → Q vs H') → ta σ H Q
/-- a yielded value: data, or a new pair of data -/
def RpY (pr : Bool) (K : Fg) (G H : Hp) (v : V) (d : PyData) : Prop := match pr with
  | false => Rp K G v d
  | true => ∃ T v1 v2 d1 d2, v = .ref T ∧ d = .tuple [d1, d2] ∧ SqT K H T [v1, v2] ∧ Rp K G v1 d1 ∧ Rp K G v2 d2
/-- the walk yields ds, whatever happens to the rest of the heap -/
def Drv (pr : Bool) (K : Fg) (G : Hp) (J : It) (ds : List PyData) : Prop := ∀ (M : Addr → Prop) (H2 : Hp), Ex G (cut M H2) → J.stop ds.length H2 ∧ (∀ i, i < ds.length → J.go i H2) ∧ ∀ i d, ds[i]? = some d → ∀ x H3, J.yld i H2 x H3 → Ex H2 H3 ∧ RpY pr K (cut M H3) H3 x d
def ItG (pr : Bool) (K : Fg) (Γ : En) (wi : TI) (ds : List PyData) : Prop := ∀ (F : Addr → Prop) (B : Hp) (σ : L2.St) (H : Hp), EnvR K F B Γ σ H → ∀ R : It → Hp → Prop, (∀ J H1, Ex H H1 → Drv pr K (frz F Γ σ H1) J ds → R J H1) → wi σ H R
def TgG (pr : Bool) (K : Fg) (Γ : En) (g : TG) (d : PyData) (Γ' : En) (js : List Nat) : Prop := ∀ (F : Addr → Prop) (B : Hp) (σ : L2.St) (H : Hp) (v : V), EnvR K F B Γ σ H → RpY pr K (frz F Γ σ H) H v d → ∀ Q : L2.St → Hp → Prop,
  (∀ σ', EnvR K F B Γ' σ' H → mu Γ' σ' = mu Γ σ → σ'.length = σ.length → (∀ i, i ∉ js → σ'[i]? = σ[i]?) → Q σ' H) → g v σ H Q

section
variable {K : Fg} {Γ : En} {ta tb te tx : TE} {tt tu : TT} {d d' e : PyData} {ds es : List PyData} {a b : Bool}
theorem EvG.c (h : EvG K Γ te d) : EvC K Γ te d := fun F B σ H E Q q => h F B σ H E Q fun v H' e r => q v H' e (.inl r)
theorem EvG.cast (h : EvG K Γ te d) (e : d = d') : EvG K Γ te d' := e ▸ h
theorem EvC.cast (h : EvC K Γ te d) (e : d = d') : EvC K Γ te d' := e ▸ h
theorem EvL.cast (h : EvL K Γ te ds) (e : ds = es) : EvL K Γ te es := e ▸ h
theorem EtG.cast (h : EtG K Γ tt a) (e : a = b) : EtG K Γ tt b := e ▸ h
theorem EvL.g (h : EvL K Γ te ds) : EvG K Γ te (.list ds) := fun F B σ H E Q q => h F B σ H E Q fun p vs H' hp e hl r => by
  refine q _ H' e (.lst (.inl (.inl (cut_of (E.fresh hp) hl))) (r.up (cut_less fun a z => ?_)))
  rcases z with z | z
  · exact .inl (.inl z)
  · exact .inr z
theorem EvL.c (h : EvL K Γ te ds) : EvC K Γ te (.list ds) := h.g.c
theorem ev_var {i : Nat} (h : Γ[i]? = some (.im d)) : EvG K Γ (tVar i) d := fun F B σ H E Q q => by
  obtain ⟨v, h1, h2⟩ := E.im i d h
  exact ⟨v, h1, q v H (Ex.rfl' H) h2⟩
theorem ec_ac {i : Nat} (h : Γ[i]? = some (.ac ds)) : EvC K Γ (tVar i) (.list ds) := fun F B σ H E Q q => by
  obtain ⟨p, vs, h1, h2, h3⟩ := E.ac i ds h
  exact ⟨.ref p, h1, q _ H (Ex.rfl' H) (.inr (.inl ⟨p, vs, ds, rfl, rfl, h2, h3⟩))⟩
theorem ec_dc {i : Nat} {ds : List (PyData × PyData)} (h : Γ[i]? = some (.dc ds)) : EvC K Γ (tVar i) (.dict ds) := fun F B σ H E Q q => by
  obtain ⟨p, vs, h1, h2, h3⟩ := E.dc i ds h
  exact ⟨.ref p, h1, q _ H (Ex.rfl' H) (.inr (.inr ⟨p, vs, ds, rfl, rfl, h2, h3⟩))⟩
theorem ev_int {i : Int} : EvG K Γ (tC (.int i)) (.int i) := fun F B σ H E Q q => q _ H (Ex.rfl' H) (.int i)
theorem ev_str {i : Str} : EvG K Γ (tC (.str i)) (.str i) := fun F B σ H E Q q => q _ H (Ex.rfl' H) (.str i)
theorem ev_bl {i : Bool} : EvG K Γ (tC (.bl i)) (.bool i) := fun F B σ H E Q q => q _ H (Ex.rfl' H) (.bl i)
theorem ev_non : EvG K Γ (tC .non) .none := fun F B σ H E Q q => q _ H (Ex.rfl' H) .non
/-! tests -/
theorem et_test (h : EvG K Γ te (.bool b)) : EtG K Γ (tTest te) b := fun F B σ H E Q q => h F B σ H E _ fun v H' e r => ⟨b, r.blI, q H' e⟩
theorem et_B (h : EvG K Γ te (.bool b)) : EtG K Γ (tB te) b := fun F B σ H E Q q => h F B σ H E _ fun v H' e r => ⟨b, r.blI, q H' e⟩
theorem et_not (h : EtG K Γ tt b) : EtG K Γ (tNot tt) (!b) := fun F B σ H E Q q => h F B σ H E _ fun H' e => q H' e
theorem et_and (h : EtG K Γ tt a) (g : a = true → EtG K Γ tu b) : EtG K Γ (tAnd tt tu) (a && b) := fun F B σ H E Q q => h F B σ H E _ fun H' e => by
  cases a with
  | true =>
    rw [if_pos rfl]
    exact g rfl F B σ H' (E.ext e) Q fun H2 e2 => q H2 (e.tr e2)
  | false => exact q H' e
theorem et_or (h : EtG K Γ tt a) (g : a = false → EtG K Γ tu b) : EtG K Γ (tOr tt tu) (a || b) := fun F B σ H E Q q => h F B σ H E _ fun H' e => by
  cases a with
  | true => exact q H' e
  | false =>
    rw [if_neg Bool.false_ne_true]
    exact g rfl F B σ H' (E.ext e) Q fun H2 e2 => q H2 (e.tr e2)
theorem ev_and (h : EvG K Γ ta (.bool a)) (g : a = true → EvG K Γ tb (.bool b)) : EvG K Γ (tAndV ta tb) (.bool (a && b)) := fun F B σ H E Q q => h F B σ H E _ fun v H' e r => by
  refine ⟨a, r.blI, ?_⟩
  cases a with
  | true =>
    rw [if_pos rfl]
    exact g rfl F B σ H' (E.ext e) Q fun v H2 e2 r2 => q v H2 (e.tr e2) r2
  | false => exact q _ H' e (.bl false)
theorem ev_not (h : EvG K Γ ta (.bool a)) : EvG K Γ (tNotV ta) (.bool (!a)) := fun F B σ H E Q q => h F B σ H E _ fun v H' e r => ⟨a, r.blI, q _ H' e (.bl (!a))⟩
theorem ev_ifE (h : EtG K Γ tt a) (h1 : a = true → EvG K Γ ta d) (h2 : a = false → EvG K Γ tb d) : EvG K Γ (tIf tt ta tb) d := fun F B σ H E Q q => h F B σ H E _ fun H' e => by
  cases a with
  | true =>
    rw [if_pos rfl]
    exact h1 rfl F B σ H' (E.ext e) Q fun v H2 e2 r2 => q v H2 (e.tr e2) r2
  | false =>
    rw [if_neg Bool.false_ne_true]
    exact h2 rfl F B σ H' (E.ext e) Q fun v H2 e2 r2 => q v H2 (e.tr e2) r2
/-! lists of arguments, displays -/
theorem ea_nil : EaG K Γ tNil [] := fun F B σ H E Q q => q [] H (Ex.rfl' H) .nil
theorem ea_cons {tr : TA} (h : EvG K Γ ta d) (g : EaG K Γ tr ds) : EaG K Γ (tCons ta tr) (d :: ds) := fun F B σ H E Q q => h F B σ H E _ fun v H1 e1 r1 =>
  g F B σ H1 (E.ext e1) _ fun vs H2 e2 r2 => q _ H2 (e1.tr e2) (.cons (r1.up (cut_mono e2)) r2)
theorem ea_one (h : EvG K Γ ta d) : EaG K Γ (tCons ta tNil) [d] := ea_cons h ea_nil
theorem size5 {n : Nat} (h : n ≤ 100000) : n ≤ sizeLine := Nat.le_trans h (by decide)
theorem newT {F : Addr → Prop} {B : Hp} {σ : L2.St} {H H1 : Hp} {vs : List V} {Q : VK} (E : EnvR K F B Γ σ H1) (e : Ex H H1) (r : RpAll K (frz F Γ σ H1) vs ds) (q : ∀ v H', Ex H H' → Rp K (frz F Γ σ H') v (.tuple ds) → Q v H') : NewT vs H1 Q := fun p o hp ho =>
  q _ _ (e.tr (Ex.new hp)) (.tup ⟨o, cut_of (E.fresh hp) upd_same, ho⟩ (r.up (cut_mono (Ex.new hp))))
theorem ev_tup {t : TA} (h : EaG K Γ t ds) (hl : ds.length ≤ 100000 := by first | decide | simp) : EvG K Γ (tTupF t) (.tuple ds) := fun F B σ H E Q q => h F B σ H E _ fun vs H1 e1 r1 =>
  ⟨by rw [r1.len]; exact size5 hl, newT (E.ext e1) e1 r1 q⟩
theorem el_lst {t : TA} (h : EaG K Γ t ds) (hl : ds.length ≤ 100000 := by first | decide | simp) : EvL K Γ (tLst t) ds := fun F B σ H E Q q => h F B σ H E _ fun vs H1 e1 r1 =>
  ⟨by rw [r1.len]; exact size5 hl, fun p hp => q p vs _ (e1.free hp) (e1.tr (Ex.new hp)) upd_same (r1.up fun a o z => by
    obtain ⟨n, z⟩ := cut_some z
    refine cut_of (fun w => ?_) (Ex.new hp a o z)
    rcases w with (w | w) | w
    · exact n (.inl w)
    · rw [w, hp] at z; cases z
    · exact n (.inr w))⟩
/-! calls of ours -/
def SpD (K : Fg) (R : List PyData → PyData → Prop) : Sp := fun vs H Q _ => ∃ (F : Addr → Prop) (ds : List PyData) (d : PyData), (∀ a, F a → H a ≠ none) ∧ RpAll K (cut F H) vs ds ∧ R ds d ∧ ∀ v H', Ex H H' → Rp K (cut F H') v d → Q v H'
theorem ev_call {R : List PyData → PyData → Prop} {E' : XK} {t : TA} (h : EaG K Γ t ds) (r : R ds d) : EvG K Γ (tCall (SpD K R) [] E' t) d := fun F B σ H E Q q => h F B σ H E _ fun vs H1 e1 r1 => by
  refine ⟨fun a => F a ∨ mu Γ σ a, ds, d, fun a z => ?_, by rw [List.append_nil]; exact r1, r, fun v H2 e2 r2 => q v H2 (e1.tr e2) r2⟩
  have E1 := E.ext e1
  rcases z with z | z
  · exact E1.fin a z
  · exact E1.muIn z
/-! built-in calls -/
theorem ev_tupL (h : EvC K Γ te (.list ds)) : EvG K Γ (tCB (rTupF K) (tCons te tNil)) (.tuple ds) := fun F B σ H E Q q => h F B σ H E _ fun v H1 e1 r1 => by
  obtain ⟨p, vs, rfl, h1, h2⟩ := r1.lst cut_ex
  exact ⟨p, vs, rfl, .inl ⟨h1, newT (E.ext e1) e1 h2 q⟩⟩
theorem ev_tupT (h : EvC K Γ te (.tuple ds)) : EvG K Γ (tCB (rTupF K) (tCons te tNil)) (.tuple ds) := fun F B σ H E Q q => h F B σ H E _ fun v H1 e1 r1 => by
  obtain ⟨p, vs, rfl, h1, h2⟩ := r1.tup
  exact ⟨p, vs, rfl, .inr ⟨h1.up cut_ex, q _ H1 e1 (.tup h1 h2)⟩⟩
theorem newL {F : Addr → Prop} {B : Hp} {σ : L2.St} {H H1 : Hp} {vs : List V} {Q : VK} (E : EnvR K F B Γ σ H1) (e : Ex H H1) (r : RpAll K (frz F Γ σ H1) vs ds)
    (q : ∀ p vs H', H p = none → Ex H H' → H' p = some (.lst vs) → RpAll K (cut (fun a => (F a ∨ a = p) ∨ mu Γ σ a) H') vs ds → Q (.ref p) H') : ∀ l, H1 l = none → Q (.ref l) (upd H1 l (.lst vs)) := fun p hp =>
  q p vs _ (e.free hp) (e.tr (Ex.new hp)) upd_same (r.up fun a o z => by
    obtain ⟨n, z⟩ := cut_some z
    refine cut_of (fun w => ?_) (Ex.new hp a o z)
    rcases w with (w | w) | w
    · exact n (.inl w)
    · rw [w, hp] at z; cases z
    · exact n (.inr w))
theorem el_lstT (h : EvC K Γ te (.tuple ds)) : EvL K Γ (tCB (rLstF K) (tCons te tNil)) ds := fun F B σ H E Q q => h F B σ H E _ fun v H1 e1 r1 => by
  obtain ⟨p, vs, rfl, h1, h2⟩ := r1.tup
  exact ⟨p, vs, rfl, .inr (h1.up cut_ex).sq, newL (E.ext e1) e1 h2 q⟩
theorem el_lstL (h : EvC K Γ te (.list ds)) : EvL K Γ (tCB (rLstF K) (tCons te tNil)) ds := fun F B σ H E Q q => h F B σ H E _ fun v H1 e1 r1 => by
  obtain ⟨p, vs, rfl, h1, h2⟩ := r1.lst cut_ex
  exact ⟨p, vs, rfl, .inl h1, newL (E.ext e1) e1 h2 q⟩
abbrev rLen (K : Fg) : List V → Hp → VK → Prop := fun xs H Q => ∃ x n, xs = [x] ∧ LenV K x H n ∧ Q (.int n) H
theorem ev_lenT (h : EvC K Γ te (.tuple ds)) : EvG K Γ (tCB (rLen K) (tCons te tNil)) (.int ds.length) := fun F B σ H E Q q => h F B σ H E _ fun v H1 e1 r1 => by
  obtain ⟨p, vs, rfl, h1, h2⟩ := r1.tup
  exact ⟨_, ds.length, rfl, .inr ⟨vs, (h1.up cut_ex).sq, h2.len.symm⟩, q _ H1 e1 (.int _)⟩
theorem ev_lenL (h : EvC K Γ te (.list ds)) : EvG K Γ (tCB (rLen K) (tCons te tNil)) (.int ds.length) := fun F B σ H E Q q => h F B σ H E _ fun v H1 e1 r1 => by
  obtain ⟨p, vs, rfl, h1, h2⟩ := r1.lst cut_ex
  exact ⟨_, ds.length, rfl, .inl ⟨vs, h1, h2.len.symm⟩, q _ H1 e1 (.int _)⟩
theorem ev_lenS {x : Str} (h : EvG K Γ te (.str x)) (hx : x.length ≤ 100000) : EvG K Γ (tCB (rLen K) (tCons te tNil)) (.int x.length) := fun F B σ H E Q q => h F B σ H E _ fun v H1 e1 r1 => by
  cases r1
  exact ⟨_, x.length, rfl, ⟨size5 hx, rfl⟩, q _ H1 e1 (.int _)⟩
theorem ev_all {α : Type} {xs : List α} {f : α → Bool} (h : EvC K Γ te (.list (xs.map fun x => .bool (f x)))) : EvG K Γ (tCB (rAll K) (tCons te tNil)) (.bool (xs.all f)) := fun F B σ H E Q q => h F B σ H E _ fun v H1 e1 r1 => by
  obtain ⟨p, vs, rfl, h1, h2⟩ := r1.lst cut_ex
  have e : (xs.map fun x => PyData.bool (f x)) = (xs.map f).map .bool := by rw [List.map_map] <;> rfl
  rw [e] at h2
  rw [h2.bls] at h1
  refine ⟨p, xs.map f, rfl, h1, ?_⟩
  have e2 : (xs.map f).all id = xs.all f := by rw [List.all_map] <;> rfl
  rw [e2]
  exact q _ H1 e1 (.bl _)
theorem ev_any {α : Type} {xs : List α} {f : α → Bool} (h : EvC K Γ te (.list (xs.map fun x => .bool (f x)))) : EvG K Γ (tCB (rAny K) (tCons te tNil)) (.bool (xs.any f)) := fun F B σ H E Q q => h F B σ H E _ fun v H1 e1 r1 => by
  obtain ⟨p, vs, rfl, h1, h2⟩ := r1.lst cut_ex
  have e : (xs.map fun x => PyData.bool (f x)) = (xs.map f).map .bool := by rw [List.map_map] <;> rfl
  rw [e] at h2
  rw [h2.bls] at h1
  refine ⟨p, xs.map f, rfl, h1, ?_⟩
  have e2 : (xs.map f).any id = xs.any f := by rw [List.any_map] <;> rfl
  rw [e2]
  exact q _ H1 e1 (.bl _)
/-! operators -/
theorem ev_op {r : R2} (ha : EvC K Γ ta d) (hb : EvC K Γ tb e) (h : ∀ (F : Addr → Prop) (B : Hp) (σ : L2.St) (H : Hp) (x y : V), EnvR K F B Γ σ H → RpC K (frz F Γ σ H) H x d → RpC K (frz F Γ σ H) H y e → ∀ Q : VK, (∀ v H', Ex H H' → Rp K (frz F Γ σ H') v d' → Q v H') → r x y H Q) : EvG K Γ (tOp r ta tb) d' := fun F B σ H E Q q =>
  ha F B σ H E _ fun x H1 e1 r1 => hb F B σ H1 (E.ext e1) _ fun y H2 e2 r2 => h F B σ H2 x y ((E.ext e1).ext e2) (r1.up (cut_mono e2) e2) r2 Q fun v H3 e3 r3 => q v H3 ((e1.tr e2).tr e3) r3
theorem ev_eq (ha : EvC K Γ ta d) (hb : EvC K Γ tb e) (pd : d.plain = true) (pe : e.plain = true) (hd : d.depth ≤ 60) : EvG K Γ (tOp (rEqP K false) ta tb) (.bool (PyData.eqv d e)) := ev_op ha hb fun F B σ H x y E r1 r2 Q q =>
  ⟨d, e, r1.rp cut_ex (nodic pd), r2.rp cut_ex (nodic pe), pd, pe, hd, q _ H (Ex.rfl' H) (.bl _)⟩
theorem ev_ne (ha : EvC K Γ ta d) (hb : EvC K Γ tb e) (pd : d.plain = true) (pe : e.plain = true) (hd : d.depth ≤ 60) : EvG K Γ (tOp (rEqP K true) ta tb) (.bool (!PyData.eqv d e)) := ev_op ha hb fun F B σ H x y E r1 r2 Q q =>
  ⟨d, e, r1.rp cut_ex (nodic pd), r2.rp cut_ex (nodic pe), pd, pe, hd, q _ H (Ex.rfl' H) (.bl _)⟩
theorem ev_inT {neg : Bool} (ha : EvC K Γ ta d) (hb : EvC K Γ tb (.tuple es)) (pd : d.plain = true) (pe : PyData.plainAll es = true) (hd : d.depth ≤ 60) : EvG K Γ (tOp (rInP K neg) ta tb) (.bool (if neg then !es.any fun z => PyData.eqv z d else es.any fun z => PyData.eqv z d)) := ev_op ha hb fun F B σ H x y E r1 r2 Q q =>
  ⟨d, es, r1.rp cut_ex (nodic pd), .inl (r2.rp cut_ex), pd, pe, hd, q _ H (Ex.rfl' H) (.bl _)⟩
theorem ev_inL {neg : Bool} (ha : EvC K Γ ta d) (hb : EvC K Γ tb (.list es)) (pd : d.plain = true) (pe : PyData.plainAll es = true) (hd : d.depth ≤ 60) : EvG K Γ (tOp (rInP K neg) ta tb) (.bool (if neg then !es.any fun z => PyData.eqv z d else es.any fun z => PyData.eqv z d)) := ev_op ha hb fun F B σ H x y E r1 r2 Q q =>
  ⟨d, es, r1.rp cut_ex (nodic pd), .inr (r2.rp cut_ex), pd, pe, hd, q _ H (Ex.rfl' H) (.bl _)⟩
theorem ev_I0 {g : Int → Int → V} {i j : Int} {d : PyData} (ha : EvG K Γ ta (.int i)) (hb : EvG K Γ tb (.int j)) (hg : ∀ H, Rp K H (g i j) d) : EvG K Γ (tOp (rI0 g) ta tb) d := ev_op ha.c hb.c fun F B σ H x y E r1 r2 Q q => by
  have e1 := (r1.rp cut_ex).intI
  have e2 := (r2.rp cut_ex).intI
  exact ⟨i, j, e1, e2, q _ H (Ex.rfl' H) (hg _)⟩
theorem ev_I {C : Int → Int → Prop} {g : Int → Int → V} {i j : Int} {d : PyData} (ha : EvG K Γ ta (.int i)) (hb : EvG K Γ tb (.int j)) (hc : C i j) (hg : ∀ H, Rp K H (g i j) d) : EvG K Γ (tOp (rI C g) ta tb) d := ev_op ha.c hb.c fun F B σ H x y E r1 r2 Q q => by
  have e1 := (r1.rp cut_ex).intI
  have e2 := (r2.rp cut_ex).intI
  exact ⟨i, j, e1, e2, hc, q _ H (Ex.rfl' H) (hg _)⟩
/-- s < t of texts -/
abbrev rLtS : R2 := fun x y H Q => ∃ i j, x = .str i ∧ y = .str j ∧ Q (.bl (decide (i.cps.toList < j.cps.toList))) H
def strLt (x y : Str) : Bool := decide (x.cps.toList < y.cps.toList)
theorem ev_ltS {x y : Str} (ha : EvG K Γ ta (.str x)) (hb : EvG K Γ tb (.str y)) : EvG K Γ (tOp rLtS ta tb) (.bool (strLt x y)) := ev_op ha.c hb.c fun F B σ H x y E r1 r2 Q q =>
  ⟨_, _, (r1.rp cut_ex).strI, (r2.rp cut_ex).strI, q _ H (Ex.rfl' H) (.bl _)⟩
theorem ev_isN (ha : EvC K Γ ta d) (b : Bool) (hb : b = (match d with | .none => true | _ => false)) : EvG K Γ (tOp rIsN ta (tC .non)) (.bool b) := fun F B σ H E Q q => ha F B σ H E _ fun x H1 e1 r1 => by
  refine ⟨rfl, ?_⟩
  have : decide (x = .non) = b := by
    rcases r1 with r | ⟨p, vs, es, rfl, rfl, _⟩ | ⟨p, vs, es, rfl, rfl, _⟩
    · cases r <;> simp [hb]
    · simp [hb]
    · simp [hb]
  rw [this]
  exact q _ H1 e1 (.bl _)
theorem ev_notN (ha : EvC K Γ ta d) (b : Bool) (hb : b = (match d with | .none => false | _ => true)) : EvG K Γ (tOp rNotN ta (tC .non)) (.bool b) := fun F B σ H E Q q => ha F B σ H E _ fun x H1 e1 r1 => by
  refine ⟨rfl, ?_⟩
  have : (!decide (x = .non)) = b := by
    rcases r1 with r | ⟨p, vs, es, rfl, rfl, _⟩ | ⟨p, vs, es, rfl, rfl, _⟩
    · cases r <;> simp [hb]
    · simp [hb]
    · simp [hb]
  rw [this]
  exact q _ H1 e1 (.bl _)
theorem ev_notB (ha : EvG K Γ ta (.bool a)) (hb : EvG K Γ tb (.bool b)) : EvG K Γ (tOp rNotB ta tb) (.bool (!decide (a = b))) := ev_op ha.c hb.c fun F B σ H x y E r1 r2 Q q =>
  ⟨a, b, (r1.rp cut_ex).blI, (r2.rp cut_ex).blI, q _ H (Ex.rfl' H) (.bl _)⟩
/-- lo < x <= hi, the middle read once -/
theorem ev_chain {g g' : Int → Int → V} {i j k : Int} {tc : TE} (ha : EvG K Γ ta (.int i)) (hb : EvG K Γ tb (.int j)) (hc : EvG K Γ tc (.int k)) (hg : g i j = .bl a) (hg' : g' j k = .bl b) : EvG K Γ (tChain (rI0 g) (rI0 g') ta tb tc) (.bool (a && b)) := fun F B σ H E Q q =>
  ha F B σ H E _ fun x H1 e1 r1 => hb F B σ H1 (E.ext e1) _ fun y H2 e2 r2 => by
    cases r1
    cases r2
    refine ⟨i, j, rfl, rfl, a, hg, ?_⟩
    cases a with
    | false => exact q _ H2 (e1.tr e2) (.bl false)
    | true =>
      rw [if_pos rfl]
      refine hc F B σ H2 ((E.ext e1).ext e2) _ fun z H3 e3 r3 => ?_
      cases r3
      refine ⟨j, k, rfl, rfl, ?_⟩
      rw [hg']
      exact q _ H3 ((e1.tr e2).tr e3) (.bl b)
/-! subscripts, slices, sums of tuples -/
theorem RpAll.atI {H : Hp} {vs : List V} {i : Int} (r : RpAll K H vs ds) (h : atI ds i = some d) : ∃ v, L2.atI vs i = some v ∧ Rp K H v d := by
  unfold L2.atI at h ⊢
  rw [r.len]
  cases q : ixN ds.length i with
  | none => rw [q] at h; cases h
  | some j =>
    rw [q] at h
    exact r.get h
theorem ev_ixT {i : Int} (ha : EvC K Γ ta (.tuple ds)) (hb : EvG K Γ tb (.int i)) (h : atI ds i = some d) : EvG K Γ (tOp (rIx K) ta tb) d := ev_op ha hb.c fun F B σ H x y E r1 r2 Q q => by
  obtain ⟨p, vs, rfl, h1, h2⟩ := r1.tup
  obtain ⟨v, hv, rv⟩ := h2.atI h
  exact .inr (.inl ⟨p, vs, i, v, rfl, (r2.rp cut_ex).intI, (h1.up cut_ex).sq, hv, q _ H (Ex.rfl' H) rv⟩)
theorem ev_ixL {i : Int} (ha : EvC K Γ ta (.list ds)) (hb : EvG K Γ tb (.int i)) (h : atI ds i = some d) : EvG K Γ (tOp (rIx K) ta tb) d := ev_op ha hb.c fun F B σ H x y E r1 r2 Q q => by
  obtain ⟨p, vs, rfl, h1, h2⟩ := r1.lst cut_ex
  obtain ⟨v, hv, rv⟩ := h2.atI h
  exact .inl ⟨p, vs, i, v, rfl, (r2.rp cut_ex).intI, h1, hv, q _ H (Ex.rfl' H) rv⟩
theorem ev_ixS {i : Int} {x : Str} {c : Nat} (ha : EvG K Γ ta (.str x)) (hb : EvG K Γ tb (.int i)) (hx : x.length ≤ 100000) (h : atI x.cps.toList i = some c) : EvG K Γ (tOp (rIx K) ta tb) (.str ⟨#[c]⟩) := ev_op ha.c hb.c fun F B σ H x y E r1 r2 Q q =>
  .inr (.inr ⟨_, i, c, (r1.rp cut_ex).strI, (r2.rp cut_ex).intI, size5 hx, h, q _ H (Ex.rfl' H) (.str _)⟩)
def EoG (K : Fg) (Γ : En) (to : TO) (o : Option Int) : Prop := ∀ (F : Addr → Prop) (B : Hp) (σ : L2.St) (H : Hp), EnvR K F B Γ σ H → ∀ Q : Option Int → Hp → Prop, (∀ H', Ex H H' → Q o H') → to σ H Q
theorem eo_no : EoG K Γ tNoPart none := fun F B σ H E Q q => q H (Ex.rfl' H)
theorem eo_int {i : Int} (h : EvG K Γ te (.int i)) : EoG K Γ (tPart te) (some i) := fun F B σ H E Q q => h F B σ H E _ fun v H' e r => ⟨i, r.intI, q H' e⟩
def cutD (xs : List PyData) (lo hi : Option Int) : List PyData := (xs.drop (HT.sIx xs.length 0 lo)).take (HT.sIx xs.length xs.length hi - HT.sIx xs.length 0 lo)
theorem RpAll.cutD {H : Hp} {vs : List V} {lo hi : Option Int} (r : RpAll K H vs ds) : RpAll K H (cutV vs lo hi) (cutD ds lo hi) := by
  unfold cutV K97.cutD
  rw [r.len]
  exact (r.drop _).take _
theorem ev_slT {tl th : TO} {lo hi : Option Int} (ha : EvC K Γ ta (.tuple ds)) (hl : EoG K Γ tl lo) (hh : EoG K Γ th hi) : EvG K Γ (tSl (rSlF K) ta tl th) (.tuple (cutD ds lo hi)) := fun F B σ H E Q q =>
  ha F B σ H E _ fun x H1 e1 r1 => hl F B σ H1 (E.ext e1) _ fun H2 e2 => hh F B σ H2 ((E.ext e1).ext e2) _ fun H3 e3 => by
    obtain ⟨p, vs, rfl, h1, h2⟩ := r1.tup
    have e23 := e2.tr e3
    have hp : TupF (frz F Γ σ H3) p vs := h1.up (cut_mono e23)
    have hr := h2.up (cut_mono (M := fun a => F a ∨ mu Γ σ a) e23)
    refine ⟨p, vs, rfl, hp.up cut_ex, fun w => ?_, newT (((E.ext e1).ext e2).ext e3) (e1.tr e23) hr.cutD q⟩
    refine q _ H3 (e1.tr e23) (.tup hp ?_)
    have := hr.cutD (lo := lo) (hi := hi)
    rw [w] at this
    exact this
theorem catF {F : Addr → Prop} {B : Hp} {σ : L2.St} {H : Hp} {x y : V} {Q : VK} (E : EnvR K F B Γ σ H) (r1 : RpC K (frz F Γ σ H) H x (.tuple ds)) (r2 : RpC K (frz F Γ σ H) H y (.tuple es)) (hz : ds.length + es.length ≤ 100000)
    (q : ∀ v H', Ex H H' → Rp K (frz F Γ σ H') v (.tuple (ds ++ es)) → Q v H') : rCatF K x y H Q := by
  obtain ⟨p, vs, rfl, h1, h2⟩ := r1.tup
  obtain ⟨p', vs', rfl, h1', h2'⟩ := r2.tup
  refine ⟨p, p', vs, vs', rfl, rfl, h1.up cut_ex, h1'.up cut_ex, by rw [h2.len, h2'.len]; exact size5 hz, fun z => ?_, fun _ z => ?_, fun _ _ => newT E (Ex.rfl' H) (h2.app h2') q⟩
  · subst z
    cases h2
    exact q _ H (Ex.rfl' H) (.tup h1' h2')
  · subst z
    cases h2'
    rw [List.append_nil] at q
    exact q _ H (Ex.rfl' H) (.tup h1 h2)
theorem ev_cat (ha : EvC K Γ ta (.tuple ds)) (hb : EvC K Γ tb (.tuple es)) (hz : ds.length + es.length ≤ 100000) : EvG K Γ (tOp (rCatF K) ta tb) (.tuple (ds ++ es)) := ev_op ha hb fun F B σ H x y E r1 r2 Q q => catF E r1 r2 hz q
end
end K97
set_option Elab.async false
set_option linter.all false
set_option maxRecDepth 100000
set_option maxHeartbeats 4000000
/-! K97: walks, targets, comprehensions, dicts, isinstance. -/
namespace K97
open PySem L2
section
variable {K : Fg} {Γ Γ' : En} {ta tb te tx : TE} {tt tu : TT} {d d' e : PyData} {ds es : List PyData} {a b : Bool}

/-! ### walks -/
theorem drv_tup {G : Hp} {p : Addr} {vs : List V} (h : TupF G p vs) (r : RpAll K G vs ds) : Drv false K G (Itt K p) ds := fun M H2 e2 => by
  have hS : SqT K H2 p vs := ((h.up e2).up cut_ex).sq
  have hl := r.len
  refine ⟨⟨vs, hS, by omega⟩, fun i hi => ⟨vs, vs[i]'(by omega), hS, List.getElem?_eq_getElem (by omega)⟩, fun i d hd x H3 y => ?_⟩
  obtain ⟨rfl, y⟩ := y
  obtain ⟨v, hv, rv⟩ := r.get hd
  have e := y vs hS
  rw [hv] at e
  cases e
  exact ⟨Ex.rfl' _, rv.up e2⟩
theorem drv_lst {G : Hp} {p : Addr} {vs : List V} (h : SqL K G p vs) (r : RpAll K G vs ds) : Drv false K G (Itl K p) ds := fun M H2 e2 => by
  have hS : SqL K H2 p vs := Ex.l cut_ex (Ex.l e2 h)
  have hl := r.len
  refine ⟨⟨vs, hS, by omega⟩, fun i hi => ⟨vs, vs[i]'(by omega), hS, List.getElem?_eq_getElem (by omega)⟩, fun i d hd x H3 y => ?_⟩
  obtain ⟨rfl, y⟩ := y
  obtain ⟨v, hv, rv⟩ := r.get hd
  have e := y vs hS
  rw [hv] at e
  cases e
  exact ⟨Ex.rfl' _, rv.up e2⟩
theorem it_tup (h : EvG K Γ te (.tuple ds)) : ItG false K Γ (iTup K te) ds := fun F B σ H E R q => h F B σ H E _ fun v H1 e1 r1 => by
  cases r1 with
  | tup h1 h2 => exact ⟨_, rfl, ⟨_, (h1.up cut_ex).sq⟩, q _ H1 e1 (drv_tup h1 h2)⟩
theorem it_lst (h : EvG K Γ te (.list ds)) : ItG false K Γ (iList K te) ds := fun F B σ H E R q => h F B σ H E _ fun v H1 e1 r1 => by
  cases r1 with
  | lst h1 h2 => exact ⟨_, rfl, ⟨_, Ex.l cut_ex h1⟩, q _ H1 e1 (drv_lst h1 h2)⟩
theorem it_rng {t : TA} {n : Nat} (h : EaG K Γ t [.int n]) (hn : n ≤ 100000 := by decide) : ItG false K Γ (iRng1 t) ((List.range n).map fun (i : Nat) => PyData.int (i : Int)) := fun F B σ H E R q => h F B σ H E _ fun vs H1 e1 r1 => by
  cases r1 with
  | cons r r' =>
    cases r'
    cases r
    refine ⟨n, rfl, by omega, by omega, q _ H1 e1 fun M H2 e2 => ?_⟩
    have hl : ((List.range n).map fun i : Nat => PyData.int (i : Int)).length = n := by rw [List.length_map, List.length_range]
    refine ⟨?_, fun i hi => ?_, fun i d hd x H3 y => ?_⟩
    · show (n : Int).toNat ≤ _
      rw [hl]; omega
    · show i < (n : Int).toNat
      rw [hl] at hi; omega
    · obtain ⟨rfl, rfl⟩ := y
      refine ⟨Ex.rfl' _, ?_⟩
      rw [List.getElem?_map] at hd
      cases q' : (List.range n)[i]? with
      | none => rw [q'] at hd; cases hd
      | some j =>
        rw [q'] at hd
        cases hd
        have hi := (List.getElem?_eq_some_iff.mp q')
        obtain ⟨hi, e⟩ := hi
        rw [List.getElem_range] at e
        subst e
        have z : (0 : Int) + (i : Int) = (i : Int) := Int.zero_add _
        rw [z]
        exact .int _
theorem it_str {x : Str} (h : EvG K Γ te (.str x)) : ItG false K Γ (iStr te) (x.cps.toList.map fun c => .str ⟨#[c]⟩) := fun F B σ H E R q => h F B σ H E _ fun v H1 e1 r1 => by
  cases r1
  refine ⟨x, rfl, q _ H1 e1 fun M H2 e2 => ⟨?_, fun i hi => ?_, fun i d hd y H3 z => ?_⟩⟩
  · show x.cps.size ≤ _
    simp
  · show i < x.cps.size
    simpa using hi
  · obtain ⟨rfl, c, hc, rfl⟩ := z
    refine ⟨Ex.rfl' _, ?_⟩
    rw [List.getElem?_map, Array.getElem?_toList, hc] at hd
    cases hd
    exact .str _
theorem it_zipT {t : TA} (h : EaG K Γ t [.tuple ds, .tuple es]) : ItG true K Γ (RZ.iZipA K t) ((ds.zip es).map fun p => .tuple [p.1, p.2]) := fun F B σ H E R q => h F B σ H E _ fun vs H1 e1 r1 => by
  cases r1 with
  | cons r r' =>
    cases r' with
    | cons r2 r3 =>
      cases r3
      cases r with
      | tup h1 h2 =>
        cases r2 with
        | tup h3 h4 =>
          refine ⟨_, _, _, _, rfl, .inr ⟨(h1.up cut_ex).sq, (h3.up cut_ex).sq, q _ H1 e1 fun M H2 e2 => ?_⟩⟩
          have s1 := ((h1.up e2).up cut_ex).sq (K := K)
          have s2 := ((h3.up e2).up cut_ex).sq (K := K)
          have l1 := h2.len
          have l2 := h4.len
          refine ⟨⟨_, _, s1, s2, ?_⟩, fun i hi => ?_, fun i d hd x H3 y => ?_⟩
          · rw [List.length_map, List.length_zip]; omega
          · rw [List.length_map, List.length_zip] at hi
            exact ⟨_, _, _, _, s1, s2, List.getElem?_eq_getElem (by omega), List.getElem?_eq_getElem (by omega)⟩
          · obtain ⟨T, x1, x2, rfl, hT, rfl, y1, y2⟩ := y
            have g1 := y1 _ s1
            have g2 := y2 _ s2
            obtain ⟨d1, hd1, rd1⟩ := h2.getV g1
            obtain ⟨d2, hd2, rd2⟩ := h4.getV g2
            have ez : (ds.zip es)[i]? = some (d1, d2) := by
              rw [List.getElem?_zip_eq_some]
              exact ⟨hd1, hd2⟩
            rw [List.getElem?_map, ez] at hd
            cases hd
            have eT := Ex.new (o := .tup [x1, x2]) hT
            exact ⟨eT, T, x1, x2, d1, d2, rfl, rfl, .inl (.inl upd_same), (rd1.up e2).up (cut_mono eT), (rd2.up e2).up (cut_mono eT)⟩
theorem ItG.cast {pr : Bool} {wi : TI} (h : ItG pr K Γ wi ds) (e : ds = es) : ItG pr K Γ wi es := e ▸ h

/-! ### targets -/
theorem tg_name {j : Nat} {e : Ent} (h : Γ[j]? = some e) (he : e.mut = false) : TgG false K Γ (gName j) d (Γ.set j (.im d)) [j] := fun F B σ H v E r Q q => by
  refine q _ (E.put h he rfl fun d' z => ⟨v, rfl, ?_⟩) (mu_set h he rfl) (List.length_set ..) fun i hi => ?_
  · cases z
    exact r
  · rw [List.getElem?_set_ne]
    intro z
    exact hi (by simp [z])
theorem tg_pair {pr : Bool} {j k : Nat} {e f : Ent} {d1 d2 : PyData} (hj : Γ[j]? = some e) (hk : Γ[k]? = some f) (he : e.mut = false) (hf : f.mut = false) (hjk : j ≠ k := by decide) :
    TgG pr K Γ (gTup K 2 (gCons (gName j) (gCons (gName k) gNil))) (.tuple [d1, d2]) ((Γ.set j (.im d1)).set k (.im d2)) [j, k] := fun F B σ H v E r Q q => by
  have go : ∃ T v1 v2, v = .ref T ∧ SqT K H T [v1, v2] ∧ Rp K (frz F Γ σ H) v1 d1 ∧ Rp K (frz F Γ σ H) v2 d2 := by
    cases pr with
    | true =>
      obtain ⟨T, v1, v2, e1, e2, rfl, hd, h1, h2, h3⟩ := r
      cases hd
      exact ⟨T, v1, v2, rfl, h1, h2, h3⟩
    | false =>
      have r : Rp K (frz F Γ σ H) v (.tuple [d1, d2]) := r
      cases r with
      | tup h1 h2 =>
        cases h2 with
        | cons r1 h2 =>
          cases h2 with
          | cons r2 h2 =>
            cases h2
            exact ⟨_, _, _, rfl, (h1.up cut_ex).sq, r1, r2⟩
  obtain ⟨T, v1, v2, rfl, hT, r1, r2⟩ := go
  refine ⟨T, _, rfl, hT, rfl, v1, _, rfl, v2, _, rfl, rfl, ?_⟩
  have E1 := E.put (x := some v1) hj he (e' := .im d1) rfl fun d' z => ⟨v1, rfl, by cases z; exact r1⟩
  have m1 := mu_set (σ := σ) (x := some v1) (e' := .im d1) hj he rfl
  have hk' : (Γ.set j (.im d1))[k]? = some f := by rw [List.getElem?_set_ne hjk]; exact hk
  have E2 := E1.put (x := some v2) hk' hf (e' := .im d2) rfl fun d' z => ⟨v2, rfl, by
    cases z
    show Rp K (cut _ H) v2 d2
    rw [m1]; exact r2⟩
  have m2 := mu_set (σ := σ.set j (some v1)) (x := some v2) (e' := .im d2) hk' hf rfl
  refine q _ E2 (m2.trans m1) (by rw [List.length_set, List.length_set]) fun i hi => ?_
  rw [List.getElem?_set_ne, List.getElem?_set_ne]
  · intro z; exact hi (by simp [z])
  · intro z; exact hi (by simp [z])

/-! ### a list comprehension -/
theorem el_lc {pr : Bool} {α : Type} {wi : TI} {g : TG} {vs js : List Nat} (enc : α → PyData) (xs : List α) {p : α → Bool} {f : α → PyData} {Γ2 : α → En} (hi : ItG pr K Γ wi (xs.map enc)) (hv : NoMut Γ vs) (hj : ∀ j ∈ js, j ∈ vs)
    (hg : ∀ x ∈ xs, TgG pr K (wipeE Γ vs) g (enc x) (Γ2 x) js) (ht : ∀ x ∈ xs, EtG K (Γ2 x) tt (p x)) (he : ∀ x ∈ xs, p x = true → EvG K (Γ2 x) te (f x)) (hz : xs.length ≤ 100000) : EvL K Γ (tLc wi g tt te vs) ((xs.filter p).map f) :=
  fun F B σ H E Q q => hi F B σ H E _ fun J H1 e1 dr D hD => by
    have E1 := E.ext e1
    have nD : ¬ mu Γ σ D := fun z => E1.muIn z hD
    have hxl : (xs.map enc).length = xs.length := List.length_map ..
    have grow : ∀ {H' : Hp}, Ex H1 H' → Ex (frz F Γ σ H1) (cut (fun a => (F a ∨ a = D) ∨ mu Γ σ a) H') := fun e a o z => by
      obtain ⟨n, z⟩ := cut_some z
      refine cut_of (fun w => ?_) (e a o z)
      rcases w with (w | w) | w
      · exact n (.inl w)
      · rw [w, hD] at z; cases z
      · exact n (.inr w)
    refine ⟨fun i m H' => m = xs.length - i ∧ i ≤ xs.length ∧ Ex H1 H' ∧ ∃ ws, H' D = some (.lst ws) ∧ RpAll K (cut (fun a => (F a ∨ a = D) ∨ mu Γ σ a) H') ws (((xs.take i).filter p).map f), ⟨xs.length, by simp, Nat.zero_le _, Ex.new hD, [], upd_same, .nil⟩, ?_⟩
    rintro i m H' ⟨rfl, hil, ex, ws, hws, rws⟩
    obtain ⟨d1, d2, d3⟩ := dr _ H' (grow ex)
    rw [hxl] at d1 d2
    by_cases hlt : i < xs.length
    · refine .inr ⟨d2 i hlt, fun H'' => Ex H1 H'' ∧ ∃ ws, H'' D = some (.lst ws) ∧ RpAll K (cut (fun a => (F a ∨ a = D) ∨ mu Γ σ a) H'') ws (((xs.take (i + 1)).filter p).map f), fun H'' ⟨n1, n2⟩ => ⟨xs.length - (i + 1), by omega, rfl, hlt, n1, n2⟩, fun x0 H3 hy => ?_⟩
      have hx : xs[i] ∈ xs := List.getElem_mem hlt
      obtain ⟨e3, ry⟩ := d3 i (enc xs[i]) (by simp [hlt]) x0 H3 hy
      have E2 : EnvR K (fun a => F a ∨ a = D) B Γ σ H3 := E1.addF hD (ex.tr e3) (by rw [e3 _ _ hws]; simp)
      obtain ⟨E3, m3⟩ := E2.wipe hv
      have htk : (xs.take (i + 1)).filter p = (xs.take i).filter p ++ if p xs[i] = true then [xs[i]] else [] := by
        rw [List.take_succ_eq_append_getElem hlt, List.filter_append]
        congr 1
        cases hp : p xs[i] with
        | true => rw [List.filter_cons_of_pos hp, if_pos rfl] <;> rfl
        | false => rw [List.filter_cons_of_neg (by rw [hp]; exact Bool.false_ne_true), if_neg Bool.false_ne_true] <;> rfl
      refine hg _ hx _ B _ H3 x0 E3 (by rw [frz, m3]; exact ry) _ fun σ2 E4 m4 hl2 ho2 => ⟨wipe_same hl2 hj ho2, ?_⟩
      have m5 : mu (Γ2 xs[i]) σ2 = mu Γ σ := m4.trans m3
      refine ht _ hx _ B σ2 H3 E4 _ fun H4 e4 => ?_
      cases hp : p xs[i] with
      | false =>
        rw [if_neg Bool.false_ne_true]
        refine ⟨(ex.tr e3).tr e4, ws, e4 _ _ (e3 _ _ hws), ?_⟩
        rw [htk, if_neg (by rw [hp]; exact Bool.false_ne_true), List.append_nil]
        exact rws.up (cut_mono (e3.tr e4))
      | true =>
        rw [if_pos rfl]
        refine he _ hx hp _ B σ2 H4 (E4.ext e4) _ fun y H5 e5 r5 => ⟨ws, e5 _ _ (e4 _ _ (e3 _ _ hws)), ?_, ?_, _, upd_same, ?_⟩
        · rw [rws.len, List.length_map]
          refine Nat.lt_of_lt_of_le ?_ (show 100001 ≤ sizeLine by decide)
          have := List.length_filter_le p (xs.take i)
          have := List.length_take_le i xs
          omega
        · intro a o z
          rw [upd_ne (ne_of_none z hD)]
          exact e5 _ _ (e4 _ _ (e3 _ _ (ex a o z)))
        · rw [frz, m5] at r5
          have ck : Ex (cut (fun a => (F a ∨ a = D) ∨ mu Γ σ a) H5) (cut (fun a => (F a ∨ a = D) ∨ mu Γ σ a) (upd H5 D (.lst (ws ++ [y])))) := cut_keep fun a o n z => by
            rw [upd_ne fun w => n (.inl (.inr w))]
            exact z
          rw [htk, if_pos hp, List.map_append]
          exact ((rws.up (cut_mono ((e3.tr e4).tr e5))).up ck).app (.one (r5.up ck))
    · have hie : i = xs.length := by omega
      subst hie
      refine .inl ⟨d1, ?_⟩
      rw [List.take_length] at rws
      exact q D ws H' (e1.free hD) (e1.tr ex) hws rws
theorem et_yes : EtG K Γ tYes true := fun F B σ H E Q q => q H (Ex.rfl' H)
theorem filt_all {α : Type} : ∀ xs : List α, xs.filter (fun _ => true) = xs
  | [] => rfl
  | x :: xs => by rw [List.filter_cons_of_pos rfl, filt_all xs]
/-- without a test -/
theorem el_lm {pr : Bool} {α : Type} {wi : TI} {g : TG} {vs js : List Nat} (enc : α → PyData) (xs : List α) {f : α → PyData} {Γ2 : α → En} (hi : ItG pr K Γ wi (xs.map enc)) (hv : NoMut Γ vs) (hj : ∀ j ∈ js, j ∈ vs)
    (hg : ∀ x ∈ xs, TgG pr K (wipeE Γ vs) g (enc x) (Γ2 x) js) (he : ∀ x ∈ xs, EvG K (Γ2 x) te (f x)) (hz : xs.length ≤ 100000) : EvL K Γ (tLc wi g tYes te vs) (xs.map f) := by
  have h := el_lc (p := fun _ => true) (f := f) (te := te) enc xs hi hv hj hg (fun _ _ => et_yes) (fun x hx _ => he x hx) hz
  rw [filt_all] at h
  exact h

/-! ### dicts -/
def keyOfD : PyData → Option Key
  | .int i => some (.inl i)
  | .str s => some (.inr s)
  | _ => none
theorem keyOfD_kD (k : Key) : keyOfD (kD k) = some k := by cases k <;> rfl
/-- what a dict's data has at a key -/
def lk (kvs : List (PyData × PyData)) (k : Key) : Option PyData := (kvs.find? fun p => decide (keyOfD p.1 = some k)).map (·.2)
theorem RpKV.val {G : Hp} : ∀ {vs : List (Key × V)} {ds : List (PyData × PyData)} (k : Key), RpKV K G vs ds → (lk ds k = none ∧ valV vs k = none) ∨ ∃ d v, lk ds k = some d ∧ valV vs k = some v ∧ Rp K G v d
  | [], _, k, h => by cases h; exact .inl ⟨rfl, rfl⟩
  | (k', v) :: vs, _, k, h => by
    cases h with
    | cons h1 h2 =>
      by_cases hk : k' = k
      · subst hk
        refine .inr ⟨_, v, ?_, valV_pos rfl, h1⟩
        simp [lk, List.find?_cons, keyOfD_kD]
      · have hk2 : ¬ (keyOfD (kD k') = some k) := by rw [keyOfD_kD]; exact fun z => hk (Option.some.inj z)
        rcases RpKV.val k h2 with ⟨q1, q2⟩ | ⟨d, w, q1, q2, q3⟩
        · refine .inl ⟨?_, by rw [valV_neg hk]; exact q2⟩
          simpa [lk, List.find?_cons, hk2] using q1
        · refine .inr ⟨d, w, ?_, by rw [valV_neg hk]; exact q2, q3⟩
          simpa [lk, List.find?_cons, hk2] using q1
theorem kV_of {G : Hp} {v : V} {k : Key} (h : Rp K G v (kD k)) : v = kV k := by
  cases k with
  | inl i => exact h.intI
  | inr s => exact h.strI
theorem dget_of {G H : Hp} {p : Addr} {vs : List (Key × V)} {k : Key} (h : Rd H p (.dK vs)) : DGet H p (kV k) (valV vs k) := .inl ⟨vs, k, h, rfl, rfl⟩
theorem ev_dget {ds : List (PyData × PyData)} {k : Key} (ha : EvC K Γ ta (.dict ds)) (hb : EvG K Γ tb (kD k)) (h : lk ds k = some d) : EvG K Γ (tDGet ta tb) d := fun F B σ H E Q q =>
  ha F B σ H E _ fun x H1 e1 r1 => hb F B σ H1 (E.ext e1) _ fun y H2 e2 r2 => by
    obtain ⟨p, vs, rfl, h1, h2⟩ := (r1.up (cut_mono e2) e2).dic cut_ex
    rcases RpKV.val k h2 with ⟨q1, _⟩ | ⟨d', w, q1, q2, q3⟩
    · rw [h] at q1; cases q1
    · rw [h] at q1; cases q1
      refine ⟨p, w, rfl, ?_, q w H2 (e1.tr e2) q3⟩
      rw [kV_of r2, ← q2]
      exact .inl ⟨vs, k, h1, rfl, rfl⟩
theorem lk_some {G : Hp} {vs : List (Key × V)} {ds : List (PyData × PyData)} {k : Key} (h : RpKV K G vs ds) : (valV vs k).isSome = (lk ds k).isSome := by
  rcases RpKV.val k h with ⟨q1, q2⟩ | ⟨d, w, q1, q2, _⟩
  · rw [q1, q2] <;> rfl
  · rw [q1, q2] <;> rfl
theorem ev_din {ds : List (PyData × PyData)} {k : Key} (hb : EvG K Γ tb (kD k)) (ha : EvC K Γ ta (.dict ds)) : EvG K Γ (tDIn tb ta) (.bool (lk ds k).isSome) := fun F B σ H E Q q =>
  hb F B σ H E _ fun y H1 e1 r1 => ha F B σ H1 (E.ext e1) _ fun x H2 e2 r2 => by
    obtain ⟨p, vs, rfl, h1, h2⟩ := r2.dic cut_ex
    refine ⟨p, valV vs k, rfl, ?_, ?_⟩
    · rw [kV_of r1]
      exact .inl ⟨vs, k, h1, rfl, rfl⟩
    · rw [lk_some h2]
      exact q _ H2 (e1.tr e2) (.bl _)
theorem ev_dget1 {ds : List (PyData × PyData)} {k : Key} (ha : EvC K Γ ta (.dict ds)) (hb : EvG K Γ tb (kD k)) : EvG K Γ (tDGet1 ta tb) ((lk ds k).getD .none) := fun F B σ H E Q q =>
  ha F B σ H E _ fun x H1 e1 r1 => by
    obtain ⟨p, vs, rfl, h1, h2⟩ := r1.dic cut_ex
    refine ⟨p, rfl, .inl ⟨vs, h1⟩, hb F B σ H1 (E.ext e1) _ fun y H2 e2 r2 => ⟨valV vs k, ?_, ?_⟩⟩
    · rw [kV_of r2]
      exact .inl ⟨vs, k, e2.rd h1, rfl, rfl⟩
    · rcases RpKV.val k h2 with ⟨q1, q2⟩ | ⟨d', w, q1, q2, q3⟩
      · rw [q1] at q
        rw [q2]
        exact q _ H2 (e1.tr e2) .non
      · rw [q1] at q
        rw [q2]
        exact q _ H2 (e1.tr e2) (q3.up (cut_mono e2))
/-- dict(t) of pairs with unlike texts as keys -/
theorem pairs_pd {G H : Hp} {α : Type} {key : α → Str} {val : α → PyData} (eg : Ex G H) : ∀ {vs : List V} {xs : List α}, RpAll K G vs (xs.map fun x => .tuple [.str (key x), val x]) →
    ∃ kvs : List (Key × V), Paired (fun x (kv : Key × V) => ∃ p, x = .ref p ∧ SqT K H p [kV kv.1, kv.2]) vs kvs ∧ RpKV K G kvs (xs.map fun x => (.str (key x), val x)) ∧ kvs.map (·.1) = xs.map fun x => .inr (key x)
  | _, [], h => by cases h; exact ⟨[], .nil, .nil, rfl⟩
  | _, x :: xs, h => by
    have h : RpAll K G _ (.tuple [.str (key x), val x] :: xs.map fun x => .tuple [.str (key x), val x]) := h
    cases h with
    | cons h1 h2 =>
      obtain ⟨kvs, q1, q2, q3⟩ := pairs_pd (key := key) (val := val) eg h2
      cases h1 with
      | tup t1 t2 =>
        cases t2 with
        | cons r1 t2 =>
          cases t2 with
          | cons r2 t2 =>
            cases t2
            cases r1
            exact ⟨(.inr (key x), _) :: kvs, .cons ⟨_, rfl, (t1.up eg).sq⟩ q1, .cons (k := .inr (key x)) r2 q2, by rw [List.map_cons, List.map_cons, q3]⟩
theorem mergeK_nodup : ∀ (more kvs : List (Key × V)), (kvs.map (·.1) ++ more.map (·.1)).Nodup → mergeK kvs more = kvs ++ more
  | [], kvs, _ => by simp [mergeK]
  | (k, v) :: more, kvs, h => by
    have hn : valV kvs k = none := by
      have hk : k ∉ kvs.map (·.1) := fun z => by
        have := List.nodup_append.mp h
        exact this.2.2 k z k (by simp) rfl
      unfold valV
      rw [List.find?_eq_none.mpr]
      · rfl
      · intro x hx
        simp only [decide_eq_true_eq]
        exact fun z => hk (List.mem_map.mpr ⟨x, hx, z⟩)
    show mergeK (putK kvs k v) more = _
    rw [putK_new v hn, mergeK_nodup more (kvs ++ [(k, v)])]
    · simp
    · simpa using h
theorem ev_dict {α : Type} {key : α → Str} {val : α → PyData} {xs : List α} (ha : EvC K Γ ta (.tuple (xs.map fun x => .tuple [.str (key x), val x]))) (hn : (xs.map key).Nodup) : EvG K Γ (tCB (rDicZ K) (tCons ta tNil)) (.dict (xs.map fun x => (.str (key x), val x))) := fun F B σ H E Q q =>
  ha F B σ H E _ fun x H1 e1 r1 => by
    obtain ⟨p, vs, rfl, h1, h2⟩ := r1.tup
    obtain ⟨kvs, q1, q2, q3⟩ := pairs_pd (H := H1) cut_ex h2
    refine ⟨p, vs, kvs, rfl, h1.up cut_ex, q1, fun l hl => ?_⟩
    rw [mergeK_nodup kvs [], List.nil_append]
    · refine ⟨l, .dK kvs, rfl, upd_same, trivial, fun od => ?_⟩
      rw [show upd (upd H1 l (.dK kvs)) l (.frz od (.dK kvs)) = upd H1 l (.frz od (.dK kvs)) from upd_upd]
      exact q _ _ (e1.tr (Ex.new hl)) (.dic ⟨od, cut_of ((E.ext e1).fresh hl) upd_same⟩ (q2.up (cut_mono (Ex.new hl))))
    · rw [List.map_nil, List.nil_append, q3]
      have e : (xs.map fun x => (Sum.inr (key x) : Key)) = (xs.map key).map Sum.inr := by rw [List.map_map] <;> rfl
      rw [e]
      exact List.Pairwise.map _ (fun a b h z => h (Sum.inr.inj z)) hn
end
end K97
set_option Elab.async false
set_option linter.all false
set_option maxRecDepth 100000
set_option maxHeartbeats 4000000
/-! K97: statements, defs. -/
namespace K97
open PySem L2
section
variable {K : Fg} {Γ Γ' : En} {ta tb te tx : TE} {tt tu : TT} {d d' e : PyData} {ds es : List PyData} {a b : Bool} {ts tu' : TS} {N N1 : En → Prop} {R : PyData → En → Prop}

/-- where the boxes stand -/
def bxm (Γ : En) : Addr → Prop := fun a => ∃ (i : Nat) (b : Addr × Int × Int × Int), Γ[i]? = some (.bx b) ∧ a = b.1
theorem EnvR.bxmu {F : Addr → Prop} {B H : Hp} {σ : L2.St} (E : EnvR K F B Γ σ H) {a : Addr} (h : bxm Γ a) : mu Γ σ a := by
  obtain ⟨i, b, h1, rfl⟩ := h
  obtain ⟨p, vs, s1, s2, s3, _⟩ := E.bx i b h1
  subst s3
  exact ⟨i, _, h1, rfl, s1⟩
theorem EnvR.less1 {F : Addr → Prop} {B H : Hp} {σ : L2.St} (E : EnvR K F B Γ σ H) : Ex (frz F Γ σ H) (cut (fun a => F a ∨ bxm Γ a) H) := cut_less fun a z => z.elim .inl fun z => .inr (E.bxmu z)
/-- a statement: N the environments behind it, R what it may return -/
def StG (K : Fg) (Γ : En) (ts : TS) (N : En → Prop) (R : PyData → En → Prop) : Prop := ∀ (F : Addr → Prop) (B : Hp) (D : Ends) (σ : L2.St) (H : Hp), EnvR K F B Γ σ H →
  (∀ Γ' σ' H', N Γ' → EnvR K F B Γ' σ' H' → Ex (frz F Γ σ H) (frz F Γ' σ' H') → D.nx σ' H') →
  (∀ d Γ' σ' v H', R d Γ' → EnvR K F B Γ' σ' H' → Ex (frz F Γ σ H) (frz F Γ' σ' H') → Rp K (cut (fun a => F a ∨ bxm Γ' a) H') v d → D.rt v H') → ts D σ H

theorem sg_seq (h : StG K Γ ts N1 R) (g : ∀ Γ1, N1 Γ1 → StG K Γ1 tu' N R) : StG K Γ (tSeq ts tu') N R := fun F B D σ H E n r => h F B { D with nx := tu' D } σ H E
  (fun Γ1 σ1 H1 n1 E1 x1 => g Γ1 n1 F B D σ1 H1 E1 (fun Γ2 σ2 H2 n2 E2 x2 => n Γ2 σ2 H2 n2 E2 (x1.tr x2)) fun d Γ2 σ2 v H2 r2 E2 x2 => r d Γ2 σ2 v H2 r2 E2 (x1.tr x2)) r
/-- .. where one environment stands between -/
theorem sg_then (h : StG K Γ ts (fun Γ' => Γ' = Γ1) R) (g : StG K Γ1 tu' N R) : StG K Γ (tSeq ts tu') N R := sg_seq h fun Γ' e => by rw [e]; exact g
theorem StG.mono {N' : En → Prop} {R' : PyData → En → Prop} (h : StG K Γ ts N R) (hn : ∀ Γ, N Γ → N' Γ) (hr : ∀ d Γ, R d Γ → R' d Γ) : StG K Γ ts N' R' := fun F B D σ H E n r => h F B D σ H E (fun Γ' σ' H' q => n Γ' σ' H' (hn _ q)) fun d Γ' σ' v H' q => r d Γ' σ' v H' (hr _ _ q)
theorem sg_next (h : N Γ) : StG K Γ tNext N R := fun F B D σ H E n r => n Γ σ H h E (Ex.rfl' _)
theorem frz_ext {F : Addr → Prop} {σ : L2.St} {H H' : Hp} (e : Ex H H') : Ex (frz F Γ σ H) (frz F Γ σ H') := cut_mono e
theorem sg_ret (h : EvG K Γ te d) (hr : R d Γ) : StG K Γ (tRet te) N R := fun F B D σ H E n r => h F B σ H E _ fun v H' e rv => r d Γ σ v H' hr (E.ext e) (frz_ext e) (rv.up (E.ext e).less1)
/-- a list, a dict of ours is handed back -/
theorem sg_retA {i : Nat} (h : Γ[i]? = some (.ac ds)) (hr : R (.list ds) Γ) : StG K Γ (tRet (tVar i)) N R := fun F B D σ H E n r => by
  obtain ⟨p, vs, h1, h2, h3⟩ := E.ac i ds h
  have np : ¬ (F p ∨ bxm Γ p) := fun z => z.elim (E.out p ⟨i, _, h, rfl, h1⟩) fun ⟨k, b, k1, k2⟩ => by
    obtain ⟨p', vs', s1, s2, s3, _⟩ := E.bx k b k1
    have := E.inj i k _ _ p h k1 rfl rfl h1 (by rw [s1, s3, k2])
    subst this
    rw [h] at k1
    cases k1
  exact ⟨.ref p, h1, r _ Γ σ _ H hr E (Ex.rfl' _) (.lst (.inl (.inl (cut_of np h2))) (h3.up E.less1))⟩
theorem sg_if (h : EtG K Γ tt a) (h1 : a = true → StG K Γ ts N R) (h2 : a = false → StG K Γ tu' N R) : StG K Γ (tIfS tt ts tu') N R := fun F B D σ H E n r => h F B σ H E _ fun H' e => by
  cases a with
  | true =>
    rw [if_pos rfl]
    exact h1 rfl F B D σ H' (E.ext e) (fun Γ' σ' H2 q E2 x => n Γ' σ' H2 q E2 ((frz_ext e).tr x)) fun d Γ' σ' v H2 q E2 x => r d Γ' σ' v H2 q E2 ((frz_ext e).tr x)
  | false =>
    rw [if_neg Bool.false_ne_true]
    exact h2 rfl F B D σ H' (E.ext e) (fun Γ' σ' H2 q E2 x => n Γ' σ' H2 q E2 ((frz_ext e).tr x)) fun d Γ' σ' v H2 q E2 x => r d Γ' σ' v H2 q E2 ((frz_ext e).tr x)
/-- name = data -/
theorem sg_set {i : Nat} {e : Ent} (h : EvG K Γ te d) (hi : Γ[i]? = some e) (he : e.mut = false) (hn : N (Γ.set i (.im d))) : StG K Γ (tAsg te (gName i)) N R := fun F B D σ H E n r => h F B σ H E _ fun v H' e1 rv => by
  have E' := E.ext e1
  have hm := mu_set (σ := σ) (x := some v) (e' := .im d) hi he rfl
  refine n _ _ H' hn (E'.put hi he rfl fun d' z => ⟨v, rfl, by cases z; exact rv⟩) ?_
  rw [frz, frz, hm]
  exact cut_mono e1
theorem sg_drop (h : EvG K Γ te d) (hn : N Γ) : StG K Γ (tDrop te) N R := fun F B D σ H E n r => h F B σ H E _ fun v H' e rv => n Γ σ H' hn (E.ext e) (frz_ext e)

/-! ### lists of ours -/
theorem mu_new {σ : L2.St} {j : Nat} {e e' : Ent} {p : Addr} (h : Γ[j]? = some e) (he : e.mut = false) (he' : e'.mut = true) (hl : σ.length = Γ.length) : mu (Γ.set j e') (σ.set j (some (.ref p))) = fun a => mu Γ σ a ∨ a = p := by
  have hj : j < Γ.length := (List.getElem?_eq_some_iff.mp h).1
  funext a
  apply propext
  constructor
  · rintro ⟨i, f, h1, h2, h3⟩
    by_cases hi : j = i
    · subst hi
      rw [List.getElem?_set_self (by omega)] at h3
      cases h3
      exact .inr rfl
    · rw [List.getElem?_set_ne hi] at h1 h3
      exact .inl ⟨i, f, h1, h2, h3⟩
  · rintro (⟨i, f, h1, h2, h3⟩ | rfl)
    · by_cases hi : j = i
      · subst hi
        rw [h] at h1; cases h1
        rw [he] at h2; cases h2
      · exact ⟨i, f, by rw [List.getElem?_set_ne hi]; exact h1, h2, by rw [List.getElem?_set_ne hi]; exact h3⟩
    · exact ⟨j, e', List.getElem?_set_self hj, he', List.getElem?_set_self (by omega)⟩
/-- a slot takes a new list or dict of ours -/
theorem EnvR.newM {F : Addr → Prop} {B : Hp} {σ : L2.St} {H H' : Hp} (E : EnvR K F B Γ σ H) {j : Nat} {e e' : Ent} {p : Addr} (h : Γ[j]? = some e) (he : e.mut = false) (hp : H p = none) (ex : Ex H H') (hm : e'.mut = true)
    (ha : ∀ ds, e' = .ac ds → ∃ vs, H' p = some (.lst vs) ∧ RpAll K (cut (fun a => (F a ∨ a = p) ∨ mu Γ σ a) H') vs ds)
    (hd : ∀ ds, e' = .dc ds → ∃ vs, H' p = some (.dK vs) ∧ RpKV K (cut (fun a => (F a ∨ a = p) ∨ mu Γ σ a) H') vs ds) (hb : ∀ n, e' = .bx n → ∃ vs, H' p = some (.lst vs) ∧ BoxOk n p vs) :
    EnvR K F B (Γ.set j e') (σ.set j (some (.ref p))) H' ∧ Ex (frz F Γ σ H) (frz F (Γ.set j e') (σ.set j (some (.ref p))) H') := by
  have hmu := mu_new (p := p) (e' := e') h he hm E.len
  have hj : j < Γ.length := (List.getElem?_eq_some_iff.mp h).1
  have hjs : j < σ.length := by rw [E.len]; exact hj
  have hne : (fun a => F a ∨ (mu Γ σ a ∨ a = p)) = fun a => (F a ∨ a = p) ∨ mu Γ σ a := by
    funext a
    apply propext
    constructor
    · rintro (z | z | z)
      · exact .inl (.inl z)
      · exact .inr z
      · exact .inl (.inr z)
    · rintro ((z | z) | z)
      · exact .inl z
      · exact .inr (.inr z)
      · exact .inr (.inl z)
  have grow : Ex (frz F Γ σ H) (cut (fun a => (F a ∨ a = p) ∨ mu Γ σ a) H') := fun a o z => by
    obtain ⟨n, z⟩ := cut_some z
    refine cut_of (fun w => ?_) (ex a o z)
    rcases w with (w | w) | w
    · exact n (.inl w)
    · rw [w, hp] at z; cases z
    · exact n (.inr w)
  refine ⟨⟨by rw [List.length_set, List.length_set, E.len], E.base.tr ex, fun a z => ?_, fun a z => ?_, fun a z => ?_, fun i d q => ?_, fun i d q => ?_, fun i d q => ?_, fun i n q => ?_, fun i k f g a h1 h2 h3 h4 h5 h6 => ?_⟩, ?_⟩
  · rw [hmu] at z
    rcases z with z | z
    · exact E.low a z
    · rw [z]; exact Ex.free E.base hp
  · rw [hmu] at z
    rcases z with z | z
    · exact E.out a z
    · rw [z]; exact fun w => E.fin p w hp
  · cases q : H a with
    | none => exact absurd q (E.fin a z)
    | some o => rw [ex a o q]; simp
  · rw [hmu, hne]
    by_cases hi : j = i
    · subst hi
      rw [List.getElem?_set_self hj] at q
      cases q
      cases hm
    · rw [List.getElem?_set_ne hi] at q ⊢
      obtain ⟨v, h1, h2⟩ := E.im i d q
      exact ⟨v, h1, h2.up grow⟩
  · rw [hmu, hne]
    by_cases hi : j = i
    · subst hi
      rw [List.getElem?_set_self hj] at q
      obtain ⟨vs, h1, h2⟩ := ha d (Option.some.inj q)
      exact ⟨p, vs, List.getElem?_set_self hjs, h1, h2⟩
    · rw [List.getElem?_set_ne hi] at q ⊢
      obtain ⟨p', vs, h1, h2, h3⟩ := E.ac i d q
      exact ⟨p', vs, h1, ex _ _ h2, h3.up grow⟩
  · rw [hmu, hne]
    by_cases hi : j = i
    · subst hi
      rw [List.getElem?_set_self hj] at q
      obtain ⟨vs, h1, h2⟩ := hd d (Option.some.inj q)
      exact ⟨p, vs, List.getElem?_set_self hjs, h1, h2⟩
    · rw [List.getElem?_set_ne hi] at q ⊢
      obtain ⟨p', vs, h1, h2, h3⟩ := E.dc i d q
      exact ⟨p', vs, h1, ex _ _ h2, h3.up grow⟩
  · by_cases hi : j = i
    · subst hi
      rw [List.getElem?_set_self hj] at q
      obtain ⟨vs, h1, h2⟩ := hb n (Option.some.inj q)
      exact ⟨p, vs, List.getElem?_set_self hjs, h1, h2⟩
    · rw [List.getElem?_set_ne hi] at q ⊢
      obtain ⟨p', vs, h1, h2, h3⟩ := E.bx i n q
      exact ⟨p', vs, h1, ex _ _ h2, h3⟩
  · have old : ∀ {i : Nat} {f : Ent} {a : Addr}, j ≠ i → Γ[i]? = some f → f.mut = true → σ[i]? = some (some (.ref a)) → a ≠ p := fun {i f a} _ h1 h2 h3 z => E.muIn ⟨i, f, h1, h2, h3⟩ (by rw [z]; exact hp)
    by_cases hi : j = i
    · by_cases hk : j = k
      · exact hi.symm.trans hk
      · subst hi
        rw [List.getElem?_set_self hjs] at h5
        cases h5
        rw [List.getElem?_set_ne hk] at h2 h6
        exact absurd rfl (old hk h2 h4 h6)
    · by_cases hk : j = k
      · subst hk
        rw [List.getElem?_set_self hjs] at h6
        cases h6
        rw [List.getElem?_set_ne hi] at h1 h5
        exact absurd rfl (old hi h1 h3 h5)
      · rw [List.getElem?_set_ne hi] at h1 h5
        rw [List.getElem?_set_ne hk] at h2 h6
        exact E.inj i k f g a h1 h2 h3 h4 h5 h6
  · rw [frz, frz, hmu, hne]
    exact grow
/-- name = a new list, to be changed -/
theorem sg_setL {i : Nat} {e : Ent} (h : EvL K Γ te ds) (hi : Γ[i]? = some e) (he : e.mut = false) (hn : N (Γ.set i (.ac ds))) : StG K Γ (tAsg te (gName i)) N R := fun F B D σ H E n r => h F B σ H E _ fun p vs H' hp ex hl rv => by
  obtain ⟨E', x⟩ := E.newM (e' := .ac ds) hi he hp ex rfl (fun ds' z => by cases z; exact ⟨vs, hl, rv⟩) (fun _ z => nomatch z) (fun _ z => nomatch z)
  exact n _ _ H' hn E' x
/-- an object of ours is written -/
theorem EnvR.write {F : Addr → Prop} {B : Hp} {σ : L2.St} {H : Hp} (E : EnvR K F B Γ σ H) {j : Nat} {e e' : Ent} {p : Addr} {o : HO} (h : Γ[j]? = some e) (hs : σ[j]? = some (some (.ref p))) (he : e.mut = true) (hm : e'.mut = true)
    (ha : ∀ ds, e' = .ac ds → ∃ vs, o = .lst vs ∧ RpAll K (frz F Γ σ H) vs ds)
    (hd : ∀ ds, e' = .dc ds → ∃ vs, o = .dK vs ∧ RpKV K (frz F Γ σ H) vs ds) (hb : ∀ n, e' = .bx n → ∃ vs, o = .lst vs ∧ BoxOk n p vs) :
    EnvR K F B (Γ.set j e') σ (upd H p o) ∧ mu (Γ.set j e') σ = mu Γ σ ∧ Ex (frz F Γ σ H) (frz F (Γ.set j e') σ (upd H p o)) := by
  have hj : j < Γ.length := (List.getElem?_eq_some_iff.mp h).1
  have hmu : mu (Γ.set j e') σ = mu Γ σ := by
    funext a
    apply propext
    constructor
    · rintro ⟨i, f, h1, h2, h3⟩
      by_cases hi : j = i
      · subst hi
        exact ⟨j, e, h, he, h3⟩
      · rw [List.getElem?_set_ne hi] at h1
        exact ⟨i, f, h1, h2, h3⟩
    · rintro ⟨i, f, h1, h2, h3⟩
      by_cases hi : j = i
      · subst hi
        exact ⟨j, e', List.getElem?_set_self hj, hm, h3⟩
      · exact ⟨i, f, by rw [List.getElem?_set_ne hi]; exact h1, h2, h3⟩
  have hp : mu Γ σ p := ⟨j, e, h, he, hs⟩
  have grow : Ex (frz F Γ σ H) (cut (fun a => F a ∨ mu Γ σ a) (upd H p o)) := cut_keep fun a u n z => by
    rw [upd_ne fun w => n (.inr (by rw [w]; exact hp))]
    exact z
  have other : ∀ {i : Nat} {f : Ent} {a : Addr}, j ≠ i → Γ[i]? = some f → f.mut = true → σ[i]? = some (some (.ref a)) → a ≠ p := fun {i f a} hne h1 h2 h3 z => hne (E.inj j i e f p h h1 he h2 hs (by rw [h3, z]))
  refine ⟨⟨by rw [List.length_set]; exact E.len, fun a u z => ?_, by rw [hmu]; exact E.low, by rw [hmu]; exact E.out, fun a z => ?_, fun i d q => ?_, fun i d q => ?_, fun i d q => ?_, fun i n q => ?_, fun i k f g a h1 h2 h3 h4 h5 h6 => ?_⟩, hmu, ?_⟩
  · rw [upd_ne]
    · exact E.base a u z
    · intro w
      rw [w, E.low p hp] at z; cases z
  · by_cases w : a = p
    · rw [w, upd_same]; simp
    · rw [upd_ne w]; exact E.fin a z
  · rw [hmu]
    by_cases hi : j = i
    · subst hi
      rw [List.getElem?_set_self hj] at q
      cases q
      cases hm
    · rw [List.getElem?_set_ne hi] at q
      obtain ⟨v, h1, h2⟩ := E.im i d q
      exact ⟨v, h1, h2.up grow⟩
  · rw [hmu]
    by_cases hi : j = i
    · subst hi
      rw [List.getElem?_set_self hj] at q
      obtain ⟨vs, rfl, h2⟩ := ha d (Option.some.inj q)
      exact ⟨p, vs, hs, upd_same, h2.up grow⟩
    · rw [List.getElem?_set_ne hi] at q
      obtain ⟨p', vs, h1, h2, h3⟩ := E.ac i d q
      exact ⟨p', vs, h1, by rw [upd_ne (other hi q rfl h1)]; exact h2, h3.up grow⟩
  · rw [hmu]
    by_cases hi : j = i
    · subst hi
      rw [List.getElem?_set_self hj] at q
      obtain ⟨vs, rfl, h2⟩ := hd d (Option.some.inj q)
      exact ⟨p, vs, hs, upd_same, h2.up grow⟩
    · rw [List.getElem?_set_ne hi] at q
      obtain ⟨p', vs, h1, h2, h3⟩ := E.dc i d q
      exact ⟨p', vs, h1, by rw [upd_ne (other hi q rfl h1)]; exact h2, h3.up grow⟩
  · by_cases hi : j = i
    · subst hi
      rw [List.getElem?_set_self hj] at q
      obtain ⟨vs, rfl, h2⟩ := hb n (Option.some.inj q)
      exact ⟨p, vs, hs, upd_same, h2⟩
    · rw [List.getElem?_set_ne hi] at q
      obtain ⟨p', vs, h1, h2, h3⟩ := E.bx i n q
      exact ⟨p', vs, h1, by rw [upd_ne (other hi q rfl h1)]; exact h2, h3⟩
  · have back : ∀ {i : Nat} {f : Ent}, (Γ.set j e')[i]? = some f → f.mut = true → ∃ f', Γ[i]? = some f' ∧ f'.mut = true := fun {i f} h1 h2 => by
      by_cases hi : j = i
      · subst hi; exact ⟨e, h, he⟩
      · rw [List.getElem?_set_ne hi] at h1
        exact ⟨f, h1, h2⟩
    obtain ⟨f', q1, q2⟩ := back h1 h3
    obtain ⟨g', q3, q4⟩ := back h2 h4
    exact E.inj i k f' g' a q1 q3 q2 q4 h5 h6
  · rw [frz, frz, hmu]
    exact grow
theorem mem_lim {n : Nat} (h : n < 100000) : n < sizeLine := Nat.lt_of_lt_of_le h (by decide)
/-- xs.append(e) -/
theorem sg_app {i : Nat} (hi : Γ[i]? = some (.ac ds)) (h : EvG K Γ te d) (hz : ds.length < 100000) (hn : N (Γ.set i (.ac (ds ++ [d])))) : StG K Γ (tDrop (tBM K "list" rAppend (tVar i) (tCons te tNil))) N R := fun F B D σ H E n r => by
  obtain ⟨p, vs, h1, h2, h3⟩ := E.ac i ds hi
  refine ⟨.ref p, h1, .inl ⟨rfl, vs, .inl (.inl h2)⟩, h F B σ H E _ fun v H' ex rv => ?_⟩
  have E' := E.ext ex
  obtain ⟨E2, m2, x2⟩ := E'.write (e' := .ac (ds ++ [d])) (o := .lst (vs ++ [v])) hi h1 rfl rfl (fun ds' z => by cases z; exact ⟨_, rfl, (h3.up (cut_mono ex)).app (.one rv)⟩) (fun _ z => nomatch z) (fun _ z => nomatch z)
  exact ⟨p, vs, v, rfl, rfl, ex _ _ h2, by rw [h3.len]; exact mem_lim hz, n _ _ _ hn E2 ((frz_ext ex).tr x2)⟩
/-- xs.extend(a new list) -/
theorem sg_ext {i : Nat} (hi : Γ[i]? = some (.ac ds)) (h : EvL K Γ te es) (hz : ds.length + es.length ≤ 100000) (hn : N (Γ.set i (.ac (ds ++ es)))) : StG K Γ (tDrop (tBM K "list" rExtend (tVar i) (tCons te tNil))) N R := fun F B D σ H E n r => by
  obtain ⟨p, vs, h1, h2, h3⟩ := E.ac i ds hi
  refine ⟨.ref p, h1, .inl ⟨rfl, vs, .inl (.inl h2)⟩, h F B σ H E _ fun q ws H' hq ex hl rv => ?_⟩
  have E' := E.ext ex
  have rv' : RpAll K (frz F Γ σ H') ws es := rv.up (cut_less fun a z => by
    rcases z with z | z
    · exact .inl (.inl z)
    · exact .inr z)
  obtain ⟨E2, m2, x2⟩ := E'.write (e' := .ac (ds ++ es)) (o := .lst (vs ++ ws)) hi h1 rfl rfl (fun ds' z => by cases z; exact ⟨_, rfl, (h3.up (cut_mono ex)).app rv'⟩) (fun _ z => nomatch z) (fun _ z => nomatch z)
  exact ⟨p, q, vs, ws, rfl, rfl, ex _ _ h2, hl, by rw [h3.len, rv.len]; exact size5 hz, n _ _ _ hn E2 ((frz_ext ex).tr x2)⟩
/-- x = xs.pop() -/
theorem sg_pop {i j : Nat} {e : Ent} (hi : Γ[i]? = some (.ac (ds ++ [d]))) (hj : Γ[j]? = some e) (he : e.mut = false) (hn : N ((Γ.set i (.ac ds)).set j (.im d))) : StG K Γ (tAsg (tBM0 K "list" rPop (tVar i)) (gName j)) N R := fun F B D σ H E n r => by
  obtain ⟨p, vs, h1, h2, h3⟩ := E.ac i _ hi
  have hl := h3.len
  rw [List.length_append, List.length_singleton] at hl
  have hd : (ds ++ [d])[vs.length - 1]? = some d := by
    rw [hl, Nat.add_sub_cancel, List.getElem?_append_right (Nat.le_refl _)]
    simp
  obtain ⟨v, hv, rv⟩ := h3.get hd
  refine ⟨.ref p, h1, .inl ⟨rfl, vs, .inl (.inl h2)⟩, p, vs, v, rfl, rfl, h2, hv, ?_⟩
  have hij : i ≠ j := fun z => by
    subst z
    rw [hi] at hj; cases hj; cases he
  have hdl : RpAll K (frz F Γ σ H) vs.dropLast ds := by
    have := h3.dropLast
    rwa [List.dropLast_concat] at this
  obtain ⟨E2, m2, x2⟩ := E.write (e' := .ac ds) (o := .lst vs.dropLast) hi h1 rfl rfl (fun ds' z => by cases z; exact ⟨_, rfl, hdl⟩) (fun _ z => nomatch z) (fun _ z => nomatch z)
  have hj' : (Γ.set i (.ac ds))[j]? = some e := by rw [List.getElem?_set_ne hij]; exact hj
  have m3 := mu_set (σ := σ) (x := some v) (e' := .im d) hj' he rfl
  refine n _ _ _ hn (E2.put hj' he rfl fun d' z => ⟨v, rfl, by cases z; exact rv.up x2⟩) (x2.tr ?_)
  rw [frz, frz, m3]
  exact Ex.rfl' _

/-! ### loops -/
theorem sg_for {pr : Bool} {wi : TI} {g : TG} (hi : ItG pr K Γ wi ds) (Iv : Nat → En → Prop) (h0 : Iv 0 Γ) (hs : ∀ i d Γ', ds[i]? = some d → Iv i Γ' → ∃ Γ2 js, TgG pr K Γ' g d Γ2 js ∧ StG K Γ2 ts (Iv (i + 1)) R) (hd : ∀ Γ', Iv ds.length Γ' → N Γ') : StG K Γ (tFor wi g ts) N R := fun F B D σ H E n r =>
  hi F B σ H E _ fun J H1 e1 dr => by
    refine ⟨fun i m σ' H' => m = ds.length - i ∧ i ≤ ds.length ∧ ∃ Γ', Iv i Γ' ∧ EnvR K F B Γ' σ' H' ∧ Ex (frz F Γ σ H1) (frz F Γ' σ' H'), ⟨ds.length, by simp, Nat.zero_le _, Γ, h0, E.ext e1, Ex.rfl' _⟩, ?_⟩
    rintro i m σ' H' ⟨rfl, hil, Γ', iv, E', x'⟩
    obtain ⟨d1, d2, d3⟩ := dr _ H' x'
    by_cases hlt : i < ds.length
    · refine .inr ⟨d2 i hlt, fun σ'' H'' => ∃ Γ'', Iv (i + 1) Γ'' ∧ EnvR K F B Γ'' σ'' H'' ∧ Ex (frz F Γ σ H1) (frz F Γ'' σ'' H''), fun σ'' H'' ⟨Γ'', q1, q2, q3⟩ => ⟨ds.length - (i + 1), by omega, rfl, hlt, Γ'', q1, q2, q3⟩, fun v H3 hy => ?_⟩
      have hdi : ds[i]? = some ds[i] := List.getElem?_eq_getElem hlt
      obtain ⟨e3, ry⟩ := d3 i _ hdi v H3 hy
      obtain ⟨Γ2, js, tg, st⟩ := hs i _ Γ' hdi iv
      refine tg F B σ' H3 v (E'.ext e3) ry _ fun σ2 E4 m4 _ _ => ?_
      have x4 : Ex (frz F Γ σ H1) (frz F Γ2 σ2 H3) := by
        refine x'.tr ?_
        rw [frz, frz, m4]
        exact cut_mono e3
      exact st F B _ σ2 H3 E4 (fun Γ5 σ5 H5 q E5 x5 => ⟨Γ5, q, E5, x4.tr x5⟩) fun d Γ5 σ5 v H5 q E5 x5 => r d Γ5 σ5 v H5 q E5 (((frz_ext e1).tr x4).tr x5)
    · have hie : i = ds.length := by omega
      subst hie
      exact .inl ⟨d1, n Γ' σ' H' (hd Γ' iv) E' ((frz_ext e1).tr x')⟩
theorem sg_while (Iv : Nat → En → Prop) (m0 : Nat) (h0 : Iv m0 Γ) (hs : ∀ m Γ', Iv m Γ' → ∃ b, EtG K Γ' tt b ∧ (b = true → StG K Γ' ts (fun Γ2 => ∃ m', m' < m ∧ Iv m' Γ2) R) ∧ (b = false → N Γ')) : StG K Γ (tWhile tt ts) N R := fun F B D σ H E n r => by
  refine ⟨fun m σ' H' => ∃ Γ', Iv m Γ' ∧ EnvR K F B Γ' σ' H' ∧ Ex (frz F Γ σ H) (frz F Γ' σ' H'), ⟨m0, Γ, h0, E, Ex.rfl' _⟩, ?_⟩
  rintro m σ' H' ⟨Γ', iv, E', x'⟩
  obtain ⟨b, hb, h1, h2⟩ := hs m Γ' iv
  refine hb F B σ' H' E' _ fun H2 e2 => ?_
  have x2 : Ex (frz F Γ σ H) (frz F Γ' σ' H2) := x'.tr (frz_ext e2)
  cases b with
  | true =>
    rw [if_pos rfl]
    refine ⟨fun σ3 H3 => ∃ m', m' < m ∧ ∃ Γ3, Iv m' Γ3 ∧ EnvR K F B Γ3 σ3 H3 ∧ Ex (frz F Γ σ H) (frz F Γ3 σ3 H3), fun σ3 H3 ⟨m', hm, q⟩ => ⟨m', hm, q⟩, ?_⟩
    exact h1 rfl F B _ σ' H2 (E'.ext e2) (fun Γ3 σ3 H3 ⟨m', hm, iv3⟩ E3 x3 => ⟨m', hm, Γ3, iv3, E3, x2.tr x3⟩) fun d Γ3 σ3 v H3 q E3 x3 => r d Γ3 σ3 v H3 q E3 (x2.tr x3)
  | false =>
    rw [if_neg Bool.false_ne_true]
    exact n Γ' σ' H2 (h2 rfl) (E'.ext e2) x2
/-- t += u of tuples -/
theorem sg_augT {i : Nat} (hi : Γ[i]? = some (.im (.tuple ds))) (h : EvC K Γ te (.tuple es)) (hz : ds.length + es.length ≤ 100000) (hn : N (Γ.set i (.im (.tuple (ds ++ es))))) : StG K Γ (tAug i te (rCatF K)) N R := fun F B D σ H E n r => by
  obtain ⟨v, h1, h2⟩ := E.im i _ hi
  refine ⟨v, h1, h F B σ H E _ fun u H' ex ru => ?_⟩
  have E' := E.ext ex
  refine catF E' (.inl (h2.up (cut_mono ex))) ru hz fun w H2 e2 rw' => ?_
  have hm := mu_set (σ := σ) (x := some w) (e' := .im (.tuple (ds ++ es))) hi rfl rfl
  refine n _ _ H2 hn ((E'.ext e2).put hi rfl rfl fun d' z => ⟨w, rfl, by cases z; exact rw'⟩) ?_
  rw [frz, frz, hm]
  exact cut_mono (ex.tr e2)
end

/-! ### defs -/
/-- the environment of data at a def's entry -/
def ims (N : List Str) (ds : List PyData) : En := ds.map .im ++ List.replicate (N.length - ds.length) .no
theorem ims_get {N : List Str} {ds : List PyData} {i : Nat} {e : Ent} (h : (ims N ds)[i]? = some e) : (∃ d, ds[i]? = some d ∧ e = .im d) ∨ e = .no := by
  unfold ims at h
  rw [List.getElem?_append] at h
  by_cases hi : i < (ds.map Ent.im).length
  · rw [if_pos hi, List.getElem?_map] at h
    cases q : ds[i]? with
    | none => rw [q] at h; cases h
    | some d => rw [q] at h; cases h; exact .inl ⟨d, rfl, rfl⟩
  · rw [if_neg hi] at h
    exact .inr (List.eq_of_mem_replicate (List.mem_of_getElem? h))
theorem envR_start {K : Fg} {F : Addr → Prop} {H : Hp} {N : List Str} {ds : List PyData} {vs : List V} (hF : ∀ a, F a → H a ≠ none) (r : RpAll K (cut F H) vs ds) (hl : ds.length ≤ N.length) : EnvR K F H (ims N ds) (L2.start N vs) H := by
  have nm : ∀ {i : Nat} {e : Ent}, (ims N ds)[i]? = some e → e.mut = false := fun {i e} h => by
    rcases ims_get h with ⟨d, _, rfl⟩ | rfl <;> rfl
  have hm : mu (ims N ds) (L2.start N vs) = fun _ => False := by
    funext a
    apply propext
    constructor
    · rintro ⟨i, e, h1, h2, _⟩
      rw [nm h1] at h2; cases h2
    · exact False.elim
  have hvl := r.len
  refine ⟨?_, Ex.rfl' _, fun a z => ?_, fun a z => ?_, hF, fun i d q => ?_, fun i d q => ?_, fun i d q => ?_, fun i n q => ?_, fun i j e f a h1 _ h3 => ?_⟩
  · unfold L2.start ims
    simp [hvl]
  · rw [hm] at z; exact z.elim
  · rw [hm] at z; exact z.elim
  · rw [hm]
    rcases ims_get q with ⟨d', q1, q2⟩ | q2
    · cases q2
      obtain ⟨v, hv, rv⟩ := r.get q1
      refine ⟨v, ?_, rv.up (cut_less fun a z => z.elim id False.elim)⟩
      unfold L2.start
      rw [List.getElem?_append_left (by rw [List.length_map]; exact (List.getElem?_eq_some_iff.mp hv).1), List.getElem?_map, hv]
      rfl
    · cases q2
  · exact absurd (nm q) (by simp [Ent.mut])
  · exact absurd (nm q) (by simp [Ent.mut])
  · exact absurd (nm q) (by simp [Ent.mut])
  · rw [nm h1] at h3; cases h3

/-- a def stands at f and keeps its promise -/
structure Has (P : Program) (w : World) (K : Fg) (mg : Str → Option Value) (base : Heap) (x : Str) (k : Nat) (ps : List Str) (sp : Sp) : Prop where
  ex : ∃ f fd, mg x = some (.ref f) ∧ PySem.W.keepIn K (.ref f) = true ∧ Binds K fd ps [] ∧ FnOk P w K mg base CX0 k f fd ps sp
theorem Has.up {P : Program} {w : World} {K : Fg} {mg : Str → Option Value} {base : Heap} {x : Str} {j k : Nat} {ps : List Str} {sp : Sp} (h : Has P w K mg base x j ps sp) (hk : j ≤ k) : Has P w K mg base x k ps sp := by
  obtain ⟨f, fd, h1, h2, h3, h4⟩ := h.ex
  exact ⟨f, fd, h1, h2, h3, h4.mono hk⟩
/-- where a def of the text stands -/
structure Txt1 (K : Fg) (mg : Str → Option Value) (x : Str) (st : Stmt) (ps : List Str) : Prop where
  ex : ∃ f fd, mg x = some (.ref f) ∧ Fun K x x st f fd ∧ Binds K fd ps []
abbrev cxF (P : Program) (w : World) (K : Fg) (mg : Str → Option Value) (base : Heap) (N : List Str) (x : Str) (st : Stmt) (f : Addr) (cdv : Value) (A : Around) (outer : List Env) (s : Shared) (H : Hp) (E : XK) : Cx := (cxOf CX0 P w K mg base N x (defScope st) f cdv A outer s H E).nox
/-- a def that changes nothing: its body's reading t, what t does with data -/
theorem has_pure {P : Program} {w : World} {K : Fg} {mg : Str → Option Value} {base : Heap} {x : Str} {st : Stmt} {k : Nat} {N ps : List Str} {t : TS} {R : List PyData → PyData → Prop} (T : Txt1 K mg x st ps) (S : FnScope N ps (defScope st)) (hl : ∀ ds d, R ds d → ds.length = ps.length) (hN : ps.length ≤ N.length)
    (ph : ∀ (f : Addr) (cdv : Value) (A : Around) (outer : List Env) (s : Shared) (H : Hp) (E : XK), Room k (A.deeper (PyProof.Rows.envOfC x (defScope st) s.heap.objs.size f cdv)) → PSs (cxF P w K mg base N x st f cdv A outer s H E) (defBody st) t)
    (sem : ∀ ds d, R ds d → StG K (ims N ds) t (fun _ => d = .none) (fun d' _ => d' = d)) : Has P w K mg base x (k + 1) ps (SpD K R) := by
  obtain ⟨f, fd, hm, Fu, hb⟩ := T.ex
  refine ⟨f, fd, hm, Fu.kp, hb, Fu.ok S (fun vs H Q E h => ?_) fun cdv A outer s H vs Q E hr h => ?_⟩
  · obtain ⟨F, ds, d, _, r, hR, _⟩ := h
    rw [r.len]; exact hl ds d hR
  · obtain ⟨F, ds, d, hF, r, hR, q⟩ := h
    refine ⟨t, ph f cdv A outer s H E hr, sem ds d hR F H _ (L2.start N vs) H (envR_start hF r (by rw [hl ds d hR]; exact hN)) (fun Γ' σ' H' n E' x' => ?_) fun d' Γ' σ' v H' hd E' x' rv => ?_⟩
    · subst n
      exact q _ H' E'.base .non
    · subst hd
      exact q v H' E'.base (rv.up (cut_less fun a z => .inl z))
section
variable {X : Cx} {k : Nat} {x : Str} {ps : List Str} {sp : Sp} {e : Expr} {es : List Expr} {t : TA} {p pos : Pos}
/-- the call of a def of ours -/
theorem pe_has (h : Has X.prog X.w X.K X.mg X.base x k ps sp) (hr : Room k X.A) (hg : Gl X x) (ha : PA X (e :: es) t) (hdb : (x == ("__debug__" : Str)) = false := by decide) (he : starEach (e :: es) X.env = (false, eval e X.env) :: starEach es X.env := by rfl) (hpl : (backTo pos (starEach es X.env)).any (·.1) = false := by rfl) :
    PE X (.Call (.Name x p) (e :: es) [] pos) (tCall sp [] E0 t) := by
  obtain ⟨f, fd, h1, h2, h3, h4⟩ := h.ex
  exact pe_call h4 hr hg h1 h2 h3 .nil pass0 ha hdb he hpl
end
end K97
set_option Elab.async false
set_option linter.all false
set_option maxRecDepth 100000
set_option maxHeartbeats 4000000
/-! K97: the text, what is known of the module's names, logs as data. -/
namespace K97
open PySem L2
def topS (i : Nat) : Stmt := PySem.Challenge.pw_readorder_k97_whole_names_do_not_matter.main.body.getD i (.Pass ⟨0, 0, 0, 0⟩)
/-- the module's names -/
structure Tx (mg : Str → Option Value) (tk : Nat → Tok) : Prop where
  b_len : mg "len" = none
  b_all : mg "all" = none
  b_any : mg "any" = none
  b_sorted : mg "sorted" = none
  b_tuple : mg "tuple" = none
  b_list : mg "list" = none
  b_dict : mg "dict" = none
  b_set : mg "set" = none
  b_zip : mg "zip" = none
  b_enumerate : mg "enumerate" = none
  b_isinstance : mg "isinstance" = none
  b_range : mg "range" = none
  b_sum : mg "sum" = none
  b_min : mg "min" = none
  b_max : mg "max" = none
  b_abs : mg "abs" = none
  b_int : mg "int" = none
  b_str : mg "str" = none
  b_bool : mg "bool" = none
  c_MOST_LETTERS : mg "MOST_LETTERS" = some (.int 8 (tk 0))
  c_MOST_VALUE : mg "MOST_VALUE" = some (.int (10 ^ 9) (tk 1))
  c_LETTERS : mg "LETTERS" = some (.str "abcdefghijklmnopqrstuvwxyz" (tk 2))
  c_PAIR : mg "PAIR" = some (.int 2 (tk 3))
  c_MOST_COUNTED : mg "MOST_COUNTED" = some (.int 12 (tk 4))
  c_PARTS_evidence : mg "PARTS_evidence" = some (.int 2 (tk 5))
  c_PARTS_avoiding : mg "PARTS_avoiding" = some (.int 2 (tk 6))

/-! ### logs as data -/
abbrev Lg := List (Str × Int)
def dPair (p : Str × Int) : PyData := .tuple [.str p.1, .int p.2]
def dLog (l : Lg) : PyData := .tuple (l.map dPair)
def dLogs (L : List Lg) : PyData := .tuple (L.map dLog)
def dCells (cs : List Str) : PyData := .tuple (cs.map .str)
/-- a log's value at a cell -/
def lkp (l : Lg) (c : Str) : Option Int := (l.find? fun p => decide (p.1 = c)).map (·.2)
def LgOk (l : Lg) : Prop := (l.map (·.1)).Nodup ∧ l.length ≤ 1000
def LgsOk (L : List Lg) : Prop := L.length ≤ 1000 ∧ ∀ l ∈ L, LgOk l
abbrev dDict (l : Lg) : List (PyData × PyData) := l.map fun p => (.str p.1, .int p.2)
theorem lk_log (c : Str) : ∀ l : Lg, lk (dDict l) (.inr c) = (lkp l c).map .int
  | [] => rfl
  | p :: l => by
    by_cases h : p.1 = c
    · subst h
      simp [lk, lkp, dDict, List.find?_cons, keyOfD]
    · have e1 : lk (dDict (p :: l)) (.inr c) = lk (dDict l) (.inr c) := by
        show (List.find? _ ((PyData.str p.1, PyData.int p.2) :: dDict l)).map _ = _
        rw [List.find?_cons_of_neg (by simp [keyOfD, h])]
        rfl
      have e2 : lkp (p :: l) c = lkp l c := by
        unfold lkp
        rw [List.find?_cons_of_neg (by simpa using h)]
      rw [e1, e2]
      exact lk_log c l
theorem plain_pair (p : Str × Int) : (dPair p).plain = true := by simp [dPair, PyData.plain, PyData.plainAll]
theorem plainAll_map {α : Type} {enc : α → PyData} (h : ∀ x, (enc x).plain = true) : ∀ xs : List α, PyData.plainAll (xs.map enc) = true
  | [] => rfl
  | x :: xs => by
    rw [List.map_cons, PyData.plainAll, h x, plainAll_map h xs]
    rfl
theorem plain_log (l : Lg) : (dLog l).plain = true := by rw [dLog, PyData.plain]; exact plainAll_map plain_pair l
theorem plain_logs (l : List Lg) : (dLogs l).plain = true := by rw [dLogs, PyData.plain]; exact plainAll_map plain_log l
theorem plain_cells (l : List Str) : (dCells l).plain = true := by rw [dCells, PyData.plain]; exact plainAll_map (fun _ => rfl) l
end K97
set_option Elab.async false
set_option linter.all false
set_option maxRecDepth 100000
set_option maxHeartbeats 0
/-! K97: the head: where each def stands, which names are free, what the constants are. -/
namespace K97
open PySem PySem.Spec PyProof.Rows L2
def hNames0 : List PySem.Str := ["ReadError", "NoLogs", "Stuck", "NotALog", "BadOrder", "BadCell", "BadSnapshot", "TooLarge", "MOST_LETTERS", "MOST_VALUE", "LETTERS", "PAIR", "is_cell", "is_value", "is_pair", "has_log_form", "has_cell", "cells_in", "shared_cells", "agreeing", "unread_shared", "parts_by", "splitting_cells", "is_stuck", "blocks", "has_reader", "stuck_block", "without", "single_group", "check_reader"]
def hNames1 : List PySem.Str := ["check_logs", "MOST_COUNTED", "check_log", "group_after", "available", "begins_order", "next_cells", "count_orders", "read_without", "closure", "precedence", "rounds", "with_log", "can_add", "is_snapshot", "check_snapshot", "pairs_at", "hit", "is_read", "closed_without", "is_certain", "certain_reads", "reached_with", "possible_reads", "PARTS_evidence", "check_cells", "evidence_of", "are_cells_of", "lacks", "are_witnesses"]
def hNames2 : List PySem.Str := ["shows_precedence", "PARTS_avoiding", "check_place", "cells_outside", "evidence_certain", "is_closed_form", "shows_certain", "_law_box", "_law_take", "_law_of", "_law_cells", "_law_values", "_law_tree", "_law_leaves", "_law_loose", "_law_logs", "_law_snapshot", "_law_values_of", "_law_renaming", "_law_pair", "_law_named", "_law_set", "_law_moved", "_law_log_right", "_law_snapshot_right"]
abbrev hNames : List PySem.Str := hNames0 ++ hNames1 ++ hNames2
abbrev dD (x : Str) (i : Nat) : He.DefD := ⟨(x, none), x, x, defArgs (topS i), defBody (topS i), defScope (topS i), [], []⟩
def hFn0 : List He.DefD := [dD "is_cell" 14, dD "is_value" 15, dD "is_pair" 16, dD "has_log_form" 17, dD "has_cell" 18, dD "cells_in" 19, dD "shared_cells" 20, dD "agreeing" 21, dD "unread_shared" 23, dD "parts_by" 24, dD "splitting_cells" 25, dD "is_stuck" 26, dD "blocks" 27, dD "has_reader" 28, dD "stuck_block" 29, dD "without" 30, dD "single_group" 31, dD "check_reader" 32, dD "check_logs" 33, dD "check_log" 36, dD "group_after" 37, dD "available" 38, dD "begins_order" 39, dD "next_cells" 40, dD "count_orders" 41, dD "read_without" 42, dD "closure" 43, dD "precedence" 44, dD "rounds" 45, dD "with_log" 47]
def hFn1 : List He.DefD := [dD "can_add" 48, dD "is_snapshot" 50, dD "check_snapshot" 51, dD "pairs_at" 52, dD "hit" 53, dD "is_read" 54, dD "closed_without" 55, dD "is_certain" 56, dD "certain_reads" 57, dD "reached_with" 58, dD "possible_reads" 59, dD "check_cells" 62, dD "evidence_of" 63, dD "are_cells_of" 64, dD "lacks" 65, dD "are_witnesses" 66, dD "shows_precedence" 67, dD "check_place" 70, dD "cells_outside" 71, dD "evidence_certain" 72, dD "is_closed_form" 73, dD "shows_certain" 74, dD "_law_box" 76, dD "_law_take" 77, dD "_law_of" 78, dD "_law_cells" 79, dD "_law_values" 80, dD "_law_tree" 81, dD "_law_leaves" 82, dD "_law_loose" 83]
def hFn2 : List He.DefD := [dD "_law_logs" 84, dD "_law_snapshot" 85, dD "_law_values_of" 86, dD "_law_renaming" 87, dD "_law_pair" 88, dD "_law_named" 89, dD "_law_set" 90, dD "_law_moved" 91, dD "_law_log_right" 92, dD "_law_snapshot_right" 93, dD "law" 94]
abbrev hFn : List He.DefD := hFn0 ++ hFn1 ++ hFn2
def hGl0 : List He.Fa := [.glo "is_cell", .glo "is_value", .glo "is_pair", .glo "has_log_form", .glo "has_cell", .glo "cells_in", .glo "shared_cells", .glo "agreeing", .glo "unread_shared", .glo "parts_by", .glo "splitting_cells", .glo "is_stuck", .glo "blocks", .glo "has_reader", .glo "stuck_block", .glo "without", .glo "single_group", .glo "check_reader", .glo "check_logs", .glo "check_log", .glo "group_after", .glo "available", .glo "begins_order", .glo "next_cells", .glo "count_orders", .glo "read_without", .glo "closure", .glo "precedence", .glo "rounds", .glo "with_log"]
def hGl1 : List He.Fa := [.glo "can_add", .glo "is_snapshot", .glo "check_snapshot", .glo "pairs_at", .glo "hit", .glo "is_read", .glo "closed_without", .glo "is_certain", .glo "certain_reads", .glo "reached_with", .glo "possible_reads", .glo "check_cells", .glo "evidence_of", .glo "are_cells_of", .glo "lacks", .glo "are_witnesses", .glo "shows_precedence", .glo "check_place", .glo "cells_outside", .glo "evidence_certain", .glo "is_closed_form", .glo "shows_certain", .glo "_law_box", .glo "_law_take", .glo "_law_of", .glo "_law_cells", .glo "_law_values", .glo "_law_tree", .glo "_law_leaves", .glo "_law_loose"]
def hGl2 : List He.Fa := [.glo "_law_logs", .glo "_law_snapshot", .glo "_law_values_of", .glo "_law_renaming", .glo "_law_pair", .glo "_law_named", .glo "_law_set", .glo "_law_moved", .glo "_law_log_right", .glo "_law_snapshot_right", .glo "law"]
def hFr : List He.Fa := [.free "len", .free "all", .free "any", .free "sorted", .free "tuple", .free "list", .free "dict", .free "set", .free "zip", .free "enumerate", .free "isinstance", .free "range", .free "sum", .free "min", .free "max", .free "abs", .free "int", .free "str", .free "bool"]
def hCo : List He.Fa := [.int "MOST_LETTERS" 8, .int "MOST_VALUE" 1000000000, .int "PAIR" 2, .int "MOST_COUNTED" 12, .int "PARTS_evidence" 2, .int "PARTS_avoiding" 2, .str "LETTERS" "abcdefghijklmnopqrstuvwxyz"]
abbrev hFa : List He.Fa := hFr ++ hCo ++ hGl0 ++ hGl1 ++ hGl2
abbrev hR : PySem.W.OpenRow := PySem.W.OpenLaw.row PySem.Challenge.rw_readorder_k97_whole_names_do_not_matter
abbrev hHk : PySem.W.Hook := He.hookD 4 hFa hFn
def hOb (s : PySem.W.SharedT) : He.AlD := He.obsDG 4 hFa hFn (HandSHeadRun.getT s)
theorem hOb_eq (s : PySem.W.SharedT) : hOb s = hHk.obs s.abs := He.obsDG_eq (HandSHeadRun.getT_eq s)
theorem hRun (w : World) : HandSHeadRun.RunEq hR (PySem.W.view hR.prog [94]) hHk hOb 9000 hNames w := by
  intro os
  kernel_rfl
end K97
set_option Elab.async false
set_option linter.all false
set_option maxRecDepth 100000
set_option maxHeartbeats 4000000
/-! K97: the layer's rules with the module's part told apart from the context. -/
namespace K97
open PySem L2
section
variable {K : Fg} {Γ : En} {tt : TT} {ds : List PyData} {ts tu : TS} {N : En → Prop} {R : PyData → En → Prop}
/-- a loop, then the rest -/
theorem sg_forS {pr : Bool} {wi : TI} {g : TG} (hi : ItG pr K Γ wi ds) (Iv : Nat → En → Prop) (h0 : Iv 0 Γ) (hs : ∀ i d Γ', ds[i]? = some d → Iv i Γ' → ∃ Γ2 js, TgG pr K Γ' g d Γ2 js ∧ StG K Γ2 ts (Iv (i + 1)) R) (hd : ∀ Γ', Iv ds.length Γ' → StG K Γ' tu N R) : StG K Γ (tSeq (tFor wi g ts) tu) N R :=
  sg_seq (N1 := Iv ds.length) (sg_for hi Iv h0 hs fun _ h => h) hd
theorem sg_whileS (Iv : Nat → En → Prop) (N1 : En → Prop) (m0 : Nat) (h0 : Iv m0 Γ) (hs : ∀ m Γ', Iv m Γ' → ∃ b, EtG K Γ' tt b ∧ (b = true → StG K Γ' ts (fun Γ2 => ∃ m', m' < m ∧ Iv m' Γ2) R) ∧ (b = false → N1 Γ')) (hd : ∀ Γ', N1 Γ' → StG K Γ' tu N R) : StG K Γ (tSeq (tWhile tt ts) tu) N R :=
  sg_seq (sg_while Iv m0 h0 hs) hd
end
/-- from here on what slot j holds stands still -/
def tFz (j : Nat) (t : TS) : TS := fun D σ H => ∃ d u, σ[j]? = some (some (.ref d)) ∧ H d = some u ∧ Mut (some u) ∧ ∀ od, t D σ (upd H d (.frz od u))
theorem pss_frz {X : Cx} {j : Nat} {st : List Stmt} {t : TS} (h : PSs X st t) : PSs X st (tFz j t) := by
  refine ⟨fun pins s σ H D I hw => ?_⟩
  obtain ⟨d, u, _, hd, mu, hw⟩ := hw
  obtain ⟨od, I1⟩ := I.lock hd mu
  exact h.run pins s σ _ D I1 (hw od)
section
variable {X : Cx} (K : Fg) (hK : X.K = K)
include hK
theorem k_tup : CallR X (.type "tuple") (rTupF K) := hK ▸ call_tupF
theorem k_lst : CallR X (.type "list") (rLstF K) := hK ▸ call_lstF
theorem k_dic (hc : X.calm = true) : CallR X (.type "dict") (rDicZ K) := hK ▸ call_dicZ hc
theorem k_dicF (hc : X.calm = true) : CallR X (.type "dict") (rDicF K) := hK ▸ call_dicF hc
theorem k_len : CallR X (.builtin "len") (rLen K) := hK ▸ call_len
theorem k_all (hc : X.calm = true) : CallR X (.builtin "all") (rAll K) := hK ▸ cr_all hc
theorem k_any (hc : X.calm = true) : CallR X (.builtin "any") (rAny K) := hK ▸ cr_any hc
theorem k_sum (hc : X.calm = true) : CallR X (.builtin "sum") (rSum K) := hK ▸ cr_sum hc
theorem k_isi : CallR X (.builtin "isinstance") (rIsi K) := hK ▸ call_isi
theorem k_ix : IxR X (rIx K) := hK ▸ ix_seq
theorem k_slT : SlR X (rSlF K) := hK ▸ sl_tupF
theorem k_slL : SlR X (rSlL K) := hK ▸ sl_list
theorem k_eq (hu : X.A.units + 64 < cLine) : OpR X (compareOp .Eq) (rEqP K false) := hK ▸ op_eqP hu
theorem k_ne (hu : X.A.units + 64 < cLine) : OpR X (compareOp .NotEq) (rEqP K true) := hK ▸ op_neP hu
theorem k_in (hu : X.A.units + 64 < cLine) : OpR X (compareOp .In) (rInP K false) := hK ▸ op_inP hu
theorem k_ni (hu : X.A.units + 64 < cLine) : OpR X (compareOp .NotIn) (rInP K true) := hK ▸ op_niP hu
theorem k_cat : OpR X (binaryOp .Add) (rCatF K) := hK ▸ op_catF
theorem k_icat : PIp X .Add (rCatF K) := hK ▸ ip_catF
theorem k_piT {tg l : Expr} {tl : TE} (hl : PE X l tl) : PI X tg l (iTup K tl) := hK ▸ pi_tup hl
theorem k_piL {tg l : Expr} {tl : TE} (hl : PE X l tl) : PI X tg l (iList K tl) := hK ▸ pi_list hl
theorem k_zip {e e2 : Expr} {ta : TA} {p pos tpos : Pos} {elts : List Expr} {kk : Nat} (hg : Gl X "zip") (hm : X.mg "zip" = none) (ha : PA X [e, e2] ta) (hs : starEach [e, e2] X.env = (false, eval e X.env) :: starEach [e2] X.env := by rfl) (hs2 : (backTo pos (starEach [e2] X.env)).any (·.1) = false := by rfl) :
    PI X (.Tuple elts kk tpos) (.Call (.Name "zip" p) [e, e2] [] pos) (RZ.iZipA K ta) := hK ▸ RZ.pi_zipA hg hm ha hs hs2
theorem k_pgT {es : List Expr} {k : Nat} {t : TGs} {n : Nat} {pos : Pos} (hc : X.calm = true) (h : PGs X es t)
    (hn : (assignEach es X.env).length = n := by rfl) (hst : (assignEach es X.env).findIdx? (·.1) = none := by rfl) : PG X (.Tuple es k pos) (gTup K n t) := hK ▸ pg_tup hc h hn hst
theorem k_bm0 {T id : String} {name : Str} {r : V → List V → Hp → VK → Prop} {o : Expr} {to : TE} {apos cpos : Pos} (pa : PlainAttrs T) (slot : Slot T name id) (hty : typeOf (.builtin id) = pure (.type "method_descriptor")) (hm : MtR X id r) (ho : PE X o to)
    (hbase : attributeBase o name X.env (eval o X.env) = eval o X.env := by rfl) (hline : (apos.endLine == cpos.line) = true := by rfl) : PE X (.Call (.Attribute o name apos) [] [] cpos) (tBM0 K T r to) := hK ▸ pe_bm0 pa slot hty hm ho hbase hline
theorem k_bm {T id : String} {name : Str} {r : V → List V → Hp → VK → Prop} {o e : Expr} {es : List Expr} {to : TE} {t : TA} {apos cpos : Pos} (pa : PlainAttrs T) (slot : Slot T name id) (hty : typeOf (.builtin id) = pure (.type "method_descriptor")) (hm : MtR X id r) (ho : PE X o to) (ha : PA X (e :: es) t)
    (hbase : attributeBase o name X.env (eval o X.env) = eval o X.env := by rfl)
    (hfew : ((backTo cpos (starEach (e :: es) X.env)).all (fun x => !x.1) && (backToKw cpos (keywordEach [] X.env)).all (fun x => x.1.isSome)
      && decide ((e :: es).length + ([] : List Keyword).length + (if ([] : List Keyword).isEmpty then 0 else 1) < 30)) = true := by rfl)
    (hline : (apos.endLine == cpos.line) = true := by rfl) (hs : starEach (e :: es) X.env = (false, eval e X.env) :: starEach es X.env := by rfl) (hplain : (backTo cpos (starEach es X.env)).any (·.1) = false := by rfl) :
    PE X (.Call (.Attribute o name apos) (e :: es) [] cpos) (tBM K T r to t) := hK ▸ pe_bm pa slot hty hm ho ha hbase hfew hline hs hplain
end
end K97
set_option Elab.async false
set_option linter.all false
set_option maxRecDepth 100000
set_option maxHeartbeats 4000000
/-! K97: sorted of any list or tuple of alike data, tuples without items among them too. -/
namespace K97S
open PySem PySem.SeqAt PySem.W PySem.Calls PyProof.Rows

section
variable {prog : Program} {w : World} {A : Around} {E : Value → Shared → Prop} {s : Shared} {M : Model}
theorem call_tuple_lt {Q : Value → Shared → Prop} {l b : Addr} {items items2 : Array Value} {e r : Nat → Bool} (hl : s.heap.IsTuple l items) (hb : s.heap.IsTuple b items2)
    (he : ∀ j (h1 : j < items.size) (h2 : j < items2.size), EqAt A.in1 s items[j] items2[j] (e j)) (hr : ∀ j (h1 : j < items.size) (h2 : j < items2.size), e j = false → RcLt A.in1 s items[j] items2[j] (r j))
    (h : Q (.bool (firstLt e r (decide (items.size < items2.size)) (List.range (min items.size items2.size)))) s) : wpAny (model prog w) A (call (.builtin "tuple.__lt__") [.ref l, .ref b]) Q E s := by
  obtain ⟨⟨cls, dd, data, sl⟩, ho, hc, n, hd⟩ := id hl
  obtain ⟨⟨cls2, dd2, data2, sl2⟩, ho2, hc2, n2, hd2⟩ := id hb
  simp only at hc hd hc2 hd2
  subst hc hd hc2 hd2
  exact call_meets F.slot_tuple_lt ⟨_, ho, rfl⟩ F.entry_tuple_lt (F.args_tuple_lt_2 _ _) (tuple_ltAt l b items items2 n n2 dd dd2 sl sl2 e r) ⟨ho, ho2, he, hr, h⟩
theorem room_here' {xs ys : List PyData} {A : Around} (hu : A.units + min (PyData.tuple xs).depth (PyData.tuple ys).depth < cLine) : A.units < cLine := by omega
theorem oneLt_tup {xs ys : List PyData} {a b : Value} {as bs : List Addr} {Q : Bool → Shared → Prop} (ra : Reads s.heap a (.tuple xs) as) (rb : Reads s.heap b (.tuple ys) bs) (h : alike (.tuple xs) (.tuple ys) = true)
    (hu : A.units + min (PyData.tuple xs).depth (PyData.tuple ys).depth < cLine) (hq : Q (dataLt (.tuple xs) (.tuple ys)) s) : wpAny (model prog w) A (oneLt' true a b) Q E s := by
  have hal : alikeAll xs ys = true := by simpa [alike] using h
  cases ra with
  | @tuple l o vs n _ as₁ h1 h2 h3 h4 =>
    cases rb with
    | @tuple l' o' vs' n' _ bs₁ k1 k2 k3 k4 =>
      have n1 : vs.size = xs.length := by simpa using ReadsAll.length _ _ _ h4
      have n2 : vs'.size = ys.length := by simpa using ReadsAll.length _ _ _ k4
      rw [dataLt_tuple, ← firstLt_toks xs ys hal, ← n1, ← n2] at hq
      rw [oneLt'_eq]
      simp only [if_true]
      refine wpAny_bind (wpAny_cRoomFor (room_here' hu) ?_)
      refine wpAny_bind (wpAny_callSpecialIfBound?_slot (T := "tuple") ⟨_, h1, h2⟩ F.slot_tuple_lt (call_tuple_lt (e := pairEq xs ys) (r := fun j => dataLt (xs.getD j .none) (ys.getD j .none)) ⟨_, h1, h2, _, h3⟩ ⟨_, k1, k2, _, k3⟩ (fun j j1 j2 => ?_) (fun j j1 j2 hj => ?_) ?_))
      · have := eqAt_alikeAll xs ys A.in1 s vs.toList vs'.toList _ _ h4 k4 hal (room_in hu) j (by simpa using j1) (by simpa using j2)
        simpa using this
      · have := rcLt_alikeAll xs ys A.in1 s vs.toList vs'.toList _ _ h4 k4 hal (room_in hu) j (by simpa using j1) (by simpa using j2) hj
        simpa using this
      · exact wpAny_truthy_bool hq
/-- a tuple with an item -/
def full : PyData → Bool
  | .tuple (_ :: _) => true
  | _ => false
theorem firstsX : ∀ (vs : List Value) (ds : List PyData) {Q : List (Option Value) → Shared → Prop}, EachIs (fun v d => ∃ as, Reads s.heap v d as) vs ds → (∀ d ∈ ds, ∃ xs, d = .tuple xs) → (∀ fs : List (Option Value), fs.map (·.isSome) = ds.map full → Q fs s) → wpAny M A (vs.mapM firstOfTuple') Q E s
  | _, _, Q, .nil, _, h => by
    rw [List.mapM_nil]
    exact wpAny_pure (h [] rfl)
  | _, _, Q, .cons (a := v) (b := d) (as := vs) (bs := ds) ⟨as, r⟩ t, ht, h => by
    obtain ⟨xs, rfl⟩ := ht d (List.mem_cons_self ..)
    rw [List.mapM_cons]
    refine wpAny_bind ?_
    rw [kas_first_eq]
    cases r with
    | @tuple a o its n _ as ho hc hd hr =>
      refine wpAny_bind (Looks.here (show Looks M s.heap (typeOf (.ref a)) o.cls from (Looks.ld ho).andThen .now) ?_)
      rw [hc, if_neg (by first | decide | simp)]
      refine wpAny_bind (listItems_at ho hd (wpAny_pure ?_))
      refine wpAny_bind (firstsX vs ds t (fun d hd => ht d (List.mem_cons_of_mem _ hd)) fun fs hf => wpAny_pure (h _ ?_))
      rw [List.map_cons, List.map_cons, hf]
      congr 1
      cases xs with
      | nil =>
        have : its.toList = [] := by cases q : its.toList with
          | nil => rfl
          | cons x r' => rw [q] at hr; cases hr
        have e : its[0]? = none := by rw [← Array.getElem?_toList, this]; rfl
        rw [e]; rfl
      | cons x r' =>
        cases q : its.toList with
        | nil => rw [q] at hr; cases hr
        | cons y r'' =>
          have e : its[0]? = some y := by rw [← Array.getElem?_toList, q]; rfl
          rw [e]; rfl
/-- the kind of sort of tuples one of which has no item -/
theorem kindX {vs : List Value} {d₀ : PyData} {r₀ : List PyData} {Q : SortKind → Shared → Prop} (e : EachIs (fun v d => ∃ as, Reads s.heap v d as) vs (d₀ :: r₀)) (ht : ∀ d ∈ d₀ :: r₀, ∃ xs, d = .tuple xs) (hn : ¬ ∀ d ∈ d₀ :: r₀, full d = true) (h2 : 2 ≤ vs.length)
    (h1 : full d₀ = true → Q general' s) (h3 : full d₀ = false → Q oneType' s) : wpAny M A (keyKind' vs.toArray) Q E s := by
  obtain ⟨v₁, v₂, rest, rfl⟩ : ∃ v₁ v₂ rest, vs = v₁ :: v₂ :: rest := by
    match vs, h2 with
    | [], h2 => simp at h2
    | [_], h2 => simp at h2
    | v₁ :: v₂ :: rest, _ => exact ⟨v₁, v₂, rest, rfl⟩
  rw [kat_kind_eq, List.mapM_toArray, map_eq_pure_bind]
  refine wpAny_bind (wpAny_bind (firstsX _ _ e ht fun fs hf => wpAny_pure ?_))
  have hall : ¬ ((fs.toArray.all fun x => x.isSome) = true) := by
    intro q
    apply hn
    intro d hd
    have q' : ∀ x ∈ fs, x.isSome = true := by simpa using q
    have hm : full d ∈ fs.map (·.isSome) := by rw [hf]; exact List.mem_map.mpr ⟨d, hd, rfl⟩
    obtain ⟨x, hx, hxe⟩ := List.mem_map.mp hm
    rw [← hxe]
    exact q' x hx
  rw [if_neg hall]
  have e0 : ((fs.toArray[0]?).bind id).isSome = full d₀ := by
    cases fs with
    | nil => simp at hf
    | cons f fr =>
      have := (List.cons.inj hf).1
      rw [← this]
      simp
  by_cases hf0 : ((fs.toArray[0]?).bind id).isSome = true
  · rw [if_pos hf0]
    exact wpAny_pure (h1 (e0 ▸ hf0))
  · rw [if_neg hf0]
    rw [oneTypeOnly'_eq, List.mapM_toArray, map_eq_pure_bind]
    refine wpAny_bind (wpAny_bind (wpAny_bind (kas_mapM (r := Value.type "tuple") _ (fun v hv Q' hq => ?_) (wpAny_pure ?_))))
    · obtain ⟨d, hd, as, r⟩ := e.left v hv
      obtain ⟨xs, rfl⟩ := ht d hd
      exact (looks_reads r).here hq
    · have hall2 : ((List.map (fun _ => Value.type "tuple") (v₁ :: v₂ :: rest)).toArray.all fun x => x == Value.type "tuple") = true := by
        simp only [List.all_toArray, List.all_map, List.all_eq_true]
        intro _ _
        rfl
      have h0 : (List.map (fun _ => Value.type "tuple") (v₁ :: v₂ :: rest)).toArray[0]? = some (Value.type "tuple") := by simp
      rw [h0]
      simp only [hall2, if_true]
      exact wpAny_pure (wpAny_pure (h3 (by rw [← e0]; simpa using hf0)))
/-- sortable: as the library says, or tuples alone -/
def SortOk (ds : List PyData) : Prop := Sortable ds ∨ ∀ d ∈ ds, ∃ xs, d = .tuple xs
theorem full_tup {d : PyData} (h : full d = true) : ∃ x r, d = .tuple (x :: r) := by
  cases d with
  | tuple xs =>
    cases xs with
    | nil => cases h
    | cons x r => exact ⟨x, r, rfl⟩
  | _ => cases h
theorem sortsAt2 {vs : List Value} {ds : List PyData} (e : EachIs (fun v d => ∃ as, Reads s.heap v d as) vs ds) (hal : AllAlike ds) (hk : SortOk ds) (hu : ∀ d, d ∈ ds → A.units + d.depth < cLine) : SortsAt prog w A s (dataKind s.heap ds) vs := by
  rcases hk with hk | ht
  · exact SortsAt.data e hal hk hu
  · by_cases hn : ∀ d ∈ ds, full d = true
    · exact SortsAt.data e hal (.inl fun d hd => full_tup (hn d hd)) hu
    · have room : ∀ {d d' : PyData}, d ∈ ds → A.units + min d.depth d'.depth < cLine := fun {d d'} hd => Nat.lt_of_le_of_lt (Nat.add_le_add_left (Nat.min_le_left _ _) _) (hu d hd)
      have lt1 : H.LtAt prog w A s (dataKind s.heap ds) oneType' := by
        intro E x y a b Q ha hb hq
        obtain ⟨d, as, hd, ra, rfl⟩ := dataKind_inv ha
        obtain ⟨d', as', hd', rb, rfl⟩ := dataKind_inv hb
        rw [keyLt'_oneType]
        obtain ⟨xs, rfl⟩ := ht d hd
        obtain ⟨ys, rfl⟩ := ht d' hd'
        exact oneLt_tup ra rb (hal _ hd _ hd') (room hd) hq
      have lt2 : H.LtAt prog w A s (dataKind s.heap ds) general' := by
        intro E x y a b Q ha hb hq
        obtain ⟨d, as, hd, ra, rfl⟩ := dataKind_inv ha
        obtain ⟨d', as', hd', rb, rfl⟩ := dataKind_inv hb
        show wpAny (model prog w) A (oneLt' false x y) Q E s
        refine oneLt_alike (fun z => nomatch z) ra rb (hal d hd d' hd') (fun z => ?_) (room hd) hq
        obtain ⟨xs, q⟩ := ht d hd
        rw [q] at z; cases z
      refine ⟨fun v hv => ?_, ?_⟩
      · obtain ⟨d, hd, as, r⟩ := e.left v hv
        exact ⟨_, dataKind_some hal hd r⟩
      · by_cases h2 : 2 ≤ vs.length
        · -- which of the two kinds the first key tells
          cases ds with
          | nil =>
            cases e
            simp at h2
          | cons d₀ r₀ =>
            by_cases h0 : full d₀ = true
            · exact ⟨general', lt2, fun _ E Q hq => kindX e ht hn h2 (fun _ => hq) fun z => by rw [h0] at z; cases z⟩
            · exact ⟨oneType', lt1, fun _ E Q hq => kindX e ht hn h2 (fun z => absurd z h0) fun _ => hq⟩
        · exact ⟨oneType', lt1, fun q => absurd q h2⟩
end
end K97S
namespace K97S
open PySem PySem.SeqAt PySem.W PySem.Calls PyProof.Rows
section
variable {prog : Program} {w : World} {A : Around} {E : Value → Shared → Prop} {s : Shared}
theorem collect_tup {l : Addr} {vs : List Value} {Q : List Value → Shared → Prop} (hl : s.heap.IsTuple l vs.toArray)
    (h : Q vs { s with heap := (s.heap.push (seqObj "list" #[] 0)).update s.heap.objs.size (Obj.mapSeq (· ++ vs.toArray)) }) (hsz : vs.length ≤ sizeLine) :
    wpAny (model prog w) A (collect (.ref l)) Q E s := by
  obtain ⟨o, ho, hc, n, hd⟩ := id hl
  unfold collect
  refine wpAny_bind (wpAny_runValue (codeAny_builtin entry_proto_collect' ?_))
  show wpAny _ _ (do again (.builtin "list.__iadd__" ⟨[← newList [], .ref l], []⟩)) _ _ s
  refine wpAny_bind (wpAny_newList (wpAny_pure ⟨Code.quiet_builtin _ (by decide +kernel), codeAny_builtin entry_list_iadd' ?_⟩))
  show wpAny _ _ (Builtin.List.listExtendWith (.ref s.heap.objs.size) (.ref l) (.ref s.heap.objs.size)) _ _ { s with heap := s.heap.push (seqObj "list" #[] 0) }
  unfold Builtin.List.listExtendWith
  have ho' : (s.heap.push (seqObj "list" #[] 0)).get? l = some o := Heap.get?_push_of_some _ ho
  refine wpAny_bind (wpAny_typeOf (T := "tuple") ⟨o, ho', hc⟩ ?_)
  have ht : (Value.type "tuple" == Value.type "tuple") = true := by rfl
  rw [if_pos (by rw [ht]; simp)]
  refine wpAny_bind (listItems_at ho' hd ?_)
  refine wpAny_bind (listItems_at (xs := #[]) (n := 0) (Heap.get?_push_size _ rfl) rfl ?_)
  rw [if_neg (by simp)]
  refine wpAny_bind (listUpdate_at (xs := #[]) (n := 0) (Heap.get?_push_size _ rfl) rfl ?_ (Nat.zero_le _) (by show (#[] ++ vs.toArray).size ≤ sizeLine + 1; simp only [Array.size_append, List.size_toArray, List.length_nil]; omega))
  refine wpAny_pure ?_
  show wpAny (model prog w) A (do
      let o ← load s.heap.objs.size
      match o.data with
      | .seq xs _ => pure xs.toList
      | _ => unsupported "internal:collect") Q E { s with heap := (s.heap.push (seqObj "list" #[] 0)).update s.heap.objs.size (Obj.mapSeq (· ++ vs.toArray)) }
  refine wpAny_bind (wpAny_load (get?_update_seq (Heap.get?_push_size _ rfl) _) ?_)
  show wpAny _ _ (pure ((#[] : Array Value) ++ vs.toArray).toList) Q E _
  rw [show ((#[] : Array Value) ++ vs.toArray).toList = vs by simp]
  exact wpAny_pure h
theorem copy_old {h : Heap} {vs : List Value} {b : Addr} {o : Obj} (e : h.get? b = some o) : ((h.push (seqObj "list" #[] 0)).update h.objs.size (Obj.mapSeq (· ++ vs.toArray))).get? b = some o := by
  have hlt : b < h.objs.size := Heap.lt_size e
  rw [Heap.get?_update_ne _ _ _ _ (Nat.ne_of_lt hlt), Heap.get?_push_ne _ _ _ (Nat.ne_of_lt hlt)]
  exact e
/-- sorted(x), where x's items are collected as vs -/
theorem sorted_col {u : Value} {vs : List Value} {Q : Value → Shared → Prop} (hL : vs.length ≤ sizeLine)
    (hc : ∀ (E' : Value → Shared → Prop) (Q' : List Value → Shared → Prop), (∀ s1, (∀ b o, s.heap.get? b = some o → s1.heap.get? b = some o) → s1.gens = s.gens → s1.os = s.os → Q' vs s1) → wpAny (model prog w) A.in1 (collect u) Q' E' s)
    (κ : Shared → PyProof.Rows.KeyKind) (S : ∀ s1 : Shared, (∀ b o, s.heap.get? b = some o → s1.heap.get? b = some o) → SortsAt prog w A.in1.in1 s1 (κ s1) vs)
    (h : ∀ (s1 s2 s0 : Shared) (out : List Value) (c : Nat), (∀ b o, s.heap.get? b = some o → s1.heap.get? b = some o) → (∀ b o, s.heap.get? b = some o → s0.heap.get? b = some o) → out = sortVals (κ s0) false vs vs → (∀ b o, s1.heap.get? b = some o → s2.heap.get? b = some o) →
      s1.gens = s.gens → s1.os = s.os → s2.gens = s1.gens → s2.os = s1.os → s2.heap.get? s1.heap.objs.size = some (seqObj "list" out.toArray c) → Q (.ref s1.heap.objs.size) s2) :
    wpAny (model prog w) A (call (.builtin "sorted") [u]) Q E s := by
  refine call_function_entry_kw kind_sorted plain_sorted entry_sorted (args_sorted1 _) ?_
  unfold Builtin.«sorted»
  refine wpAny_bind (m := checkCount "sorted" 1 1 _) (wpAny_pure ?_)
  refine wpAny_bind (hc _ _ fun s1 k1 g1 o1 => ?_)
  refine wpAny_bind (wpAny_newList ?_ hL)
  have hoL : (s1.heap.push (seqObj "list" vs.toArray 0)).get? s1.heap.objs.size = some (seqObj "list" vs.toArray 0) := Heap.get?_push_size _ rfl
  have kk : ∀ b o, s.heap.get? b = some o → (sortingHeap (s1.heap.push (seqObj "list" vs.toArray 0)) s1.heap.objs.size vs).get? b = some o := fun b o e => by
    have q := k1 b o e
    exact sortingHeap_old (Nat.ne_of_lt (Heap.lt_size q)) (Heap.get?_push_of_some _ q)
  refine wpAny_bind (wpAny_holding (wpAny_call_entry_kw slot_list_sort ⟨_, hoL, rfl⟩ entry_list_sort ?body (args_list_sort _)))
  case body =>
    refine list_sort_vals (κ := κ { s1 with heap := sortingHeap (s1.heap.push (seqObj "list" vs.toArray 0)) s1.heap.objs.size vs }) (s := { s1 with heap := s1.heap.push (seqObj "list" vs.toArray 0) }) hoL (S _ kk) hL ⟨_, rfl, ?_⟩
    obtain ⟨c, hcc⟩ := sortedHeap_at (vs := vs) (out := (sortVals (κ { s1 with heap := sortingHeap (s1.heap.push (seqObj "list" vs.toArray 0)) s1.heap.objs.size vs }) false vs vs).toArray) hoL
    refine wpAny_pure ⟨_, rfl, h s1 _ { s1 with heap := sortingHeap (s1.heap.push (seqObj "list" vs.toArray 0)) s1.heap.objs.size vs } _ c k1 kk rfl (fun b u q => ?_) g1 o1 rfl rfl hcc⟩
    have hlt := Heap.lt_size q
    show (sortedHeap (s1.heap.push (seqObj "list" vs.toArray 0)) s1.heap.objs.size vs _).get? b = some u
    rw [sortedHeap_old (Nat.ne_of_lt hlt) (by rw [size_push']; exact Nat.lt_succ_of_lt hlt)]
    exact Heap.get?_push_of_some _ q
end
end K97S
namespace K97
open PySem L2
/-- what sorted gives -/
def sortD (ds : List PyData) : List PyData := ds.mergeSort (PySem.W.dataLe false id)
def SortIn (ds : List PyData) : Prop := PySem.W.AllAlike ds ∧ K97S.SortOk ds ∧ (∀ d ∈ ds, d.depth ≤ 60 ∧ d.plain = true) ∧ ds.length ≤ 100000
def rSortF (K : Fg) : List V → Hp → VK → Prop := fun xs H Q => ∃ p vs ds, xs = [.ref p] ∧ (TupF H p vs ∨ SqL K H p vs) ∧ RpAll K H vs ds ∧ SortIn ds ∧ ∀ q ys, H q = none → (∀ G, RpAll K G vs ds → RpAll K G ys (sortD ds)) → Q (.ref q) (upd H q (.lst ys))
section
variable {X : Cx}
theorem eachR {K : Fg} {H : Hp} : ∀ {vs : List V} {us : List Value} {ds : List PyData}, RpAll K H vs ds → Vals vs us → PySem.W.EachIs (fun u d => ∃ v, RelV v u ∧ Rp K H v d) us ds
  | _, _, [], r, q => by
    cases r
    cases q
    exact .nil
  | _, _, d :: ds, r, q => by
    cases r with
    | cons r1 r2 =>
      cases q with
      | cons q1 q2 => exact .cons ⟨_, q1, r1⟩ (eachR r2 q2)
theorem each_vals {K : Fg} {H : Hp} : ∀ {us : List Value} {ds : List PyData}, PySem.W.EachIs (fun u d => ∃ v, RelV v u ∧ Rp K H v d) us ds → ∃ vs, Vals vs us ∧ RpAll K H vs ds
  | _, _, .nil => ⟨[], .nil, .nil⟩
  | _, _, .cons ⟨v, h1, h2⟩ t => by
    obtain ⟨vs, q1, q2⟩ := each_vals t
    exact ⟨v :: vs, .cons h1 q1, .cons h2 q2⟩
theorem k_sorted0 (hu : X.A.units + 64 < cLine) : CallR X (.builtin "sorted") (rSortF X.K) := by
  intro pins s σ H xs us Q I r h
  obtain ⟨p, vs, ds, rfl, hx, ra, ⟨hal, hok, hpd, hlen⟩, q⟩ := h
  obtain ⟨u, rfl, rx⟩ := vals1 r
  cases rx
  -- the items, and how they are collected
  have got : ∃ (its : List Value), Vals vs its ∧ its.length ≤ sizeLine ∧ ∀ (E' : Value → Shared → Prop) (Q' : List Value → Shared → Prop), (∀ s1 : Shared, (∀ b o, s.heap.get? b = some o → s1.heap.get? b = some o) → s1.gens = s.gens → s1.os = s.os → Q' its s1) →
      wpAny (model X.prog X.w) X.A.in1 (collect (.ref p)) Q' E' s := by
    rcases hx with hx | hx
    · obtain ⟨its, rv, ht, hz⟩ := I.tuple (TupF.sq (K := X.K) hx)
      refine ⟨its, rv, by rw [← rv.length]; exact hz, fun E' Q' hq => K97S.collect_tup ht (hq _ (fun b o e => K97S.copy_old e) rfl rfl) (by rw [← rv.length]; exact hz)⟩
    · obtain ⟨its, rv, pl, hz⟩ := I.list hx
      refine ⟨its, rv, by rw [← rv.length]; exact hz, fun E' Q' hq => PyProof.Rows.collect_list pl.isList (hq _ (fun b o e => K97S.copy_old e) rfl rfl) (by rw [← rv.length]; exact hz)⟩
  obtain ⟨its, rv, hL, hc⟩ := got
  have eR := eachR ra rv
  have reads : PySem.W.EachIs (fun u d => ∃ as, Reads s.heap u d as) its ds := by
    refine (PySem.W.each_mem eR).mono fun u d ⟨⟨v, h1, h2⟩, hd⟩ => Dp.reads I d v u (Rp.dp d v (hpd d hd).2 h2) h1
  have up : ∀ {s1 : Shared}, (∀ b o, s.heap.get? b = some o → s1.heap.get? b = some o) → PySem.W.EachIs (fun u d => ∃ as, Reads s1.heap u d as) its ds := fun k => reads.mono fun _ _ ⟨as, r⟩ => ⟨as, PyProof.Rows.Reads.keeps k r⟩
  refine K97S.sorted_col hL hc (fun s1 => PySem.W.dataKind s1.heap (ds.map id)) (fun s1 k => K97S.sortsAt2 (by rw [List.map_id]; exact up k) (by rw [List.map_id]; exact hal) (by rw [List.map_id]; exact hok) fun d hd => ?_) fun s1 s2 s0 out c k1 k0 ho k2 g1 o1 g2 o2 hp => ?_
  · rw [List.map_id] at hd
    have h1 := (hpd d hd).1
    show X.A.units + 1 + 1 + d.depth < cLine
    omega
  · have all : ∀ G, RpAll X.K G vs ds → ∃ ys, Vals ys out ∧ RpAll X.K G ys (sortD ds) := fun G rg => by
      have e2 := PySem.W.sortVals_data (R := fun u d => ∃ v, RelV v u ∧ Rp X.K G v d) (enc := id) (bs := ds) (vs := its) (h' := s0.heap) false (eachR rg rv) (up k0) (by rw [List.map_id]; exact hal)
      rw [← ho] at e2
      exact each_vals e2
    obtain ⟨ys, rys, rpy⟩ := all H ra
    have I1 : Inv X pins σ H s1 := I.call' (ch := []) o1 (Un.kept k1) (I.hok.kept k1) (by rw [g1]; exact I.bare) (fun _ z => nomatch z)
    have hf : H s1.heap.objs.size = none := I1.hok.fresh (Nat.le_refl _)
    have hy : ys.length ≤ sizeLine := by
      rw [rys.length, ho, PySem.W.sortVals_length false rfl]
      exact hL
    have I2 : Inv X pins σ (upd H s1.heap.objs.size (.lst ys)) s2 := I1.call' (ch := []) o2 (Un.laid k2 (Nat.le_refl _) hf) (I1.hok.laid k2 (Nat.le_refl _) ⟨hy, out, c, rys, hp⟩) (by rw [g2]; exact I1.bare) (fun _ z => nomatch z)
    refine ⟨.ref s1.heap.objs.size, _, I2, rfl, q _ ys hf fun G rg => ?_⟩
    obtain ⟨ys', r1, r2⟩ := all G rg
    rw [rys.inj r1]
    exact r2
end
section
variable {X : Cx} (K : Fg) (hK : X.K = K)
include hK
theorem k_sorted (hu : X.A.units + 64 < cLine) : CallR X (.builtin "sorted") (rSortF K) := hK ▸ k_sorted0 hu
end
section
variable {K : Fg} {Γ : En} {te : TE} {ds : List PyData}
theorem el_sortT (h : EvC K Γ te (.tuple ds)) (hs : SortIn ds) : EvL K Γ (tCB (rSortF K) (tCons te tNil)) (sortD ds) := fun F B σ H E Q q => h F B σ H E _ fun v H1 e1 r1 => by
  obtain ⟨p, vs, rfl, h1, h2⟩ := r1.tup
  exact ⟨p, vs, ds, rfl, .inl (h1.up cut_ex), h2.up cut_ex, hs, fun l ys hl all => newL (E.ext e1) e1 (all _ h2) q l hl⟩
theorem el_sortL (h : EvC K Γ te (.list ds)) (hs : SortIn ds) : EvL K Γ (tCB (rSortF K) (tCons te tNil)) (sortD ds) := fun F B σ H E Q q => h F B σ H E _ fun v H1 e1 r1 => by
  obtain ⟨p, vs, rfl, h1, h2⟩ := r1.lst cut_ex
  exact ⟨p, vs, ds, rfl, .inr h1, h2.up cut_ex, hs, fun l ys hl all => newL (E.ext e1) e1 (all _ h2) q l hl⟩
end
end K97
set_option Elab.async false
set_option linter.all false
set_option maxRecDepth 100000
set_option maxHeartbeats 4000000
/-! K97: typed data, environments told less of, loops over typed data. -/
namespace K97
open PySem L2
/-- a type whose values are plain data, alike among themselves -/
class Dt (α : Type) where
  en : α → PyData
  k : Nat
  pl : ∀ a, (en a).plain = true
  dp : ∀ a, (en a).depth ≤ k
  al : ∀ a b, PySem.W.alike (en a) (en b) = true
  ev : ∀ a b, PyData.eqv (en a) (en b) = true ↔ a = b
  so : (∀ a, en a ≠ .none ∧ ∀ xs, en a ≠ .tuple xs) ∨ ∀ a, ∃ xs, en a = .tuple xs
open Dt (en)
instance : Dt Str where
  en := .str
  k := 1
  pl _ := rfl
  dp _ := by simp [PyData.depth]
  al _ _ := by simp [PySem.W.alike]
  ev a b := by simp [PyData.eqv]
  so := .inl fun a => ⟨by simp, by simp⟩
instance : Dt Int where
  en := .int
  k := 1
  pl _ := rfl
  dp _ := by simp [PyData.depth]
  al _ _ := by simp [PySem.W.alike]
  ev a b := by simp [PyData.eqv]
  so := .inl fun a => ⟨by simp, by simp⟩
section
variable {α β : Type} [Dt α] [Dt β]
instance : Dt (α × β) where
  en p := .tuple [en p.1, en p.2]
  k := 1 + max (Dt.k α) (Dt.k β)
  pl p := by simp [PyData.plain, PyData.plainAll, Dt.pl]
  dp p := by
    have h1 := Dt.dp p.1
    have h2 := Dt.dp p.2
    simp only [PyData.depth, PyData.depthAll]
    omega
  al p q := by simp [PySem.W.alike, PySem.W.alikeAll, Dt.al]
  ev p q := by
    simp [PyData.eqv, PyData.eqvAll, Dt.ev, Prod.ext_iff]
  so := .inr fun p => ⟨_, rfl⟩
theorem dt_plain : ∀ xs : List α, PyData.plainAll (xs.map en) = true
  | [] => rfl
  | x :: xs => by simp [PyData.plainAll, Dt.pl, dt_plain xs]
theorem dt_depth : ∀ xs : List α, PyData.depthAll (xs.map en) ≤ Dt.k α
  | [] => by simp [PyData.depthAll]
  | x :: xs => by
    have h1 := Dt.dp x
    have h2 := dt_depth xs
    simp only [PyData.depthAll, List.map_cons]
    omega
theorem dt_alike : ∀ xs ys : List α, PySem.W.alikeAll (xs.map en) (ys.map en) = true
  | [], _ => by simp [PySem.W.alikeAll]
  | _ :: _, [] => by simp [PySem.W.alikeAll]
  | x :: xs, y :: ys => by simp [PySem.W.alikeAll, Dt.al, dt_alike xs ys]
theorem dt_eqv : ∀ xs ys : List α, PyData.eqvAll (xs.map en) (ys.map en) = true ↔ xs = ys
  | [], [] => by simp [PyData.eqvAll]
  | [], _ :: _ => by simp [PyData.eqvAll]
  | _ :: _, [] => by simp [PyData.eqvAll]
  | x :: xs, y :: ys => by simp [PyData.eqvAll, Dt.ev, dt_eqv xs ys]
instance : Dt (List α) where
  en xs := .tuple (xs.map en)
  k := 1 + Dt.k α
  pl xs := by rw [PyData.plain]; exact dt_plain xs
  dp xs := by
    have := dt_depth xs
    simp only [PyData.depth]
    omega
  al p q := by rw [PySem.W.alike]; exact dt_alike p q
  ev p q := by rw [PyData.eqv]; exact dt_eqv p q
  so := .inr fun p => ⟨_, rfl⟩
theorem dt_dec [DecidableEq α] (a b : α) : PyData.eqv (en a) (en b) = decide (a = b) := by
  by_cases h : a = b
  · rw [decide_eq_true h, Dt.ev]
    exact h
  · rw [decide_eq_false h]
    cases q : PyData.eqv (en a) (en b) with
    | false => rfl
    | true => exact absurd ((Dt.ev a b).mp q) h
theorem dt_any [DecidableEq α] (a : α) (xs : List α) : ((xs.map en).any fun z => PyData.eqv z (en a)) = decide (a ∈ xs) := by
  rw [List.any_map]
  induction xs with
  | nil => simp
  | cons x xs ih =>
    rw [List.any_cons, ih]
    simp only [Function.comp, dt_dec]
    by_cases h : x = a
    · simp [h]
    · have : ¬ a = x := fun z => h z.symm
      simp [h, this]
theorem en_inj {a b : α} (h : en a = en b) : a = b := (Dt.ev a b).mp (by rw [h]; exact (Dt.ev b b).mpr rfl)
/-- Python's sorted -/
def dle (a b : α) : Bool := PySem.W.dataLe false en a b
def dsort (xs : List α) : List α := xs.mergeSort dle
theorem sortD_en (xs : List α) : sortD (xs.map en) = (dsort xs).map en := (PySem.W.sort_maps en fun _ _ _ _ => rfl).symm
theorem dsort_perm (xs : List α) : (dsort xs).Perm xs := List.mergeSort_perm _ _
theorem mem_dsort {a : α} {xs : List α} : a ∈ dsort xs ↔ a ∈ xs := (dsort_perm xs).mem_iff
theorem len_dsort (xs : List α) : (dsort xs).length = xs.length := (dsort_perm xs).length_eq
theorem sortIn_en (hk : Dt.k α ≤ 60) {xs : List α} (hl : xs.length ≤ 100000) : SortIn (xs.map en) := by
  refine ⟨fun d hd d' hd' => ?_, ?_, fun d hd => ?_, by rw [List.length_map]; exact hl⟩
  · obtain ⟨a, _, rfl⟩ := List.mem_map.mp hd
    obtain ⟨b, _, rfl⟩ := List.mem_map.mp hd'
    exact Dt.al a b
  · rcases Dt.so (α := α) with h | h
    · refine .inl (.inr fun d hd => ?_)
      obtain ⟨a, _, rfl⟩ := List.mem_map.mp hd
      exact h a
    · refine .inr fun d hd => ?_
      obtain ⟨a, _, rfl⟩ := List.mem_map.mp hd
      exact h a
  · obtain ⟨a, _, rfl⟩ := List.mem_map.mp hd
    exact ⟨Nat.le_trans (Dt.dp a) hk, Dt.pl a⟩
end

/-! ### an environment told less of -/
inductive Wk : En → En → Prop
  | nil : Wk [] []
  | same {e : Ent} {Γ Γ' : En} : Wk Γ Γ' → Wk (e :: Γ) (e :: Γ')
  | drop {e : Ent} {Γ Γ' : En} : e.mut = false → Wk Γ Γ' → Wk (e :: Γ) (.no :: Γ')
theorem Wk.rfl' : ∀ Γ : En, Wk Γ Γ
  | [] => .nil
  | _ :: Γ => .same (Wk.rfl' Γ)
theorem Wk.eq {e e' : Ent} {Γ Γ' : En} (h : e = e') (w : Wk Γ Γ') : Wk (e :: Γ) (e' :: Γ') := by subst h; exact .same w
theorem Wk.len {Γ Γ' : En} (w : Wk Γ Γ') : Γ'.length = Γ.length := by
  induction w with
  | nil => rfl
  | same _ ih => rw [List.length_cons, List.length_cons, ih]
  | drop _ _ ih => rw [List.length_cons, List.length_cons, ih]
theorem Wk.get {Γ Γ' : En} (w : Wk Γ Γ') : ∀ (i : Nat) (e : Ent), Γ'[i]? = some e → Γ[i]? = some e ∨ e = .no ∧ ∃ e' : Ent, Γ[i]? = some e' ∧ e'.mut = false := by
  induction w with
  | nil => intro i e h; exact .inl h
  | same _ ih =>
    intro i e h
    cases i with
    | zero => exact .inl h
    | succ i => exact ih i e h
  | @drop e0 _ _ hm _ ih =>
    intro i e h
    cases i with
    | zero =>
      cases h
      exact .inr ⟨rfl, e0, rfl, hm⟩
    | succ i => exact ih i e h
theorem Wk.getR {Γ Γ' : En} (w : Wk Γ Γ') : ∀ (i : Nat) (e : Ent), Γ[i]? = some e → e.mut = true → Γ'[i]? = some e := by
  induction w with
  | nil => intro i e h; exact fun _ => h
  | same _ ih =>
    intro i e h hm
    cases i with
    | zero => exact h
    | succ i => exact ih i e h hm
  | @drop e0 _ _ hm0 _ ih =>
    intro i e h hm
    cases i with
    | zero =>
      cases h
      rw [hm0] at hm; cases hm
    | succ i => exact ih i e h hm
section
variable {K : Fg} {F : Addr → Prop} {B : Hp} {Γ Γ' Γ1 Γ2 : En} {σ : L2.St} {H : Hp}
theorem Wk.mu (w : Wk Γ Γ') : mu Γ' σ = K97.mu Γ σ := by
  funext a
  apply propext
  constructor
  · rintro ⟨i, e, h1, h2, h3⟩
    rcases w.get i e h1 with h | ⟨rfl, _⟩
    · exact ⟨i, e, h, h2, h3⟩
    · cases h2
  · rintro ⟨i, e, h1, h2, h3⟩
    exact ⟨i, e, w.getR i e h1 h2, h2, h3⟩
theorem EnvR.wk (E : EnvR K F B Γ σ H) (w : Wk Γ Γ') : EnvR K F B Γ' σ H := by
  have hm := w.mu (σ := σ)
  refine ⟨by rw [w.len]; exact E.len, E.base, by rw [hm]; exact E.low, by rw [hm]; exact E.out, E.fin, fun i d q => ?_, fun i d q => ?_, fun i d q => ?_, fun i d q => ?_, fun i j e f a h1 h2 h3 h4 => ?_⟩
  · rw [hm]
    rcases w.get i _ q with h | ⟨h, _⟩
    · exact E.im i d h
    · cases h
  · rw [hm]
    rcases w.get i _ q with h | ⟨h, _⟩
    · exact E.ac i d h
    · cases h
  · rw [hm]
    rcases w.get i _ q with h | ⟨h, _⟩
    · exact E.dc i d h
    · cases h
  · rcases w.get i _ q with h | ⟨h, _⟩
    · exact E.bx i d h
    · cases h
  · refine E.inj i j e f a ?_ ?_ h3 h4
    · rcases w.get i _ h1 with h | ⟨h, _⟩
      · exact h
      · rw [h] at h3; cases h3
    · rcases w.get j _ h2 with h | ⟨h, _⟩
      · exact h
      · rw [h] at h4; cases h4
variable {ta tb te : TE} {tt : TT} {ts tu : TS} {N N1 : En → Prop} {R : PyData → En → Prop} {a : Bool}
/-- start from less -/
theorem sg_wk (w : Wk Γ Γ') (h : StG K Γ' ts N R) : StG K Γ ts N R := fun F B D σ H E n r => by
  have e : frz F Γ' σ H = frz F Γ σ H := by rw [frz, frz, w.mu]
  exact h F B D σ H (E.wk w) (fun Γ2 σ' H' q1 q2 q3 => n Γ2 σ' H' q1 q2 (e ▸ q3)) fun d Γ2 σ' v H' q1 q2 q3 q4 => r d Γ2 σ' v H' q1 q2 (e ▸ q3) q4
theorem sg_seqW (Γ1 : En) (h : StG K Γ ts (fun Γ' => Wk Γ' Γ1) R) (g : StG K Γ1 tu N R) : StG K Γ (tSeq ts tu) N R :=
  sg_seq h fun Γ' w => sg_wk w g
/-- a loop: what stands before each turn -/
theorem sg_forW {pr : Bool} {wi : TI} {g : TG} {ds : List PyData} (Γi : Nat → En) (hi : ItG pr K Γ wi ds) (w0 : Wk Γ (Γi 0)) (hs : ∀ i d, ds[i]? = some d → ∃ Γ2 js, TgG pr K (Γi i) g d Γ2 js ∧ StG K Γ2 ts (fun Γ' => Wk Γ' (Γi (i + 1))) R) (hd : StG K (Γi ds.length) tu N R) : StG K Γ (tSeq (tFor wi g ts) tu) N R :=
  sg_seq (N1 := fun Γ' => Wk Γ' (Γi ds.length)) (sg_for hi (fun i Γ' => Wk Γ' (Γi i)) w0 (fun i d Γ' hd w => by
    obtain ⟨Γ2, js, h1, h2⟩ := hs i d hd
    refine ⟨Γ2, js, fun F B σ H v E r Q q => ?_, h2⟩
    have e : frz F (Γi i) σ H = frz F Γ' σ H := by rw [frz, frz, w.mu]
    exact h1 F B σ H v (E.wk w) (by rw [e]; exact r) Q fun σ' q1 q2 q3 q4 => q σ' q1 (q2.trans w.mu) q3 q4) fun _ h => h) fun Γ' w => sg_wk w hd
/-- .. with what is known before each turn -/
theorem sg_forP {pr : Bool} {wi : TI} {g : TG} {ds : List PyData} (Γi : Nat → En) (I : Nat → Prop) (hi : ItG pr K Γ wi ds) (w0 : Wk Γ (Γi 0)) (i0 : I 0) (hs : ∀ i d, ds[i]? = some d → I i → ∃ Γ2 js, TgG pr K (Γi i) g d Γ2 js ∧ StG K Γ2 ts (fun Γ' => Wk Γ' (Γi (i + 1)) ∧ I (i + 1)) R) (hd : I ds.length → StG K (Γi ds.length) tu N R) : StG K Γ (tSeq (tFor wi g ts) tu) N R :=
  sg_seq (N1 := fun Γ' => Wk Γ' (Γi ds.length) ∧ I ds.length) (sg_for hi (fun i Γ' => Wk Γ' (Γi i) ∧ I i) ⟨w0, i0⟩ (fun i d Γ' hd ⟨w, hI⟩ => by
    obtain ⟨Γ2, js, h1, h2⟩ := hs i d hd hI
    refine ⟨Γ2, js, fun F B σ H v E r Q q => ?_, h2⟩
    have e : frz F (Γi i) σ H = frz F Γ' σ H := by rw [frz, frz, w.mu]
    exact h1 F B σ H v (E.wk w) (by rw [e]; exact r) Q fun σ' q1 q2 q3 q4 => q σ' q1 (q2.trans w.mu) q3 q4) fun _ h => h) fun Γ' ⟨w, hI⟩ => sg_wk w (hd hI)
theorem et_wk {b : Bool} (w : Wk Γ Γ') (h : EtG K Γ' tt b) : EtG K Γ tt b := fun F B σ H E Q q => h F B σ H (E.wk w) Q q
theorem sg_whileW {α : Type} (Γi : α → En) (inv : α → Prop) (ms : α → Nat) (a0 : α) (h0 : inv a0) (w0 : Wk Γ (Γi a0))
    (hs : ∀ a, inv a → ∃ b, EtG K (Γi a) tt b ∧ (b = true → StG K (Γi a) ts (fun Γ' => ∃ a', ms a' < ms a ∧ inv a' ∧ Wk Γ' (Γi a')) R) ∧ (b = false → StG K (Γi a) tu N R)) : StG K Γ (tSeq (tWhile tt ts) tu) N R :=
  sg_whileS (fun m Γ' => ∃ a, ms a = m ∧ inv a ∧ Wk Γ' (Γi a)) (fun Γ' => ∃ a, inv a ∧ Wk Γ' (Γi a) ∧ StG K (Γi a) tu N R) (ms a0) ⟨a0, rfl, h0, w0⟩ (fun m Γ' ⟨a, hm, hi, w⟩ => by
    obtain ⟨b, h1, h2, h3⟩ := hs a hi
    refine ⟨b, et_wk w h1, fun hb => ?_, fun hb => ⟨a, hi, w, h3 hb⟩⟩
    refine sg_wk w ((h2 hb).mono (fun Γ2 ⟨a', q1, q2, q3⟩ => ⟨ms a', by omega, a', rfl, q2, q3⟩) fun d Γ' q => q)) fun Γ' ⟨a, hi, w, h⟩ => sg_wk w h
theorem sg_end (h : StG K Γ ts (fun _ => False) R) : StG K Γ (tSeq ts tu) N R := sg_seq h fun _ z => z.elim
theorem nm_nil : NoMut Γ [] := fun v h => nomatch h
theorem nm_cons {e : Ent} {v : Nat} {vs : List Nat} (h : Γ[v]? = some e) (he : e.mut = false) (t : NoMut Γ vs) : NoMut Γ (v :: vs) := fun u hu => by
  rcases List.mem_cons.mp hu with rfl | hu
  · exact ⟨e, h, he⟩
  · exact t u hu
end

/-- what a def of ours answers: for a with pre, at args a it gives res a -/
def Rel {A : Type} (pre : A → Prop) (args : A → List PyData) (res : A → PyData) : List PyData → PyData → Prop := fun ds d => ∃ a, pre a ∧ ds = args a ∧ d = res a
/-! ### typed rules -/
section
variable {K : Fg} {Γ : En} {ta tb te tx : TE} {tt tu : TT} {a b : Bool} {α β : Type} [Dt α] [Dt β]
section
variable [DecidableEq α]
theorem tv_eq {x y : α} (ha : EvC K Γ ta (en x)) (hb : EvC K Γ tb (en y)) (hk : Dt.k α ≤ 60 := by decide) : EvG K Γ (tOp (rEqP K false) ta tb) (.bool (decide (x = y))) :=
  (ev_eq ha hb (Dt.pl x) (Dt.pl y) (Nat.le_trans (Dt.dp x) hk)).cast (by rw [dt_dec])
theorem tv_ne {x y : α} (ha : EvC K Γ ta (en x)) (hb : EvC K Γ tb (en y)) (hk : Dt.k α ≤ 60 := by decide) : EvG K Γ (tOp (rEqP K true) ta tb) (.bool (!decide (x = y))) :=
  (ev_ne ha hb (Dt.pl x) (Dt.pl y) (Nat.le_trans (Dt.dp x) hk)).cast (by rw [dt_dec])
theorem tv_inT {x : α} {xs : List α} {neg : Bool} (ha : EvC K Γ ta (en x)) (hb : EvC K Γ tb (en xs)) (hk : Dt.k α ≤ 60 := by decide) : EvG K Γ (tOp (rInP K neg) ta tb) (.bool (if neg then !decide (x ∈ xs) else decide (x ∈ xs))) :=
  (ev_inT ha hb (Dt.pl x) (dt_plain xs) (Nat.le_trans (Dt.dp x) hk)).cast (by rw [dt_any])
theorem tv_in {x : α} {xs : List α} (ha : EvC K Γ ta (en x)) (hb : EvC K Γ tb (en xs)) (hk : Dt.k α ≤ 60 := by decide) : EvG K Γ (tOp (rInP K false) ta tb) (.bool (decide (x ∈ xs))) := (tv_inT ha hb hk).cast rfl
theorem tv_ni {x : α} {xs : List α} (ha : EvC K Γ ta (en x)) (hb : EvC K Γ tb (en xs)) (hk : Dt.k α ≤ 60 := by decide) : EvG K Γ (tOp (rInP K true) ta tb) (.bool (!decide (x ∈ xs))) := (tv_inT ha hb hk).cast rfl
theorem tv_inL {x : α} {xs : List α} (ha : EvC K Γ ta (en x)) (hb : EvC K Γ tb (.list (xs.map en))) (hk : Dt.k α ≤ 60 := by decide) : EvG K Γ (tOp (rInP K false) ta tb) (.bool (decide (x ∈ xs))) :=
  (ev_inL ha hb (Dt.pl x) (dt_plain xs) (Nat.le_trans (Dt.dp x) hk)).cast (by rw [dt_any]; rfl)
theorem tv_niL {x : α} {xs : List α} (ha : EvC K Γ ta (en x)) (hb : EvC K Γ tb (.list (xs.map en))) (hk : Dt.k α ≤ 60 := by decide) : EvG K Γ (tOp (rInP K true) ta tb) (.bool (!decide (x ∈ xs))) :=
  (ev_inL ha hb (Dt.pl x) (dt_plain xs) (Nat.le_trans (Dt.dp x) hk)).cast (by rw [dt_any]; rfl)
end
/-- d.get(c) == v -/
theorem tv_getEq [DecidableEq α] {ds : List (PyData × PyData)} {k : Key} {v : α} {o : Option α} (ha : EvC K Γ ta (.dict ds)) (hb : EvG K Γ tb (kD k)) (hc : EvG K Γ tx (en v)) (ho : lk ds k = o.map en) (hn : en v ≠ .none) (hk : Dt.k α ≤ 60 := by decide) : EvG K Γ (tOp (rEqP K false) (tDGet1 ta tb) tx) (.bool (decide (o = some v))) := by
  have h := ev_dget1 ha hb
  cases o with
  | none =>
    rw [ho] at h
    refine (ev_eq h.c hc.c rfl (Dt.pl v) (by simp [PyData.depth])).cast ?_
    have : PyData.eqv ((Option.map en (none : Option α)).getD .none) (en v) = false := by
      show PyData.eqv .none (en v) = false
      cases q : en v with
      | none => exact absurd q hn
      | _ => rfl
    rw [this]
    rfl
  | some w =>
    rw [ho] at h
    refine (tv_eq (α := α) h.c hc.c hk).cast ?_
    congr 2
    simp
theorem tv_sortT {xs : List α} (h : EvC K Γ te (en xs)) (hl : xs.length ≤ 100000) (hk : Dt.k α ≤ 60 := by decide) : EvL K Γ (tCB (rSortF K) (tCons te tNil)) ((dsort xs).map en) := (el_sortT h (sortIn_en hk hl)).cast (sortD_en xs)
theorem tv_sortL {xs : List α} (h : EvC K Γ te (.list (xs.map en))) (hl : xs.length ≤ 100000) (hk : Dt.k α ≤ 60 := by decide) : EvL K Γ (tCB (rSortF K) (tCons te tNil)) ((dsort xs).map en) := (el_sortL h (sortIn_en hk hl)).cast (sortD_en xs)
theorem tv_len {xs : List α} (h : EvC K Γ te (en xs)) : EvG K Γ (tCB (rLen K) (tCons te tNil)) (.int xs.length) := (ev_lenT h).cast (by rw [List.length_map])
theorem tv_tup {xs : List α} (h : EvC K Γ te (.list (xs.map en))) : EvG K Γ (tCB (rTupF K) (tCons te tNil)) (en xs) := ev_tupL h
theorem tv_cat {xs ys : List α} (ha : EvC K Γ ta (en xs)) (hb : EvC K Γ tb (en ys)) (hz : xs.length + ys.length ≤ 100000) : EvG K Γ (tOp (rCatF K) ta tb) (en (xs ++ ys)) := (ev_cat ha hb (by rw [List.length_map, List.length_map]; exact hz)).cast (by rw [← List.map_append]; rfl)
theorem tv_pr1 {p : α × β} (ha : EvC K Γ ta (en p)) : EvG K Γ (tOp (rIx K) ta (tC (.int 0))) (en p.1) := ev_ixT ha ev_int rfl
theorem tv_pr2 {p : α × β} (ha : EvC K Γ ta (en p)) : EvG K Γ (tOp (rIx K) ta (tC (.int 1))) (en p.2) := ev_ixT ha ev_int rfl
theorem tv_at {xs : List α} {x : α} {i : Int} (ha : EvC K Γ ta (en xs)) (hb : EvG K Γ tb (.int i)) (h : atI xs i = some x) : EvG K Γ (tOp (rIx K) ta tb) (en x) := ev_ixT ha hb (by
  unfold L2.atI at h ⊢
  rw [List.length_map]
  cases q : ixN xs.length i with
  | none => rw [q] at h; cases h
  | some j =>
    rw [q] at h
    show (List.map en xs)[j]? = some (en x)
    rw [List.getElem?_map, show xs[j]? = some x from h]
    rfl)
theorem tv_atL {xs : List α} {x : α} {i : Int} (ha : EvC K Γ ta (.list (xs.map en))) (hb : EvG K Γ tb (.int i)) (h : atI xs i = some x) : EvG K Γ (tOp (rIx K) ta tb) (en x) := ev_ixL ha hb (by
  unfold L2.atI at h ⊢
  rw [List.length_map]
  cases q : ixN xs.length i with
  | none => rw [q] at h; cases h
  | some j =>
    rw [q] at h
    show (List.map en xs)[j]? = some (en x)
    rw [List.getElem?_map, show xs[j]? = some x from h]
    rfl)
/-- comprehensions -/
theorem tv_lc {pr : Bool} {wi : TI} {g : TG} {vs js : List Nat} {γ : Type} (enc : γ → PyData) (xs : List γ) {p : γ → Bool} {f : γ → PyData} {Γ2 : γ → En} (hi : ItG pr K Γ wi (xs.map enc)) (hg : ∀ x ∈ xs, TgG pr K (wipeE Γ vs) g (enc x) (Γ2 x) js) (hc : ∀ x ∈ xs, EtG K (Γ2 x) tt (p x)) (he : ∀ x ∈ xs, p x = true → EvG K (Γ2 x) te (f x)) (hl : xs.length ≤ 100000)
    (hv : NoMut Γ vs := by repeat (first | exact nm_nil | refine nm_cons rfl (by first | rfl | assumption) ?_)) (hj : ∀ j ∈ js, j ∈ vs := by decide) : EvL K Γ (tLc wi g tt te vs) ((xs.filter p).map f) := el_lc enc xs hi hv hj hg hc he hl
theorem tv_lm {pr : Bool} {wi : TI} {g : TG} {vs js : List Nat} {γ : Type} (enc : γ → PyData) (xs : List γ) {f : γ → PyData} {Γ2 : γ → En} (hi : ItG pr K Γ wi (xs.map enc)) (hg : ∀ x ∈ xs, TgG pr K (wipeE Γ vs) g (enc x) (Γ2 x) js) (he : ∀ x ∈ xs, EvG K (Γ2 x) te (f x)) (hl : xs.length ≤ 100000)
    (hv : NoMut Γ vs := by repeat (first | exact nm_nil | refine nm_cons rfl (by first | rfl | assumption) ?_)) (hj : ∀ j ∈ js, j ∈ vs := by decide) : EvL K Γ (tLc wi g tYes te vs) (xs.map f) := el_lm enc xs hi hv hj hg he hl
/-- all, any over a comprehension -/
theorem tv_all {pr : Bool} {wi : TI} {g : TG} {vs js : List Nat} {γ : Type} (enc : γ → PyData) (xs : List γ) {f : γ → Bool} {Γ2 : γ → En} (hi : ItG pr K Γ wi (xs.map enc)) (hg : ∀ x ∈ xs, TgG pr K (wipeE Γ vs) g (enc x) (Γ2 x) js) (he : ∀ x ∈ xs, EvG K (Γ2 x) te (.bool (f x))) (hl : xs.length ≤ 100000)
    (hv : NoMut Γ vs := by repeat (first | exact nm_nil | refine nm_cons rfl (by first | rfl | assumption) ?_)) (hj : ∀ j ∈ js, j ∈ vs := by decide) : EvG K Γ (tCB (rAll K) (tCons (tLc wi g tYes te vs) tNil)) (.bool (xs.all f)) := ev_all (tv_lm enc xs hi hg he hl hv hj).c
theorem tv_any {pr : Bool} {wi : TI} {g : TG} {vs js : List Nat} {γ : Type} (enc : γ → PyData) (xs : List γ) {f : γ → Bool} {Γ2 : γ → En} (hi : ItG pr K Γ wi (xs.map enc)) (hg : ∀ x ∈ xs, TgG pr K (wipeE Γ vs) g (enc x) (Γ2 x) js) (he : ∀ x ∈ xs, EvG K (Γ2 x) te (.bool (f x))) (hl : xs.length ≤ 100000)
    (hv : NoMut Γ vs := by repeat (first | exact nm_nil | refine nm_cons rfl (by first | rfl | assumption) ?_)) (hj : ∀ j ∈ js, j ∈ vs := by decide) : EvG K Γ (tCB (rAny K) (tCons (tLc wi g tYes te vs) tNil)) (.bool (xs.any f)) := ev_any (tv_lm enc xs hi hg he hl hv hj).c
theorem tv_ltS {x y : Str} (ha : EvG K Γ ta (en x)) (hb : EvG K Γ tb (en y)) : EvG K Γ (tOp rLtS ta tb) (.bool (strLt x y)) := ev_ltS ha hb
theorem filter_one {γ : Type} (p : γ → Bool) (x : γ) : [x].filter p = if p x = true then [x] else [] := by
  cases h : p x <;> simp [h]
theorem atI_0 {γ : Type} (x : γ) (xs : List γ) : L2.atI (x :: xs) 0 = some x := by
  simp [L2.atI, ixN]
theorem tv_call {A : Type} {pre : A → Prop} {args : A → List PyData} {res : A → PyData} {E' : XK} {t : TA} (a : A) (h : EaG K Γ t (args a)) (hp : pre a) : EvG K Γ (tCall (SpD K (Rel pre args res)) [] E' t) (res a) := ev_call h ⟨a, hp, rfl, rfl⟩
theorem tv_neNil {α : Type} [Dt α] {xs : List α} (ha : EvC K Γ ta (.list (xs.map en))) (hk : Dt.k α ≤ 59 := by decide) : EvG K Γ (tOp (rEqP K true) ta (tLst tNil)) (.bool (!xs.isEmpty)) :=
  (ev_ne ha (el_lst ea_nil).c (by rw [PyData.plain]; exact dt_plain xs) rfl (by have := dt_depth xs; simp only [PyData.depth]; omega)).cast (by cases xs <;> simp [PyData.eqv, PyData.eqvAll])
theorem tv_it {α : Type} [Dt α] {xs : List α} (h : EvG K Γ te (en xs)) : ItG false K Γ (iTup K te) (xs.map en) := it_tup h
end
theorem has_rel {P : Program} {w : World} {K : Fg} {mg : Str → Option Value} {base : Heap} {x : Str} {st : Stmt} {k : Nat} {N ps : List Str} {t : TS} {A : Type} {pre : A → Prop} {args : A → List PyData} {res : A → PyData} (T : Txt1 K mg x st ps) (S : FnScope N ps (defScope st)) (hl : ∀ a, (args a).length = ps.length) (hN : ps.length ≤ N.length)
    (ph : ∀ (f : Addr) (cdv : Value) (A : Around) (outer : List Env) (s : Shared) (H : Hp) (E : XK), Room k (A.deeper (PyProof.Rows.envOfC x (defScope st) s.heap.objs.size f cdv)) → PSs (cxF P w K mg base N x st f cdv A outer s H E) (defBody st) t)
    (sem : ∀ a, pre a → StG K (ims N (args a)) t (fun _ => res a = .none) (fun d' _ => d' = res a)) : Has P w K mg base x (k + 1) ps (SpD K (Rel pre args res)) :=
  has_pure T S (fun ds d ⟨a, _, h, _⟩ => by rw [h]; exact hl a) hN ph fun ds d ⟨a, h1, h2, h3⟩ => by
    subst h2 h3
    exact sem a h1
theorem wk_ok {Γ Γ' : En} (h : Wk Γ Γ' := by repeat (first | exact .nil | refine .same ?_ | refine .drop (by first | rfl | assumption) ?_)) : Wk Γ Γ' := h
theorem len_take {α : Type} (xs : List α) (i : Nat) : (xs.take i).length ≤ xs.length := List.length_take_le' ..
end K97
set_option Elab.async false
set_option linter.all false
set_option maxRecDepth 100000
set_option maxHeartbeats 4000000
/-! K97: isinstance, a sign in a text, well-formed cells and logs. -/
namespace K97
open Dt (en)
open PySem L2
section
variable {K : Fg} {Γ : En} {ta tb te : TE} {d : PyData}
def tyD : PyData → String
  | .none => "NoneType"
  | .bool _ => "bool"
  | .int _ => "int"
  | .str _ => "str"
  | .tuple _ => "tuple"
  | .list _ => "list"
  | .dict _ => "dict"
theorem rp_ty {G H : Hp} {v : V} (e : Ex G H) (r : Rp K G v d) (hd : ∀ ds, d ≠ .list ds) (hd' : ∀ ds, d ≠ .dict ds) : TyX K H v (.type (tyD d)) := by
  cases r with
  | str x => exact .base (.str x)
  | int x => exact .base (.int x)
  | bl x => exact .base (.bl x)
  | non => exact .base .non
  | tup h1 h2 =>
    obtain ⟨o, h1, _⟩ := h1
    exact .fTuple (e _ _ h1)
  | lst h1 h2 => exact absurd rfl (hd _)
  | dic h1 h2 => exact absurd rfl (hd' _)
theorem ev_isi {n : String} {b : Bool} (h : EvG K Γ te d) (hk : PySem.W.kitOne K (.type (tyD d)) (.type n) = some b) (hd : ∀ ds, d ≠ .list ds := by intro _ z; cases z) (hd' : ∀ ds, d ≠ .dict ds := by intro _ z; cases z) : EvG K Γ (tCB (rIsi K) (tCons te (tCons (tC (.ty n)) tNil))) (.bool b) := fun F B σ H E Q q => h F B σ H E _ fun v H1 e1 r1 =>
  ⟨v, .ty n, .type (tyD d), .type n, b, rfl, .ty n, rp_ty cut_ex r1 hd hd', hk, q _ H1 e1 (.bl b)⟩
theorem ev_inS {c : Nat} {x : Str} (ha : EvG K Γ ta (.str ⟨#[c]⟩)) (hb : EvG K Γ tb (.str x)) : EvG K Γ (tOp rInS ta tb) (.bool (decide (c ∈ x.cps.toList))) := ev_op ha.c hb.c fun F B σ H x y E r1 r2 Q q =>
  ⟨_, _, (r1.rp cut_ex).strI, (r2.rp cut_ex).strI, q _ H (Ex.rfl' H) (.bl _)⟩
end
/-- a cell: one to eight small letters -/
def CellOk (c : Str) : Prop := 0 < c.length ∧ c.length ≤ 8 ∧ ∀ x ∈ c.cps.toList, 97 ≤ x ∧ x ≤ 122
def PairOk (p : Str × Int) : Prop := CellOk p.1 ∧ 0 ≤ p.2 ∧ p.2 ≤ 1000000000
/-- cells upwards -/
def Up (cs : List Str) : Prop := cs.Pairwise fun a b => strLt a b = true
structure LgW (l : Lg) : Prop where
  ok : ∀ p ∈ l, PairOk p
  up : Up (l.map (·.1))
  lenS : l.length ≤ 60
theorem LgW.len {l : Lg} (h : LgW l) : l.length ≤ 100 := Nat.le_trans h.lenS (by decide)
structure LgsW (L : List Lg) : Prop where
  len : L.length ≤ 60
  nd : L.Nodup
  ok : ∀ l ∈ L, LgW l
theorem strLt_irr (a : Str) : strLt a a = false := by simp [strLt]
theorem strLt_tr {a b c : Str} (h : strLt a b = true) (h' : strLt b c = true) : strLt a c = true := by
  simp only [strLt, decide_eq_true_eq] at *
  exact List.lt_trans h h'
theorem strLt_ne {a b : Str} (h : strLt a b = true) : a ≠ b := fun z => by rw [z, strLt_irr] at h; cases h
theorem Up.nodup {cs : List Str} (h : Up cs) : cs.Nodup := List.Pairwise.imp (fun h => strLt_ne h) h
theorem LgsW.subl {L L' : List Lg} (h : LgsW L) (hs : L'.Sublist L) : LgsW L' := ⟨Nat.le_trans hs.length_le h.len, hs.nodup h.nd, fun l q => h.ok l (hs.subset q)⟩
theorem lk_dd (c : Str) (l : Lg) : lk (dDict l) (.inr c) = (lkp l c).map en := lk_log c l
section
variable {K : Fg} {Γ : En} {ta tb te : TE} {c : Str} {l : Lg}
theorem tv_dict (ha : EvC K Γ ta (en l)) (h : (l.map (·.1)).Nodup) : EvG K Γ (tCB (rDicZ K) (tCons ta tNil)) (.dict (dDict l)) := ev_dict (key := fun p => p.1) (val := fun p => .int p.2) (xs := l) ha h
theorem tv_din (hb : EvG K Γ tb (en c)) (ha : EvC K Γ ta (.dict (dDict l))) : EvG K Γ (tDIn tb ta) (.bool (lkp l c).isSome) := (ev_din (k := .inr c) hb ha).cast (by rw [lk_log, Option.isSome_map])
theorem tv_dat {v : Int} (ha : EvC K Γ ta (.dict (dDict l))) (hb : EvG K Γ tb (en c)) (h : lkp l c = some v) : EvG K Γ (tDGet ta tb) (en v) := ev_dget (k := .inr c) ha hb (by rw [lk_log, h]; rfl)
end
theorem lkp_mem {l : Lg} {c : Str} : (lkp l c).isSome = true ↔ c ∈ l.map (·.1) := by
  unfold lkp
  rw [Option.isSome_map, List.find?_isSome, List.mem_map]
  constructor
  · rintro ⟨p, h1, h2⟩
    exact ⟨p, h1, of_decide_eq_true h2⟩
  · rintro ⟨p, h1, h2⟩
    exact ⟨p, h1, decide_eq_true h2⟩
theorem lkp_of_mem {l : Lg} (hn : (l.map (·.1)).Nodup) {c : Str} {v : Int} : lkp l c = some v ↔ (c, v) ∈ l := by
  induction l with
  | nil => simp [lkp]
  | cons p l ih =>
    rw [List.map_cons, List.nodup_cons] at hn
    unfold lkp
    rw [List.find?_cons]
    by_cases h : p.1 = c
    · rw [decide_eq_true h]
      constructor
      · intro e
        cases e
        rw [← h]
        exact List.mem_cons_self
      · intro e
        rcases List.mem_cons.mp e with e | e
        · rw [← e]
          rfl
        · exact absurd (List.mem_map_of_mem (f := (·.1)) e) (by rw [← h] at *; exact hn.1)
    · rw [decide_eq_false h]
      have := ih hn.2
      unfold lkp at this
      rw [this]
      constructor
      · exact List.mem_cons_of_mem _
      · intro e
        rcases List.mem_cons.mp e with e | e
        · rw [← e] at h
          exact absurd rfl h
        · exact e
theorem cutD_1 (xs : List PyData) : cutD xs (some 1) none = xs.drop 1 := by
  unfold cutD
  cases xs with
  | nil => simp
  | cons x xs =>
    have e1 : HT.sIx (x :: xs).length 0 (some 1) = 1 := by
      simp [HT.sIx]
    have e2 : HT.sIx (x :: xs).length (x :: xs).length none = xs.length + 1 := rfl
    rw [e1, e2]
    simp
end K97
set_option Elab.async false
set_option linter.all false
set_option maxRecDepth 100000
set_option maxHeartbeats 4000000
/-! K97: several names stored at once. -/
namespace K97
open Dt (en)
open PySem L2
section
variable {K : Fg} {Γ Γ' : En} {ta tb te tx : TE} {t : TA} {tt tu : TT} {d d' e d1 d2 d3 : PyData} {ds es : List PyData} {a b : Bool} {ts tu' : TS} {N N1 : En → Prop} {R : PyData → En → Prop}
theorem set_get {i j : Nat} {e f : Ent} (hj : Γ[j]? = some e) (hij : i ≠ j) : (Γ.set i f)[j]? = some e := by rw [List.getElem?_set_ne hij]; exact hj
theorem sg_par {i j : Nat} {e1 e2 : Ent} (h : EaG K Γ t [d1, d2]) (hi : Γ[i]? = some e1) (hj : Γ[j]? = some e2) (h1 : e1.mut = false) (h2 : e2.mut = false) (hij : i ≠ j) (hn : N ((Γ.set i (.im d1)).set j (.im d2))) : StG K Γ (tPar i j t) N R := fun F B D σ H E n r => h F B σ H E _ fun vs H1 e r1 => by
  cases r1 with
  | @cons v _ _ _ q1 r1 =>
    cases r1 with
    | @cons w _ _ _ q2 r1 =>
      cases r1
      refine ⟨v, w, rfl, ?_⟩
      have E1 := (E.ext e).put (x := some v) hi h1 (e' := .im d1) rfl fun d' z => ⟨v, rfl, by cases z; exact q1⟩
      have m1 := mu_set (σ := σ) (x := some v) (e' := .im d1) hi h1 rfl
      have hj' := set_get (f := .im d1) hj hij
      have E2 := E1.put (x := some w) hj' h2 (e' := .im d2) rfl fun d' z => ⟨w, rfl, by cases z; rw [frz, m1]; exact q2⟩
      have m2 := mu_set (σ := σ.set i (some v)) (x := some w) (e' := .im d2) hj' h2 rfl
      refine n _ _ H1 hn E2 ?_
      rw [frz, frz, m2, m1]
      exact cut_mono e
theorem sg_par3 {i j k : Nat} {e1 e2 e3 : Ent} (h : EaG K Γ t [d1, d2, d3]) (hi : Γ[i]? = some e1) (hj : Γ[j]? = some e2) (hk : Γ[k]? = some e3) (h1 : e1.mut = false) (h2 : e2.mut = false) (h3 : e3.mut = false) (hij : i ≠ j) (hik : i ≠ k) (hjk : j ≠ k) (hn : N (((Γ.set i (.im d1)).set j (.im d2)).set k (.im d3))) : StG K Γ (tPar3 i j k t) N R := fun F B D σ H E n r => h F B σ H E _ fun vs H1 e r1 => by
  cases r1 with
  | @cons v _ _ _ q1 r1 =>
    cases r1 with
    | @cons w _ _ _ q2 r1 =>
      cases r1 with
      | @cons y _ _ _ q3 r1 =>
        cases r1
        refine ⟨v, w, y, rfl, ?_⟩
        have E1 := (E.ext e).put (x := some v) hi h1 (e' := .im d1) rfl fun d' z => ⟨v, rfl, by cases z; exact q1⟩
        have m1 := mu_set (σ := σ) (x := some v) (e' := .im d1) hi h1 rfl
        have hj' := set_get (f := .im d1) hj hij
        have E2 := E1.put (x := some w) hj' h2 (e' := .im d2) rfl fun d' z => ⟨w, rfl, by cases z; rw [frz, m1]; exact q2⟩
        have m2 := mu_set (σ := σ.set i (some v)) (x := some w) (e' := .im d2) hj' h2 rfl
        have hk' := set_get (f := .im d2) (set_get (f := .im d1) hk hik) hjk
        have E3 := E2.put (x := some y) hk' h3 (e' := .im d3) rfl fun d' z => ⟨y, rfl, by cases z; rw [frz, m2, m1]; exact q3⟩
        have m3 := mu_set (σ := (σ.set i (some v)).set j (some w)) (x := some y) (e' := .im d3) hk' h3 rfl
        refine n _ _ H1 hn E3 ?_
        rw [frz, frz, m3, m2, m1]
        exact cut_mono e
/-- two new lists of ours -/
theorem sg_parLL {i j : Nat} {e1 e2 : Ent} (ha : EvL K Γ ta ds) (hb : EvL K Γ tb es) (hi : Γ[i]? = some e1) (hj : Γ[j]? = some e2) (h1 : e1.mut = false) (h2 : e2.mut = false) (hij : i ≠ j) (hn : N ((Γ.set i (.ac ds)).set j (.ac es))) : StG K Γ (tPar i j (tCons ta (tCons tb tNil))) N R := fun F B D σ H E n r =>
  ha F B σ H E _ fun p vs H1 hp e hl rv => by
    have EF := E.addF hp e (by rw [hl]; simp)
    refine hb _ B σ H1 EF _ fun p2 ws H2 hp2 e' hl2 rv2 => ⟨_, _, rfl, ?_⟩
    obtain ⟨E1, x1⟩ := E.newM (e' := .ac ds) hi h1 hp e rfl (fun ds' z => by cases z; exact ⟨vs, hl, rv⟩) (fun _ z => nomatch z) (fun _ z => nomatch z)
    have hm := mu_new (p := p) (e' := .ac ds) hi h1 rfl E.len
    obtain ⟨E2, x2⟩ := E1.newM (e' := .ac es) (set_get hj hij) h2 hp2 e' rfl (fun ds' z => by
      cases z
      refine ⟨ws, hl2, ?_⟩
      rw [hm]
      refine rv2.up (cut_less fun a z => ?_)
      rcases z with (z | z) | z | z
      · exact .inl (.inl (.inl z))
      · exact .inl (.inr z)
      · exact .inr z
      · exact .inl (.inl (.inr z))) (fun _ z => nomatch z) (fun _ z => nomatch z)
    exact n _ _ H2 hn E2 (x1.tr x2)
/-- a, b = a pair -/
theorem sg_asgP {i j : Nat} {e1 e2 : Ent} (h : EvG K Γ te (.tuple [d1, d2])) (hi : Γ[i]? = some e1) (hj : Γ[j]? = some e2) (h1 : e1.mut = false) (h2 : e2.mut = false) (hij : i ≠ j) (hn : N ((Γ.set i (.im d1)).set j (.im d2))) : StG K Γ (tAsg te (gTup K 2 (gCons (gName i) (gCons (gName j) gNil)))) N R := fun F B D σ H E n r => h F B σ H E _ fun v H1 e rv => by
  refine tg_pair (pr := false) hi hj h1 h2 hij F B σ H1 v (E.ext e) rv _ fun σ' E' m' _ _ => n _ σ' H1 hn E' ?_
  rw [frz, frz, m']
  exact cut_mono e
end
end K97
set_option Elab.async false
set_option linter.all false
set_option maxRecDepth 100000
set_option maxHeartbeats 4000000
/-! K97: what the defs of logs and groups compute, in plain words. -/
namespace K97
open Dt (en)
open PySem L2
def mShared : List Lg → List Str
  | [] => []
  | l :: L => (l.filter fun p => L.all fun m => (lkp m p.1).isSome).map (·.1)
def mAgreeing (L : List Lg) (k : Lg) : List Lg := L.filter fun l => k.all fun p => decide (lkp l p.1 = some p.2)
theorem ups : ∀ {l : Lg}, Up (l.map (·.1)) → ∀ p ∈ l.zip (l.drop 1), strLt p.1.1 p.2.1 = true
  | [], _, p, h => by simp at h
  | [x], _, p, h => by simp at h
  | x :: y :: l, hu, p, h => by
    have h2 := List.pairwise_cons.mp hu
    rcases List.mem_cons.mp h with rfl | h
    · exact h2.1 _ (by simp)
    · exact ups (l := y :: l) h2.2 p h
theorem any_has (l : Lg) (c : Str) : l.any (fun p => decide (c = p.1)) = decide (c ∈ l.map (·.1)) := by
  rw [Bool.eq_iff_iff, List.any_eq_true, decide_eq_true_eq, List.mem_map]
  exact ⟨fun ⟨p, h1, h2⟩ => ⟨p, h1, (of_decide_eq_true h2).symm⟩, fun ⟨p, h1, h2⟩ => ⟨p, h1, decide_eq_true h2.symm⟩⟩
theorem mAgreeing_step {L : List Lg} {k l : Lg} {i : Nat} (h : L[i]? = some l) : mAgreeing (L.take (i + 1)) k = mAgreeing (L.take i) k ++ if (k.all fun p => decide (lkp l p.1 = some p.2)) then [l] else [] := by
  unfold mAgreeing
  rw [List.take_add_one, h, List.filter_append, Option.toList, filter_one]
theorem mAgreeing_len (L : List Lg) (k : Lg) (i : Nat) : (mAgreeing (L.take i) k).length ≤ L.length := Nat.le_trans (List.length_filter_le ..) (len_take ..)
theorem mem_mShared {L : List Lg} {c : Str} : c ∈ mShared L ↔ L ≠ [] ∧ ∀ l ∈ L, (lkp l c).isSome = true := by
  cases L with
  | nil => simp [mShared]
  | cons l L =>
    unfold mShared
    rw [List.mem_map]
    constructor
    · rintro ⟨p, h1, rfl⟩
      rw [List.mem_filter, List.all_eq_true] at h1
      refine ⟨by simp, fun m hm => ?_⟩
      rcases List.mem_cons.mp hm with rfl | hm
      · exact lkp_mem.mpr (List.mem_map_of_mem h1.1)
      · exact h1.2 m hm
    · rintro ⟨_, h⟩
      obtain ⟨p, h1, rfl⟩ := List.mem_map.mp (lkp_mem.mp (h l List.mem_cons_self))
      refine ⟨p, ?_, rfl⟩
      rw [List.mem_filter, List.all_eq_true]
      exact ⟨h1, fun m hm => h m (List.mem_cons_of_mem _ hm)⟩
theorem mShared_up {L : List Lg} (h : LgsW L) : Up (mShared L) := by
  cases L with
  | nil => exact .nil
  | cons l L =>
    have h2 : (mShared (l :: L)).Sublist (l.map (·.1)) := List.Sublist.map _ List.filter_sublist
    exact List.Pairwise.sublist h2 (h.ok l List.mem_cons_self).up
theorem mShared_len {L : List Lg} (h : LgsW L) : (mShared L).length ≤ 100 := by
  cases L with
  | nil => simp [mShared]
  | cons l L =>
    unfold mShared
    rw [List.length_map]
    exact Nat.le_trans (List.length_filter_le ..) (h.ok l List.mem_cons_self).len
theorem mem_mAgreeing {L : List Lg} {k l : Lg} : l ∈ mAgreeing L k ↔ l ∈ L ∧ ∀ p ∈ k, lkp l p.1 = some p.2 := by
  unfold mAgreeing
  rw [List.mem_filter, List.all_eq_true]
  constructor
  · rintro ⟨h1, h2⟩
    exact ⟨h1, fun p hp => of_decide_eq_true (h2 p hp)⟩
  · rintro ⟨h1, h2⟩
    exact ⟨h1, fun p hp => decide_eq_true (h2 p hp)⟩
theorem mAgreeing_w {L : List Lg} {k : Lg} (h : LgsW L) : LgsW (mAgreeing L k) := h.subl List.filter_sublist
def mUnread (L : List Lg) (D : List Str) : List Str := (mShared L).filter fun c => !decide (c ∈ D)
theorem mem_mUnread {L : List Lg} {D : List Str} {c : Str} : c ∈ mUnread L D ↔ c ∈ mShared L ∧ c ∉ D := by
  unfold mUnread
  rw [List.mem_filter]
  simp
theorem mUnread_up {L : List Lg} {D : List Str} (h : LgsW L) : Up (mUnread L D) := List.Pairwise.sublist List.filter_sublist (mShared_up h)
theorem mUnread_len {L : List Lg} {D : List Str} (h : LgsW L) : (mUnread L D).length ≤ 100 := Nat.le_trans (List.length_filter_le ..) (mShared_len h)
/-- each item once, as first met -/
def dd {α : Type} [DecidableEq α] : List α → List α
  | [] => []
  | x :: xs => x :: (dd xs).filter fun y => !decide (y = x)
section
variable {α : Type} [DecidableEq α]
theorem mem_dd {x : α} : ∀ {xs : List α}, x ∈ dd xs ↔ x ∈ xs
  | [] => Iff.rfl
  | y :: xs => by
    unfold dd
    rw [List.mem_cons, List.mem_cons, List.mem_filter, mem_dd]
    by_cases h : x = y <;> simp [h]
theorem dd_nodup : ∀ xs : List α, (dd xs).Nodup
  | [] => .nil
  | y :: xs => by
    unfold dd
    rw [List.nodup_cons]
    exact ⟨by simp [List.mem_filter], (List.filter_sublist).nodup (dd_nodup xs)⟩
theorem dd_len : ∀ xs : List α, (dd xs).length ≤ xs.length
  | [] => Nat.le_refl _
  | y :: xs => by
    unfold dd
    have h1 := dd_len xs
    have h2 := List.length_filter_le (fun z => !decide (z = y)) (dd xs)
    rw [List.length_cons, List.length_cons]
    omega
end
theorem nodup_two {α : Type} {xs : List α} (hn : xs.Nodup) : 1 < xs.length ↔ ∃ a ∈ xs, ∃ b ∈ xs, a ≠ b := by
  constructor
  · intro h
    match xs, h, hn with
    | a :: b :: r, _, hn =>
      rw [List.nodup_cons] at hn
      exact ⟨a, List.mem_cons_self, b, List.mem_cons_of_mem _ List.mem_cons_self, fun z => hn.1 (by rw [z]; exact List.mem_cons_self)⟩
  · rintro ⟨a, ha, b, hb, hne⟩
    match xs, ha, hb with
    | [x], ha, hb =>
      rw [List.mem_singleton] at ha hb
      exact absurd (ha.trans hb.symm) hne
    | _ :: _ :: _, _, _ => simp
theorem dd_two {α : Type} [DecidableEq α] (xs : List α) : 1 < (dd xs).length ↔ ∃ a ∈ xs, ∃ b ∈ xs, a ≠ b := by
  rw [nodup_two (dd_nodup xs)]
  constructor
  · rintro ⟨a, ha, b, hb, h⟩
    exact ⟨a, mem_dd.mp ha, b, mem_dd.mp hb, h⟩
  · rintro ⟨a, ha, b, hb, h⟩
    exact ⟨a, mem_dd.mpr ha, b, mem_dd.mpr hb, h⟩
def val (c : Str) (l : Lg) : Int := (lkp l c).getD 0
def mVals (L : List Lg) (c : Str) : List Int := dsort (dd (L.map (val c)))
def mParts (L : List Lg) (c : Str) : List (Int × List Lg) := (mVals L c).map fun v => (v, L.filter fun l => decide (val c l = v))
def mSplit (L : List Lg) : List Str := (mShared L).filter fun c => decide (1 < (dd (L.map (val c))).length)
theorem mem_mSplit {L : List Lg} {c : Str} : c ∈ mSplit L ↔ c ∈ mShared L ∧ ∃ a ∈ L, ∃ b ∈ L, val c a ≠ val c b := by
  unfold mSplit
  rw [List.mem_filter, decide_eq_true_eq, dd_two]
  constructor
  · rintro ⟨h1, x, hx, y, hy, h⟩
    obtain ⟨a, ha, rfl⟩ := List.mem_map.mp hx
    obtain ⟨b, hb, rfl⟩ := List.mem_map.mp hy
    exact ⟨h1, a, ha, b, hb, h⟩
  · rintro ⟨h1, a, ha, b, hb, h⟩
    exact ⟨h1, _, List.mem_map_of_mem ha, _, List.mem_map_of_mem hb, h⟩
theorem mSplit_len {L : List Lg} (h : LgsW L) : (mSplit L).length ≤ 100 := Nat.le_trans (List.length_filter_le ..) (mShared_len h)
def mBlk : Nat → List (List Lg) → List (List Lg) → List (List Lg)
  | 0, f, _ => f
  | _ + 1, f, [] => f
  | n + 1, f, g :: r => match mSplit g with
    | [] => mBlk n (f ++ [g]) r
    | c :: _ => mBlk n f (((mParts g c).map (·.2)).reverse ++ r)
def msz (w : List (List Lg)) : Nat := (w.map fun g => 2 * g.length - 1).sum
theorem msz_app (a b : List (List Lg)) : msz (a ++ b) = msz a + msz b := by simp [msz]
theorem msz_rev (a : List (List Lg)) : msz a.reverse = msz a := by simp [msz, List.sum_reverse]
theorem filt_sum (f : Lg → Int) (L : List Lg) : ∀ vs : List Int, vs.Nodup → (vs.map fun v => (L.filter fun l => decide (f l = v)).length).sum = (L.filter fun l => decide (f l ∈ vs)).length
  | [], _ => by
    rw [List.filter_eq_nil_iff.mpr (by simp)]
    rfl
  | v :: vs, h => by
    rw [List.nodup_cons] at h
    rw [List.map_cons, List.sum_cons, filt_sum f L vs h.2]
    induction L with
    | nil => rfl
    | cons l L ih =>
      simp only [List.mem_cons] at ih ⊢
      by_cases h1 : f l = v
      · have h2 : ¬ f l ∈ vs := by rw [h1]; exact h.1
        simp only [List.filter_cons, h1, h.1, decide_true, decide_false, true_or, if_true, List.length_cons, Bool.false_eq_true, if_false]
        omega
      · by_cases h2 : f l ∈ vs
        · simp only [List.filter_cons, h1, h2, decide_true, decide_false, false_or, if_true, List.length_cons, Bool.false_eq_true, if_false]
          omega
        · simp only [List.filter_cons, h1, h2, decide_true, decide_false, false_or, Bool.false_eq_true, if_false]
          omega
theorem len_msz : ∀ {w : List (List Lg)}, (∀ g ∈ w, g ≠ []) → w.length ≤ msz w
  | [], _ => by simp
  | g :: w, h => by
    have ih := len_msz (w := w) fun g hg => h g (List.mem_cons_of_mem _ hg)
    have h1 : 0 < g.length := List.length_pos_iff.mpr (h g List.mem_cons_self)
    unfold msz at *
    simp only [List.map_cons, List.sum_cons, List.length_cons]
    omega
theorem mVals_nodup (L : List Lg) (c : Str) : (mVals L c).Nodup := (dsort_perm _).symm.nodup (dd_nodup _)
theorem mem_mVals {L : List Lg} {c : Str} {v : Int} : v ∈ mVals L c ↔ ∃ l ∈ L, val c l = v := by
  unfold mVals
  rw [mem_dsort, mem_dd, List.mem_map]
theorem mem_parts {L g : List Lg} {c : Str} : g ∈ (mParts L c).map (·.2) ↔ ∃ v, (∃ l ∈ L, val c l = v) ∧ g = L.filter fun l => decide (val c l = v) := by
  unfold mParts
  rw [List.map_map, List.mem_map]
  constructor
  · rintro ⟨v, h1, rfl⟩
    exact ⟨v, mem_mVals.mp h1, rfl⟩
  · rintro ⟨v, h1, rfl⟩
    exact ⟨v, mem_mVals.mpr h1, rfl⟩
theorem parts_ne {L g : List Lg} {c : Str} (h : g ∈ (mParts L c).map (·.2)) : g ≠ [] ∧ g.Sublist L := by
  obtain ⟨v, ⟨l, hl, e⟩, rfl⟩ := mem_parts.mp h
  refine ⟨fun z => ?_, List.filter_sublist⟩
  have : l ∈ L.filter fun l => decide (val c l = v) := List.mem_filter.mpr ⟨hl, decide_eq_true e⟩
  rw [z] at this
  cases this
theorem parts_sum (L : List Lg) (c : Str) : (((mParts L c).map (·.2)).map List.length).sum = L.length := by
  unfold mParts
  rw [List.map_map, List.map_map]
  have h := filt_sum (val c) L (mVals L c) (mVals_nodup L c)
  rw [List.filter_eq_self.mpr fun l hl => decide_eq_true (mem_mVals.mpr ⟨l, hl, rfl⟩)] at h
  exact h
theorem sum_two : ∀ {w : List (List Lg)}, (∀ g ∈ w, g ≠ []) → msz w + w.length = 2 * (w.map List.length).sum
  | [], _ => rfl
  | g :: w, h => by
    have ih := sum_two (w := w) fun g hg => h g (List.mem_cons_of_mem _ hg)
    have h1 : 0 < g.length := List.length_pos_iff.mpr (h g List.mem_cons_self)
    unfold msz at *
    simp only [List.map_cons, List.sum_cons, List.length_cons]
    omega
theorem parts_len {L : List Lg} {c : Str} (h : c ∈ mSplit L) : 2 ≤ (mParts L c).length := by
  unfold mParts mVals
  rw [List.length_map, len_dsort]
  unfold mSplit at h
  rw [List.mem_filter] at h
  exact of_decide_eq_true h.2
theorem parts_msz {L : List Lg} {c : Str} (h : c ∈ mSplit L) : msz ((mParts L c).map (·.2)) + 2 ≤ 2 * L.length := by
  have h1 := sum_two (w := (mParts L c).map (·.2)) fun g hg => (parts_ne hg).1
  rw [parts_sum, List.length_map] at h1
  have := parts_len h
  omega
theorem msz_cons (g : List Lg) (w : List (List Lg)) : msz (g :: w) = (2 * g.length - 1) + msz w := by simp [msz]
def mBlocks (L : List Lg) : List (List Lg) := dsort (mBlk (2 * L.length) [] (if L = [] then [] else [L]))
def mStuck (L : List Lg) : Option (List Lg) := (mBlocks L).find? fun b => decide (1 < b.length)
def enO {α : Type} [Dt α] : Option α → PyData
  | none => .none
  | some x => en x
section
variable {K : Fg} {Γ : En} {te : TE} {α : Type} [Dt α]
/-- no None among these data -/
theorem en_none {o : Option α} (hn : ∀ a : α, en a ≠ .none) : (match enO o with | .none => true | _ => false) = o.isNone := by
  cases o with
  | none => rfl
  | some a =>
    show (match en a with | .none => true | _ => false) = false
    cases h : en a with
    | none => exact absurd h (hn a)
    | _ => rfl
theorem en_some {o : Option α} (hn : ∀ a : α, en a ≠ .none) : (match enO o with | .none => false | _ => true) = o.isSome := by
  cases o with
  | none => rfl
  | some a =>
    show (match en a with | .none => false | _ => true) = true
    cases h : en a with
    | none => exact absurd h (hn a)
    | _ => rfl
theorem tv_isO {o : Option (List α)} (h : EvC K Γ te (enO o)) : EvG K Γ (tOp rIsN te (tC .non)) (.bool o.isNone) := ev_isN h _ (by cases o <;> rfl)
theorem tv_notO {o : Option (List α)} (h : EvC K Γ te (enO o)) : EvG K Γ (tOp rNotN te (tC .non)) (.bool o.isSome) := ev_notN h _ (by cases o <;> rfl)
theorem tv_gtN {n m : Nat} {ta tb : TE} (ha : EvG K Γ ta (.int n)) (hb : EvG K Γ tb (.int m)) : EvG K Γ (tOp (rI0 fun i j => .bl (decide (i > j))) ta tb) (.bool (decide (m < n))) := (ev_I0 ha hb fun H => .bl _).cast (by simp)
theorem tv_ltN {n m : Nat} {ta tb : TE} (ha : EvG K Γ ta (.int n)) (hb : EvG K Γ tb (.int m)) : EvG K Γ (tOp (rI0 fun i j => .bl (decide (i < j))) ta tb) (.bool (decide (n < m))) := (ev_I0 ha hb fun H => .bl _).cast (by simp)
end
/-! ### a reader exists iff each group of two or more is split -/
def Spl (S : List Lg) : Prop := ∃ c, (∀ l ∈ S, (lkp l c).isSome = true) ∧ ∃ a ∈ S, ∃ b ∈ S, lkp a c ≠ lkp b c
def Good (L : List Lg) : Prop := ∀ S : List Lg, (∀ l ∈ S, l ∈ L) → (∃ a ∈ S, ∃ b ∈ S, a ≠ b) → Spl S
theorem val_ne {a b : Lg} {c : Str} (ha : (lkp a c).isSome = true) (hb : (lkp b c).isSome = true) : val c a ≠ val c b ↔ lkp a c ≠ lkp b c := by
  unfold val
  cases h1 : lkp a c with
  | none => rw [h1] at ha; cases ha
  | some x =>
    cases h2 : lkp b c with
    | none => rw [h2] at hb; cases hb
    | some y => simp
theorem good_stuck {g : List Lg} (hn : g.Nodup) (h : mSplit g = []) : Good g ↔ ¬ 1 < g.length := by
  constructor
  · intro G h1
    obtain ⟨c, hc, a, ha, b, hb, hne⟩ := G g (fun _ h => h) ((nodup_two hn).mp h1)
    have : c ∈ mSplit g := mem_mSplit.mpr ⟨mem_mShared.mpr ⟨List.ne_nil_of_mem ha, hc⟩, a, ha, b, hb, (val_ne (hc a ha) (hc b hb)).mpr hne⟩
    rw [h] at this
    cases this
  · rintro h1 S hS ⟨a, ha, b, hb, hne⟩
    exact absurd ((nodup_two hn).mpr ⟨a, hS a ha, b, hS b hb, hne⟩) h1
theorem good_parts {g : List Lg} {c : Str} (h : c ∈ mShared g) : Good g ↔ ∀ p ∈ (mParts g c).map (·.2), Good p := by
  obtain ⟨_, hs⟩ := mem_mShared.mp h
  constructor
  · intro G p hp S hS
    exact G S fun l hl => (parts_ne hp).2.subset (hS l hl)
  · intro G S hS ⟨a, ha, b, hb, hne⟩
    by_cases hall : ∀ l ∈ S, val c l = val c a
    · refine G (g.filter fun l => decide (val c l = val c a)) (mem_parts.mpr ⟨_, ⟨a, hS a ha, rfl⟩, rfl⟩) S (fun l hl => List.mem_filter.mpr ⟨hS l hl, decide_eq_true (hall l hl)⟩) ⟨a, ha, b, hb, hne⟩
    · have : ∃ l ∈ S, val c l ≠ val c a := Classical.byContradiction fun z => hall fun l hl => Classical.byContradiction fun y => z ⟨l, hl, y⟩
      obtain ⟨l, hl, hv⟩ := this
      exact ⟨c, fun m hm => hs m (hS m hm), l, hl, a, ha, (val_ne (hs l (hS l hl)) (hs a (hS a ha))).mp hv⟩
theorem mBlk_good : ∀ (n : Nat) (f w : List (List Lg)), msz w ≤ n → (∀ g ∈ w, g ≠ [] ∧ g.Nodup) → ((∀ b ∈ mBlk n f w, ¬ 1 < b.length) ↔ (∀ b ∈ f, ¬ 1 < b.length) ∧ ∀ g ∈ w, Good g)
  | 0, f, [], _, _ => by simp [mBlk]
  | _ + 1, f, [], _, _ => by simp [mBlk]
  | 0, f, g :: w, h, hw => by
    have h1 : 0 < g.length := List.length_pos_iff.mpr (hw g List.mem_cons_self).1
    rw [msz_cons] at h
    omega
  | n + 1, f, g :: w, h, hw => by
    have h1 : 0 < g.length := List.length_pos_iff.mpr (hw g List.mem_cons_self).1
    rw [msz_cons] at h
    have hg := hw g List.mem_cons_self
    have hw' : ∀ g ∈ w, g ≠ [] ∧ g.Nodup := fun g hg => hw g (List.mem_cons_of_mem _ hg)
    unfold mBlk
    split
    · rename_i hs
      rw [mBlk_good n _ w (by omega) hw']
      simp only [List.mem_append, List.mem_cons, forall_eq_or_imp, List.not_mem_nil, or_false]
      rw [good_stuck hg.2 hs]
      constructor
      · rintro ⟨h2, h3⟩
        exact ⟨fun b hb => h2 b (.inl hb), h2 g (.inr rfl), h3⟩
      · rintro ⟨h2, h3, h4⟩
        refine ⟨fun b hb => ?_, h4⟩
        rcases hb with hb | rfl
        · exact h2 b hb
        · exact h3
    · rename_i c r hs
      have hc : c ∈ mSplit g := by rw [hs]; exact List.mem_cons_self
      have hm := parts_msz hc
      rw [mBlk_good n f _ (by rw [msz_app, msz_rev]; omega) fun p hp => by
        rcases List.mem_append.mp hp with hp | hp
        · rw [List.mem_reverse] at hp
          exact ⟨(parts_ne hp).1, (parts_ne hp).2.nodup hg.2⟩
        · exact hw' p hp]
      simp only [List.mem_cons, forall_eq_or_imp]
      rw [good_parts (mem_mSplit.mp hc).1]
      constructor
      · rintro ⟨h2, h3⟩
        exact ⟨h2, fun p hp => h3 p (List.mem_append.mpr (.inl (List.mem_reverse.mpr hp))), fun p hp => h3 p (List.mem_append.mpr (.inr hp))⟩
      · rintro ⟨h2, h3, h4⟩
        refine ⟨h2, fun p hp => ?_⟩
        rcases List.mem_append.mp hp with hp | hp
        · exact h3 p (List.mem_reverse.mp hp)
        · exact h4 p hp
theorem stuck_iff {L : List Lg} (hn : L.Nodup) : mStuck L = none ↔ Good L := by
  unfold mStuck mBlocks
  rw [List.find?_eq_none]
  simp only [mem_dsort, decide_eq_true_eq]
  by_cases h : L = []
  · subst h
    rw [if_pos rfl, mBlk_good _ _ _ (by simp [msz]) (by simp)]
    constructor
    · intro _ S hS ⟨a, ha, _⟩
      cases hS a ha
    · intro _
      exact ⟨by simp, by simp⟩
  · rw [if_neg h, mBlk_good _ _ _ (by simp [msz]) (by
      intro g hg
      rw [List.mem_singleton] at hg
      subst hg
      exact ⟨h, hn⟩)]
    simp
end K97
set_option Elab.async false
set_option linter.all false
set_option maxRecDepth 100000
set_option maxHeartbeats 4000000
/-! K97: the defs of logs. -/
namespace K97
open Dt (en)
open PySem L2
section
variable {P : Program} {w : World} {K : Fg} {mg : Str → Option Value} {base : Heap} {tk : Nat → Tok}
def R_is_cell := Rel (A := Str) CellOk (fun a => [en a]) fun _ => .bool true
theorem letters {c : Nat} (h : 97 ≤ c ∧ c ≤ 122) : decide (c ∈ ("abcdefghijklmnopqrstuvwxyz" : Str).cps.toList) = true := by
  have : ("abcdefghijklmnopqrstuvwxyz" : Str).cps.toList = (List.range 26).map (· + 97) := by decide +kernel
  rw [this, decide_eq_true_eq, List.mem_map]
  exact ⟨c - 97, by rw [List.mem_range]; omega, by omega⟩
theorem ok_is_cell (T : Tx mg tk) (t : Txt1 K mg "is_cell" (topS 14) ["thing"]) : Has P w K mg base "is_cell" 1 ["thing"] (SpD K R_is_cell) := by
  have sc : FnScope ["thing", "letter"] ["thing"] (defScope (topS 14)) := ⟨rfl, rfl, rfl, by decide +kernel, rfl, by decide +kernel, by decide +kernel⟩
  refine has_rel t sc (fun a => rfl) (by decide) (fun f cdv A outer s H E hr => (pss_cons (ps_if (PW.pt (pw_or (pt_not (pt_val (pe_callB (k_isi K rfl) (by rfl) T.b_isinstance (by decide +kernel) (pa_cons (pv 0) (pa_cons (pe_bltn (v := .ty "str") (by rfl) T.b_str (by decide +kernel) rfl) pa_nil))))) (pw_or1 (pt_not (pt_chain op_lt op_le pe_int (pe_callB (k_len K rfl) (by rfl) T.b_len (by decide +kernel) (pa_cons (pv 0) pa_nil)) (pe_glob (v := .int 8) (by rfl) T.c_MOST_LETTERS ⟨_, rfl⟩))))))
   (pss_one (ps_ret pe_bl))
   pss_nil)
  (pss_one (ps_ret (pe_callB (k_all K rfl rfl) (by rfl) T.b_all (by decide +kernel) (pa_cons (pe_lc (own := [("letter", 1)]) (by rfl) sc.nd (pi_str (pv 0)) (blkOk_by (by kernel_rfl)) (fun _ _ _ _ _ => (pg_name (i := 1) sc.nd rfl (.inl rfl))) (fun _ _ _ _ _ => pts_nil) (fun _ _ _ _ _ => (pe_cmpR (op_inS) (pv 1) (pe_glob (v := .str "abcdefghijklmnopqrstuvwxyz") (by rfl) T.c_LETTERS ⟨_, rfl⟩) (by rfl)))) pa_nil)))))) ?_
  intro a ha
  obtain ⟨h1, h2, h3⟩ := ha
  refine sg_then (sg_if (a := false) (et_or (a := false) (b := false) (et_not (b := true) (et_test (ev_isi (ev_var rfl) rfl))) fun _ => et_not (b := true) (et_test ?_)) (fun h => nomatch h) (fun _ => sg_next rfl)) ?_
  · refine (ev_chain (a := true) (b := true) ev_int (ev_lenS (ev_var rfl) (by omega)) ev_int ?_ ?_).cast rfl
    · simp; omega
    · simp; omega
  · refine sg_ret (tv_all (fun c => .str ⟨#[c]⟩) a.cps.toList (f := fun _ => true) (it_str (ev_var rfl)) (fun c _ => tg_name rfl rfl) (fun c hc => (ev_inS (ev_var rfl) ev_str).cast (by rw [letters (h3 c hc)])) (by simp; show a.length ≤ _; omega)) ?_
    simp
def R_is_value := Rel (A := Int) (fun a => 0 ≤ a ∧ a ≤ 1000000000) (fun a => [en a]) fun _ => .bool true
theorem ok_is_value (T : Tx mg tk) (t : Txt1 K mg "is_value" (topS 15) ["thing"]) : Has P w K mg base "is_value" 1 ["thing"] (SpD K R_is_value) := by
  have sc : FnScope ["thing"] ["thing"] (defScope (topS 15)) := ⟨rfl, rfl, rfl, by decide +kernel, rfl, by decide +kernel, by decide +kernel⟩
  refine has_rel t sc (fun a => rfl) (by decide) (fun f cdv A outer s H E hr => (pss_one (ps_ret (pe_and (pe_callB (k_isi K rfl) (by rfl) T.b_isinstance (by decide +kernel) (pa_cons (pv 0) (pa_cons (pe_bltn (v := .ty "int") (by rfl) T.b_int (by decide +kernel) rfl) pa_nil))) (pe_and (pe_not (pe_callB (k_isi K rfl) (by rfl) T.b_isinstance (by decide +kernel) (pa_cons (pv 0) (pa_cons (pe_bltn (v := .ty "bool") (by rfl) T.b_bool (by decide +kernel) rfl) pa_nil)))) (pe_one (pe_chain op_le op_le pe_int (pv 0) (pe_glob (v := .int (10 ^ 9)) (by rfl) T.c_MOST_VALUE ⟨_, rfl⟩)))))))) ?_
  intro a ha
  refine sg_ret ((ev_and (a := true) (b := true) (ev_isi (ev_var rfl) rfl) fun _ => ev_and (a := true) (b := true) (ev_not (a := false) (ev_isi (ev_var rfl) rfl)) fun _ => ?_).cast rfl) rfl
  refine (ev_chain (a := true) (b := true) ev_int (ev_var rfl) ev_int ?_ ?_).cast rfl
  · simp; exact ha.1
  · simp; exact ha.2
def R_is_pair := Rel (A := Str × Int) PairOk (fun a => [en a]) fun _ => .bool true
theorem ok_is_pair (T : Tx mg tk) (t : Txt1 K mg "is_pair" (topS 16) ["thing"]) (h_is_cell : Has P w K mg base "is_cell" 1 ["thing"] (SpD K R_is_cell)) (h_is_value : Has P w K mg base "is_value" 1 ["thing"] (SpD K R_is_value)) : Has P w K mg base "is_pair" 2 ["thing"] (SpD K R_is_pair) := by
  have sc : FnScope ["thing"] ["thing"] (defScope (topS 16)) := ⟨rfl, rfl, rfl, by decide +kernel, rfl, by decide +kernel, by decide +kernel⟩
  refine has_rel t sc (fun a => rfl) (by decide) (fun f cdv A outer s H E hr => (pss_one (ps_ret (pe_and (pe_callB (k_isi K rfl) (by rfl) T.b_isinstance (by decide +kernel) (pa_cons (pv 0) (pa_cons (pe_bltn (v := .ty "tuple") (by rfl) T.b_tuple (by decide +kernel) rfl) pa_nil))) (pe_and (pe_cmpR (k_eq K rfl hr.units) (pe_callB (k_len K rfl) (by rfl) T.b_len (by decide +kernel) (pa_cons (pv 0) pa_nil)) (pe_glob (v := .int 2) (by rfl) T.c_PAIR ⟨_, rfl⟩) (nomark _)) (pe_and (pe_has (h_is_cell.up (by decide)) hr (by rfl) (pa_cons (pe_ix (k_ix K rfl) (pv 0) pe_int (fun _ _ => rfl)) pa_nil)) (pe_one (pe_has (h_is_value.up (by decide)) hr (by rfl) (pa_cons (pe_ix (k_ix K rfl) (pv 0) pe_int (fun _ _ => rfl)) pa_nil))))))))) ?_
  intro a ha
  refine sg_ret ((ev_and (a := true) (b := true) (ev_isi (ev_var rfl) rfl) fun _ => ev_and (a := true) (b := true) ((tv_eq (α := Int) (ev_lenT (ev_var rfl).c).c ev_int.c).cast rfl) fun _ => ev_and (a := true) (b := true) (ev_call (ea_one (tv_pr1 (ev_var rfl).c)) ⟨a.1, ha.1, rfl, rfl⟩) fun _ => ev_call (ea_one (tv_pr2 (ev_var rfl).c)) ⟨a.2, ha.2, rfl, rfl⟩).cast rfl) rfl
def R_has_log_form := Rel (A := Lg) LgW (fun a => [en a]) fun _ => .bool true
theorem ok_has_log_form (T : Tx mg tk) (t : Txt1 K mg "has_log_form" (topS 17) ["thing"]) (h_is_pair : Has P w K mg base "is_pair" 2 ["thing"] (SpD K R_is_pair)) : Has P w K mg base "has_log_form" 3 ["thing"] (SpD K R_has_log_form) := by
  have sc : FnScope ["thing", "pair", "one", "other"] ["thing"] (defScope (topS 17)) := ⟨rfl, rfl, rfl, by decide +kernel, rfl, by decide +kernel, by decide +kernel⟩
  refine has_rel t sc (fun a => rfl) (by decide) (fun f cdv A outer s H E hr => (pss_cons (ps_if (PW.pt (pw_or (pt_not (pt_val (pe_callB (k_isi K rfl) (by rfl) T.b_isinstance (by decide +kernel) (pa_cons (pv 0) (pa_cons (pe_bltn (v := .ty "tuple") (by rfl) T.b_tuple (by decide +kernel) rfl) pa_nil))))) (pw_or1 (pt_not (pt_val (pe_callB (k_all K rfl rfl) (by rfl) T.b_all (by decide +kernel) (pa_cons (pe_lc (own := [("pair", 1)]) (by rfl) sc.nd (k_piT K rfl (pv 0)) (blkOk_by (by kernel_rfl)) (fun _ _ _ _ _ => (pg_name (i := 1) sc.nd rfl (.inl rfl))) (fun _ _ _ _ _ => pts_nil) (fun _ _ _ _ _ => (pe_has (h_is_pair.up (by decide)) hr (by rfl) (pa_cons (pv 1) pa_nil)))) pa_nil)))))))
   (pss_one (ps_ret pe_bl))
   pss_nil)
  (pss_one (ps_ret (pe_callB (k_all K rfl rfl) (by rfl) T.b_all (by decide +kernel) (pa_cons (pe_lc (own := [("one", 2), ("other", 3)]) (by rfl) sc.nd (k_zip K rfl (by rfl) T.b_zip (pa_cons (pv 0) (pa_cons (pe_slice (k_slT K rfl) (pv 0) (po_some pe_int) po_none) pa_nil))) (blkOk_by (by kernel_rfl)) (fun _ _ _ _ _ => (k_pgT K rfl (n := 2) rfl (pgs_cons (pg_name (i := 2) sc.nd rfl (.inl rfl)) (pgs_cons (pg_name (i := 3) sc.nd rfl (.inl rfl)) pgs_nil)))) (fun _ _ _ _ _ => pts_nil) (fun _ _ _ _ _ => (pe_cmpR (op_lt_str) (pe_ix (k_ix K rfl) (pv 2) pe_int (fun _ _ => rfl)) (pe_ix (k_ix K rfl) (pv 3) pe_int (fun _ _ => rfl)) (nomark _)))) pa_nil)))))) ?_
  intro a ha
  refine sg_then (sg_if (a := false) (et_or (a := false) (b := false) (et_not (b := true) (et_test (ev_isi (ev_var rfl) rfl))) fun _ => et_not (b := true) (et_test ((tv_all en a (f := fun _ => true) (tv_it (ev_var rfl)) (fun p _ => tg_name rfl rfl) (fun p hp => ev_call (ea_one (ev_var rfl)) ⟨p, ha.ok p hp, rfl, rfl⟩) (by have := ha.len; omega)).cast (by simp)))) (fun h => nomatch h) (fun _ => sg_next rfl)) ?_
  refine sg_ret ((tv_all (fun p : (Str × Int) × (Str × Int) => .tuple [en p.1, en p.2]) (a.zip (a.drop 1)) (f := fun _ => true) ((it_zipT (ea_cons (ev_var rfl) (ea_one (ev_slT (ev_var rfl).c (eo_int ev_int) eo_no)))).cast ?_) (fun p _ => tg_pair rfl rfl rfl rfl) (fun p hp => (tv_ltS (tv_pr1 (ev_var rfl).c) (tv_pr1 (ev_var rfl).c)).cast ?_) ?_).cast ?_) rfl
  · rw [cutD_1, ← List.map_drop, List.zip_map, List.map_map]
    rfl
  · rw [ups ha.up p hp]
  · have := ha.len
    rw [List.length_zip]
    omega
  · rw [List.all_eq_true.mpr]
    intro x _
    rfl
def R_has_cell := Rel (A := Lg × Str) (fun a => a.1.length ≤ 1000) (fun a => [en a.1, en a.2]) fun a => .bool (decide (a.2 ∈ a.1.map (·.1)))
theorem ok_has_cell (T : Tx mg tk) (t : Txt1 K mg "has_cell" (topS 18) ["log", "cell"]) : Has P w K mg base "has_cell" 1 ["log", "cell"] (SpD K R_has_cell) := by
  have sc : FnScope ["log", "cell", "name", "value"] ["log", "cell"] (defScope (topS 18)) := ⟨rfl, rfl, rfl, by decide +kernel, rfl, by decide +kernel, by decide +kernel⟩
  refine has_rel t sc (fun a => rfl) (by decide) (fun f cdv A outer s H E hr => (pss_one (ps_ret (pe_callB (k_any K rfl rfl) (by rfl) T.b_any (by decide +kernel) (pa_cons (pe_lc (own := [("name", 2), ("value", 3)]) (by rfl) sc.nd (k_piT K rfl (pv 0)) (blkOk_by (by kernel_rfl)) (fun _ _ _ _ _ => (k_pgT K rfl (n := 2) rfl (pgs_cons (pg_name (i := 2) sc.nd rfl (.inl rfl)) (pgs_cons (pg_name (i := 3) sc.nd rfl (.inl rfl)) pgs_nil)))) (fun _ _ _ _ _ => pts_nil) (fun _ _ _ _ _ => (pe_cmpR (k_eq K rfl hr.units) (pv 1) (pv 2) (nomark _)))) pa_nil))))) ?_
  intro a ha
  exact sg_ret ((tv_any en a.1 (f := fun p => decide (a.2 = p.1)) (tv_it (ev_var rfl)) (fun p _ => tg_pair rfl rfl rfl rfl) (fun p _ => tv_eq (ev_var rfl).c (ev_var rfl).c) (by omega)).cast (by rw [any_has])) rfl
def R_shared_cells := Rel (A := List Lg) LgsW (fun a => [en a]) fun a => en (mShared a)
theorem ok_shared_cells (T : Tx mg tk) (t : Txt1 K mg "shared_cells" (topS 20) ["logs"]) : Has P w K mg base "shared_cells" 1 ["logs"] (SpD K R_shared_cells) := by
  have sc : FnScope ["logs", "log", "others", "cell", "value", "other"] ["logs"] (defScope (topS 20)) := ⟨rfl, rfl, rfl, by decide +kernel, rfl, by decide +kernel, by decide +kernel⟩
  refine has_rel t sc (fun a => rfl) (by decide) (fun f cdv A outer s H E hr => (pss_cons (ps_if (pt_cmpR (k_eq K rfl hr.units) (pv 0) (pe_tupF pa_nil) (nomark _))
   (pss_one (ps_ret (pe_tupF pa_nil)))
   pss_nil)
  (pss_cons (ps_set (i := 2) sc.nd rfl (.inr rfl) (pe_lc (own := [("log", 1)]) (by rfl) sc.nd (k_piT K rfl (pe_slice (k_slT K rfl) (pv 0) (po_some pe_int) po_none)) (blkOk_by (by kernel_rfl)) (fun _ _ _ _ _ => (pg_name (i := 1) sc.nd rfl (.inl rfl))) (fun _ _ _ _ _ => pts_nil) (fun _ _ _ _ _ => (pe_callTy (k_dic K rfl rfl) (by rfl) T.b_dict (by decide +kernel) (pa_cons (pv 1) pa_nil)))))
  (pss_one (ps_ret (pe_callTy (k_tup K rfl) (by rfl) T.b_tuple (by decide +kernel) (pa_cons (pe_lc (own := [("cell", 3), ("value", 4)]) (by rfl) sc.nd (k_piT K rfl (pe_ix (k_ix K rfl) (pv 0) pe_int (fun _ _ => rfl))) (blkOk_by (by kernel_rfl)) (fun _ _ _ _ _ => (k_pgT K rfl (n := 2) rfl (pgs_cons (pg_name (i := 3) sc.nd rfl (.inr rfl)) (pgs_cons (pg_name (i := 4) sc.nd rfl (.inl rfl)) pgs_nil)))) (fun _ _ _ _ _ => (pts_one (pt_val (pe_callB (k_all K rfl rfl) (by rfl) T.b_all (by decide +kernel) (pa_cons (pe_lc (own := [("other", 5)]) (by rfl) sc.nd (k_piL K rfl (pv 2)) (blkOk_by (by kernel_rfl)) (fun _ _ _ _ _ => (pg_name (i := 5) sc.nd rfl (.inl rfl))) (fun _ _ _ _ _ => pts_nil) (fun _ _ _ _ _ => (pe_cmp (pc_din (hu_of hr) (pv 3) (pv 5)) (by rfl)))) pa_nil))))) (fun _ _ _ _ _ => (pv 3))) pa_nil))))))) ?_
  intro a ha
  cases a with
  | nil => exact sg_end (sg_if (a := true) (et_test (tv_eq (α := List Lg) (x := []) (y := []) (ev_var rfl).c (ev_tup ea_nil).c)) (fun _ => sg_ret (ev_tup ea_nil) rfl) fun h => nomatch h)
  | cons l L =>
    have hl := ha.ok l List.mem_cons_self
    have hL : L.length + 1 ≤ 60 := ha.len
    refine sg_then (sg_if (a := false) (et_test (tv_eq (α := List Lg) (x := l :: L) (y := []) (ev_var rfl).c (ev_tup ea_nil).c)) (fun h => nomatch h) fun _ => sg_next rfl) ?_
    refine sg_then (sg_set (d := .list (L.map fun m => .dict (dDict m))) (i := 2) (tv_lm en L ((it_tup (ev_slT (ev_var rfl).c (eo_int ev_int) eo_no)).cast (by rw [cutD_1]; rfl)) (fun m _ => tg_name rfl rfl) (fun m hm => tv_dict (ev_var rfl).c (ha.ok m (List.mem_cons_of_mem _ hm)).up.nodup) (by omega)).g rfl rfl rfl) ?_
    refine sg_ret ((ev_tupL (tv_lc en l (p := fun p => L.all fun m => (lkp m p.1).isSome) (f := fun p => en p.1) (it_tup (tv_at (x := l) (ev_var rfl).c ev_int (atI_0 l L))) (fun p _ => tg_pair rfl rfl rfl rfl) (fun p _ => et_B (tv_all (fun m => .dict (dDict m)) L (f := fun m => (lkp m p.1).isSome) (it_lst (ev_var rfl)) (fun m _ => tg_name rfl rfl) (fun m _ => tv_din (ev_var rfl) (ev_var rfl).c) (by omega))) (fun p _ _ => ev_var rfl) (by have := hl.len; omega)).c).cast ?_) rfl
    show _ = PyData.tuple (List.map en (List.map _ _))
    rw [List.map_map]
    rfl
def R_agreeing := Rel (A := List Lg × Lg) (fun a => LgsW a.1 ∧ a.2.length ≤ 100) (fun a => [en a.1, en a.2]) fun a => en (mAgreeing a.1 a.2)
theorem ok_agreeing (T : Tx mg tk) (t : Txt1 K mg "agreeing" (topS 21) ["logs", "known"]) : Has P w K mg base "agreeing" 1 ["logs", "known"] (SpD K R_agreeing) := by
  have sc : FnScope ["logs", "known", "found", "log", "pairs", "cell", "value"] ["logs", "known"] (defScope (topS 21)) := ⟨rfl, rfl, rfl, by decide +kernel, rfl, by decide +kernel, by decide +kernel⟩
  refine has_rel t sc (fun a => rfl) (by decide) (fun f cdv A outer s H E hr => (pss_cons (ps_set (i := 2) sc.nd rfl (.inl rfl) (pe_lst pa_nil))
  (pss_cons (ps_for PassesOwn.never rfl (k_piT K rfl (pv 0)) (pg_name (i := 3) sc.nd rfl (.inl rfl))
   (pss_cons (ps_set (i := 4) sc.nd rfl (.inr rfl) (pe_callTy (k_dic K rfl rfl) (by rfl) T.b_dict (by decide +kernel) (pa_cons (pv 3) pa_nil)))
  (pss_one (ps_if (pt_val (pe_callB (k_all K rfl rfl) (by rfl) T.b_all (by decide +kernel) (pa_cons (pe_lc (own := [("cell", 5), ("value", 6)]) (by rfl) sc.nd (k_piT K rfl (pv 1)) (blkOk_by (by kernel_rfl)) (fun _ _ _ _ _ => (k_pgT K rfl (n := 2) rfl (pgs_cons (pg_name (i := 5) sc.nd rfl (.inl rfl)) (pgs_cons (pg_name (i := 6) sc.nd rfl (.inl rfl)) pgs_nil)))) (fun _ _ _ _ _ => pts_nil) (fun _ _ _ _ _ => (pe_cmpR (k_eq K rfl hr.units) (pe_dget1 (hu_of hr) (pv 4) (pv 5) ⟨rfl, rfl, rfl, rfl⟩) (pv 6) (nomark _)))) pa_nil)))
   (pss_one (ps_expr (k_bm K rfl PySem.F.plainAttrs_list PySem.F.slot_list_append PySem.F.type_list_append mt_append (pv 2) (pa_cons (pv 3) pa_nil))))
   pss_nil))))
  (pss_one (ps_ret (pe_callTy (k_tup K rfl) (by rfl) T.b_tuple (by decide +kernel) (pa_cons (pv 2) pa_nil))))))) ?_
  intro a ha
  obtain ⟨L, k⟩ := a
  obtain ⟨hL, hk⟩ : LgsW L ∧ k.length ≤ 100 := ha
  refine sg_then (sg_setL (i := 2) (el_lst ea_nil) rfl rfl rfl) ?_
  refine sg_forW (fun i => [.im (en L), .im (en k), .ac ((mAgreeing (L.take i) k).map en), .no, .no, .no, .no]) (tv_it (ev_var rfl)) (Wk.rfl' _) (fun i d hd => ?_) ?_
  · rw [List.getElem?_map] at hd
    obtain ⟨l, hli, rfl⟩ := Option.map_eq_some_iff.mp hd
    have hlm : l ∈ L := List.mem_of_getElem? hli
    have hst := mAgreeing_step (k := k) hli
    have hlen := mAgreeing_len L k i
    have hll := hL.len
    refine ⟨_, _, tg_name (j := 3) rfl rfl, ?_⟩
    refine sg_then (sg_set (i := 4) (tv_dict (ev_var rfl).c (hL.ok l hlm).up.nodup) rfl rfl rfl) ?_
    refine sg_if (et_B (tv_all en k (f := fun p => decide (lkp l p.1 = some p.2)) (tv_it (ev_var rfl)) (fun p _ => tg_pair rfl rfl rfl rfl) (fun p _ => tv_getEq (k := .inr p.1) (ev_var rfl).c (ev_var rfl) (ev_var rfl) (lk_log p.1 l) (by simp [en])) (by omega))) (fun hb => ?_) (fun hb => ?_)
    · refine sg_app rfl (ev_var rfl) (by simp; omega) ?_
      rw [hst, hb, if_pos rfl, List.map_append]
      exact wk_ok
    · refine sg_next ?_
      rw [hst, hb, if_neg (by decide), List.append_nil]
      exact wk_ok
  · rw [List.length_map, List.take_length]
    exact sg_ret (tv_tup (ec_ac rfl)) rfl
end
end K97
set_option Elab.async false
set_option linter.all false
set_option maxRecDepth 100000
set_option maxHeartbeats 4000000
/-! K97: the defs of groups. -/
namespace K97
open Dt (en)
open PySem L2
section
variable {P : Program} {w : World} {K : Fg} {mg : Str → Option Value} {base : Heap} {tk : Nat → Tok}
def R_unread_shared := Rel (A := List Lg × List Str) (fun a => LgsW a.1) (fun a => [en a.1, en a.2]) fun a => .list ((mUnread a.1 a.2).map en)
def R_parts_by := Rel (A := List Lg × Str) (fun a => LgsW a.1 ∧ a.2 ∈ mShared a.1) (fun a => [en a.1, en a.2]) fun a => .list ((mParts a.1 a.2).map en)
def R_splitting_cells := Rel (A := List Lg) LgsW (fun a => [en a]) fun a => en (mSplit a)
def R_is_stuck := Rel (A := List Lg) LgsW (fun a => [en a]) fun a => .bool (decide (1 < a.length) && decide (mSplit a = []))
def R_blocks := Rel (A := List Lg) LgsW (fun a => [en a]) fun a => en (mBlocks a)
def R_stuck_block := Rel (A := List Lg) LgsW (fun a => [en a]) fun a => enO (mStuck a)
def R_has_reader := Rel (A := List Lg) LgsW (fun a => [en a]) fun a => .bool (decide (0 < a.length) && (mStuck a).isNone)
def R_without := Rel (A := List Lg × Int) (fun _ => False) (fun a => [en a.1, en a.2]) fun a => .none
def R_single_group := Rel (A := List Lg) (fun a => LgsW a ∧ mStuck a = none) (fun a => [en a]) fun a => .none
def R_check_reader := Rel (A := List Lg) (fun a => LgsW a ∧ mStuck a = none) (fun a => [en a]) fun a => .none
def R_check_logs := Rel (A := List Lg) (fun a => LgsW a ∧ mStuck a = none ∧ a ≠ []) (fun a => [en a]) fun a => .none
theorem ok_unread_shared (T : Tx mg tk) (t : Txt1 K mg "unread_shared" (topS 23) ["logs", "done"]) (h_shared_cells : Has P w K mg base "shared_cells" 1 ["logs"] (SpD K R_shared_cells)) : Has P w K mg base "unread_shared" 2 ["logs", "done"] (SpD K R_unread_shared) := by
  have sc : FnScope ["logs", "done", "cell"] ["logs", "done"] (defScope (topS 23)) := ⟨rfl, rfl, rfl, by decide +kernel, rfl, by decide +kernel, by decide +kernel⟩
  refine has_rel t sc (fun a => rfl) (by decide) (fun f cdv A outer s H E hr => (pss_one (ps_ret (pe_lc (own := [("cell", 2)]) (by rfl) sc.nd (k_piT K rfl (pe_has (h_shared_cells.up (by decide)) hr (by rfl) (pa_cons (pv 0) pa_nil))) (blkOk_by (by kernel_rfl)) (fun _ _ _ _ _ => (pg_name (i := 2) sc.nd rfl (.inl rfl))) (fun _ _ _ _ _ => (pts_one (pt_cmpR (k_ni K rfl hr.units) (pv 2) (pv 1) (by rfl)))) (fun _ _ _ _ _ => (pv 2)))))) ?_
  intro a ha
  refine sg_ret ((tv_lc en (mShared a.1) (p := fun c => !decide (c ∈ a.2)) (f := en) (it_tup (ev_call (ea_one (ev_var rfl)) ⟨a.1, ha, rfl, rfl⟩)) (fun c _ => tg_name rfl rfl) (fun c _ => et_test (tv_ni (ev_var rfl).c (ev_var rfl).c)) (fun c _ _ => ev_var rfl) (by have := mShared_len ha; omega)).g.cast rfl) rfl
theorem ok_is_stuck (T : Tx mg tk) (t : Txt1 K mg "is_stuck" (topS 26) ["logs"]) (h_splitting_cells : Has P w K mg base "splitting_cells" 2 ["logs"] (SpD K R_splitting_cells)) : Has P w K mg base "is_stuck" 3 ["logs"] (SpD K R_is_stuck) := by
  have sc : FnScope ["logs"] ["logs"] (defScope (topS 26)) := ⟨rfl, rfl, rfl, by decide +kernel, rfl, by decide +kernel, by decide +kernel⟩
  refine has_rel t sc (fun a => rfl) (by decide) (fun f cdv A outer s H E hr => (pss_one (ps_ret (pe_and (pe_cmpR (op_gt) (pe_callB (k_len K rfl) (by rfl) T.b_len (by decide +kernel) (pa_cons (pv 0) pa_nil)) pe_int (nomark _)) (pe_one (pe_cmpR (k_eq K rfl hr.units) (pe_has (h_splitting_cells.up (by decide)) hr (by rfl) (pa_cons (pv 0) pa_nil)) (pe_tupF pa_nil) (nomark _))))))) ?_
  intro a ha
  refine sg_ret ((ev_and (a := decide (1 < a.length)) (b := decide (mSplit a = [])) (tv_gtN (m := 1) (tv_len (ev_var rfl).c) ev_int) fun _ => (tv_eq (α := List Str) (ev_call (ea_one (ev_var rfl)) ⟨a, ha, rfl, rfl⟩).c (ev_tup ea_nil).c)).cast rfl) rfl
theorem ok_has_reader (T : Tx mg tk) (t : Txt1 K mg "has_reader" (topS 28) ["logs"]) (h_stuck_block : Has P w K mg base "stuck_block" 4 ["logs"] (SpD K R_stuck_block)) : Has P w K mg base "has_reader" 5 ["logs"] (SpD K R_has_reader) := by
  have sc : FnScope ["logs"] ["logs"] (defScope (topS 28)) := ⟨rfl, rfl, rfl, by decide +kernel, rfl, by decide +kernel, by decide +kernel⟩
  refine has_rel t sc (fun a => rfl) (by decide) (fun f cdv A outer s H E hr => (pss_one (ps_ret (pe_and (pe_cmpR (op_gt) (pe_callB (k_len K rfl) (by rfl) T.b_len (by decide +kernel) (pa_cons (pv 0) pa_nil)) pe_int (nomark _)) (pe_one (pe_cmpR (op_isN1) (pe_has (h_stuck_block.up (by decide)) hr (by rfl) (pa_cons (pv 0) pa_nil)) pe_non (nomark _))))))) ?_
  intro a ha
  exact sg_ret ((ev_and (a := decide (0 < a.length)) (b := (mStuck a).isNone) (tv_gtN (m := 0) (tv_len (ev_var rfl).c) ev_int) fun _ => tv_isO (ev_call (ea_one (ev_var rfl)) ⟨a, ha, rfl, rfl⟩).c).cast rfl) rfl
theorem ok_without (T : Tx mg tk) (t : Txt1 K mg "without" (topS 30) ["logs", "at"]) : Has P w K mg base "without" 1 ["logs", "at"] (SpD K R_without) := by
  have sc : FnScope ["logs", "at"] ["logs", "at"] (defScope (topS 30)) := ⟨rfl, rfl, rfl, by decide +kernel, rfl, by decide +kernel, by decide +kernel⟩
  refine has_rel t sc (fun a => rfl) (by decide) (fun f cdv A outer s H E hr => (pss_one (ps_ret (pe_op (k_cat K rfl) (pe_slice (k_slT K rfl) (pv 0) po_none (po_some (pv 1))) (pe_slice (k_slT K rfl) (pv 0) (po_some (pe_op op_add (pv 1) pe_int)) po_none))))) ?_
  intro a ha
  exact ha.elim
theorem ok_check_reader (T : Tx mg tk) (t : Txt1 K mg "check_reader" (topS 32) ["logs"]) (h_single_group : Has P w K mg base "single_group" 5 ["logs"] (SpD K R_single_group)) : Has P w K mg base "check_reader" 6 ["logs"] (SpD K R_check_reader) := by
  have sc : FnScope ["logs", "group"] ["logs"] (defScope (topS 32)) := ⟨rfl, rfl, rfl, by decide +kernel, rfl, by decide +kernel, by decide +kernel⟩
  refine has_rel t sc (fun a => rfl) (by decide) (fun f cdv A outer s H E hr => (pss_cons (ps_set (i := 1) sc.nd rfl (.inl rfl) (pe_has (h_single_group.up (by decide)) hr (by rfl) (pa_cons (pv 0) pa_nil)))
  (pss_one (ps_if (pt_cmpR (op_notN1) (pv 1) pe_non (nomark _))
   (pss_one ps_never)
   pss_nil)))) ?_
  intro a ha
  refine sg_then (sg_set (i := 1) (ev_call (ea_one (ev_var rfl)) ⟨a, ha, rfl, rfl⟩) rfl rfl rfl) ?_
  exact sg_if (a := false) (et_test (ev_notN (ev_var rfl).c _ rfl)) (fun h => nomatch h) fun _ => sg_next rfl
theorem ok_check_logs (T : Tx mg tk) (t : Txt1 K mg "check_logs" (topS 33) ["logs"]) (h_check_reader : Has P w K mg base "check_reader" 6 ["logs"] (SpD K R_check_reader)) : Has P w K mg base "check_logs" 7 ["logs"] (SpD K R_check_logs) := by
  have sc : FnScope ["logs"] ["logs"] (defScope (topS 33)) := ⟨rfl, rfl, rfl, by decide +kernel, rfl, by decide +kernel, by decide +kernel⟩
  refine has_rel t sc (fun a => rfl) (by decide) (fun f cdv A outer s H E hr => (pss_cons (ps_if (pt_cmpR (k_eq K rfl hr.units) (pe_callB (k_len K rfl) (by rfl) T.b_len (by decide +kernel) (pa_cons (pv 0) pa_nil)) pe_int (nomark _))
   (pss_one ps_never)
   pss_nil)
  (pss_one (ps_expr (pe_has (h_check_reader.up (by decide)) hr (by rfl) (pa_cons (pv 0) pa_nil)))))) ?_
  intro a ha
  obtain ⟨h1, h2, h3⟩ := ha
  refine sg_then (sg_if (a := false) (et_test ((tv_eq (α := Int) (ev_lenT (ev_var rfl).c).c ev_int.c).cast ?_)) (fun h => nomatch h) fun _ => sg_next rfl) ?_
  · rw [List.length_map]
    have := List.length_pos_iff.mpr h3
    congr 1
    exact decide_eq_false (by omega)
  · exact sg_drop (ev_call (ea_one (ev_var rfl)) ⟨a, ⟨h1, h2⟩, rfl, rfl⟩) rfl
theorem ok_single_group (T : Tx mg tk) (t : Txt1 K mg "single_group" (topS 31) ["logs"]) (h_stuck_block : Has P w K mg base "stuck_block" 4 ["logs"] (SpD K R_stuck_block)) (h_without : Has P w K mg base "without" 1 ["logs", "at"] (SpD K R_without)) : Has P w K mg base "single_group" 5 ["logs"] (SpD K R_single_group) := by
  have sc : FnScope ["logs", "group", "at", "less"] ["logs"] (defScope (topS 31)) := ⟨rfl, rfl, rfl, by decide +kernel, rfl, by decide +kernel, by decide +kernel⟩
  refine has_rel t sc (fun a => rfl) (by decide) (fun f cdv A outer s H E hr => (pss_cons (ps_par (i := 1) (j := 2) (by rfl) sc.nd rfl rfl (by decide) rfl rfl (pa_cons (pe_has (h_stuck_block.up (by decide)) hr (by rfl) (pa_cons (pv 0) pa_nil)) (pa_cons pe_int pa_nil)) (by rfl))
  (pss_cons (ps_while PassesOwn.never (PW.pt (pw_and (pt_cmpR (op_notN1) (pv 1) pe_non (nomark _)) (pw_and1 (pt_cmpR (op_lt) (pv 2) (pe_callB (k_len K rfl) (by rfl) T.b_len (by decide +kernel) (pa_cons (pv 1) pa_nil)) (nomark _)))))
   (pss_cons (ps_set (i := 3) sc.nd rfl (.inl rfl) (pe_has (h_stuck_block.up (by decide)) hr (by rfl) (pa_cons (pe_has (h_without.up (by decide)) hr (by rfl) (pa_cons (pv 1) (pa_cons (pv 2) pa_nil))) pa_nil)))
  (pss_one (ps_if (pt_cmpR (op_isN1) (pv 3) pe_non (nomark _))
   (pss_one (ps_aug (i := 2) sc.nd rfl (.inl rfl) pe_int ip_add))
   (pss_one (ps_set (i := 1) sc.nd rfl (.inl rfl) (pv 3)))))))
  (pss_one (ps_ret (pv 1)))))) ?_
  intro a ha
  obtain ⟨h1, h2⟩ := ha
  refine sg_then (sg_par (i := 1) (j := 2) (d1 := .none) (d2 := .int 0) (ea_cons ((tv_call a (ea_one (ev_var rfl)) h1).cast (by rw [h2]; rfl)) (ea_one ev_int)) rfl rfl rfl rfl (by decide) rfl) ?_
  refine sg_whileW (fun _ : Unit => [.im (en a), .im .none, .im (.int 0), .no]) (fun _ => True) (fun _ => 0) () trivial (Wk.rfl' _) fun _ _ => ⟨false, et_and (a := false) (b := false) (et_test (ev_notN (ev_var rfl).c _ rfl)) (fun h => nomatch h), (fun h => nomatch h), fun _ => sg_ret (ev_var rfl) rfl⟩
theorem ok_stuck_block (T : Tx mg tk) (t : Txt1 K mg "stuck_block" (topS 29) ["logs"]) (h_blocks : Has P w K mg base "blocks" 3 ["logs"] (SpD K R_blocks)) : Has P w K mg base "stuck_block" 4 ["logs"] (SpD K R_stuck_block) := by
  have sc : FnScope ["logs", "block"] ["logs"] (defScope (topS 29)) := ⟨rfl, rfl, rfl, by decide +kernel, rfl, by decide +kernel, by decide +kernel⟩
  refine has_rel t sc (fun a => rfl) (by decide) (fun f cdv A outer s H E hr => (pss_cons (ps_for PassesOwn.never rfl (k_piT K rfl (pe_has (h_blocks.up (by decide)) hr (by rfl) (pa_cons (pv 0) pa_nil))) (pg_name (i := 1) sc.nd rfl (.inl rfl))
   (pss_one (ps_if (pt_cmpR (op_gt) (pe_callB (k_len K rfl) (by rfl) T.b_len (by decide +kernel) (pa_cons (pv 1) pa_nil)) pe_int (nomark _))
   (pss_one (ps_ret (pv 1)))
   pss_nil)))
  (pss_one (ps_ret pe_non)))) ?_
  intro a ha
  refine sg_forP (fun _ => [.im (en a), .no]) (fun i => ∀ b ∈ (mBlocks a).take i, ¬ 1 < b.length) (tv_it (tv_call a (ea_one (ev_var rfl)) ha)) (Wk.rfl' _) (by simp) (fun i d hd hI => ?_) fun hI => ?_
  · rw [List.getElem?_map] at hd
    obtain ⟨b, hb, rfl⟩ := Option.map_eq_some_iff.mp hd
    refine ⟨_, _, tg_name (j := 1) rfl rfl, ?_⟩
    refine sg_if (et_test (tv_gtN (m := 1) (tv_len (ev_var rfl).c) ev_int)) (fun h => ?_) fun h => ?_
    · refine sg_ret (ev_var rfl) ?_
      have hs : mStuck a = some b := by
        refine List.find?_eq_some_iff_append.mpr ⟨h, (mBlocks a).take i, (mBlocks a).drop (i + 1), ?_, fun x hx => ?_⟩
        · obtain ⟨hi, e⟩ := List.getElem?_eq_some_iff.mp hb
          rw [← e, ← List.drop_eq_getElem_cons hi, List.take_append_drop]
        · have := hI x hx
          simp only [this, decide_false, Bool.not_false]
      rw [hs]
      rfl
    · refine sg_next ⟨wk_ok, fun x hx => ?_⟩
      rw [List.take_add_one, hb] at hx
      rcases List.mem_append.mp hx with hx | hx
      · exact hI x hx
      · rw [Option.toList, List.mem_singleton] at hx
        subst hx
        exact of_decide_eq_false h
  · rw [List.length_map, List.take_length] at hI
    have hs : mStuck a = none := List.find?_eq_none.mpr fun x hx => by
      have := hI x hx
      simp only [this, decide_false, Bool.false_eq_true, not_false_eq_true]
    rw [hs]
    exact sg_ret ev_non rfl
theorem ok_blocks (T : Tx mg tk) (t : Txt1 K mg "blocks" (topS 27) ["logs"]) (h_parts_by : Has P w K mg base "parts_by" 1 ["logs", "cell"] (SpD K R_parts_by)) (h_splitting_cells : Has P w K mg base "splitting_cells" 2 ["logs"] (SpD K R_splitting_cells)) : Has P w K mg base "blocks" 3 ["logs"] (SpD K R_blocks) := by
  have sc : FnScope ["logs", "found", "waiting", "group", "cells", "value", "part"] ["logs"] (defScope (topS 27)) := ⟨rfl, rfl, rfl, by decide +kernel, rfl, by decide +kernel, by decide +kernel⟩
  refine has_rel t sc (fun a => rfl) (by decide) (fun f cdv A outer s H E hr => (pss_cons (ps_par (i := 1) (j := 2) (by rfl) sc.nd rfl rfl (by decide) rfl rfl (pa_cons (pe_lst pa_nil) (pa_cons (pe_lst pa_nil) pa_nil)) (by rfl))
  (pss_cons (ps_if (pt_cmpR (op_gt) (pe_callB (k_len K rfl) (by rfl) T.b_len (by decide +kernel) (pa_cons (pv 0) pa_nil)) pe_int (nomark _))
   (pss_one (ps_expr (k_bm K rfl PySem.F.plainAttrs_list PySem.F.slot_list_append PySem.F.type_list_append mt_append (pv 2) (pa_cons (pv 0) pa_nil))))
   pss_nil)
  (pss_cons (ps_while PassesOwn.never (pt_cmpR (k_ne K rfl hr.units) (pv 2) (pe_lst pa_nil) (nomark _))
   (pss_cons (ps_set (i := 3) sc.nd rfl (.inl rfl) (k_bm0 K rfl PySem.F.plainAttrs_list PySem.F.slot_list_pop PySem.F.type_list_pop mt_pop (pv 2)))
  (pss_cons (ps_set (i := 4) sc.nd rfl (.inl rfl) (pe_has (h_splitting_cells.up (by decide)) hr (by rfl) (pa_cons (pv 3) pa_nil)))
  (pss_one (ps_if (pt_cmpR (k_eq K rfl hr.units) (pv 4) (pe_tupF pa_nil) (nomark _))
   (pss_one (ps_expr (k_bm K rfl PySem.F.plainAttrs_list PySem.F.slot_list_append PySem.F.type_list_append mt_append (pv 1) (pa_cons (pv 3) pa_nil))))
   (pss_one (ps_expr (k_bm K rfl PySem.F.plainAttrs_list PySem.F.slot_list_extend PySem.F.type_list_extend mt_extend (pv 2) (pa_cons (pe_lc (own := [("value", 5), ("part", 6)]) (by rfl) sc.nd (k_piL K rfl (pe_has (h_parts_by.up (by decide)) hr (by rfl) (pa_cons (pv 3) (pa_cons (pe_ix (k_ix K rfl) (pv 4) pe_int (fun _ _ => rfl)) pa_nil)))) (blkOk_by (by kernel_rfl)) (fun _ _ _ _ _ => (k_pgT K rfl (n := 2) rfl (pgs_cons (pg_name (i := 5) sc.nd rfl (.inl rfl)) (pgs_cons (pg_name (i := 6) sc.nd rfl (.inl rfl)) pgs_nil)))) (fun _ _ _ _ _ => pts_nil) (fun _ _ _ _ _ => (pv 6))) pa_nil)))))))))
  (pss_one (ps_ret (pe_callTy (k_tup K rfl) (by rfl) T.b_tuple (by decide +kernel) (pa_cons (pe_callB (k_sorted K rfl hr.units) (by rfl) T.b_sorted (by decide +kernel) (pa_cons (pv 1) pa_nil)) pa_nil)))))))) ?_
  intro a ha
  refine sg_then (sg_parLL (el_lst ea_nil) (el_lst ea_nil) rfl rfl rfl rfl (by decide) rfl) ?_
  refine sg_seqW [.im (en a), .ac [], .ac ((if a = [] then [] else [a]).map en), .no, .no, .no, .no] (sg_if (et_test (tv_gtN (m := 0) (tv_len (ev_var rfl).c) ev_int)) (fun h => ?_) fun h => ?_) ?_
  · have h := of_decide_eq_true h
    rw [if_neg (List.ne_nil_of_length_pos h)]
    exact sg_app rfl (ev_var rfl) (by decide) (Wk.rfl' _)
  · have h := of_decide_eq_false h
    rw [if_pos (List.eq_nil_of_length_eq_zero (by omega))]
    exact sg_next (Wk.rfl' _)
  generalize hX : mBlk (2 * a.length) [] (if a = [] then [] else [a]) = X
  refine sg_whileW (α := List (List Lg) × List (List Lg)) (fun x => [.im (en a), .ac (x.1.map en), .ac (x.2.reverse.map en), .no, .no, .no, .no]) (fun x => (∀ g ∈ x.2, LgsW g ∧ g ≠ []) ∧ x.1.length + msz x.2 ≤ 200 ∧ ∃ n, msz x.2 ≤ n ∧ mBlk n x.1 x.2 = X) (fun x => msz x.2) ([], if a = [] then [] else [a]) ⟨?_, ?_, 2 * a.length, ?_, hX⟩ ?_ ?_
  · intro g hg
    by_cases h : a = []
    · rw [if_pos h] at hg; cases hg
    · rw [if_neg h] at hg
      cases List.mem_singleton.mp hg
      exact ⟨ha, h⟩
  · have := ha.len
    by_cases h : a = []
    · simp [h, msz]
    · simp [h, msz]; omega
  · by_cases h : a = []
    · simp [h, msz]
    · simp [h, msz]
  · by_cases h : a = []
    · simp [h]; exact Wk.rfl' _
    · simp [h]; exact Wk.rfl' _
  · rintro ⟨f, w⟩ ⟨h1, h2, n, h3, h4⟩
    refine ⟨!w.reverse.isEmpty, et_test (tv_neNil (ec_ac rfl)), fun hb => ?_, fun hb => ?_⟩
    · cases w with
      | nil => simp at hb
      | cons g w =>
        obtain ⟨hg, hgn⟩ : LgsW g ∧ g ≠ [] := h1 g List.mem_cons_self
        have hg0 : 0 < g.length := List.length_pos_iff.mpr hgn
        have hgl := hg.len
        have h2 : f.length + msz (g :: w) ≤ 200 := h2
        have h3 : msz (g :: w) ≤ n := h3
        have h4 : mBlk n f (g :: w) = X := h4
        rw [msz_cons] at h2 h3
        show StG K [.im (en a), .ac (f.map en), .ac ((g :: w).reverse.map en), .no, .no, .no, .no] _ _ _
        rw [List.reverse_cons, List.map_append]
        refine sg_then (sg_pop (ds := w.reverse.map en) (d := en g) rfl rfl rfl rfl) ?_
        refine sg_then (sg_set (i := 4) (tv_call g (ea_one (ev_var rfl)) hg) rfl rfl rfl) ?_
        cases n with
        | zero => omega
        | succ n =>
          unfold mBlk at h4
          refine sg_if (et_test (tv_eq (α := List Str) (x := mSplit g) (y := []) (ev_var rfl).c (ev_tup ea_nil).c)) (fun h => ?_) fun h => ?_
          · have hs := of_decide_eq_true h
            rw [hs] at h4
            refine sg_app rfl (ev_var rfl) (by simp; omega) ⟨(f ++ [g], w), ?_, ⟨fun x hx => h1 x (List.mem_cons_of_mem _ hx), ?_, n, ?_, h4⟩, ?_⟩
            · show msz w < msz (g :: w)
              rw [msz_cons]; omega
            · show (f ++ [g]).length + msz w ≤ 200
              rw [List.length_append, List.length_singleton]; omega
            · show msz w ≤ n
              omega
            · show Wk _ [.im (en a), .ac ((f ++ [g]).map en), .ac (w.reverse.map en), .no, .no, .no, .no]
              rw [List.map_append]
              exact wk_ok
          · have hs := of_decide_eq_false h
            obtain ⟨c, r, hcr⟩ := List.exists_cons_of_ne_nil hs
            rw [hcr] at h4
            have hc : c ∈ mSplit g := by rw [hcr]; exact List.mem_cons_self
            have hpm := parts_msz hc
            have hpl := sum_two (w := (mParts g c).map (·.2)) fun g hg => (parts_ne hg).1
            rw [parts_sum, List.length_map] at hpl
            have hwl : w.length ≤ msz w := len_msz fun x hx => (h1 x (List.mem_cons_of_mem _ hx)).2
            refine sg_ext rfl (tv_lm en (mParts g c) (f := fun p => en p.2) (it_lst (tv_call (g, c) (ea_cons (ev_var rfl) (ea_one (tv_at (xs := mSplit g) (x := c) (ev_var rfl).c ev_int (by rw [hcr]; exact atI_0 c r)))) ⟨hg, (mem_mSplit.mp hc).1⟩)) (fun p _ => tg_pair rfl rfl rfl rfl) (fun p _ => ev_var rfl) (by omega)) (by simp; omega) ⟨(f, ((mParts g c).map (·.2)).reverse ++ w), ?_, ⟨fun x hx => ?_, ?_, n, ?_, h4⟩, ?_⟩
            · show msz (((mParts g c).map (·.2)).reverse ++ w) < msz (g :: w)
              rw [msz_cons, msz_app, msz_rev]; omega
            · rcases List.mem_append.mp hx with hx | hx
              · have := parts_ne (List.mem_reverse.mp hx)
                exact ⟨hg.subl this.2, this.1⟩
              · exact h1 x (List.mem_cons_of_mem _ hx)
            · show f.length + msz (((mParts g c).map (·.2)).reverse ++ w) ≤ 200
              rw [msz_app, msz_rev]; omega
            · show msz (((mParts g c).map (·.2)).reverse ++ w) ≤ n
              rw [msz_app, msz_rev]; omega
            · show Wk _ [.im (en a), .ac (f.map en), .ac ((((mParts g c).map (·.2)).reverse ++ w).reverse.map en), .no, .no, .no, .no]
              rw [List.reverse_append, List.reverse_reverse, List.map_append, List.map_map]
              exact wk_ok
    · cases w with
      | cons g w => simp at hb
      | nil =>
        have hf : f = X := by cases n <;> exact h4
        subst hf
        refine sg_ret ((tv_tup (tv_sortL (ec_ac rfl) (by have : f.length + msz [] ≤ 200 := h2; omega)).c).cast ?_) rfl
        unfold mBlocks
        rw [hX]
end
end K97
set_option Elab.async false
set_option linter.all false
set_option maxRecDepth 100000
set_option maxHeartbeats 4000000
/-! K97: what the defs of orders compute, in plain words. -/
namespace K97
open Dt (en)
open PySem L2
theorem nodup_sub {α : Type} : ∀ {xs ys : List α}, xs.Nodup → (∀ x ∈ xs, x ∈ ys) → xs.length ≤ ys.length
  | [], _, _, _ => Nat.zero_le _
  | x :: xs, ys, hn, hs => by
    rw [List.nodup_cons] at hn
    obtain ⟨a, b, rfl⟩ := List.append_of_mem (hs x List.mem_cons_self)
    have := nodup_sub (xs := xs) (ys := a ++ b) hn.2 fun y hy => by
      have h1 := hs y (List.mem_cons_of_mem _ hy)
      have h2 : y ≠ x := fun z => hn.1 (z ▸ hy)
      simp only [List.mem_append, List.mem_cons] at h1 ⊢
      rcases h1 with h1 | h1 | h1
      · exact .inl h1
      · exact absurd h1 h2
      · exact .inr h1
    simp only [List.length_append, List.length_cons] at this ⊢
    omega
def cellsOf (l : Lg) : List Str := l.map (·.1)
def mAfter (L : List Lg) (l : Lg) (D : List Str) : List Lg := mAgreeing L (l.filter fun p => decide (p.1 ∈ D))
def mAvail (L : List Lg) (l : Lg) (D : List Str) : List Str := mUnread (mAfter L l D) D
theorem mAfter_w {L : List Lg} {l : Lg} {D : List Str} (h : LgsW L) : LgsW (mAfter L l D) := mAgreeing_w h
theorem mem_mAfter {L : List Lg} {l m : Lg} {D : List Str} (hl : LgW l) : m ∈ mAfter L l D ↔ m ∈ L ∧ ∀ c ∈ D, ∀ v, lkp l c = some v → lkp m c = some v := by
  unfold mAfter
  rw [mem_mAgreeing]
  constructor
  · rintro ⟨h1, h2⟩
    refine ⟨h1, fun c hc v hv => ?_⟩
    exact h2 (c, v) (List.mem_filter.mpr ⟨(lkp_of_mem hl.up.nodup).mp hv, decide_eq_true hc⟩)
  · rintro ⟨h1, h2⟩
    refine ⟨h1, fun p hp => ?_⟩
    rw [List.mem_filter] at hp
    exact h2 p.1 (of_decide_eq_true hp.2) p.2 ((lkp_of_mem hl.up.nodup).mpr hp.1)
theorem self_after {L : List Lg} {l : Lg} {D : List Str} (hl : LgW l) (h : l ∈ L) : l ∈ mAfter L l D := (mem_mAfter hl).mpr ⟨h, fun _ _ _ h => h⟩
theorem mem_mAvail {L : List Lg} {l : Lg} {D : List Str} {c : Str} (hl : LgW l) (h : l ∈ L) : c ∈ mAvail L l D ↔ c ∉ D ∧ ∀ m ∈ mAfter L l D, (lkp m c).isSome = true := by
  unfold mAvail
  rw [mem_mUnread, mem_mShared]
  constructor
  · rintro ⟨⟨_, h2⟩, h3⟩
    exact ⟨h3, h2⟩
  · rintro ⟨h3, h2⟩
    exact ⟨⟨List.ne_nil_of_mem (self_after hl h), h2⟩, h3⟩
theorem avail_sub {L : List Lg} {l : Lg} {D : List Str} {c : Str} (hl : LgW l) (h : l ∈ L) (hc : c ∈ mAvail L l D) : c ∈ cellsOf l ∧ c ∉ D := by
  obtain ⟨h1, h2⟩ := (mem_mAvail hl h).mp hc
  exact ⟨lkp_mem.mp (h2 l (self_after hl h)), h1⟩
theorem avail_up {L : List Lg} {l : Lg} {D : List Str} (h : LgsW L) : Up (mAvail L l D) := mUnread_up (mAfter_w h)
theorem avail_len {L : List Lg} {l : Lg} {D : List Str} (h : LgsW L) : (mAvail L l D).length ≤ 100 := mUnread_len (mAfter_w h)
/-- the cells read stand in the log, each once -/
structure Dn (l : Lg) (D : List Str) : Prop where
  nd : D.Nodup
  sub : ∀ c ∈ D, c ∈ cellsOf l
theorem Dn.len {l : Lg} {D : List Str} (h : Dn l D) : D.length ≤ l.length := by
  have := nodup_sub h.nd h.sub
  rwa [cellsOf, List.length_map] at this
theorem Dn.nil {l : Lg} : Dn l [] := ⟨.nil, fun c h => nomatch h⟩
theorem Dn.app {L : List Lg} {l : Lg} {D m : List Str} (h : Dn l D) (hL : LgsW L) (hl : LgW l) (hm : l ∈ L) (hs : m.Sublist (mAvail L l D)) : Dn l (D ++ m) := by
  refine ⟨List.nodup_append.mpr ⟨h.nd, hs.nodup (avail_up hL).nodup, fun a ha b hb => ?_⟩, fun c hc => ?_⟩
  · intro z
    subst z
    exact (avail_sub hl hm (hs.subset hb)).2 ha
  · rcases List.mem_append.mp hc with hc | hc
    · exact h.sub c hc
    · exact (avail_sub hl hm (hs.subset hc)).1
def mMore (L : List Lg) (l : Lg) (A D : List Str) : List Str := (mAvail L l D).filter fun c => !decide (c ∈ A)
def mRw (L : List Lg) (l : Lg) (A : List Str) : Nat → List Str → List Str
  | 0, D => D
  | n + 1, D => if mMore L l A D = [] then D else mRw L l A n (D ++ mMore L l A D)
def mReadW (L : List Lg) (l : Lg) (A : List Str) : List Str := mRw L l A (l.length + 1) []
def mPrecF (L : List Lg) (l : Lg) (c : Str) : List (Str × Str) := (l.filter fun p => !decide (p.1 = c) && !decide (p.1 ∈ mReadW L l [c])).map fun p => (c, p.1)
def mPrec (L : List Lg) (l : Lg) : List (Str × Str) := l.flatMap fun p => mPrecF L l p.1
def mRd (L : List Lg) (l : Lg) : Nat → List (List Str) → List Str → List (List Str)
  | 0, f, _ => f
  | n + 1, f, D => if D.length < l.length then mRd L l n (f ++ [mAvail L l D]) (D ++ mAvail L l D) else f
def mRounds (L : List Lg) (l : Lg) : List (List Str) := mRd L l (l.length + 1) [] []
theorem mRw_dn {L : List Lg} {l : Lg} {A : List Str} (hL : LgsW L) (hl : LgW l) (hm : l ∈ L) : ∀ (n : Nat) (D : List Str), Dn l D → Dn l (mRw L l A n D)
  | 0, _, h => h
  | n + 1, D, h => by
    unfold mRw
    split
    · exact h
    · exact mRw_dn hL hl hm n _ (h.app hL hl hm List.filter_sublist)
theorem mReadW_dn {L : List Lg} {l : Lg} {A : List Str} (hL : LgsW L) (hl : LgW l) (hm : l ∈ L) : Dn l (mReadW L l A) := mRw_dn hL hl hm _ _ .nil
theorem mPrecF_len {L : List Lg} {l : Lg} {c : Str} (hl : LgW l) : (mPrecF L l c).length ≤ 100 := by
  unfold mPrecF
  rw [List.length_map]
  exact Nat.le_trans (List.length_filter_le ..) hl.len
theorem flat_len {α β : Type} {f : α → List β} {m : Nat} : ∀ {xs : List α}, (∀ x ∈ xs, (f x).length ≤ m) → (xs.flatMap f).length ≤ xs.length * m
  | [], _ => by simp
  | x :: xs, h => by
    have h1 := h x List.mem_cons_self
    have h2 := flat_len (xs := xs) fun y hy => h y (List.mem_cons_of_mem _ hy)
    rw [List.flatMap_cons, List.length_append, List.length_cons, Nat.succ_mul]
    omega
theorem flat_step {α β : Type} {f : α → List β} {xs : List α} {x : α} {i : Nat} (h : xs[i]? = some x) : (xs.take (i + 1)).flatMap f = (xs.take i).flatMap f ++ f x := by
  rw [List.take_add_one, h, List.flatMap_append]
  simp
/-- as long as cells are left, one is available -/
theorem avail_ne {L : List Lg} {l : Lg} {D : List Str} (hL : LgsW L) (G : Good L) (hm : l ∈ L) (hD : Dn l D) (hlt : D.length < l.length) : mAvail L l D ≠ [] := by
  have hl := hL.ok l hm
  by_cases h : ∃ m ∈ mAfter L l D, m ≠ l
  · obtain ⟨m, h1, h2⟩ := h
    obtain ⟨c, hc, a, ha, b, hb, hne⟩ := G (mAfter L l D) (fun x hx => ((mem_mAfter hl).mp hx).1) ⟨m, h1, l, self_after hl hm, h2⟩
    have hcD : c ∉ D := fun hcD => by
      obtain ⟨v, hv⟩ := Option.isSome_iff_exists.mp (hc l (self_after hl hm))
      have h3 := ((mem_mAfter hl).mp ha).2 c hcD v hv
      have h4 := ((mem_mAfter hl).mp hb).2 c hcD v hv
      exact hne (h3.trans h4.symm)
    exact List.ne_nil_of_mem ((mem_mAvail hl hm).mpr ⟨hcD, hc⟩)
  · have hx : ∃ c ∈ cellsOf l, c ∉ D := Classical.byContradiction fun z => by
      have := nodup_sub (xs := cellsOf l) (ys := D) hl.up.nodup fun c hc => Classical.byContradiction fun y => z ⟨c, hc, y⟩
      rw [cellsOf, List.length_map] at this
      omega
    obtain ⟨c, h1, h2⟩ := hx
    refine List.ne_nil_of_mem ((mem_mAvail hl hm).mpr ⟨h2, fun m hmm => ?_⟩)
    have : m = l := Classical.byContradiction fun y => h ⟨m, hmm, y⟩
    rw [this]
    exact lkp_mem.mpr h1
/-- logs with a reader, one of them -/
structure Rd0 (L : List Lg) (l : Lg) : Prop where
  w : LgsW L
  st : mStuck L = none
  m : l ∈ L
theorem Rd0.ok {L : List Lg} {l : Lg} (h : Rd0 L l) : LgW l := h.w.ok l h.m
theorem Rd0.good {L : List Lg} {l : Lg} (h : Rd0 L l) : Good L := (stuck_iff h.w.nd).mp h.st
section
variable {K : Fg} {Γ : En} {ta tb te : TE} {α : Type} [Dt α] [DecidableEq α]
theorem tv_neO {o : Option (List α)} {xs : List α} (ha : EvC K Γ ta (enO o)) (hb : EvC K Γ tb (en xs)) (hk : Dt.k (List α) ≤ 60 := by decide) : EvG K Γ (tOp (rEqP K true) ta tb) (.bool (!decide (o = some xs))) := by
  cases o with
  | none => exact (ev_ne ha hb rfl (Dt.pl xs) (by simp [enO, PyData.depth])).cast (by simp [enO]; rfl)
  | some x => exact (tv_ne (α := List α) ha hb hk).cast (by simp)
end
section
variable {K : Fg} {Γ : En} {ta tb : TE} {ds es : List PyData} {d : PyData} {N : En → Prop} {R : PyData → En → Prop}
/-- a new list of ours and data -/
theorem sg_parLI {i j : Nat} {e1 e2 : Ent} (ha : EvL K Γ ta ds) (hb : EvG K Γ tb d) (hi : Γ[i]? = some e1) (hj : Γ[j]? = some e2) (h1 : e1.mut = false) (h2 : e2.mut = false) (hij : i ≠ j) (hn : N ((Γ.set i (.ac ds)).set j (.im d))) : StG K Γ (tPar i j (tCons ta (tCons tb tNil))) N R := fun F B D σ H E n r =>
  ha F B σ H E _ fun p vs H1 hp e hl rv => by
    have EF := E.addF hp e (by rw [hl]; simp)
    refine hb _ B σ H1 EF _ fun w H2 e' rw' => ⟨_, _, rfl, ?_⟩
    obtain ⟨E1, x1⟩ := E.newM (e' := .ac ds) hi h1 hp e rfl (fun ds' z => by cases z; exact ⟨vs, hl, rv⟩) (fun _ z => nomatch z) (fun _ z => nomatch z)
    have hm := mu_new (p := p) (e' := .ac ds) hi h1 rfl E.len
    have E2 := E1.ext e'
    have hj' := set_get (f := .ac ds) hj hij
    have E3 := E2.put (x := some w) hj' h2 (e' := .im d) rfl fun d' z => ⟨w, rfl, by
      cases z
      rw [frz, hm]
      refine rw'.up (cut_less fun a z => ?_)
      rcases z with z | z | z
      · exact .inl (.inl z)
      · exact .inr z
      · exact .inl (.inr z)⟩
    have m3 := mu_set (σ := σ.set i (some (.ref p))) (x := some w) (e' := .im d) hj' h2 rfl
    refine n _ _ H2 hn E3 (x1.tr ?_)
    rw [frz, frz, m3]
    exact cut_mono e'
theorem ev_un {g : Int → V} {i : Int} (h : EvG K Γ ta (.int i)) (hg : ∀ H, Rp K H (g i) d) : EvG K Γ (tUn (rU g) ta) d := fun F B σ H E Q q => h F B σ H E _ fun v H1 e1 r1 => ⟨i, r1.intI, q _ H1 e1 (hg _)⟩
theorem ev_m1 : EvG K Γ (tUn (rU fun i => .int (-i)) (tC (.int 1))) (.int (-1)) := ev_un (g := fun i => .int (-i)) ev_int fun H => .int _
theorem atI_last {γ : Type} (x : γ) (xs : List γ) : L2.atI (xs ++ [x]) (-1) = some x := by
  have h1 : ¬ (0 : Int) ≤ -1 := by decide
  have h2 : -(((xs ++ [x]).length : Nat) : Int) ≤ -1 := by simp; omega
  unfold L2.atI ixN
  rw [if_neg h1, if_pos h2]
  have h3 : (-1 + (((xs ++ [x]).length : Nat) : Int)).toNat = xs.length := by simp; omega
  show (xs ++ [x])[_]? = _
  rw [h3]
  simp
end
end K97
set_option Elab.async false
set_option linter.all false
set_option maxRecDepth 100000
set_option maxHeartbeats 4000000
/-! K97: the defs of orders. -/
namespace K97
open Dt (en)
open PySem L2
section
variable {P : Program} {w : World} {K : Fg} {mg : Str → Option Value} {base : Heap} {tk : Nat → Tok}
def R_check_log := Rel (A := List Lg × Lg) (fun a => Rd0 a.1 a.2) (fun a => [en a.1, en a.2]) fun a => .none
def R_group_after := Rel (A := List Lg × Lg × List Str) (fun a => LgsW a.1 ∧ LgW a.2.1) (fun a => [en a.1, en a.2.1, en a.2.2]) fun a => en (mAfter a.1 a.2.1 a.2.2)
def R_available := Rel (A := List Lg × Lg × List Str) (fun a => LgsW a.1 ∧ LgW a.2.1) (fun a => [en a.1, en a.2.1, en a.2.2]) fun a => en (mAvail a.1 a.2.1 a.2.2)
def R_begins_order := Rel (A := List Lg × Lg) (fun a => LgsW a.1 ∧ LgW a.2) (fun a => [en a.1, en a.2, en ([] : List Str)]) fun a => .bool true
def R_next_cells := Rel (A := List Lg × Lg) (fun a => Rd0 a.1 a.2) (fun a => [en a.1, en a.2, en ([] : List Str)]) fun a => en (mAvail a.1 a.2 [])
def R_read_without := Rel (A := List Lg × Lg × List Str) (fun a => LgsW a.1 ∧ LgW a.2.1 ∧ a.2.1 ∈ a.1) (fun a => [en a.1, en a.2.1, en a.2.2]) fun a => en (mReadW a.1 a.2.1 a.2.2)
def R_closure := Rel (A := List Lg × Lg × List Str) (fun a => Rd0 a.1 a.2.1) (fun a => [en a.1, en a.2.1, en a.2.2]) fun a => en (dsort (mReadW a.1 a.2.1 a.2.2))
def R_precedence := Rel (A := List Lg × Lg) (fun a => Rd0 a.1 a.2) (fun a => [en a.1, en a.2]) fun a => en (mPrec a.1 a.2)
def R_rounds := Rel (A := List Lg × Lg) (fun a => Rd0 a.1 a.2) (fun a => [en a.1, en a.2]) fun a => en (mRounds a.1 a.2)
theorem ok_check_log (T : Tx mg tk) (t : Txt1 K mg "check_log" (topS 36) ["logs", "log"]) (h_check_logs : Has P w K mg base "check_logs" 7 ["logs"] (SpD K R_check_logs)) (h_has_log_form : Has P w K mg base "has_log_form" 3 ["thing"] (SpD K R_has_log_form)) : Has P w K mg base "check_log" 8 ["logs", "log"] (SpD K R_check_log) := by
  have sc : FnScope ["logs", "log"] ["logs", "log"] (defScope (topS 36)) := ⟨rfl, rfl, rfl, by decide +kernel, rfl, by decide +kernel, by decide +kernel⟩
  refine has_rel t sc (fun a => rfl) (by decide) (fun f cdv A outer s H E hr => (pss_cons (ps_expr (pe_has (h_check_logs.up (by decide)) hr (by rfl) (pa_cons (pv 0) pa_nil)))
  (pss_one (ps_if (PW.pt (pw_or (pt_not (pt_val (pe_has (h_has_log_form.up (by decide)) hr (by rfl) (pa_cons (pv 1) pa_nil)))) (pw_or1 (pt_cmpR (k_ni K rfl hr.units) (pv 1) (pv 0) (by rfl)))))
   (pss_one ps_never)
   pss_nil)))) ?_
  intro a ha
  obtain ⟨L, l⟩ := a
  have ha : Rd0 L l := ha
  refine sg_then (sg_drop (tv_call L (ea_one (ev_var rfl)) ⟨ha.w, ha.st, List.ne_nil_of_mem ha.m⟩) rfl) ?_
  refine sg_if (a := false) (et_or (a := false) (b := false) (et_not (b := true) (et_test (tv_call l (ea_one (ev_var rfl)) ha.ok))) fun _ => et_test ((tv_ni (x := l) (xs := L) (ev_var rfl).c (ev_var rfl).c).cast ?_)) (fun h => nomatch h) fun _ => sg_next rfl
  simp [ha.m]
theorem ok_group_after (T : Tx mg tk) (t : Txt1 K mg "group_after" (topS 37) ["logs", "log", "done"]) (h_agreeing : Has P w K mg base "agreeing" 1 ["logs", "known"] (SpD K R_agreeing)) : Has P w K mg base "group_after" 2 ["logs", "log", "done"] (SpD K R_group_after) := by
  have sc : FnScope ["logs", "log", "done", "pair"] ["logs", "log", "done"] (defScope (topS 37)) := ⟨rfl, rfl, rfl, by decide +kernel, rfl, by decide +kernel, by decide +kernel⟩
  refine has_rel t sc (fun a => rfl) (by decide) (fun f cdv A outer s H E hr => (pss_one (ps_ret (pe_has (h_agreeing.up (by decide)) hr (by rfl) (pa_cons (pv 0) (pa_cons (pe_callTy (k_tup K rfl) (by rfl) T.b_tuple (by decide +kernel) (pa_cons (pe_lc (own := [("pair", 3)]) (by rfl) sc.nd (k_piT K rfl (pv 1)) (blkOk_by (by kernel_rfl)) (fun _ _ _ _ _ => (pg_name (i := 3) sc.nd rfl (.inl rfl))) (fun _ _ _ _ _ => (pts_one (pt_cmpR (k_in K rfl hr.units) (pe_ix (k_ix K rfl) (pv 3) pe_int (fun _ _ => rfl)) (pv 2) (by rfl)))) (fun _ _ _ _ _ => (pv 3))) pa_nil)) pa_nil)))))) ?_
  intro a ha
  obtain ⟨L, l, D⟩ := a
  obtain ⟨h1, h2⟩ : LgsW L ∧ LgW l := ha
  have hl := h2.len
  refine sg_ret (tv_call (L, l.filter fun p => decide (p.1 ∈ D)) (ea_cons (ev_var rfl) (ea_one (tv_tup (tv_lc en l (p := fun p => decide (p.1 ∈ D)) (f := en) (tv_it (ev_var rfl)) (fun p _ => tg_name rfl rfl) (fun p _ => et_test (tv_in (tv_pr1 (ev_var rfl).c).c (ev_var rfl).c)) (fun p _ _ => ev_var rfl) (by omega)).c))) ⟨h1, Nat.le_trans (List.length_filter_le ..) hl⟩) rfl
theorem ok_available (T : Tx mg tk) (t : Txt1 K mg "available" (topS 38) ["logs", "log", "done"]) (h_group_after : Has P w K mg base "group_after" 2 ["logs", "log", "done"] (SpD K R_group_after)) (h_unread_shared : Has P w K mg base "unread_shared" 2 ["logs", "done"] (SpD K R_unread_shared)) : Has P w K mg base "available" 3 ["logs", "log", "done"] (SpD K R_available) := by
  have sc : FnScope ["logs", "log", "done"] ["logs", "log", "done"] (defScope (topS 38)) := ⟨rfl, rfl, rfl, by decide +kernel, rfl, by decide +kernel, by decide +kernel⟩
  refine has_rel t sc (fun a => rfl) (by decide) (fun f cdv A outer s H E hr => (pss_one (ps_ret (pe_callTy (k_tup K rfl) (by rfl) T.b_tuple (by decide +kernel) (pa_cons (pe_has (h_unread_shared.up (by decide)) hr (by rfl) (pa_cons (pe_has (h_group_after.up (by decide)) hr (by rfl) (pa_cons (pv 0) (pa_cons (pv 1) (pa_cons (pv 2) pa_nil)))) (pa_cons (pv 2) pa_nil))) pa_nil))))) ?_
  intro a ha
  obtain ⟨L, l, D⟩ := a
  obtain ⟨h1, h2⟩ : LgsW L ∧ LgW l := ha
  exact sg_ret (tv_tup (tv_call (mAfter L l D, D) (ea_cons (tv_call (L, l, D) (ea_cons (ev_var rfl) (ea_cons (ev_var rfl) (ea_one (ev_var rfl)))) ⟨h1, h2⟩) (ea_one (ev_var rfl))) (mAfter_w h1)).c) rfl
theorem ok_next_cells (T : Tx mg tk) (t : Txt1 K mg "next_cells" (topS 40) ["logs", "log", "done"]) (h_available : Has P w K mg base "available" 3 ["logs", "log", "done"] (SpD K R_available)) (h_begins_order : Has P w K mg base "begins_order" 4 ["logs", "log", "thing"] (SpD K R_begins_order)) (h_check_log : Has P w K mg base "check_log" 8 ["logs", "log"] (SpD K R_check_log)) : Has P w K mg base "next_cells" 9 ["logs", "log", "done"] (SpD K R_next_cells) := by
  have sc : FnScope ["logs", "log", "done"] ["logs", "log", "done"] (defScope (topS 40)) := ⟨rfl, rfl, rfl, by decide +kernel, rfl, by decide +kernel, by decide +kernel⟩
  refine has_rel t sc (fun a => rfl) (by decide) (fun f cdv A outer s H E hr => (pss_cons (ps_expr (pe_has (h_check_log.up (by decide)) hr (by rfl) (pa_cons (pv 0) (pa_cons (pv 1) pa_nil))))
  (pss_cons (ps_if (pt_not (pt_val (pe_has (h_begins_order.up (by decide)) hr (by rfl) (pa_cons (pv 0) (pa_cons (pv 1) (pa_cons (pv 2) pa_nil))))))
   (pss_one ps_never)
   pss_nil)
  (pss_one (ps_ret (pe_has (h_available.up (by decide)) hr (by rfl) (pa_cons (pv 0) (pa_cons (pv 1) (pa_cons (pv 2) pa_nil))))))))) ?_
  intro a ha
  obtain ⟨L, l⟩ := a
  have ha : Rd0 L l := ha
  refine sg_then (sg_drop (tv_call (L, l) (ea_cons (ev_var rfl) (ea_one (ev_var rfl))) ha) rfl) ?_
  refine sg_then (sg_if (a := false) (et_not (b := true) (et_test (tv_call (L, l) (ea_cons (ev_var rfl) (ea_cons (ev_var rfl) (ea_one (ev_var rfl)))) ⟨ha.w, ha.ok⟩))) (fun h => nomatch h) fun _ => sg_next rfl) ?_
  exact sg_ret (tv_call (L, l, []) (ea_cons (ev_var rfl) (ea_cons (ev_var rfl) (ea_one (ev_var rfl)))) ⟨ha.w, ha.ok⟩) rfl
theorem ok_read_without (T : Tx mg tk) (t : Txt1 K mg "read_without" (topS 42) ["logs", "log", "avoid"]) (h_available : Has P w K mg base "available" 3 ["logs", "log", "done"] (SpD K R_available)) : Has P w K mg base "read_without" 4 ["logs", "log", "avoid"] (SpD K R_read_without) := by
  have sc : FnScope ["logs", "log", "avoid", "done", "more", "cell"] ["logs", "log", "avoid"] (defScope (topS 42)) := ⟨rfl, rfl, rfl, by decide +kernel, rfl, by decide +kernel, by decide +kernel⟩
  refine has_rel t sc (fun a => rfl) (by decide) (fun f cdv A outer s H E hr => (pss_cons (ps_asg (pe_tupF (pa_cons (pe_tupF pa_nil) (pa_cons pe_non pa_nil))) (k_pgT K rfl (n := 2) rfl (pgs_cons (pg_name (i := 3) sc.nd rfl (.inl rfl)) (pgs_cons (pg_name (i := 4) sc.nd rfl (.inl rfl)) pgs_nil))))
  (pss_cons (ps_while PassesOwn.never (pt_cmpR (k_ne K rfl hr.units) (pv 4) (pe_tupF pa_nil) (nomark _))
   (pss_cons (ps_set (i := 4) sc.nd rfl (.inl rfl) (pe_callTy (k_tup K rfl) (by rfl) T.b_tuple (by decide +kernel) (pa_cons (pe_lc (own := [("cell", 5)]) (by rfl) sc.nd (k_piT K rfl (pe_has (h_available.up (by decide)) hr (by rfl) (pa_cons (pv 0) (pa_cons (pv 1) (pa_cons (pv 3) pa_nil))))) (blkOk_by (by kernel_rfl)) (fun _ _ _ _ _ => (pg_name (i := 5) sc.nd rfl (.inl rfl))) (fun _ _ _ _ _ => (pts_one (pt_cmpR (k_ni K rfl hr.units) (pv 5) (pv 2) (by rfl)))) (fun _ _ _ _ _ => (pv 5))) pa_nil)))
  (pss_one (ps_aug (i := 3) sc.nd rfl (.inl rfl) (pv 4) (k_icat K rfl)))))
  (pss_one (ps_ret (pv 3)))))) ?_
  intro a ha
  obtain ⟨L, l, A⟩ := a
  obtain ⟨h1, h2, h3⟩ : LgsW L ∧ LgW l ∧ l ∈ L := ha
  have hl := h2.len
  refine sg_then (sg_asgP (ev_tup (ea_cons (ev_tup ea_nil) (ea_one ev_non))) rfl rfl rfl rfl (by decide) rfl) ?_
  refine sg_whileW (α := List Str × Option (List Str)) (fun x => [.im (en L), .im (en l), .im (en A), .im (en x.1), .im (enO x.2), .no]) (fun x => Dn l x.1 ∧ (x.2 = some [] → x.1 = mReadW L l A) ∧ (x.2 ≠ some [] → ∃ n, l.length < n + x.1.length ∧ mRw L l A n x.1 = mReadW L l A)) (fun x => if x.2 = some [] then 0 else 1 + (l.length - x.1.length)) ([], none) ⟨.nil, (fun h => nomatch h), fun _ => ⟨l.length + 1, by simp, rfl⟩⟩ (Wk.rfl' _) ?_
  rintro ⟨D, m⟩ ⟨hD, q1, q2⟩
  have hD : Dn l D := hD
  refine ⟨!decide (m = some []), et_test (tv_neO (α := Str) (xs := []) (ev_var rfl).c (ev_tup ea_nil).c), fun hb => ?_, fun hb => ?_⟩
  · have hm : m ≠ some [] := by simpa using hb
    obtain ⟨n, hn, e⟩ := q2 hm
    have hDl := hD.len
    have hal := avail_len (l := l) (D := D) h1
    refine sg_then (sg_set (i := 4) (tv_tup (tv_lc en (mAvail L l D) (p := fun c => !decide (c ∈ A)) (f := en) (tv_it (tv_call (L, l, D) (ea_cons (ev_var rfl) (ea_cons (ev_var rfl) (ea_one (ev_var rfl)))) ⟨h1, h2⟩)) (fun c _ => tg_name rfl rfl) (fun c _ => et_test (tv_ni (ev_var rfl).c (ev_var rfl).c)) (fun c _ _ => ev_var rfl) (by omega)).c) rfl rfl rfl) ?_
    have hsub : (mMore L l A D).Sublist (mAvail L l D) := List.filter_sublist
    have hD' := hD.app h1 h2 h3 hsub
    have hDl' := hD'.len
    rw [List.length_append] at hDl'
    refine sg_augT (ds := D.map en) (es := (mMore L l A D).map en) rfl (ev_var rfl).c (by rw [List.length_map, List.length_map]; omega) ?_
    rw [← List.map_append]
    have hn : l.length < n + D.length := hn
    have e : mRw L l A n D = mReadW L l A := e
    cases n with
    | zero => omega
    | succ n =>
      unfold mRw at e
      by_cases hz : mMore L l A D = []
      · rw [if_pos hz] at e
        refine ⟨(D, some []), by simp [hm]; omega, ⟨hD, fun _ => e, fun h => absurd rfl h⟩, ?_⟩
        rw [hz, List.append_nil]
        show Wk ([_, _, _, _, .im (en (mMore L l A D)), _]) _
        rw [hz]
        exact wk_ok
      · rw [if_neg hz] at e
        have hz0 := List.length_pos_iff.mpr hz
        refine ⟨(D ++ mMore L l A D, some (mMore L l A D)), ?_, ⟨hD', fun h => absurd (Option.some.inj h) hz, fun _ => ⟨n, ?_, e⟩⟩, ?_⟩
        · simp only [hm, if_false, Option.some.injEq, hz, List.length_append]
          omega
        · show l.length < n + (D ++ mMore L l A D).length
          rw [List.length_append]
          omega
        · exact wk_ok
  · have hm : m = some [] := by simpa using hb
    refine sg_ret (ev_var rfl) ?_
    rw [← q1 hm]
theorem ok_closure (T : Tx mg tk) (t : Txt1 K mg "closure" (topS 43) ["logs", "log", "avoid"]) (h_check_log : Has P w K mg base "check_log" 8 ["logs", "log"] (SpD K R_check_log)) (h_read_without : Has P w K mg base "read_without" 4 ["logs", "log", "avoid"] (SpD K R_read_without)) : Has P w K mg base "closure" 9 ["logs", "log", "avoid"] (SpD K R_closure) := by
  have sc : FnScope ["logs", "log", "avoid"] ["logs", "log", "avoid"] (defScope (topS 43)) := ⟨rfl, rfl, rfl, by decide +kernel, rfl, by decide +kernel, by decide +kernel⟩
  refine has_rel t sc (fun a => rfl) (by decide) (fun f cdv A outer s H E hr => (pss_cons (ps_expr (pe_has (h_check_log.up (by decide)) hr (by rfl) (pa_cons (pv 0) (pa_cons (pv 1) pa_nil))))
  (pss_one (ps_ret (pe_callTy (k_tup K rfl) (by rfl) T.b_tuple (by decide +kernel) (pa_cons (pe_callB (k_sorted K rfl hr.units) (by rfl) T.b_sorted (by decide +kernel) (pa_cons (pe_has (h_read_without.up (by decide)) hr (by rfl) (pa_cons (pv 0) (pa_cons (pv 1) (pa_cons (pv 2) pa_nil)))) pa_nil)) pa_nil)))))) ?_
  intro a ha
  obtain ⟨L, l, A⟩ := a
  have ha : Rd0 L l := ha
  have hl := ha.ok.len
  have := (mReadW_dn (A := A) ha.w ha.ok ha.m).len
  refine sg_then (sg_drop (tv_call (L, l) (ea_cons (ev_var rfl) (ea_one (ev_var rfl))) ha) rfl) ?_
  exact sg_ret (tv_tup (tv_sortT (tv_call (L, l, A) (ea_cons (ev_var rfl) (ea_cons (ev_var rfl) (ea_one (ev_var rfl)))) ⟨ha.w, ha.ok, ha.m⟩).c (by show (mReadW L l A).length ≤ _; omega)).c) rfl
theorem ok_precedence (T : Tx mg tk) (t : Txt1 K mg "precedence" (topS 44) ["logs", "log"]) (h_check_log : Has P w K mg base "check_log" 8 ["logs", "log"] (SpD K R_check_log)) (h_read_without : Has P w K mg base "read_without" 4 ["logs", "log", "avoid"] (SpD K R_read_without)) : Has P w K mg base "precedence" 9 ["logs", "log"] (SpD K R_precedence) := by
  have sc : FnScope ["logs", "log", "found", "first", "value", "free", "later"] ["logs", "log"] (defScope (topS 44)) := ⟨rfl, rfl, rfl, by decide +kernel, rfl, by decide +kernel, by decide +kernel⟩
  refine has_rel t sc (fun a => rfl) (by decide) (fun f cdv A outer s H E hr => (pss_cons (ps_expr (pe_has (h_check_log.up (by decide)) hr (by rfl) (pa_cons (pv 0) (pa_cons (pv 1) pa_nil))))
  (pss_cons (ps_set (i := 2) sc.nd rfl (.inl rfl) (pe_lst pa_nil))
  (pss_cons (ps_for PassesOwn.never rfl (k_piT K rfl (pv 1)) (k_pgT K rfl (n := 2) rfl (pgs_cons (pg_name (i := 3) sc.nd rfl (.inr rfl)) (pgs_cons (pg_name (i := 4) sc.nd rfl (.inl rfl)) pgs_nil)))
   (pss_cons (ps_set (i := 5) sc.nd rfl (.inr rfl) (pe_has (h_read_without.up (by decide)) hr (by rfl) (pa_cons (pv 0) (pa_cons (pv 1) (pa_cons (pe_tupF (pa_cons (pv 3) pa_nil)) pa_nil)))))
  (pss_one (ps_expr (k_bm K rfl PySem.F.plainAttrs_list PySem.F.slot_list_extend PySem.F.type_list_extend mt_extend (pv 2) (pa_cons (pe_lc (own := [("later", 6), ("value", 4)]) (by rfl) sc.nd (k_piT K rfl (pv 1)) (blkOk_by (by kernel_rfl)) (fun _ _ _ _ _ => (k_pgT K rfl (n := 2) rfl (pgs_cons (pg_name (i := 6) sc.nd rfl (.inl rfl)) (pgs_cons (pg_name (i := 4) sc.nd rfl (.inl rfl)) pgs_nil)))) (fun _ _ _ _ _ => (pts_one (PW.pt (pw_and (pt_cmpR (k_ne K rfl hr.units) (pv 6) (pv 3) (nomark _)) (pw_and1 (pt_cmpR (k_ni K rfl hr.units) (pv 6) (pv 5) (by rfl))))))) (fun _ _ _ _ _ => (pe_tupF (pa_cons (pv 3) (pa_cons (pv 6) pa_nil))))) pa_nil))))))
  (pss_one (ps_ret (pe_callTy (k_tup K rfl) (by rfl) T.b_tuple (by decide +kernel) (pa_cons (pv 2) pa_nil)))))))) ?_
  intro a ha
  obtain ⟨L, l⟩ := a
  have ha : Rd0 L l := ha
  have hl := ha.ok.len
  refine sg_then (sg_drop (tv_call (L, l) (ea_cons (ev_var rfl) (ea_one (ev_var rfl))) ha) rfl) ?_
  refine sg_then (sg_setL (i := 2) (el_lst ea_nil) rfl rfl rfl) ?_
  refine sg_forW (fun i => [.im (en L), .im (en l), .ac (((l.take i).flatMap fun p => mPrecF L l p.1).map en), .no, .no, .no, .no]) (tv_it (ev_var rfl)) (Wk.rfl' _) (fun i d hd => ?_) ?_
  · rw [List.getElem?_map] at hd
    obtain ⟨p, hp, rfl⟩ := Option.map_eq_some_iff.mp hd
    refine ⟨_, _, tg_pair (j := 3) (k := 4) rfl rfl rfl rfl, ?_⟩
    refine sg_then (sg_set (i := 5) (tv_call (L, l, [p.1]) (ea_cons (ev_var rfl) (ea_cons (ev_var rfl) (ea_one (ev_tup (ea_one (ev_var rfl)))))) ⟨ha.w, ha.ok, ha.m⟩) rfl rfl rfl) ?_
    have h5 : ((l.take i).flatMap fun p => mPrecF L l p.1).length ≤ (l.take i).length * 100 := flat_len fun x _ => mPrecF_len ha.ok
    have h6 := len_take l i
    refine sg_ext (es := (mPrecF L l p.1).map en) rfl ((tv_lc en l (p := fun q => !decide (q.1 = p.1) && !decide (q.1 ∈ mReadW L l [p.1])) (f := fun q => en (p.1, q.1)) (tv_it (ev_var rfl)) (fun q _ => tg_pair rfl rfl rfl rfl) (fun q _ => et_and (et_test (tv_ne (ev_var rfl).c (ev_var rfl).c)) fun _ => et_test (tv_ni (ev_var rfl).c (ev_var rfl).c)) (fun q _ _ => ev_tup (ea_cons (ev_var rfl) (ea_one (ev_var rfl)))) (by omega)).cast ?_) ?_ ?_
    · unfold mPrecF
      rw [List.map_map]
      rfl
    · have := mPrecF_len (L := L) (c := p.1) ha.ok
      rw [List.length_map, List.length_map]
      omega
    · show Wk _ [_, _, .ac (((l.take (i + 1)).flatMap fun p => mPrecF L l p.1).map en), _, _, _, _]
      rw [flat_step hp, List.map_append]
      exact wk_ok
  · rw [List.length_map, List.take_length]
    exact sg_ret (tv_tup (ec_ac rfl)) rfl
theorem ok_rounds (T : Tx mg tk) (t : Txt1 K mg "rounds" (topS 45) ["logs", "log"]) (h_available : Has P w K mg base "available" 3 ["logs", "log", "done"] (SpD K R_available)) (h_check_log : Has P w K mg base "check_log" 8 ["logs", "log"] (SpD K R_check_log)) : Has P w K mg base "rounds" 9 ["logs", "log"] (SpD K R_rounds) := by
  have sc : FnScope ["logs", "log", "found", "done"] ["logs", "log"] (defScope (topS 45)) := ⟨rfl, rfl, rfl, by decide +kernel, rfl, by decide +kernel, by decide +kernel⟩
  refine has_rel t sc (fun a => rfl) (by decide) (fun f cdv A outer s H E hr => (pss_cons (ps_expr (pe_has (h_check_log.up (by decide)) hr (by rfl) (pa_cons (pv 0) (pa_cons (pv 1) pa_nil))))
  (pss_cons (ps_par (i := 2) (j := 3) (by rfl) sc.nd rfl rfl (by decide) rfl rfl (pa_cons (pe_lst pa_nil) (pa_cons (pe_tupF pa_nil) pa_nil)) (by rfl))
  (pss_cons (ps_while PassesOwn.never (pt_cmpR (op_lt) (pe_callB (k_len K rfl) (by rfl) T.b_len (by decide +kernel) (pa_cons (pv 3) pa_nil)) (pe_callB (k_len K rfl) (by rfl) T.b_len (by decide +kernel) (pa_cons (pv 1) pa_nil)) (nomark _))
   (pss_cons (ps_expr (k_bm K rfl PySem.F.plainAttrs_list PySem.F.slot_list_append PySem.F.type_list_append mt_append (pv 2) (pa_cons (pe_has (h_available.up (by decide)) hr (by rfl) (pa_cons (pv 0) (pa_cons (pv 1) (pa_cons (pv 3) pa_nil)))) pa_nil)))
  (pss_one (ps_aug (i := 3) sc.nd rfl (.inl rfl) (pe_ix (k_ix K rfl) (pv 2) (pe_un un_neg pe_int) (fun _ _ => rfl)) (k_icat K rfl)))))
  (pss_one (ps_ret (pe_callTy (k_tup K rfl) (by rfl) T.b_tuple (by decide +kernel) (pa_cons (pv 2) pa_nil)))))))) ?_
  intro a ha
  obtain ⟨L, l⟩ := a
  have ha : Rd0 L l := ha
  have hl := ha.ok.len
  refine sg_then (sg_drop (tv_call (L, l) (ea_cons (ev_var rfl) (ea_one (ev_var rfl))) ha) rfl) ?_
  refine sg_then (sg_parLI (el_lst ea_nil) (ev_tup ea_nil) rfl rfl rfl rfl (by decide) rfl) ?_
  refine sg_whileW (α := List (List Str) × List Str) (fun x => [.im (en L), .im (en l), .ac (x.1.map en), .im (en x.2)]) (fun x => Dn l x.2 ∧ x.1.length ≤ x.2.length ∧ ∃ n, l.length < n + x.2.length ∧ mRd L l n x.1 x.2 = mRounds L l) (fun x => l.length - x.2.length) ([], []) ⟨.nil, Nat.le_refl _, l.length + 1, by simp, rfl⟩ (Wk.rfl' _) ?_
  rintro ⟨f, D⟩ ⟨hD, q1, n, hn, e⟩
  have hD : Dn l D := hD
  have hDl := hD.len
  have q1 : f.length ≤ D.length := q1
  have hn : l.length < n + D.length := hn
  have e : mRd L l n f D = mRounds L l := e
  refine ⟨decide (D.length < l.length), et_test (tv_ltN (tv_len (ev_var rfl).c) (tv_len (ev_var rfl).c)), fun hb => ?_, fun hb => ?_⟩
  · have hlt := of_decide_eq_true hb
    cases n with
    | zero => omega
    | succ n =>
      unfold mRd at e
      rw [if_pos hlt] at e
      have hD' := hD.app ha.w ha.ok ha.m (List.Sublist.refl (mAvail L l D))
      have hDl' := hD'.len
      rw [List.length_append] at hDl'
      have hne := List.length_pos_iff.mpr (avail_ne ha.w ha.good ha.m hD hlt)
      refine sg_then (sg_app (d := en (mAvail L l D)) rfl (tv_call (L, l, D) (ea_cons (ev_var rfl) (ea_cons (ev_var rfl) (ea_one (ev_var rfl)))) ⟨ha.w, ha.ok⟩) (by simp only [List.length_map]; omega) rfl) ?_
      refine sg_augT (ds := D.map en) (es := (mAvail L l D).map en) rfl (ev_ixL (ec_ac rfl) ev_m1 (atI_last _ _)).c (by rw [List.length_map, List.length_map]; omega) ?_
      refine ⟨(f ++ [mAvail L l D], D ++ mAvail L l D), ?_, ⟨hD', ?_, n, ?_, e⟩, ?_⟩
      · show l.length - (D ++ mAvail L l D).length < l.length - D.length
        rw [List.length_append]
        omega
      · show (f ++ [mAvail L l D]).length ≤ (D ++ mAvail L l D).length
        rw [List.length_append, List.length_append, List.length_singleton]
        omega
      · show l.length < n + (D ++ mAvail L l D).length
        rw [List.length_append]
        omega
      · show Wk _ [_, _, .ac ((f ++ [mAvail L l D]).map en), .im (.tuple ((D ++ mAvail L l D).map en))]
        rw [List.map_append, List.map_append]
        exact wk_ok
  · have hge := of_decide_eq_false hb
    have hf : f = mRounds L l := by
      cases n with
      | zero => exact e
      | succ n =>
        unfold mRd at e
        rw [if_neg hge] at e
        exact e
    rw [← hf]
    exact sg_ret (tv_tup (ec_ac rfl)) rfl
end
end K97
set_option Elab.async false
set_option linter.all false
set_option maxRecDepth 100000
set_option maxHeartbeats 4000000
/-! K97: what the defs of snapshots compute, in plain words. -/
namespace K97
open Dt (en)
open PySem L2
def mWith (L : List Lg) (l : Lg) : List Lg := if l ∈ L then L else dsort (L ++ [l])
theorem mem_mWith {L : List Lg} {l m : Lg} : m ∈ mWith L l ↔ m ∈ L ∨ m = l := by
  unfold mWith
  split
  · rename_i h
    exact ⟨.inl, fun h' => h'.elim id fun e => e ▸ h⟩
  · rw [mem_dsort, List.mem_append, List.mem_singleton]
theorem mWith_w {L : List Lg} {l : Lg} (h : LgsW L) (hl : LgW l) (hn : L.length < 60) : LgsW (mWith L l) := by
  refine ⟨?_, ?_, fun m hm => ?_⟩
  · unfold mWith
    split
    · omega
    · rw [len_dsort, List.length_append, List.length_singleton]
      omega
  · unfold mWith
    split
    · exact h.nd
    · rename_i hx
      exact (dsort_perm _).symm.nodup (List.nodup_append.mpr ⟨h.nd, by simp, fun a ha b hb => by
        rw [List.mem_singleton] at hb
        exact fun z => hx (by rw [← hb, ← z]; exact ha)⟩)
  · rcases mem_mWith.mp hm with hm | rfl
    · exact h.ok m hm
    · exact hl
def mCells (L : List Lg) : List Str := dsort (dd (L.flatMap cellsOf))
theorem mem_mCells {L : List Lg} {c : Str} : c ∈ mCells L ↔ ∃ l ∈ L, c ∈ cellsOf l := by
  unfold mCells
  rw [mem_dsort, mem_dd, List.mem_flatMap]
theorem mCells_nd (L : List Lg) : (mCells L).Nodup := (dsort_perm _).symm.nodup (dd_nodup _)
theorem mCells_len {L : List Lg} (h : LgsW L) : (mCells L).length ≤ 10000 := by
  unfold mCells
  rw [len_dsort]
  have h1 := dd_len (L.flatMap cellsOf)
  have h2 : (L.flatMap cellsOf).length ≤ L.length * 100 := flat_len fun l hl => by
    rw [cellsOf, List.length_map]
    exact (h.ok l hl).len
  have := h.len
  omega
/-- a snapshot that has every cell of the logs -/
structure Snap (L : List Lg) (s : Lg) : Prop where
  w : LgW s
  cov : ∀ l ∈ L, ∀ c ∈ cellsOf l, (lkp s c).isSome = true
structure RdS (L : List Lg) (s : Lg) : Prop where
  w : LgsW L
  st : mStuck L = none
  ne : L ≠ []
  sn : Snap L s
def mPairsAt (s : Lg) (cs : List Str) : Lg := s.filter fun p => decide (p.1 ∈ cs)
def mHit (L : List Lg) (s : Lg) : Option Lg := L.find? fun l => l.all fun p => decide (lkp s p.1 = some p.2)
def mIsRead (G : List Lg) (D : List Str) : Bool := match G with
  | [l] => l.all fun p => decide (p.1 ∈ D)
  | _ => false
def mCwF (s : Lg) (a : Str) : Nat → List Str → List Lg → List Str × List Lg
  | 0, D, G => (D, G)
  | n + 1, D, G => if G = [] then (D, G) else if ((mUnread G D).filter fun c => !decide (c = a)) = [] then (D, G) else
    mCwF s a n (D ++ (mUnread G D).filter fun c => !decide (c = a)) (mAgreeing G (mPairsAt s ((mUnread G D).filter fun c => !decide (c = a))))
def mCw (L : List Lg) (s : Lg) (a : Str) : List Str × List Lg := mCwF s a ((mCells L).length + 1) [] L
def mCertain (L : List Lg) (s : Lg) (a : Str) : Bool := !decide ((mCw L s a).2 = []) && !mIsRead (mCw L s a).2 (mCw L s a).1
def mSure (L : List Lg) (s : Lg) : List Str := (mCells L).filter (mCertain L s)
def mSame (s l : Lg) : List Str := (s.filter fun p => decide (p ∈ l)).map (·.1)
def mReF (s : Lg) (sm : List Str) : Nat → List Str → List Lg → List Str × List Lg
  | 0, D, G => (D, G)
  | n + 1, D, G => if ((mUnread G D).filter fun c => decide (c ∈ sm)) = [] then (D, G) else
    mReF s sm n (D ++ (mUnread G D).filter fun c => decide (c ∈ sm)) (mAgreeing G (mPairsAt s ((mUnread G D).filter fun c => decide (c ∈ sm))))
def mRe (L : List Lg) (s l : Lg) : List Str × List Lg := mReF s (mSame s l) ((mCells L).length + 1) [] L
def mReached (L : List Lg) (s l : Lg) : List Str := (mRe L s l).1 ++ mUnread (mRe L s l).2 (mRe L s l).1
def mPossF (L : List Lg) (s : Lg) (M : List Lg) : List Str := M.foldl (fun f l => f ++ (mReached L s l).filter fun c => !decide (c ∈ f)) []
def mPoss (L : List Lg) (s : Lg) : List Str := dsort (mPossF L s L)
theorem agree_nil (G : List Lg) : mAgreeing G [] = G := by
  unfold mAgreeing
  exact List.filter_eq_self.mpr fun _ _ => rfl
theorem pairs_nil (s : Lg) : mPairsAt s [] = [] := by
  unfold mPairsAt
  exact List.filter_eq_nil_iff.mpr fun _ _ => by simp
/-- what has been read and who is left -/
structure Cn (L : List Lg) (D : List Str) (G : List Lg) : Prop where
  nd : D.Nodup
  sub : ∀ c ∈ D, c ∈ mCells L
  gs : G.Sublist L
theorem Cn.len {L : List Lg} {D : List Str} {G : List Lg} (h : Cn L D G) : D.length ≤ (mCells L).length := nodup_sub h.nd h.sub
theorem Cn.nil {L : List Lg} : Cn L [] L := ⟨.nil, (fun c h => nomatch h), List.Sublist.refl _⟩
theorem unread_cells {L : List Lg} {D : List Str} {G : List Lg} {c : Str} (hs : G.Sublist L) (hc : c ∈ mUnread G D) : c ∈ mCells L ∧ c ∉ D := by
  obtain ⟨h1, h2⟩ := mem_mUnread.mp hc
  obtain ⟨h3, h4⟩ := mem_mShared.mp h1
  obtain ⟨g, r, e⟩ := List.exists_cons_of_ne_nil h3
  have hg : g ∈ G := by rw [e]; exact List.mem_cons_self
  exact ⟨mem_mCells.mpr ⟨g, hs.subset hg, lkp_mem.mp (h4 g hg)⟩, h2⟩
theorem Cn.app {L : List Lg} {D m : List Str} {G : List Lg} (h : Cn L D G) (hL : LgsW L) (hm : m.Sublist (mUnread G D)) (k : Lg) : Cn L (D ++ m) (mAgreeing G k) := by
  refine ⟨List.nodup_append.mpr ⟨h.nd, hm.nodup (mUnread_up (hL.subl h.gs)).nodup, fun a ha b hb z => ?_⟩, fun c hc => ?_, (List.filter_sublist (l := G)).trans h.gs⟩
  · subst z
    exact (unread_cells h.gs (hm.subset hb)).2 ha
  · rcases List.mem_append.mp hc with hc | hc
    · exact h.sub c hc
    · exact (unread_cells h.gs (hm.subset hc)).1
theorem mCwF_cn {L : List Lg} {s : Lg} {a : Str} (hL : LgsW L) : ∀ (n : Nat) (D : List Str) (G : List Lg), Cn L D G → Cn L (mCwF s a n D G).1 (mCwF s a n D G).2
  | 0, _, _, h => h
  | n + 1, D, G, h => by
    unfold mCwF
    split
    · exact h
    · split
      · exact h
      · exact mCwF_cn hL n _ _ (h.app hL List.filter_sublist _)
theorem mCw_cn {L : List Lg} {s : Lg} {a : Str} (hL : LgsW L) : Cn L (mCw L s a).1 (mCw L s a).2 := mCwF_cn hL _ _ _ .nil
theorem mReF_cn {L : List Lg} {s : Lg} {a : List Str} (hL : LgsW L) : ∀ (n : Nat) (D : List Str) (G : List Lg), Cn L D G → Cn L (mReF s a n D G).1 (mReF s a n D G).2
  | 0, _, _, h => h
  | n + 1, D, G, h => by
    unfold mReF
    split
    · exact h
    · exact mReF_cn hL n _ _ (h.app hL List.filter_sublist _)
theorem mRe_cn {L : List Lg} {s l : Lg} (hL : LgsW L) : Cn L (mRe L s l).1 (mRe L s l).2 := mReF_cn hL _ _ _ .nil
theorem mReached_ok {L : List Lg} {s l : Lg} (hL : LgsW L) : (mReached L s l).Nodup ∧ ∀ c ∈ mReached L s l, c ∈ mCells L := by
  have h := (mRe_cn (s := s) (l := l) hL).app hL (List.Sublist.refl _) []
  exact ⟨h.nd, h.sub⟩
theorem poss_step {L M : List Lg} {s l : Lg} {i : Nat} (h : M[i]? = some l) : mPossF L s (M.take (i + 1)) = mPossF L s (M.take i) ++ (mReached L s l).filter fun c => !decide (c ∈ mPossF L s (M.take i)) := by
  unfold mPossF
  rw [List.take_add_one, h, List.foldl_append]
  rfl
theorem poss_ok {L : List Lg} {s : Lg} (hL : LgsW L) (M : List Lg) : ∀ i, i ≤ M.length → (mPossF L s (M.take i)).Nodup ∧ ∀ c ∈ mPossF L s (M.take i), c ∈ mCells L
  | 0, _ => by
    rw [List.take_zero]
    exact ⟨.nil, fun c h => nomatch h⟩
  | i + 1, hi => by
    obtain ⟨h1, h2⟩ := poss_ok hL M i (Nat.le_of_succ_le hi)
    obtain ⟨h3, h4⟩ := mReached_ok (s := s) (l := M[i]) hL
    rw [poss_step (List.getElem?_eq_getElem hi)]
    refine ⟨List.nodup_append.mpr ⟨h1, (List.filter_sublist).nodup h3, fun a ha b hb z => ?_⟩, fun c hc => ?_⟩
    · subst z
      rw [List.mem_filter] at hb
      simp [ha] at hb
    · rcases List.mem_append.mp hc with hc | hc
      · exact h2 c hc
      · exact h4 c (List.mem_filter.mp hc).1
theorem poss_len {L : List Lg} {s : Lg} (hL : LgsW L) (M : List Lg) (i : Nat) (hi : i ≤ M.length) : (mPossF L s (M.take i)).length ≤ 10000 :=
  Nat.le_trans (nodup_sub (poss_ok hL M i hi).1 (poss_ok hL M i hi).2) (mCells_len hL)
end K97
set_option Elab.async false
set_option linter.all false
set_option maxRecDepth 100000
set_option maxHeartbeats 4000000
/-! K97: evidence, in plain words. -/
namespace K97
open Dt (en)
open PySem L2
abbrev Evd := List Str × List (Str × Lg)
def mWit (G : List Lg) (c : Str) : Lg := (G.filter fun m => !decide (c ∈ cellsOf m)).headD []
def mLeft (l : Lg) (D : List Str) (a : Str) : List Str := (l.filter fun p => !decide (p.1 ∈ D) && !decide (p.1 = a)).map (·.1)
def mEvid (L : List Lg) (l : Lg) (a : Str) : Evd := (dsort (mReadW L l [a]), (mLeft l (mReadW L l [a]) a).map fun c => (c, mWit (mAfter L l (mReadW L l [a])) c))
def mOut (L : List Lg) (D : List Str) (a : Str) : List Str := (mCells L).filter fun c => !decide (c ∈ D) && !decide (c = a)
def mEvidC (L : List Lg) (s : Lg) (a : Str) : Evd := (dsort (mCw L s a).1, (mOut L (mCw L s a).1 a).map fun c => (c, mWit (mCw L s a).2 c))
theorem left_step {l : Lg} {D : List Str} {a : Str} {p : Str × Int} {i : Nat} (h : l[i]? = some p) : mLeft (l.take (i + 1)) D a = mLeft (l.take i) D a ++ if (!decide (p.1 ∈ D) && !decide (p.1 = a)) then [p.1] else [] := by
  unfold mLeft
  rw [List.take_add_one, h, List.filter_append, Option.toList, filter_one, List.map_append]
  congr 1
  split <;> rfl
theorem left_len (l : Lg) (D : List Str) (a : Str) : (mLeft l D a).length ≤ l.length := by
  unfold mLeft
  rw [List.length_map]
  exact List.length_filter_le ..
theorem mem_left {l : Lg} {D : List Str} {a c : Str} : c ∈ mLeft l D a ↔ c ∈ cellsOf l ∧ c ∉ D ∧ c ≠ a := by
  unfold mLeft cellsOf
  rw [List.mem_map, List.mem_map]
  constructor
  · rintro ⟨p, h1, rfl⟩
    rw [List.mem_filter] at h1
    simp at h1
    exact ⟨⟨p, h1.1, rfl⟩, h1.2⟩
  · rintro ⟨⟨p, h1, rfl⟩, h2, h3⟩
    exact ⟨p, List.mem_filter.mpr ⟨h1, by simp [h2, h3]⟩, rfl⟩
theorem mem_out {L : List Lg} {D : List Str} {a c : Str} : c ∈ mOut L D a ↔ c ∈ mCells L ∧ c ∉ D ∧ c ≠ a := by
  unfold mOut
  rw [List.mem_filter]
  simp
theorem wit_some {G : List Lg} {c : Str} (h : ∃ m ∈ G, c ∉ cellsOf m) : ∃ r, (G.filter fun m => !decide (c ∈ cellsOf m)) = mWit G c :: r := by
  obtain ⟨m, h1, h2⟩ := h
  have : m ∈ G.filter fun m => !decide (c ∈ cellsOf m) := List.mem_filter.mpr ⟨h1, by simp [h2]⟩
  unfold mWit
  cases q : G.filter fun m => !decide (c ∈ cellsOf m) with
  | nil => rw [q] at this; cases this
  | cons x r => exact ⟨r, rfl⟩
theorem mRw_done {L : List Lg} {l : Lg} {A : List Str} (hL : LgsW L) (hl : LgW l) (hm : l ∈ L) : ∀ (n : Nat) (D : List Str), Dn l D → l.length < n + D.length → mMore L l A (mRw L l A n D) = []
  | 0, D, h, hn => by
    have := h.len
    omega
  | n + 1, D, h, hn => by
    unfold mRw
    split
    · rename_i hz
      exact hz
    · rename_i hz
      have hz0 := List.length_pos_iff.mpr hz
      exact mRw_done hL hl hm n _ (h.app hL hl hm List.filter_sublist) (by rw [List.length_append]; omega)
theorem mReadW_done {L : List Lg} {l : Lg} {A : List Str} (hL : LgsW L) (hl : LgW l) (hm : l ∈ L) : mMore L l A (mReadW L l A) = [] := mRw_done hL hl hm _ _ .nil (by simp)
theorem read_lacks {L : List Lg} {l : Lg} {a c : Str} (hL : LgsW L) (hl : LgW l) (hm : l ∈ L) (h1 : c ∉ mReadW L l [a]) (h2 : c ≠ a) : ∃ m ∈ mAfter L l (mReadW L l [a]), c ∉ cellsOf m := Classical.byContradiction fun z => by
  have h3 : c ∈ mAvail L l (mReadW L l [a]) := (mem_mAvail hl hm).mpr ⟨h1, fun m hm => Classical.byContradiction fun y => z ⟨m, hm, fun q => y (lkp_mem.mpr q)⟩⟩
  have h4 : c ∈ mMore L l [a] (mReadW L l [a]) := List.mem_filter.mpr ⟨h3, by simp [h2]⟩
  rw [mReadW_done hL hl hm] at h4
  cases h4
theorem mCwF_done {L : List Lg} {s : Lg} {a : Str} (hL : LgsW L) : ∀ (n : Nat) (D : List Str) (G : List Lg), Cn L D G → (mCells L).length < n + D.length → (mCwF s a n D G).2 ≠ [] → ((mUnread (mCwF s a n D G).2 (mCwF s a n D G).1).filter fun c => !decide (c = a)) = []
  | 0, D, G, h, hn, _ => by
    have := h.len
    omega
  | n + 1, D, G, h, hn, hG => by
    unfold mCwF at hG ⊢
    by_cases h0 : G = []
    · rw [if_pos h0] at hG
      exact absurd h0 hG
    · rw [if_neg h0] at hG ⊢
      by_cases hz : ((mUnread G D).filter fun c => !decide (c = a)) = []
      · rw [if_pos hz] at hG ⊢
        exact hz
      · rw [if_neg hz] at hG ⊢
        have hz0 := List.length_pos_iff.mpr hz
        exact mCwF_done hL n _ _ (h.app hL List.filter_sublist _) (by rw [List.length_append]; omega) hG
theorem cw_lacks {L : List Lg} {s : Lg} {a c : Str} (hL : LgsW L) (hG : (mCw L s a).2 ≠ []) (h1 : c ∉ (mCw L s a).1) (h2 : c ≠ a) : ∃ m ∈ (mCw L s a).2, c ∉ cellsOf m := Classical.byContradiction fun z => by
  have hd := mCwF_done (s := s) (a := a) hL ((mCells L).length + 1) [] L .nil (by simp) hG
  have h3 : c ∈ mUnread (mCw L s a).2 (mCw L s a).1 := mem_mUnread.mpr ⟨mem_mShared.mpr ⟨hG, fun m hm => Classical.byContradiction fun y => z ⟨m, hm, fun q => y (lkp_mem.mpr q)⟩⟩, h1⟩
  have h4 : c ∈ (mUnread (mCw L s a).2 (mCw L s a).1).filter fun c => !decide (c = a) := List.mem_filter.mpr ⟨h3, by simp [h2]⟩
  have hd : ((mUnread (mCw L s a).2 (mCw L s a).1).filter fun c => !decide (c = a)) = [] := hd
  rw [hd] at h4
  cases h4
/-- a witness that some log of the group lacks the cell -/
def LackOk (G : List Lg) (p : Str × Lg) (c : Str) : Prop := p.1 = c ∧ CellOk c ∧ LgW p.2 ∧ p.2 ∈ G ∧ c ∉ cellsOf p.2
structure WitOk (G : List Lg) (ws : List (Str × Lg)) (cs : List Str) : Prop where
  len : ws.length = cs.length
  ok : ∀ x ∈ ws.zip cs, LackOk G x.1 x.2
/-- evidence for first before later -/
structure EvPre (L : List Lg) (l : Lg) (first later : Str) (e : Evd) : Prop where
  sub : ∀ c ∈ e.1, c ∈ cellsOf l
  up : Up e.1
  nf : first ∉ e.1
  nl : later ∉ e.1
  wit : WitOk (mAfter L l e.1) e.2 (mLeft l e.1 first)
/-- evidence that a cell is surely read -/
structure EvCer (L : List Lg) (s : Lg) (a : Str) (e : Evd) : Prop where
  sub : ∀ c ∈ e.1, c ∈ mCells L
  up : Up e.1
  na : a ∉ e.1
  more : ∃ m ∈ mAgreeing L (mPairsAt s e.1), ∃ c ∈ cellsOf m, c ∉ e.1
  wit : WitOk (mAgreeing L (mPairsAt s e.1)) e.2 (mOut L e.1 a)
theorem cell_ok {l : Lg} {c : Str} (h : LgW l) (hc : c ∈ cellsOf l) : CellOk c := by
  obtain ⟨p, hp, rfl⟩ := List.mem_map.mp hc
  exact (h.ok p hp).1
theorem cells_ok {L : List Lg} {c : Str} (h : LgsW L) (hc : c ∈ mCells L) : CellOk c := by
  obtain ⟨l, hl, hc⟩ := mem_mCells.mp hc
  exact cell_ok (h.ok l hl) hc
theorem upz : ∀ {l : List Str}, Up l → ∀ p ∈ l.zip (l.drop 1), strLt p.1 p.2 = true
  | [], _, p, h => by simp at h
  | [x], _, p, h => by simp at h
  | x :: y :: l, hu, p, h => by
    have h2 := List.pairwise_cons.mp hu
    rcases List.mem_cons.mp h with rfl | h
    · exact h2.1 _ (by simp)
    · exact upz (l := y :: l) h2.2 p h
section
variable {K : Fg} {Γ : En} {ta tb : TE} {ds es : List PyData} {d : PyData} {N : En → Prop} {R : PyData → En → Prop}
/-- data and a new list of ours -/
theorem sg_parIL {i j : Nat} {e1 e2 : Ent} (ha : EvG K Γ ta d) (hb : EvL K Γ tb ds) (hi : Γ[i]? = some e1) (hj : Γ[j]? = some e2) (h1 : e1.mut = false) (h2 : e2.mut = false) (hij : i ≠ j) (hn : N ((Γ.set i (.im d)).set j (.ac ds))) : StG K Γ (tPar i j (tCons ta (tCons tb tNil))) N R := fun F B D σ H E n r =>
  ha F B σ H E _ fun w H1 e rw' => hb F B σ H1 (E.ext e) _ fun p vs H2 hp e' hl rv => by
    refine ⟨_, _, rfl, ?_⟩
    have E1 := (E.ext e).put (x := some w) hi h1 (e' := .im d) rfl fun d' z => ⟨w, rfl, by cases z; exact rw'⟩
    have m1 := mu_set (σ := σ) (x := some w) (e' := .im d) hi h1 rfl
    obtain ⟨E2, x2⟩ := E1.newM (e' := .ac ds) (set_get hj hij) h2 hp e' rfl (fun ds' z => by
      cases z
      exact ⟨vs, hl, by rw [m1]; exact rv⟩) (fun _ z => nomatch z) (fun _ z => nomatch z)
    refine n _ _ H2 hn E2 (Ex.tr ?_ x2)
    rw [frz, frz, m1]
    exact cut_mono e
end
end K97
set_option Elab.async false
set_option linter.all false
set_option maxRecDepth 100000
set_option maxHeartbeats 4000000
/-! K97: zip of a tuple and a list; enumerate of a tuple without items. -/
namespace K97Z
open PySem PySem.Spec PyProof.Rows
abbrev zH1 (h : Heap) (l1 : Addr) : Heap := h.push { cls := .type "tuple_iterator", data := .fields #[.ref l1, .int 0 0] }
abbrev zH2 (h : Heap) (l1 l2 : Addr) : Heap := (zH1 h l1).push { cls := .type "list_iterator", data := .fields #[.ref l2, .int 0 0] }
abbrev zH3 (h : Heap) (l1 l2 : Addr) : Heap := (zH2 h l1 l2).push { cls := .type "tuple", data := .seq #[.ref h.objs.size, .ref (zH1 h l1).objs.size] }
abbrev zH4 (h : Heap) (l1 l2 : Addr) : Heap := (zH3 h l1 l2).push { cls := .type "tuple", data := .seq #[.none, .none] }
abbrev zH5 (h : Heap) (l1 l2 : Addr) : Heap := (zH4 h l1 l2).push { cls := .type "zip", data := .fields #[.none, .bool false, .bool false, .ref (zH2 h l1 l2).objs.size, .ref (zH3 h l1 l2).objs.size] }
set_option maxHeartbeats 4000000 in
theorem meets_zip (l1 l2 : Addr) (xs ys : Array Value) :
    Meets (Builtin.«zip.__new__» ⟨[.type "zip", .ref l1, .ref l2], []⟩) (fun _ R s => s.heap.IsTuple l1 xs ∧ s.heap.IsList l2 ys ∧ R (.ok (.ret (.ref (zH4 s.heap l1 l2).objs.size))) { s with heap := zH5 s.heap l1 l2 }) :=
  .of_wp fun prog w A R s h => by
    obtain ⟨hp, g, d, tk, os⟩ := s; obtain ⟨hl1, hl2, h⟩ := h
    have hsub := sub_zip
    have hL1 : Heap.IsTuple (Shared.heap ⟨hp, g, d, tk, os⟩) l1 xs := hl1
    have hL2 : Heap.IsList (Shared.heap ⟨zH1 hp l1, g, d, tk, os⟩) l2 ys := Heap.IsList.push hl2 _
    wp_walk using wpAny_pyIter_tuple hL1, wpAny_pyIter_list hL2
    exact ⟨_, rfl, h⟩
abbrev eH1 (h : Heap) (l1 : Addr) : Heap := h.push { cls := .type "tuple_iterator", data := .fields #[.ref l1, .int 0 0] }
set_option maxHeartbeats 4000000 in
theorem meets_enum (l : Addr) (xs : Array Value) :
    Meets (Builtin.«enumerate.__new__» ⟨[.type "enumerate", .ref l], []⟩) (fun _ R s => s.heap.IsTuple l xs ∧
      R (.ok (.ret (.ref (eH1 s.heap l).objs.size))) { s with heap := (eH1 s.heap l).push { cls := .type "enumerate", data := .fields #[.none, .bool false, .ref s.heap.objs.size, rawInt 0, .none, .none] } }) :=
  .of_wp fun prog w A R s h => by
    obtain ⟨hp, g, d, tk, os⟩ := s; obtain ⟨hl1, h⟩ := h
    have hsub := sub_enumerate
    have hL1 : Heap.IsTuple (Shared.heap ⟨hp, g, d, tk, os⟩) l xs := hl1
    wp_walk
    refine wpAny_stack_any fun st => wpAny_pure ?_
    split
    · rename_i c _ _ _ _ _
      cases (c == Value.type "enumerate")
      · wp_walk using wpAny_pyIter_tuple hL1
        exact ⟨_, rfl, h⟩
      · wp_walk using wpAny_pyIter_tuple hL1
        exact ⟨_, rfl, h⟩
    · wp_walk using wpAny_pyIter_tuple hL1
      exact ⟨_, rfl, h⟩
section
variable {prog : Program} {w : World} {A : Around} {E : Value → Shared → Prop} {s : Shared}
theorem call_zipTL {l1 l2 : Addr} {xs ys : Array Value} {Q : Value → Shared → Prop} (hl1 : s.heap.IsTuple l1 xs) (hl2 : s.heap.IsList l2 ys)
    (h : ∀ h', IsZip h' (s.heap.objs.size + 4) (s.heap.objs.size + 2) (s.heap.objs.size + 3) .none → IsPair h' (s.heap.objs.size + 2) (.ref s.heap.objs.size) (.ref (s.heap.objs.size + 1)) →
      IsPair h' (s.heap.objs.size + 3) .none .none → h'.IsTupleIter s.heap.objs.size l1 0 → h'.IsListIter (s.heap.objs.size + 1) l2 0 → h'.objs.size = s.heap.objs.size + 5 → (∀ c o, s.heap.get? c = some o → h'.get? c = some o) → Q (.ref (s.heap.objs.size + 4)) { s with heap := h' }) :
    wpAny (model prog w) A (call (.type "zip") [.ref l1, .ref l2]) Q E s := by
  refine callType_new F.called_zip (by decide) (F.typeCall_zip_2 _ _) (F.newCall_zip_2 _ _) (fun obj => F.args_object_init_3 obj _ _) F.entry_zip_new (meets_zip l1 l2 xs ys) ⟨hl1, hl2, ?_⟩
  have z1 : (zH1 s.heap l1).objs.size = s.heap.objs.size + 1 := Heap.size_push ..
  have z2 : (zH2 s.heap l1 l2).objs.size = s.heap.objs.size + 2 := by rw [Heap.size_push, z1]
  have z3 : (zH3 s.heap l1 l2).objs.size = s.heap.objs.size + 3 := by rw [Heap.size_push, z2]
  have z4 : (zH4 s.heap l1 l2).objs.size = s.heap.objs.size + 4 := by rw [Heap.size_push, z3]
  have z5 : (zH5 s.heap l1 l2).objs.size = s.heap.objs.size + 5 := by rw [Heap.size_push, z4]
  have g5 : (zH5 s.heap l1 l2).get? (zH4 s.heap l1 l2).objs.size = some _ := Heap.get?_push_size _ rfl
  have g4 : (zH5 s.heap l1 l2).get? (zH3 s.heap l1 l2).objs.size = some _ := Heap.get?_push_of_some _ (Heap.get?_push_size _ rfl)
  have g3 : (zH5 s.heap l1 l2).get? (zH2 s.heap l1 l2).objs.size = some _ := Heap.get?_push_of_some _ (Heap.get?_push_of_some _ (Heap.get?_push_size _ rfl))
  have g2 : (zH5 s.heap l1 l2).get? (zH1 s.heap l1).objs.size = some _ := Heap.get?_push_of_some _ (Heap.get?_push_of_some _ (Heap.get?_push_of_some _ (Heap.get?_push_size _ rfl)))
  have g1 : (zH5 s.heap l1 l2).get? s.heap.objs.size = some _ := Heap.get?_push_of_some _ (Heap.get?_push_of_some _ (Heap.get?_push_of_some _ (Heap.get?_push_of_some _ (Heap.get?_push_size _ rfl))))
  show _ ∧ _
  rw [z2, z3, z4] at g5
  rw [z1, z2] at g3
  rw [z3] at g4
  rw [z1] at g2
  rw [z4]
  exact ⟨⟨_, g5, rfl⟩, h _ g5 g3 g4 ⟨_, g1, rfl, rfl⟩ ⟨_, g2, rfl, rfl⟩ z5 fun c o x => Heap.get?_push_of_some _ (Heap.get?_push_of_some _ (Heap.get?_push_of_some _ (Heap.get?_push_of_some _ (Heap.get?_push_of_some _ x))))⟩
theorem call_enumT {l : Addr} {xs : Array Value} {Q : Value → Shared → Prop} (hL : s.heap.IsTuple l xs)
    (h : ∀ h', IsEnum h' (s.heap.objs.size + 1) s.heap.objs.size 0 .none → h'.IsTupleIter s.heap.objs.size l 0 → h'.objs.size = s.heap.objs.size + 2 → (∀ b o, s.heap.get? b = some o → h'.get? b = some o) → Q (.ref (s.heap.objs.size + 1)) { s with heap := h' }) :
    wpAny (model prog w) A (call (.type "enumerate") [.ref l]) Q E s := by
  refine callType_new F.called_enumerate (by decide) (F.typeCall_enumerate_1 _) (F.newCall_enumerate_1 _) (fun obj => F.args_object_init_2 obj _) F.entry_enumerate_new (meets_enum l xs) ⟨hL, ?_⟩
  have hz : (eH1 s.heap l).objs.size = s.heap.objs.size + 1 := Heap.size_push ..
  show _ ∧ _
  rw [hz]
  have he : IsEnum ((eH1 s.heap l).push { cls := .type "enumerate", data := .fields #[.none, .bool false, .ref s.heap.objs.size, rawInt 0, .none, .none] }) (s.heap.objs.size + 1) s.heap.objs.size 0 .none := by
    have := Heap.get?_push_size (eH1 s.heap l) (o := { cls := .type "enumerate", data := .fields #[.none, .bool false, .ref s.heap.objs.size, rawInt 0, .none, .none] }) rfl
    rw [hz] at this; exact this
  exact ⟨⟨_, he, rfl⟩, h _ he ⟨_, Heap.get?_push_of_some _ (Heap.get?_push_size _ rfl), rfl, rfl⟩ (by rw [Heap.size_push, hz]) fun b o x => Heap.get?_push_of_some _ (Heap.get?_push_of_some _ x)⟩
end
end K97Z
namespace K97
open Dt (en)
open PySem PySem.Spec PyProof.Rows L2 RZ
/-- the tuple at a and the list at b as they stand at each turn, the items in new pairs -/
def ItzTL (K : Fg) (a b : Addr) : It :=
  ⟨fun i H => ∃ (xs ys : List V) (x y : V), SqT K H a xs ∧ SqL K H b ys ∧ xs[i]? = some x ∧ ys[i]? = some y,
    fun i H v H' => ∃ T x y, v = .ref T ∧ H T = none ∧ H' = upd H T (.tup [x, y]) ∧ (∀ xs, SqT K H a xs → xs[i]? = some x) ∧ ∀ ys, SqL K H b ys → ys[i]? = some y,
    fun i H => ∃ xs ys : List V, SqT K H a xs ∧ SqL K H b ys ∧ (i = xs.length ∨ i = ys.length) ∧ i ≤ xs.length ∧ i ≤ ys.length⟩
theorem sepTL {z TI TO i1 i2 a b : Addr} (D : ZipApart z TI TO i1 i2 a b) : ZipSep2 z TI TO i1 i2 [i1, a] [i2, b] where
  TIz := D.TIz
  TOz := D.TOz
  TITO := D.TITO
  TIi1 := D.TIi1
  mem1 := by simp
  zf1 := by simp [D.i1z.symm, D.l1z.symm]
  Tf1 := by simp [D.TOi1, D.l1TO.symm]
  TIi2 := D.TIi2
  mem2 := by simp
  zf2 := by simp [D.i2z.symm, D.l2z.symm]
  Tf2 := by simp [D.TOi2, D.l2TO.symm]
  sep1_2 := by simp [D.i12, D.l2i1.symm]
  sep2_1 := by simp [D.i12.symm, D.l1i2.symm]
theorem turn_zipTL {P : Program} {w : World} {K : Fg} {elts : List Expr} {kk : Nat} {tpos : Pos} {a b z TI TO i1 i2 : Addr} (D : ZipApart z TI TO i1 i2 a b) :
    Turn P w K (.Tuple elts kk tpos) (ItzTL K a b) [z, TI, TO, i1, i2] z (fun i h => IsZip h z TI TO .none ∧ IsPair h TI (.ref i1) (.ref i2) ∧ (∃ x y, IsPair h TO x y) ∧ h.IsTupleIter i1 a i ∧ h.IsListIter i2 b i) where
  mem := by simp
  obj := fun i h st c hc => by
    obtain ⟨hz, hTI, ⟨x, y, hTO⟩, ⟨o1, e1, _, d1⟩, ⟨o2, e2, _, d2⟩⟩ := st
    have e' : c = z ∨ c = TI ∨ c = TO ∨ c = i1 ∨ c = i2 := by simpa using hc
    rcases e' with q | q | q | q | q
    · rw [q]; exact ⟨_, hz, fun v q => nomatch q⟩
    · rw [q]; exact ⟨_, hTI, fun v q => nomatch q⟩
    · rw [q]; exact ⟨_, hTO, fun v q => nomatch q⟩
    · rw [q]; exact ⟨o1, e1, fun v q => by rw [d1] at q; cases q⟩
    · rw [q]; exact ⟨o2, e2, fun v q => by rw [d2] at q; cases q⟩
  keep := fun i h h' st k => by
    obtain ⟨hz, hTI, ⟨x, y, hTO⟩, h1, h2⟩ := st
    exact ⟨k z (by simp) _ hz, k TI (by simp) _ hTI, ⟨x, y, k TO (by simp) _ hTO⟩, h1.at fun o q => k i1 (by simp) o q, h2.at fun o q => k i2 (by simp) o q⟩
  item := by
    intro X hP hw hK hc i pins s σ H E I hf st hg
    subst hP hw hK
    obtain ⟨hz, hTI, ⟨x0, y0, hTO⟩, h1, h2⟩ := st
    obtain ⟨xs, ys, x, y, hqx, hqy, hx, hy⟩ := hg
    obtain ⟨its, rv, p, _⟩ := I.tuple hqx
    obtain ⟨its2, rv2, p2, _⟩ := I.list hqy
    obtain ⟨u, hu, ru⟩ := rv.get hx
    obtain ⟨u2, hu2, ru2⟩ := rv2.get hy
    have hh : X.A.in1.handled = none := I.ok.hd hc
    have hlu : i < its.toArray.size := by simpa using (List.getElem?_eq_some_iff.mp hu).1
    have hlu2 : i < its2.toArray.size := by simpa using (List.getElem?_eq_some_iff.mp hu2).1
    have hzl : z < s.heap.objs.size := Heap.lt_size hz
    refine wpAny_pyNext_zipD2_item (sepTL D) (Draws.tuple hh i1 a D.l1i1 its.toArray) (Draws.list hh i2 b D.l2i2 its2.toArray) hz hTI hTO ⟨h1, p⟩ ⟨h2, p2.isList⟩ hlu hlu2 fun v1 v2 h' tk y1 y2 z' TO' st1 st2 hT hsz hk => ?_
    have e1 : v1 = u := by
      have : its[i]? = some v1 := by simpa using y1
      rw [hu] at this; exact (Option.some.inj this).symm
    have e2 : v2 = u2 := by
      have : its2[i]? = some v2 := by simpa using y2
      rw [hu2] at this; exact (Option.some.inj this).symm
    subst e1 e2
    refine ⟨_, rfl, wpAny_letOwnedTupleGo_zip (s := { s with heap := h', toks := tk }) z' fun h'' z'' sb => ?_⟩
    have hT2 : h''.get? s.heap.objs.size = some { cls := .type "tuple", data := .seq #[v1, v2] } := (sb.2 _ (Nat.ne_of_gt hzl)).trans hT
    have new : ObjOk X.prog X.w (upd H s.heap.objs.size (.tup [x, y])) h'' s.heap.objs.size (.tup [x, y]) :=
      ⟨by show 2 ≤ sizeLine; decide, [v1, v2], .cons ru (.cons ru2 .nil), ⟨_, hT2, rfl, _, rfl⟩⟩
    have I1 : Inv X pins σ (upd H s.heap.objs.size (.tup [x, y])) { s with heap := h'', toks := tk } :=
      I.turnedNew (t' := tk) (ch := [z, TI, TO, i1, i2]) (fun c o hb q => (sb.2 c (fun q' => hb (by simp [q']))).trans (hk c o (fun q' => hb (by simp [q'])) (fun q' => hb (by simp [q'])) (fun q' => hb (by simp [q'])) (fun q' => hb (by simp [q'])) q)) hf (Nat.le_refl _) new
    refine ⟨.ref s.heap.objs.size, _, I1, rfl, ⟨_, x, y, rfl, I.hok.fresh (Nat.le_refl _), rfl, fun l hl => by rw [I.tuple_inj hl hqx]; exact hx, fun l hl => by rw [I.list_inj hl hqy]; exact hy⟩, ⟨z'', ?_, ⟨v1, v2, ?_⟩, ?_, ?_⟩, fun c hcm => ?_⟩
    · exact (sb.2 _ D.TIz).trans (hk _ _ D.TIz D.TITO D.TIi1 D.TIi2 hTI)
    · exact (sb.2 _ D.TOz).trans TO'
    · exact st1.1.at fun o q => (sb.2 _ D.i1z).trans q
    · exact st2.1.at fun o q => (sb.2 _ D.i2z).trans q
    · have hlt : c < s.heap.objs.size := by
        have e' : c = z ∨ c = TI ∨ c = TO ∨ c = i1 ∨ c = i2 := by simpa using hcm
        rcases e' with q | q | q | q | q
        · rw [q]; exact hzl
        · rw [q]; exact Heap.lt_size hTI
        · rw [q]; exact Heap.lt_size hTO
        · rw [q]; obtain ⟨_, e1, _⟩ := h1; exact Heap.lt_size e1
        · rw [q]; obtain ⟨_, e2, _⟩ := h2; exact Heap.lt_size e2
      rw [upd_ne (Nat.ne_of_lt hlt)]
      exact (hf c hcm).1
  done := by
    intro X hP hw hK hc i pins s σ H E I hf st hg
    subst hP hw hK
    obtain ⟨hz, hTI, ⟨x0, y0, hTO⟩, h1, h2⟩ := st
    obtain ⟨xs, ys, hqx, hqy, hend, hl1, hl2⟩ := hg
    obtain ⟨its, rv, p, _⟩ := I.tuple hqx
    obtain ⟨its2, rv2, p2, _⟩ := I.list hqy
    have l1 := rv.length
    have l2 := rv2.length
    have hh : X.A.in1.handled = none := I.ok.hd hc
    refine wpAny_pyNext_zipD2_end (i := i) (sepTL D) (Draws.tuple hh i1 a D.l1i1 its.toArray) (Draws.list hh i2 b D.l2i2 its2.toArray) hz hTI hTO ⟨h1, p⟩ ⟨h2, p2.isList⟩ (by simp; omega) (by simp; omega) (by simp; omega) fun h' tk hk => ?_
    exact ⟨rfl, I.turnedL (t' := tk) (ch := [z, TI, TO, i1, i2]) (fun c o hb q => hk c o (fun q' => hb (by simp [q'])) (fun q' => hb (by simp [q'])) (fun q' => hb (by simp [q'])) (fun q' => hb (by simp [q'])) q) hf⟩
  self := fun A i s Q E st h => wpAny_pyIter_zip st.1 h
def iZipTL (K : Fg) (ta : TA) : TI := fun σ H R => ta σ H fun vs H1 => ∃ a b xs ys, vs = [.ref a, .ref b] ∧ SqT K H1 a xs ∧ SqL K H1 b ys ∧ R (ItzTL K a b) H1
theorem pi_zipTL {X : Cx} {e e2 : Expr} {ta : TA} {p pos tpos : Pos} {elts : List Expr} {kk : Nat} (hg : Gl X "zip") (hm : X.mg "zip" = none) (ha : PA X [e, e2] ta)
    (hs : starEach [e, e2] X.env = (false, eval e X.env) :: starEach [e2] X.env := by rfl) (hpl : (backTo pos (starEach [e2] X.env)).any (·.1) = false := by rfl) : PI X (.Tuple elts kk tpos) (.Call (.Name "zip" p) [e, e2] [] pos) (iZipTL X.K ta) := by
  refine ⟨fun pins s σ H R I h => ?_⟩
  refine Call_ (ld_blt I hg hm PyProof.Rows.boot_zip (PyProof.Rows.callWith_type1 (thn (ha.run pos pins s σ H _ I h) fun us s1 ⟨vs, H1, I1, r1, q1⟩ => ?_) hs hpl))
  obtain ⟨a, b, xs, ys, ex, hqx, hqy, q⟩ := q1
  subst ex
  cases r1 with
  | cons r rr =>
    cases rr with
    | cons r' rr =>
      cases rr
      cases r
      cases r'
      have fresh5 : ∀ c, c ∈ [s1.heap.objs.size + 4, s1.heap.objs.size + 2, s1.heap.objs.size + 3, s1.heap.objs.size, s1.heap.objs.size + 1] → FpOk X pins H1 c := fun c hcm => by
        have e' : c = s1.heap.objs.size + 4 ∨ c = s1.heap.objs.size + 2 ∨ c = s1.heap.objs.size + 3 ∨ c = s1.heap.objs.size ∨ c = s1.heap.objs.size + 1 := by simpa using hcm
        have hle : s1.heap.objs.size ≤ c := by
          rcases e' with z | z | z | z | z
          · rw [z]; exact Nat.le_add_right _ _
          · rw [z]; exact Nat.le_add_right _ _
          · rw [z]; exact Nat.le_add_right _ _
          · rw [z]; exact Nat.le_refl _
          · rw [z]; exact Nat.le_add_right _ _
        exact I1.fpOk hle (I1.hok.fresh hle)
      obtain ⟨its, rv, p1, _⟩ := I1.tuple hqx
      obtain ⟨its2, rv2, p2, _⟩ := I1.list hqy
      obtain ⟨o1, ho1, _⟩ := id p1
      refine K97Z.call_zipTL (show s1.heap.IsTuple a its.toArray from p1) p2.isList fun h' hz hTI hTO h1 h2 hsz hk => wpAny_pyIter_zip hz ?_
      have I2 : Inv X pins σ H1 { s1 with heap := h' } := I1.kept (t' := s1.toks) hk
      exact ⟨s1.heap.objs.size + 4, [s1.heap.objs.size + 4, s1.heap.objs.size + 2, s1.heap.objs.size + 3, s1.heap.objs.size, s1.heap.objs.size + 1], _, _, H1, rfl, I2, turn_zipTL (PySem.W.ktu_apart s1.heap.objs.size a b (Heap.lt_size ho1) p2.lt), ⟨hz, hTI, ⟨_, _, hTO⟩, h1, h2⟩, fresh5, q⟩
/-- the tuple at a has no items -/
def ItE0 (K : Fg) (a : Addr) : It := ⟨fun _ _ => False, fun _ _ _ _ => True, fun i H => SqT K H a [] ∧ i = 0⟩
theorem turn_enumT {P : Program} {w : World} {K : Fg} {elts : List Expr} {kk : Nat} {tpos : Pos} (a e it : Addr) (hne : a ≠ it) :
    Turn P w K (.Tuple elts kk tpos) (ItE0 K a) [e, it] e (fun i h => (∃ old, IsEnum h e it ((i : Nat) : Int) old) ∧ h.IsTupleIter it a i ∧ e ≠ it) where
  mem := by simp
  obj := fun i h st b hb => by
    obtain ⟨⟨old, he⟩, ⟨o, ho, hc, hd⟩, _⟩ := st
    have e' : b = e ∨ b = it := by simpa using hb
    rcases e' with z | z
    · rw [z]; exact ⟨_, he, fun v q => nomatch q⟩
    · rw [z]; exact ⟨o, ho, fun v q => by rw [hd] at q; cases q⟩
  keep := fun i h h' st k => let ⟨⟨old, he⟩, hi, hne⟩ := st; ⟨⟨old, k e (by simp) _ he⟩, hi.at fun o q => k it (by simp) o q, hne⟩
  item := by
    intro X hP hw hK hc i pins s σ H E I hf st hg
    exact hg.elim
  done := by
    intro X hP hw hK hc i pins s σ H E I hf st hg
    subst hP hw hK
    obtain ⟨⟨old, he⟩, hit, hne'⟩ := st
    obtain ⟨hq, rfl⟩ := hg
    obtain ⟨its, rv, p, hz⟩ := I.tuple hq
    obtain ⟨f0, f1, f2, f3, f4, f5⟩ := hf it (by simp)
    cases rv
    have hh : X.A.in1.handled = none := I.ok.hd hc
    exact wpAny_pyNext_enum_endD (Draws.tuple hh it a hne #[]) he ⟨hit, p⟩ fun h' eb => ⟨rfl, I.turned (t' := s.toks) (fun b o hb q => eb b o hb q) f0 f1 f3 f4 f5⟩
  self := fun A i s Q E st h => let ⟨⟨_, he⟩, _⟩ := st; wpAny_pyIter_enum he h
def iEnum0 (K : Fg) (ta : TA) : TI := fun σ H R => ta σ H fun vs H1 => ∃ a, vs = [.ref a] ∧ SqT K H1 a [] ∧ R (ItE0 K a) H1
theorem pi_enumT {X : Cx} {e : Expr} {ta : TA} {p pos tpos : Pos} {elts : List Expr} {kk : Nat} (hg : Gl X "enumerate") (hm : X.mg "enumerate" = none) (ha : PA X [e] ta) (hs : starEach [e] X.env = [(false, eval e X.env)] := by rfl) :
    PI X (.Tuple elts kk tpos) (.Call (.Name "enumerate" p) [e] [] pos) (iEnum0 X.K ta) := by
  refine ⟨fun pins s σ H R I h => ?_⟩
  refine Call_ (ld_blt I hg hm boot_enumerate (PyProof.Rows.callWith_type1 (thn (ha.run pos pins s σ H _ I h) fun us s1 ⟨vs, H1, I1, r1, q1⟩ => ?_) hs rfl))
  obtain ⟨a, ex, hq, q⟩ := q1
  subst ex
  cases r1 with
  | cons r rr =>
    cases rr
    cases r
    obtain ⟨its, rv, p', hz⟩ := I1.tuple hq
    obtain ⟨o1, ho1, _⟩ := id p'
    refine K97Z.call_enumT p' fun h' he hit hsz hk => wpAny_pyIter_enum he ?_
    have I2 : Inv X pins σ H1 { s1 with heap := h' } := I1.kept (t' := s1.toks) hk
    refine ⟨s1.heap.objs.size + 1, [s1.heap.objs.size + 1, s1.heap.objs.size], _, _, H1, rfl, I2, turn_enumT a (s1.heap.objs.size + 1) s1.heap.objs.size (Nat.ne_of_lt (Heap.lt_size ho1)), ⟨⟨.none, he⟩, hit, Nat.succ_ne_self _⟩, fun b hb => ?_, q⟩
    have e' : b = s1.heap.objs.size + 1 ∨ b = s1.heap.objs.size := by simpa using hb
    have hle : s1.heap.objs.size ≤ b := by
      rcases e' with z | z
      · rw [z]; exact Nat.le_add_right _ _
      · rw [z]; exact Nat.le_refl _
    exact I1.fpOk hle (I1.hok.fresh hle)
section
variable {X : Cx} (K : Fg) (hK : X.K = K)
include hK
theorem k_zipTL {e e2 : Expr} {ta : TA} {p pos tpos : Pos} {elts : List Expr} {kk : Nat} (hg : Gl X "zip") (hm : X.mg "zip" = none) (ha : PA X [e, e2] ta)
    (hs : starEach [e, e2] X.env = (false, eval e X.env) :: starEach [e2] X.env := by rfl) (hpl : (backTo pos (starEach [e2] X.env)).any (·.1) = false := by rfl) : PI X (.Tuple elts kk tpos) (.Call (.Name "zip" p) [e, e2] [] pos) (iZipTL K ta) := hK ▸ pi_zipTL hg hm ha hs hpl
theorem k_enumT {e : Expr} {ta : TA} {p pos tpos : Pos} {elts : List Expr} {kk : Nat} (hg : Gl X "enumerate") (hm : X.mg "enumerate" = none) (ha : PA X [e] ta) (hs : starEach [e] X.env = [(false, eval e X.env)] := by rfl) :
    PI X (.Tuple elts kk tpos) (.Call (.Name "enumerate" p) [e] [] pos) (iEnum0 K ta) := hK ▸ pi_enumT hg hm ha hs
end
section
variable {K : Fg} {Γ : En} {t : TA} {ds es : List PyData}
theorem it_enum0 (h : EaG K Γ t [.tuple []]) : ItG true K Γ (iEnum0 K t) [] := fun F B σ H E R q => h F B σ H E _ fun vs H1 e1 r1 => by
  cases r1 with
  | cons r r' =>
    cases r'
    cases r with
    | tup h1 h2 =>
      cases h2
      refine ⟨_, rfl, (h1.up cut_ex).sq, q _ H1 e1 fun M H2 e2 => ⟨⟨((h1.up e2).up cut_ex).sq, rfl⟩, fun i hi => absurd hi (Nat.not_lt_zero _), fun i d hd => ?_⟩⟩
      simp at hd
theorem it_zipTL (h : EaG K Γ t [.tuple ds, .list es]) : ItG true K Γ (iZipTL K t) ((ds.zip es).map fun p => .tuple [p.1, p.2]) := fun F B σ H E R q => h F B σ H E _ fun vs H1 e1 r1 => by
  cases r1 with
  | cons r r' =>
    cases r' with
    | cons r2 r3 =>
      cases r3
      cases r with
      | tup h1 h2 =>
        cases r2 with
        | lst h3 h4 =>
          refine ⟨_, _, _, _, rfl, (h1.up cut_ex).sq, cut_ex.l h3, q _ H1 e1 fun M H2 e2 => ?_⟩
          have s1 := ((h1.up e2).up cut_ex).sq (K := K)
          have s2 := cut_ex.l (e2.l h3)
          have l1 := h2.len
          have l2 := h4.len
          refine ⟨⟨_, _, s1, s2, ?_⟩, fun i hi => ?_, fun i d hd x H3 y => ?_⟩
          · rw [List.length_map, List.length_zip]; omega
          · rw [List.length_map, List.length_zip] at hi
            exact ⟨_, _, _, _, s1, s2, List.getElem?_eq_getElem (by omega), List.getElem?_eq_getElem (by omega)⟩
          · obtain ⟨T, x1, x2, rfl, hT, rfl, y1, y2⟩ := y
            have g1 := y1 _ s1
            have g2 := y2 _ s2
            obtain ⟨d1, hd1, rd1⟩ := h2.getV g1
            obtain ⟨d2, hd2, rd2⟩ := h4.getV g2
            have ez : (ds.zip es)[i]? = some (d1, d2) := by
              rw [List.getElem?_zip_eq_some]
              exact ⟨hd1, hd2⟩
            rw [List.getElem?_map, ez] at hd
            cases hd
            have eT := Ex.new (o := .tup [x1, x2]) hT
            exact ⟨eT, T, x1, x2, d1, d2, rfl, rfl, .inl (.inl upd_same), (rd1.up e2).up (cut_mono eT), (rd2.up e2).up (cut_mono eT)⟩
end
end K97
set_option Elab.async false
set_option linter.all false
set_option maxRecDepth 100000
set_option maxHeartbeats 4000000
/-! K97: a comprehension with two clauses. -/
namespace K97
open Dt (en)
open PySem L2
section
variable {K : Fg} {F : Addr → Prop} {B : Hp} {Γ Γ' : En} {σ : L2.St} {H H' : Hp}
theorem cut_but {M : Addr → Prop} {D : Addr} (hM : M D) (k : ∀ a o, a ≠ D → H a = some o → H' a = some o) : Ex (cut M H) (cut M H') := cut_keep fun a o n z => k a o (fun w => n (w ▸ hM)) z
/-- all but D, which belongs to others, stands -/
theorem EnvR.but (E : EnvR K F B Γ σ H) {D : Addr} (hF : F D) (hB : B D = none) (k : ∀ a o, a ≠ D → H a = some o → H' a = some o) (hn : H' D ≠ none) : EnvR K F B Γ σ H' := by
  have c : Ex (cut (fun a => F a ∨ mu Γ σ a) H) (cut (fun a => F a ∨ mu Γ σ a) H') := cut_but (.inl hF) k
  have nD : ∀ {i : Nat} {e : Ent} {p : Addr}, Γ[i]? = some e → e.mut = true → σ[i]? = some (some (.ref p)) → p ≠ D := fun h1 h2 h3 z => E.out _ ⟨_, _, h1, h2, h3⟩ (z ▸ hF)
  refine ⟨E.len, fun a o z => k a o (fun w => by rw [w, hB] at z; cases z) (E.base a o z), E.low, E.out, fun a h => ?_, fun i d q => ?_, fun i d q => ?_, fun i d q => ?_, fun i n q => ?_, E.inj⟩
  · by_cases w : a = D
    · rw [w]; exact hn
    · cases q : H a with
      | none => exact absurd q (E.fin a h)
      | some o => rw [k a o w q]; simp
  · obtain ⟨v, h1, h2⟩ := E.im i d q
    exact ⟨v, h1, h2.up c⟩
  · obtain ⟨p, vs, h1, h2, h3⟩ := E.ac i d q
    exact ⟨p, vs, h1, k _ _ (nD q rfl h1) h2, h3.up c⟩
  · obtain ⟨p, vs, h1, h2, h3⟩ := E.dc i d q
    exact ⟨p, vs, h1, k _ _ (nD q rfl h1) h2, h3.up c⟩
  · obtain ⟨p, vs, h1, h2, h3⟩ := E.bx i n q
    exact ⟨p, vs, h1, k _ _ (nD q rfl h1) h2, h3⟩
variable {te : TE} {wi wi1 : TI} {g g1 : TG}
theorem flat_take {α β : Type} {f : α → List β} {xs : List α} {i : Nat} (h : i < xs.length) : (xs.take (i + 1)).flatMap f = (xs.take i).flatMap f ++ f xs[i] := flat_step (List.getElem?_eq_getElem h)
theorem el_lc2 {pr pr1 : Bool} {α β : Type} {vs js vs1 js1 : List Nat} (enc : α → PyData) (enc1 : β → PyData) (xs : List α) (ys : α → List β) {f : α → β → PyData} {Γ1 : α → En} {Γ2 : α → β → En} (hi : ItG pr K Γ wi (xs.map enc))
    (hg : ∀ x ∈ xs, TgG pr K (wipeE Γ vs) g (enc x) (Γ1 x) js) (hi1 : ∀ x ∈ xs, ItG pr1 K (Γ1 x) wi1 ((ys x).map enc1)) (hg1 : ∀ x ∈ xs, ∀ y ∈ ys x, TgG pr1 K (wipeE (Γ1 x) vs1) g1 (enc1 y) (Γ2 x y) js1) (he : ∀ x ∈ xs, ∀ y ∈ ys x, EvG K (Γ2 x y) te (f x y))
    (hz : xs.length ≤ 100) (hz1 : ∀ x ∈ xs, (ys x).length ≤ 100) (hv1 : ∀ x ∈ xs, NoMut (Γ1 x) vs1)
    (hv : NoMut Γ vs := by repeat (first | exact nm_nil | refine nm_cons rfl (by first | rfl | assumption) ?_)) (hj : ∀ j ∈ js, j ∈ vs := by decide) (hj1 : ∀ j ∈ js1, j ∈ vs1 := by decide) : EvL K Γ (tLc2 wi g tYes wi1 g1 tYes te vs vs1) (xs.flatMap fun x => (ys x).map (f x)) :=
  fun F B σ H E Q q => hi F B σ H E _ fun J H1 e1 dr D hD => by
    have E1 := E.ext e1
    have hxl : (xs.map enc).length = xs.length := List.length_map ..
    generalize hM : (fun a => (F a ∨ a = D) ∨ mu Γ σ a) = M
    have hMD : M D := by rw [← hM]; exact .inl (.inr rfl)
    have hB : B D = none := by
      cases z : B D with
      | none => rfl
      | some o => rw [E1.base _ _ z] at hD; cases hD
    have grow : ∀ {H' : Hp}, Ex H1 H' → Ex (frz F Γ σ H1) (cut M H') := fun e a o z => by
      obtain ⟨n, z⟩ := cut_some z
      refine cut_of (fun w => ?_) (e a o z)
      rw [← hM] at w
      rcases w with (w | w) | w
      · exact n (.inl w)
      · rw [w, hD] at z; cases z
      · exact n (.inr w)
    have exD : ∀ {Ha Hb : Hp}, Ex H1 Ha → (∀ a o, a ≠ D → Ha a = some o → Hb a = some o) → Ex H1 Hb := fun e k a o z => k a o (ne_of_none z hD) (e a o z)
    refine ⟨fun i m H' => m = xs.length - i ∧ i ≤ xs.length ∧ Ex H1 H' ∧ ∃ ws, H' D = some (.lst ws) ∧ RpAll K (cut M H') ws ((xs.take i).flatMap fun x => (ys x).map (f x)), ⟨xs.length, by simp, Nat.zero_le _, Ex.new hD, [], upd_same, .nil⟩, ?_⟩
    rintro i m H' ⟨rfl, hil, ex, ws, hws, rws⟩
    obtain ⟨d1, d2, d3⟩ := dr _ H' (grow ex)
    rw [hxl] at d1 d2
    by_cases hlt : i < xs.length
    · refine .inr ⟨d2 i hlt, fun H'' => Ex H1 H'' ∧ ∃ ws, H'' D = some (.lst ws) ∧ RpAll K (cut M H'') ws ((xs.take (i + 1)).flatMap fun x => (ys x).map (f x)), fun H'' ⟨n1, n2⟩ => ⟨xs.length - (i + 1), by omega, rfl, hlt, n1, n2⟩, fun x0 H3 hy => ?_⟩
      have hx : xs[i] ∈ xs := List.getElem_mem hlt
      obtain ⟨e3, ry⟩ := d3 i (enc xs[i]) (by simp [hlt]) x0 H3 hy
      have E2 : EnvR K (fun a => F a ∨ a = D) B Γ σ H3 := E1.addF hD (ex.tr e3) (by rw [e3 _ _ hws]; simp)
      obtain ⟨E3, m3⟩ := E2.wipe hv
      refine hg _ hx _ B _ H3 x0 E3 (by rw [frz, m3, hM]; exact ry) _ fun σ2 E4 m4 hl2 ho2 => ⟨wipe_same hl2 hj ho2, ?_⟩
      have m5 : mu (Γ1 xs[i]) σ2 = mu Γ σ := m4.trans m3
      refine et_yes _ B σ2 H3 E4 _ fun H4 e4 => ?_
      rw [if_pos rfl]
      refine hi1 _ hx _ B σ2 H4 (E4.ext e4) _ fun J1 H5 e5 dr1 => ?_
      have E5 := (E4.ext e4).ext e5
      have e35 := (e3.tr e4).tr e5
      have hwl : ws.length ≤ i * 100 := by
        rw [rws.len]
        refine Nat.le_trans (flat_len (m := 100) fun x hx => by rw [List.length_map]; exact hz1 x (List.mem_of_mem_take hx)) ?_
        rw [List.length_take]
        exact Nat.mul_le_mul_right _ (Nat.min_le_left ..)
      have hyl := hz1 _ hx
      refine ⟨fun j k H' => k = (ys xs[i]).length - j ∧ j ≤ (ys xs[i]).length ∧ (∀ a o, a ≠ D → H5 a = some o → H' a = some o) ∧ ∃ us, H' D = some (.lst us) ∧ RpAll K (cut M H') us (((xs.take i).flatMap fun x => (ys x).map (f x)) ++ ((ys xs[i]).take j).map (f xs[i])), ⟨(ys xs[i]).length, by simp, Nat.zero_le _, fun a o _ z => z, ws, e35 _ _ hws, ?_⟩, ?_⟩
      · rw [List.take_zero, List.map_nil, List.append_nil]
        exact rws.up (cut_mono e35)
      rintro j k H6 ⟨rfl, hjl, kp, us, hus, rus⟩
      have hF' : (F D ∨ D = D) := .inr rfl
      obtain ⟨b1, b2, b3⟩ := dr1 M H6 (by rw [frz, m5, hM]; exact cut_but hMD kp)
      rw [List.length_map] at b1 b2
      by_cases hjt : j < (ys xs[i]).length
      · refine .inr ⟨b2 j hjt, fun H' => (∀ a o, a ≠ D → H5 a = some o → H' a = some o) ∧ ∃ us, H' D = some (.lst us) ∧ RpAll K (cut M H') us (((xs.take i).flatMap fun x => (ys x).map (f x)) ++ ((ys xs[i]).take (j + 1)).map (f xs[i])), fun H'' ⟨n1, n2⟩ => ⟨(ys xs[i]).length - (j + 1), by omega, rfl, hjt, n1, n2⟩, fun y0 H7 hy1 => ?_⟩
        have hym : (ys xs[i])[j] ∈ ys xs[i] := List.getElem_mem hjt
        obtain ⟨e7, ry1⟩ := b3 j (enc1 (ys xs[i])[j]) (by simp [hjt]) y0 H7 hy1
        have E7 : EnvR K (fun a => F a ∨ a = D) B (Γ1 xs[i]) σ2 H7 := (E5.but hF' hB kp (by rw [hus]; simp)).ext e7
        obtain ⟨E8, m8⟩ := E7.wipe (hv1 _ hx)
        refine hg1 _ hx _ hym _ B _ H7 y0 E8 (by rw [frz, m8, m5, hM]; exact ry1) _ fun σ3 E9 m9 hl3 ho3 => ⟨wipe_same hl3 hj1 ho3, ?_⟩
        have m10 : mu (Γ2 xs[i] (ys xs[i])[j]) σ3 = mu Γ σ := (m9.trans m8).trans m5
        refine et_yes _ B σ3 H7 E9 _ fun H8 e8 => ?_
        rw [if_pos rfl]
        refine he _ hx _ hym _ B σ3 H8 (E9.ext e8) _ fun y H9 e9 r9 => ⟨us, e9 _ _ (e8 _ _ (e7 _ _ hus)), ?_, fun a o hne z => ?_, _, upd_same, ?_⟩
        · rw [rus.len, List.length_append, List.length_map, ← rws.len, List.length_take]
          refine Nat.lt_of_lt_of_le ?_ (show 100001 ≤ sizeLine by decide)
          have : i * 100 ≤ 100 * 100 := Nat.mul_le_mul_right _ (by omega)
          omega
        · rw [upd_ne hne]
          exact e9 _ _ (e8 _ _ (e7 _ _ (kp a o hne z)))
        · rw [frz, m10, hM] at r9
          have ck : Ex (cut M H9) (cut M (upd H9 D (.lst (us ++ [y])))) := cut_but hMD fun a o n z => by
            rw [upd_ne n]
            exact z
          rw [List.take_succ_eq_append_getElem hjt, List.map_append, ← List.append_assoc]
          exact ((rus.up (cut_mono ((e7.tr e8).tr e9))).up ck).app (.one (r9.up ck))
      · have hje : j = (ys xs[i]).length := by omega
        subst hje
        refine .inl ⟨b1, exD ((ex.tr e35)) kp, us, hus, ?_⟩
        rw [List.take_length] at rus
        rw [flat_take hlt]
        exact rus
    · have hie : i = xs.length := by omega
      subst hie
      refine .inl ⟨d1, ?_⟩
      rw [List.take_length] at rws
      rw [← hM] at rws
      exact q D ws H' (e1.free hD) (e1.tr ex) hws rws
/-- any over two walks -/
theorem tv_any2 {pr pr1 : Bool} {α β : Type} {vs js vs1 js1 : List Nat} (enc : α → PyData) (enc1 : β → PyData) (xs : List α) (ys : α → List β) {f : β → Bool} {Γ1 : α → En} {Γ2 : α → β → En} (hi : ItG pr K Γ wi (xs.map enc))
    (hg : ∀ x ∈ xs, TgG pr K (wipeE Γ vs) g (enc x) (Γ1 x) js) (hi1 : ∀ x ∈ xs, ItG pr1 K (Γ1 x) wi1 ((ys x).map enc1)) (hg1 : ∀ x ∈ xs, ∀ y ∈ ys x, TgG pr1 K (wipeE (Γ1 x) vs1) g1 (enc1 y) (Γ2 x y) js1) (he : ∀ x ∈ xs, ∀ y ∈ ys x, EvG K (Γ2 x y) te (.bool (f y)))
    (hz : xs.length ≤ 100) (hz1 : ∀ x ∈ xs, (ys x).length ≤ 100) (hv1 : ∀ x ∈ xs, NoMut (Γ1 x) vs1)
    (hv : NoMut Γ vs := by repeat (first | exact nm_nil | refine nm_cons rfl (by first | rfl | assumption) ?_)) (hj : ∀ j ∈ js, j ∈ vs := by decide) (hj1 : ∀ j ∈ js1, j ∈ vs1 := by decide) : EvG K Γ (tCB (rAny K) (tCons (tLc2 wi g tYes wi1 g1 tYes te vs vs1) tNil)) (.bool ((xs.flatMap ys).any f)) :=
  ev_any ((el_lc2 enc enc1 xs ys hi hg hi1 hg1 he hz hz1 hv1 hv hj hj1).cast (by rw [List.map_flatMap])).c
end
end K97
set_option Elab.async false
set_option linter.all false
set_option maxRecDepth 100000
set_option maxHeartbeats 4000000
/-! K97: len(set(a list of ints)). -/
namespace K97
open Dt (en)
open PySem PySem.Spec PyProof.Rows L2
theorem met_ok (ns : List Int) : ∀ i, i ≤ ns.length → (firstMet (fun i => ns.getD i 0) i).Nodup ∧ ∀ x, x ∈ firstMet (fun i => ns.getD i 0) i ↔ x ∈ ns.take i
  | 0, _ => ⟨.nil, fun x => by simp [firstMet_zero]⟩
  | i + 1, hi => by
    obtain ⟨h1, h2⟩ := met_ok ns i (Nat.le_of_succ_le hi)
    have e1 : ns.getD i 0 = ns[i] := by
      rw [List.getD_eq_getElem?_getD, List.getElem?_eq_getElem hi]
      rfl
    have e2 : ns.take (i + 1) = ns.take i ++ [ns[i]] := by
      rw [List.take_add_one, List.getElem?_eq_getElem hi]
      rfl
    rw [firstMet_succ, e2]
    unfold step_dedup
    rw [e1]
    cases hb : (firstMet (fun i => ns.getD i 0) i).any (· == ns[i]) with
    | true =>
      rw [if_pos rfl]
      refine ⟨h1, fun x => ?_⟩
      rw [h2, List.mem_append, List.mem_singleton]
      refine ⟨.inl, fun h => h.elim id fun z => ?_⟩
      obtain ⟨y, hy, ey⟩ := List.any_eq_true.mp hb
      rw [z, ← eq_of_beq ey]
      exact (h2 y).mp hy
    | false =>
      rw [if_neg Bool.false_ne_true]
      refine ⟨List.nodup_append.mpr ⟨h1, by simp, fun a ha b hb2 z => ?_⟩, fun x => ?_⟩
      · rw [List.mem_singleton] at hb2
        have : (firstMet (fun i => ns.getD i 0) i).any (· == ns[i]) = true := List.any_eq_true.mpr ⟨a, ha, by simp [z, hb2]⟩
        rw [this] at hb
        cases hb
      · rw [List.mem_append, List.mem_append, h2]
theorem met_len (ns : List Int) : (firstMet (fun i => ns.getD i 0) ns.length).length = (dd ns).length := by
  obtain ⟨h1, h2⟩ := met_ok ns ns.length (Nat.le_refl _)
  rw [List.take_length] at h2
  exact Nat.le_antisymm (nodup_sub h1 fun x hx => mem_dd.mpr ((h2 x).mp hx)) (nodup_sub (dd_nodup ns) fun x hx => (h2 x).mpr (mem_dd.mp hx))
def tLenSetN (K : Fg) (ta : TE) : TE := fun σ H Q => ta σ H fun x H1 => ∃ (l : Addr) (ns : List Int), x = .ref l ∧ SqL K H1 l (ns.map V.int) ∧ ns.length ≤ 4000 ∧ Q (.int ((dd ns).length : Nat)) H1
theorem pe_lenSetN {X : Cx} {a : Expr} {ta : TE} {p p2 q pos : Pos} (hg : Gl X "len") (hm : X.mg "len" = none) (hg2 : Gl X "set") (hm2 : X.mg "set" = none) (ha : PE X a ta) (hc : X.calm = true := by rfl)
    (na : starEach [a] X.env = (false, eval a X.env) :: starEach [] X.env := by rfl) : PE X (.Call (.Name "len" p) [.Call (.Name "set" p2) [a] [] q] [] pos) (tLenSetN X.K ta) := by
  refine ⟨fun pins s σ H Q I h => ?_⟩
  refine Call_ (ld_blt I hg hm boot_len ?_)
  refine callWith_builtin1 (args_cons ?_ rfl) rfl rfl
  refine Call_ (ld_blt I hg2 hm2 boot_set ?_)
  refine callWith_type1 (args_cons (thn (ha.run pins s σ H _ I h) fun v s1 ⟨x, H1, I1, r1, q1⟩ => args_nil ?_) na) na rfl
  obtain ⟨l, ns, rfl, hq, hl, q1⟩ := q1
  cases r1
  obtain ⟨its, r, pl, hz⟩ := I1.list hq
  have hlen : its.toArray.size = ns.length := by rw [List.size_toArray, ← r.length, List.length_map]
  refine call_set_list (I1.ok.hd hc) pl.isList (by simpa using RZ.intsAre_vals r) (by rw [hlen]; unfold scanBound; omega) fun h' tk hS hk => ?_
  refine args_nil ?_
  rw [hlen] at hS
  have hml := met_len ns
  have hdl := dd_len ns
  obtain ⟨o, es, ep, t, ho, hex, hd, _, _, _, hf, hn⟩ := hS
  have I2 : Inv X pins σ H1 { s1 with heap := h', toks := tk } := I1.kept fun b o e => hk b o (Heap.lt_size e) e
  rw [hml] at hn
  exact call_len_set ho hex hd hf (by rw [hn]; omega) ⟨.int (dd ns).length, H1, I2.tok _, ⟨_, by rw [hn]⟩, q1⟩
section
variable {X : Cx} (K : Fg) (hK : X.K = K)
include hK
theorem pe_lenSetInts {a : Expr} {ta : TE} {p p2 q pos : Pos} (hg : Gl X "len") (hm : X.mg "len" = none) (hg2 : Gl X "set") (hm2 : X.mg "set" = none) (ha : PE X a ta) (hc : X.calm = true := by rfl)
    (na : starEach [a] X.env = (false, eval a X.env) :: starEach [] X.env := by rfl) : PE X (.Call (.Name "len" p) [.Call (.Name "set" p2) [a] [] q] [] pos) (tLenSetN K ta) := hK ▸ pe_lenSetN hg hm hg2 hm2 ha hc na
end
theorem tv_lenSet {K : Fg} {Γ : En} {te : TE} {ns : List Int} (h : EvC K Γ te (.list (ns.map en))) (hl : ns.length ≤ 4000) : EvG K Γ (tLenSetN K te) (.int (dd ns).length) := fun F B σ H E Q q => h F B σ H E _ fun v H1 e1 r1 => by
  obtain ⟨p, vs, rfl, h1, h2⟩ := r1.lst cut_ex
  have e : vs = ns.map V.int := RpAll.ints h2
  rw [e] at h1
  exact ⟨p, ns, rfl, h1, hl, q _ H1 e1 (.int _)⟩
end K97
set_option Elab.async false
set_option linter.all false
set_option maxRecDepth 100000
set_option maxHeartbeats 4000000
/-! K97: a dict of lists that grows (d.setdefault(k, []).append(e)). -/
namespace K97
open Dt (en)
open PySem L2
abbrev Gm := List (Key × List PyData)
def gput : Gm → Key → PyData → Gm
  | [], k, d => [(k, [d])]
  | x :: r, k, d => if x.1 = k then (x.1, x.2 ++ [d]) :: r else x :: gput r k d
def grD (m : Gm) : List (PyData × PyData) := m.map fun x => (kD x.1, .list x.2)
inductive GrL (K : Fg) (G H : Hp) : List Addr → Gm → List (Key × V) → Prop
  | nil : GrL K G H [] [] []
  | cons {q : Addr} {ws : List V} {k : Key} {ds : List PyData} {qs : List Addr} {m : Gm} {kv : List (Key × V)} : H q = some (.lst ws) → RpAll K G ws ds → GrL K G H qs m kv → GrL K G H (q :: qs) ((k, ds) :: m) ((k, .ref q) :: kv)
section
variable {K : Fg} {G G' H H' : Hp} {qs : List Addr} {m : Gm} {kv : List (Key × V)} {k : Key}
theorem GrL.keep (h : GrL K G H qs m kv) (e : Ex G G') (e' : ∀ q ∈ qs, ∀ o, H q = some o → H' q = some o) : GrL K G' H' qs m kv := by
  induction h with
  | nil => exact .nil
  | cons h1 h2 _ ih => exact .cons (e' _ List.mem_cons_self _ h1) (h2.up e) (ih fun q hq => e' q (List.mem_cons_of_mem _ hq))
theorem GrL.lens (h : GrL K G H qs m kv) : kv.length = m.length ∧ qs.length = m.length := by
  induction h with
  | nil => exact ⟨rfl, rfl⟩
  | cons _ _ _ ih => simp [ih.1, ih.2]
theorem GrL.uniq {qs' : List Addr} {m' : Gm} (h : GrL K G H qs m kv) (h' : GrL K G' H' qs' m' kv) : qs = qs' := by
  induction h generalizing qs' m' with
  | nil => cases h'; rfl
  | cons _ _ _ ih =>
    cases h' with
    | cons _ _ h => rw [ih h]
theorem GrL.ne (h : GrL K G H qs m kv) : ∀ q ∈ qs, H q ≠ none := by
  induction h with
  | nil => intro q hq; cases hq
  | cons h1 _ _ ih =>
    intro q hq
    rcases List.mem_cons.mp hq with rfl | hq
    · rw [h1]; simp
    · exact ih q hq
theorem any_valV : ∀ kv : List (Key × V), (kv.any fun x => decide (x.1 = k)) = (valV kv k).isSome
  | [] => rfl
  | x :: kv => by
    by_cases h : x.1 = k
    · rw [valV_pos h, List.any_cons]
      simp [h]
    · rw [valV_neg h, List.any_cons, any_valV kv]
      simp [h]
theorem GrL.none (h : GrL K G H qs m kv) (hv : valV kv k = none) (d : PyData) : gput m k d = m ++ [(k, [d])] := by
  induction h with
  | nil => rfl
  | @cons q ws k' ds qs m kv _ _ _ ih =>
    by_cases e : k' = k
    · rw [valV_pos e] at hv; cases hv
    · rw [valV_neg e] at hv
      unfold gput
      rw [if_neg e, ih hv, List.cons_append]
theorem putK_none {z : V} (hv : valV kv k = none) : putK kv k z = kv ++ [(k, z)] := by
  unfold putK
  rw [any_valV, hv, if_neg (by simp)]
theorem GrL.app (h : GrL K G H qs m kv) {z : Addr} {ws : List V} {ds : List PyData} (h1 : H z = some (.lst ws)) (h2 : RpAll K G ws ds) : GrL K G H (qs ++ [z]) (m ++ [(k, ds)]) (kv ++ [(k, .ref z)]) := by
  induction h with
  | nil => exact .cons h1 h2 .nil
  | cons q1 q2 _ ih => exact .cons q1 q2 ih
/-- the list at a key that is there -/
theorem GrL.at (h : GrL K G H qs m kv) {v : V} (hv : valV kv k = some v) (hn : qs.Nodup) : ∃ q ws, v = .ref q ∧ q ∈ qs ∧ H q = some (.lst ws) ∧ (∃ ds, ws.length = ds.length ∧ (k, ds) ∈ m) ∧ ∀ (G' H' : Hp) (y : V) (d : PyData), Ex G G' → (∀ r ∈ qs, r ≠ q → ∀ o, H r = some o → H' r = some o) → H' q = some (.lst (ws ++ [y])) → Rp K G' y d → GrL K G' H' qs (gput m k d) kv := by
  induction h with
  | nil => cases hv
  | @cons q ws k' ds qs m kv h1 h2 h3 ih =>
    rw [List.nodup_cons] at hn
    by_cases e : k' = k
    · rw [valV_pos e] at hv
      cases hv
      refine ⟨q, ws, rfl, List.mem_cons_self, h1, ⟨ds, h2.len, by rw [e]; exact List.mem_cons_self⟩, fun G' H' y d eg kp hq ry => ?_⟩
      unfold gput
      rw [if_pos e]
      refine .cons hq ((h2.up eg).app (.one ry)) (h3.keep eg fun r hr => kp r (List.mem_cons_of_mem _ hr) fun z => hn.1 (z ▸ hr))
    · rw [valV_neg e] at hv
      obtain ⟨q', ws', e1, e2, e3, ⟨ds', e5, e6⟩, e4⟩ := ih hv hn.2
      refine ⟨q', ws', e1, List.mem_cons_of_mem _ e2, e3, ⟨ds', e5, List.mem_cons_of_mem _ e6⟩, fun G' H' y d eg kp hq ry => ?_⟩
      unfold gput
      rw [if_neg e]
      exact .cons (kp q List.mem_cons_self (fun z => hn.1 (z ▸ e2)) _ h1) (h2.up eg) (e4 G' H' y d eg (fun r hr => kp r (List.mem_cons_of_mem _ hr)) hq ry)
theorem GrL.rp (h : GrL K G H qs m kv) (e : ∀ q ∈ qs, ∀ o, H q = some o → G q = some o) : RpKV K G kv (grD m) := by
  induction h with
  | nil => exact .nil
  | cons h1 h2 _ ih => exact .cons (.lst (.inl (.inl (e _ List.mem_cons_self _ h1))) h2) (ih fun q hq => e q (List.mem_cons_of_mem _ hq))
end
/-- slot j: the dict of lists; what changes counts as others' -/
structure Gr (K : Fg) (F : Addr → Prop) (B : Hp) (j : Nat) (Γ : En) (m : Gm) (F' : Addr → Prop) (σ : L2.St) (H : Hp) : Prop where
  env : EnvR K F' B Γ σ H
  sl : Γ[j]? = some .no
  obj : ∃ (p : Addr) (qs : List Addr) (kv : List (Key × V)), (∀ a, F' a ↔ F a ∨ a = p ∨ a ∈ qs) ∧ σ[j]? = some (some (.ref p)) ∧ H p = some (.dK kv) ∧ GrL K (frz F' Γ σ H) H qs m kv ∧ qs.Nodup ∧ p ∉ qs ∧ ¬ F p ∧ (∀ q ∈ qs, ¬ F q) ∧ B p = none ∧ ∀ q ∈ qs, B q = none
def StGr (K : Fg) (j : Nat) (Γ : En) (m : Gm) (ts : TS) (Γ' : En) (m' : Gm) : Prop := ∀ (F : Addr → Prop) (B : Hp) (F' : Addr → Prop) (D : Ends) (σ : L2.St) (H : Hp), Gr K F B j Γ m F' σ H →
  (∀ F2 σ' H', Gr K F B j Γ' m' F2 σ' H' → Ex (frz F' Γ σ H) (frz F2 Γ' σ' H') → D.nx σ' H') → ts D σ H
section
variable {K : Fg} {F F' : Addr → Prop} {B H H' : Hp} {j : Nat} {Γ Γ' Γ1 : En} {m m' : Gm} {σ : L2.St} {tk tv : TE} {k : Key} {d : PyData} {ts tu : TS} {N : En → Prop} {R : PyData → En → Prop}
theorem Gr.ext (g : Gr K F B j Γ m F' σ H) (e : Ex H H') : Gr K F B j Γ m F' σ H' := by
  obtain ⟨p, qs, kv, h1, h2, h3, h4, h5⟩ := g.obj
  exact ⟨g.env.ext e, g.sl, p, qs, kv, h1, h2, e _ _ h3, h4.keep (cut_mono e) fun q _ => e q, h5⟩
theorem Gr.wk (g : Gr K F B j Γ m F' σ H) (w : Wk Γ Γ') (hs : Γ'[j]? = some .no) : Gr K F B j Γ' m F' σ H := by
  obtain ⟨p, qs, kv, h1, h2, h3, h4, h5⟩ := g.obj
  have e : frz F' Γ' σ H = frz F' Γ σ H := by rw [frz, frz, w.mu]
  exact ⟨g.env.wk w, hs, p, qs, kv, h1, h2, h3, e ▸ h4, h5⟩
/-- d.setdefault(k, []).append(e) -/
theorem gr_app (hk : EvG K Γ tk (kD k)) (hv : EvG K Γ tv d) (hl : m.length < 100000) (hl2 : ∀ x ∈ m, x.2.length < 100000) : StGr K j Γ m (tDrop (tBM K "list" rAppend (tDSetd (tVar j) tk (tLst tNil)) (tCons tv tNil))) Γ (gput m k d) := fun F B F' D σ H g n => by
  obtain ⟨p0, qs0, kv0, z1, z2, z3, _⟩ := g.obj
  refine ⟨.ref p0, z2, p0, rfl, .inl ⟨kv0, .inl z3⟩, hk F' B σ H g.env _ fun y H2 e2 ry => ?_⟩
  have yk : y = kV k := kV_of ry
  subst yk
  refine ⟨(show ([] : List V).length ≤ sizeLine from Nat.zero_le _), fun z hz => ?_⟩
  have e3 : Ex H2 (upd H2 z (.lst [])) := Ex.new hz
  have g3 := g.ext (e2.tr e3)
  have x3 : Ex (frz F' Γ σ H) (frz F' Γ σ (upd H2 z (.lst []))) := cut_mono (e2.tr e3)
  have hzH : H z = none := e2.free hz
  have hz3 : (upd H2 z (.lst [])) z = some (.lst []) := upd_same
  generalize upd H2 z (.lst []) = H3 at *
  obtain ⟨p, qs, kv, h1, h2, h3, h4, h5, h6, h7, h8, h9, h10⟩ := g3.obj
  rw [z2] at h2
  cases h2
  have hlen := h4.lens
  have nz : ∀ {a : Addr}, F' a → a ≠ z := fun {a} h w => g.env.fin a h (w ▸ hzH)
  have fp : F' p0 := (h1 p0).mpr (.inr (.inl rfl))
  have fq : ∀ q ∈ qs, F' q := fun q hq => (h1 q).mpr (.inr (.inr hq))
  refine ⟨kv, k, h3, rfl, by rw [hlen.1]; exact mem_lim hl, fun v hv' => ?_, fun hv' => ?_⟩
  · obtain ⟨q, ws, rfl, hq, hqs, ⟨ds, hd1, hd2⟩, put⟩ := h4.at hv' h5
    refine ⟨.inl ⟨rfl, ws, .inl (.inl hqs)⟩, hv F' B σ H3 g3.env _ fun y H4 e4 ry4 => ?_⟩
    refine ⟨q, ws, y, rfl, rfl, e4 _ _ hqs, by rw [hd1]; exact mem_lim (hl2 _ hd2), ?_⟩
    have kp : ∀ a o, a ≠ q → H4 a = some o → (upd H4 q (.lst (ws ++ [y]))) a = some o := fun a o hne w => by rw [upd_ne hne]; exact w
    have cb : Ex (frz F' Γ σ H4) (frz F' Γ σ (upd H4 q (.lst (ws ++ [y])))) := cut_but (.inl (fq q hq)) kp
    have hpq : p0 ≠ q := fun w => h6 (w ▸ hq)
    refine n F' σ _ ⟨(g3.env.ext e4).but (fq q hq) (h10 q hq) kp (by rw [upd_same]; simp), g.sl, p0, qs, kv, h1, z2, kp _ _ hpq (e4 _ _ h3), ?_, h5, h6, h7, h8, h9, h10⟩ ((x3.tr (cut_mono e4)).tr cb)
    exact put _ _ y d ((cut_mono e4).tr cb) (fun r _ hne o w => kp r o hne (e4 _ _ w)) upd_same (ry4.up cb)
  · rw [putK_none hv']
    have kp : ∀ a o, a ≠ p0 → H3 a = some o → (upd H3 p0 (.dK (kv ++ [(k, V.ref z)]))) a = some o := fun a o hne w => by rw [upd_ne hne]; exact w
    have hpz : p0 ≠ z := nz fp
    have hB : B z = none := by
      cases w : B z with
      | none => rfl
      | some o => rw [g.env.base _ _ w] at hzH; cases hzH
    have E5 : EnvR K (fun a => F' a ∨ a = z) B Γ σ H3 := g.env.addF hzH (e2.tr e3) (by rw [hz3]; simp)
    have E6 := E5.but (D := p0) (H' := upd H3 p0 (.dK (kv ++ [(k, V.ref z)]))) (.inl fp) h9 kp (by rw [upd_same]; simp)
    have hz6 : (upd H3 p0 (.dK (kv ++ [(k, V.ref z)]))) z = some (.lst []) := kp z _ (Ne.symm hpz) hz3
    have hp6 : (upd H3 p0 (.dK (kv ++ [(k, V.ref z)]))) p0 = some (.dK (kv ++ [(k, V.ref z)])) := upd_same
    have grow : Ex (frz F' Γ σ H) (cut (fun a => (F' a ∨ a = z) ∨ mu Γ σ a) (upd H3 p0 (.dK (kv ++ [(k, V.ref z)])))) := fun a o w => by
      obtain ⟨n1, n2⟩ := cut_some w
      refine cut_of (fun u => ?_) (kp a o (fun u => n1 (.inl (u ▸ fp))) ((e2.tr e3) _ _ n2))
      rcases u with (u | u) | u
      · exact n1 (.inl u)
      · rw [u, hzH] at n2; cases n2
      · exact n1 (.inr u)
    have hg : ∀ q ∈ qs, ∀ o, H3 q = some o → (upd H3 p0 (.dK (kv ++ [(k, V.ref z)]))) q = some o := fun q hq o w => kp q o (fun u => h6 (u ▸ hq)) w
    have h4' : GrL K (frz F' Γ σ H) H qs m kv := by
      obtain ⟨p', qs', kv', a1, a2, a3, a4, a5⟩ := g.obj
      rw [z2] at a2
      cases a2
      have : kv' = kv := by
        have := (e2.tr e3) _ _ a3
        rw [h3] at this
        cases this
        rfl
      subst this
      have hqq : qs' = qs := a4.uniq h4
      subst hqq
      exact a4
    generalize upd H3 p0 (.dK (kv ++ [(k, V.ref z)])) = H6 at *
    refine ⟨.inl ⟨rfl, [], .inl (.inl hz6)⟩, hv _ B σ H6 E6 _ fun y H7 e7 ry7 => ?_⟩
    refine ⟨z, [], y, rfl, rfl, e7 _ _ hz6, by decide, ?_⟩
    have kp2 : ∀ a o, a ≠ z → H7 a = some o → (upd H7 z (.lst ([] ++ [y]))) a = some o := fun a o hne w => by rw [upd_ne hne]; exact w
    have cb : Ex (cut (fun a => (F' a ∨ a = z) ∨ mu Γ σ a) H7) (cut (fun a => (F' a ∨ a = z) ∨ mu Γ σ a) (upd H7 z (.lst ([] ++ [y])))) := cut_but (.inl (.inr rfl)) kp2
    have zq : z ∉ qs := fun w => nz (fq z w) rfl
    rw [h4'.none hv' d] at n
    refine n (fun a => F' a ∨ a = z) σ _ ⟨(E6.ext e7).but (.inr rfl) hB kp2 (by rw [upd_same]; simp), g.sl, p0, qs ++ [z], kv ++ [(k, .ref z)], fun a => ?_, z2, kp2 _ _ hpz (e7 _ _ hp6), ?_, ?_, ?_, h7, ?_, h9, ?_⟩ ((grow.tr (cut_mono e7)).tr cb)
    · rw [h1, List.mem_append, List.mem_singleton]
      constructor
      · rintro ((w | w | w) | w)
        · exact .inl w
        · exact .inr (.inl w)
        · exact .inr (.inr (.inl w))
        · exact .inr (.inr (.inr w))
      · rintro (w | w | w | w)
        · exact .inl (.inl w)
        · exact .inl (.inr (.inl w))
        · exact .inl (.inr (.inr w))
        · exact .inr w
    · refine GrL.app ?_ upd_same (.one (ry7.up cb))
      exact h4'.keep ((grow.tr (cut_mono e7)).tr cb) fun q hq o w => kp2 q o (fun u => zq (u ▸ hq)) (e7 _ _ (hg q hq _ ((e2.tr e3) _ _ w)))
    · exact List.nodup_append.mpr ⟨h5, by simp, fun a ha b hb w => by
        rw [List.mem_singleton] at hb
        exact zq (by rw [← hb, ← w]; exact ha)⟩
    · rw [List.mem_append, List.mem_singleton]
      exact fun w => w.elim h6 hpz
    · intro q hq
      rcases List.mem_append.mp hq with hq | hq
      · exact h8 q hq
      · rw [List.mem_singleton] at hq
        exact fun w => nz ((h1 q).mpr (.inl w)) hq
    · intro q hq
      rcases List.mem_append.mp hq with hq | hq
      · exact h10 q hq
      · rw [List.mem_singleton] at hq
        rw [hq]
        exact hB
/-- a loop of such statements -/
theorem gr_for {pr : Bool} {wi : TI} {g : TG} {ds : List PyData} (mi : Nat → Gm) (hi : ItG pr K Γ wi ds) (hs : ∀ i d, ds[i]? = some d → ∃ Γ2 js Γ3, TgG pr K Γ g d Γ2 js ∧ j ∉ js ∧ Γ2[j]? = some .no ∧ StGr K j Γ2 (mi i) ts Γ3 (mi (i + 1)) ∧ Wk Γ3 Γ) : StGr K j Γ (mi 0) (tFor wi g ts) Γ (mi ds.length) := fun F B F' D σ H g0 n =>
  hi F' B σ H g0.env _ fun J H1 e1 dr => by
    refine ⟨fun i c σ' H' => c = ds.length - i ∧ i ≤ ds.length ∧ ∃ F2, Gr K F B j Γ (mi i) F2 σ' H' ∧ Ex (frz F' Γ σ H1) (frz F2 Γ σ' H'), ⟨ds.length, by simp, Nat.zero_le _, F', g0.ext e1, Ex.rfl' _⟩, ?_⟩
    rintro i c σ' H' ⟨rfl, hil, F2, g2, x'⟩
    obtain ⟨d1, d2, d3⟩ := dr _ H' x'
    by_cases hlt : i < ds.length
    · refine .inr ⟨d2 i hlt, fun σ'' H'' => ∃ F3, Gr K F B j Γ (mi (i + 1)) F3 σ'' H'' ∧ Ex (frz F' Γ σ H1) (frz F3 Γ σ'' H''), fun σ'' H'' ⟨F3, q1, q2⟩ => ⟨ds.length - (i + 1), by omega, rfl, hlt, F3, q1, q2⟩, fun v H3 hy => ?_⟩
      have hdi : ds[i]? = some ds[i] := List.getElem?_eq_getElem hlt
      obtain ⟨e3, ry⟩ := d3 i _ hdi v H3 hy
      obtain ⟨Γ2, js, Γ3, tg, hj, hn, st, w⟩ := hs i _ hdi
      have g3 := g2.ext e3
      refine tg F2 B σ' H3 v g3.env ry _ fun σ2 E4 m4 _ hsame => ?_
      have ef : frz F2 Γ2 σ2 H3 = frz F2 Γ σ' H3 := by rw [frz, frz, m4]
      have g4 : Gr K F B j Γ2 (mi i) F2 σ2 H3 := by
        obtain ⟨p, qs, kv, h1, h2, h3, h4, h5⟩ := g3.obj
        exact ⟨E4, hn, p, qs, kv, h1, by rw [hsame j hj]; exact h2, h3, ef ▸ h4, h5⟩
      have x4 : Ex (frz F' Γ σ H1) (frz F2 Γ2 σ2 H3) := by
        rw [ef]
        exact x'.tr (cut_mono e3)
      refine st F B F2 _ σ2 H3 g4 fun F5 σ5 H5 g5 x5 => ⟨F5, g5.wk w g0.sl, ?_⟩
      have e5 : frz F5 Γ σ5 H5 = frz F5 Γ3 σ5 H5 := by rw [frz, frz, w.mu]
      rw [e5]
      exact x4.tr x5
    · have hie : i = ds.length := by omega
      subst hie
      exact .inl ⟨d1, n F2 σ' H' g2 ((cut_mono e1).tr x')⟩
/-- d = {}; the loop; then d stands still -/
theorem sg_group {e : Ent} (hj : Γ[j]? = some e) (he : e.mut = false) (h : StGr K j (Γ.set j .no) [] ts Γ1 m) (g : StG K (Γ1.set j (.im (.dict (grD m)))) tu N R) : StG K Γ (tSeq (tAsg tDNewK (gName j)) (tSeq ts (tFz j tu))) N R := fun F B D σ H E n r => fun p hp => by
  have e1 : Ex H (upd H p (.dK [])) := Ex.new hp
  have hB : B p = none := by
    cases w : B p with
    | none => rfl
    | some o => rw [E.base _ _ w] at hp; cases hp
  have hjl : j < Γ.length := (List.getElem?_eq_some_iff.mp hj).1
  have hjs : j < σ.length := by rw [E.len]; exact hjl
  have E1 : EnvR K (fun a => F a ∨ a = p) B Γ σ (upd H p (.dK [])) := E.addF hp e1 (by rw [upd_same]; simp)
  have E2 := E1.put (x := some (V.ref p)) hj he (e' := .no) rfl fun d' z => nomatch z
  have m2 := mu_set (σ := σ) (x := some (V.ref p)) (e' := .no) hj he rfl
  have g0 : Gr K F B j (Γ.set j .no) [] (fun a => F a ∨ a = p) (σ.set j (some (.ref p))) (upd H p (.dK [])) :=
    ⟨E2, List.getElem?_set_self hjl, p, [], [], fun a => by simp, List.getElem?_set_self hjs, upd_same, .nil, .nil, by simp, fun w => E.fin p w hp, (fun q hq => by cases hq), hB, fun q hq => by cases hq⟩
  have x0 : Ex (frz F Γ σ H) (frz (fun a => F a ∨ a = p) (Γ.set j .no) (σ.set j (some (.ref p))) (upd H p (.dK []))) := by
    rw [frz, frz, m2]
    intro a o w
    obtain ⟨n1, n2⟩ := cut_some w
    refine cut_of (fun u => ?_) (e1 _ _ n2)
    rcases u with (u | u) | u
    · exact n1 (.inl u)
    · rw [u, hp] at n2; cases n2
    · exact n1 (.inr u)
  refine h F B _ _ _ _ g0 fun F2 σ2 H2 g2 x2 => ?_
  obtain ⟨p2, qs, kv, h1, h2, h3, h4, h5, h6, h7, h8, h9, h10⟩ := g2.obj
  refine ⟨p2, _, h2, h3, trivial, fun od => ?_⟩
  have kp2 : ∀ a o, a ≠ p2 → H2 a = some o → upd H2 p2 (.frz od (.dK kv)) a = some o := fun a o w z => by rw [upd_ne w]; exact z
  have p2F : F2 p2 := (h1 p2).mpr (.inr (.inl rfl))
  have EX := g2.env.but p2F h9 kp2 (by rw [upd_same]; simp)
  have xk : Ex (frz F2 Γ1 σ2 H2) (frz F2 Γ1 σ2 (upd H2 p2 (.frz od (.dK kv)))) := cut_but (.inl p2F) kp2
  have h4 := h4.keep xk fun q hq o z => kp2 q o (fun e => h6 (e ▸ hq)) z
  have h3 : upd H2 p2 (.frz od (.dK kv)) p2 = some (.frz od (.dK kv)) := upd_same
  have x2 := x2.tr xk
  have sl2 := g2.sl
  generalize upd H2 p2 (.frz od (.dK kv)) = H2 at *
  have hjl2 : j < Γ1.length := (List.getElem?_eq_some_iff.mp sl2).1
  have fF : ∀ a, F a → F2 a := fun a w => (h1 a).mpr (.inl w)
  have less : Ex (frz F2 Γ1 σ2 H2) (frz F Γ1 σ2 H2) := cut_less fun a w => w.elim (fun u => .inl (fF a u)) .inr
  have E3 : EnvR K F B Γ1 σ2 H2 := by
    have E := EX
    refine ⟨E.len, E.base, E.low, fun a w u => E.out a w (fF a u), fun a w => E.fin a (fF a w), fun i d q => ?_, fun i d q => ?_, fun i d q => ?_, E.bx, E.inj⟩
    · obtain ⟨v, a1, a2⟩ := E.im i d q
      exact ⟨v, a1, a2.up less⟩
    · obtain ⟨p, vs, a1, a2, a3⟩ := E.ac i d q
      exact ⟨p, vs, a1, a2, a3.up less⟩
    · obtain ⟨p, vs, a1, a2, a3⟩ := E.dc i d q
      exact ⟨p, vs, a1, a2, a3.up less⟩
  have nmu : ∀ a, F2 a → ¬ mu Γ1 σ2 a := fun a w u => EX.out a u w
  have inG : ∀ a o, F2 a → ¬ F a → H2 a = some o → frz F Γ1 σ2 H2 a = some o := fun a o w1 w2 w3 => cut_of (fun u => u.elim w2 (nmu a w1)) w3
  have hset : σ2.set j (some (.ref p2)) = σ2 := by
    apply List.ext_getElem?
    intro i
    by_cases hi : j = i
    · subst hi
      rw [List.getElem?_set_self (by rw [EX.len]; exact hjl2), h2]
    · rw [List.getElem?_set_ne hi]
  have E4 := E3.put (x := some (V.ref p2)) sl2 rfl (e' := .im (.dict (grD m))) rfl fun d' z => ⟨.ref p2, rfl, by
    cases z
    exact .dic ⟨od, inG p2 _ ((h1 p2).mpr (.inr (.inl rfl))) h7 h3⟩ ((h4.keep less fun q _ o w => w).rp fun q hq o w => inG q o ((h1 q).mpr (.inr (.inr hq))) (h8 q hq) w)⟩
  have m4 := mu_set (σ := σ2) (x := some (V.ref p2)) (e' := .im (.dict (grD m))) sl2 rfl rfl
  rw [hset] at E4 m4
  have ef : frz F (Γ1.set j (.im (.dict (grD m)))) σ2 H2 = frz F Γ1 σ2 H2 := by rw [frz, frz, m4]
  have xx : Ex (frz F Γ σ H) (frz F (Γ1.set j (.im (.dict (grD m)))) σ2 H2) := by
    rw [ef]
    exact (x0.tr x2).tr less
  exact g F B D σ2 H2 E4 (fun Γ5 σ5 H5 q1 q2 q3 => n Γ5 σ5 H5 q1 q2 (xx.tr q3)) fun d Γ5 σ5 v H5 q1 q2 q3 q4 => r d Γ5 σ5 v H5 q1 q2 (xx.tr q3) q4
end
end K97
set_option Elab.async false
set_option linter.all false
set_option maxRecDepth 100000
set_option maxHeartbeats 4000000
/-! K97: the order of typed data; sorted lists. -/
namespace K97
open Dt (en)
open PySem L2
section
variable {α : Type} [Dt α] {a b : α} {xs ys : List α}
theorem dle_total : PySem.W.TotalLe (dle (α := α)) := PySem.W.sortLe_total (PyProof.Rows.listOrd PyProof.Rows.itemOrd) false fun a : α => PySem.W.keyToks (en a)
theorem dle_anti (h1 : dle a b = true) (h2 : dle b a = true) : a = b := by
  have h1 : (!PySem.W.dataLt (en b) (en a)) = true := h1
  have h2 : (!PySem.W.dataLt (en a) (en b)) = true := h2
  rw [Bool.not_eq_true'] at h1 h2
  have e : PySem.W.keyToks (en a) = PySem.W.keyToks (en b) := PyProof.Rows.lex_total _ _ h2 h1
  apply (Dt.ev a b).mp
  cases q : PyData.eqv (en a) (en b) with
  | true => rfl
  | false =>
    have h3 := (PySem.W.toks_eqv _ _ (Dt.al a b)).2 q [] [Sum.inl 0]
    rw [e, List.append_nil] at h3
    have h4 := PyProof.Rows.lex_irrefl (O := PyProof.Rows.itemOrd) (PySem.W.keyToks (en b))
    rw [h4] at h3
    have h5 : ∀ l : List (Int ⊕ List Nat), PyProof.Rows.lexLt PyProof.Rows.itemOrd l (l ++ [Sum.inl 0]) = true := fun l => by
      induction l with
      | nil => rfl
      | cons x l ih => exact PyProof.Rows.lex_true.mpr (.inr ⟨PyProof.Rows.itemOrd.irrefl x, ih⟩)
    rw [h5] at h3
    cases h3
theorem dsort_pw (xs : List α) : (dsort xs).Pairwise fun a b => dle a b = true := PySem.W.sort_pairwise dle_total xs
theorem pw_eq (h : xs.Perm ys) (hx : xs.Pairwise fun a b => dle a b = true) (hy : ys.Pairwise fun a b => dle a b = true) : xs = ys := List.Perm.eq_of_pairwise (le := fun a b => dle a b = true) (fun a b _ _ h1 h2 => dle_anti h1 h2) hx hy h
theorem dsort_uniq (h : ys.Perm xs) (hy : ys.Pairwise fun a b => dle a b = true) : ys = dsort xs := pw_eq (h.trans (dsort_perm xs).symm) hy (dsort_pw xs)
theorem dsort_of_perm (h : xs.Perm ys) : dsort xs = dsort ys := dsort_uniq ((dsort_perm xs).trans h) (dsort_pw xs)
theorem dsort_of_mem (hx : xs.Nodup) (hy : ys.Nodup) (h : ∀ a, a ∈ xs ↔ a ∈ ys) : dsort xs = dsort ys := dsort_of_perm ((List.perm_ext_iff_of_nodup hx hy).mpr h)
theorem dsort_nodup (h : xs.Nodup) : (dsort xs).Nodup := (dsort_perm xs).symm.nodup h
theorem dsort_self (h : xs.Pairwise fun a b => dle a b = true) : dsort xs = xs := (dsort_uniq (List.Perm.refl _) h).symm
end
theorem dle_str (a b : Str) : dle a b = !strLt b a := by
  show (!PySem.W.dataLt (.str b) (.str a)) = _
  rw [PySem.W.dataLt_str]
  rfl
theorem dle_int (a b : Int) : dle a b = decide (a ≤ b) := by
  show (!PySem.W.dataLt (.int b) (.int a)) = _
  rw [PySem.W.dataLt_int, PySem.W.not_lt_int]
theorem strLt_of {a b : Str} (h : dle a b = true) (hne : a ≠ b) : strLt a b = true := by
  cases q : strLt a b with
  | true => rfl
  | false => exact absurd (dle_anti h (by rw [dle_str, q]; rfl)) hne
theorem dle_of_lt {a b : Str} (h : strLt a b = true) : dle a b = true := by
  rw [dle_str]
  cases q : strLt b a with
  | false => rfl
  | true => exact absurd (strLt_tr h q) (by rw [strLt_irr]; exact Bool.false_ne_true)
theorem Up.pw {xs : List Str} (h : Up xs) : xs.Pairwise fun a b => dle a b = true := List.Pairwise.imp (fun h => dle_of_lt h) h
theorem Up.sorted {xs : List Str} (h : Up xs) : dsort xs = xs := dsort_self h.pw
theorem up_of {xs : List Str} (hn : xs.Nodup) (hp : xs.Pairwise fun a b => dle a b = true) : Up xs := List.Pairwise.imp₂ (fun a b h1 h2 => strLt_of h1 h2) hp hn
theorem dsort_up {xs : List Str} (hn : xs.Nodup) : Up (dsort xs) := up_of (dsort_nodup hn) (dsort_pw xs)
theorem up_eq {xs ys : List Str} (hx : Up xs) (hy : Up ys) (h : ∀ a, a ∈ xs ↔ a ∈ ys) : xs = ys := by
  rw [← hx.sorted, ← hy.sorted]
  exact dsort_of_mem hx.nodup hy.nodup h
end K97
set_option Elab.async false
set_option linter.all false
set_option maxRecDepth 100000
set_option maxHeartbeats 4000000
/-! K97: what a dict of lists holds; sorted(d) of ints. -/
namespace K97
open Dt (en)
open PySem L2
noncomputable local instance memKey (k : Key) (l : List Key) : Decidable (k ∈ l) := Classical.propDecidable _
def lkg (m : Gm) (k : Key) : Option (List PyData) := (m.find? fun x => decide (x.1 = k)).map (·.2)
theorem lkg_put (k k' : Key) (d : PyData) : ∀ m : Gm, lkg (gput m k d) k' = if k = k' then some ((lkg m k).getD [] ++ [d]) else lkg m k'
  | [] => by
    by_cases h : k = k'
    · simp [gput, lkg, h]
    · simp [gput, lkg, h]
  | x :: m => by
    have ih := lkg_put k k' d m
    unfold gput
    by_cases h : x.1 = k
    · rw [if_pos h]
      by_cases h' : k = k'
      · subst h'
        simp [lkg, List.find?_cons, h]
      · have h2 : ¬ x.1 = k' := fun z => h' (h.symm.trans z)
        simp [lkg, List.find?_cons, h, h', h2]
    · rw [if_neg h]
      have e : ∀ (r : Gm) (k'' : Key), lkg (x :: r) k'' = if x.1 = k'' then some x.2 else lkg r k'' := fun r k'' => by
        by_cases q : x.1 = k''
        · simp [lkg, List.find?_cons, q]
        · simp [lkg, List.find?_cons, q]
      rw [e, e, e, ih, if_neg h]
      by_cases h' : k = k'
      · subst h'
        rw [if_neg h, if_pos rfl, if_pos rfl]
      · rw [if_neg h', if_neg h']
theorem keys_put (k : Key) (d : PyData) : ∀ m : Gm, (gput m k d).map (·.1) = if k ∈ m.map (·.1) then m.map (·.1) else m.map (·.1) ++ [k]
  | [] => by simp [gput]
  | x :: m => by
    have ih := keys_put k d m
    unfold gput
    by_cases h : x.1 = k
    · rw [if_pos h, if_pos (by simp [h])]
      simp
    · rw [if_neg h, List.map_cons, ih]
      have h' : ¬ k = x.1 := fun z => h z.symm
      by_cases q : k ∈ m.map (·.1)
      · rw [if_pos q, if_pos (by simp [q])]
        rfl
      · rw [if_neg q, if_neg (by simp [h']; simpa using q)]
        simp
section
variable {α : Type} (key : α → Key) (va : α → PyData)
def gfold (xs : List α) : Gm := xs.foldl (fun m x => gput m (key x) (va x)) []
theorem gfold_snoc (xs : List α) (x : α) : gfold key va (xs ++ [x]) = gput (gfold key va xs) (key x) (va x) := by simp [gfold]
theorem gfold_step {xs : List α} {x : α} {i : Nat} (h : xs[i]? = some x) : gfold key va (xs.take (i + 1)) = gput (gfold key va (xs.take i)) (key x) (va x) := by
  rw [List.take_add_one, h]
  exact gfold_snoc key va _ x
theorem snoc_ind {α : Type} {P : List α → Prop} (h0 : P []) (h1 : ∀ xs x, P xs → P (xs ++ [x])) (xs : List α) : P xs := by
  have : ∀ ys : List α, P ys.reverse := fun ys => by
    induction ys with
    | nil => exact h0
    | cons y ys ih => rw [List.reverse_cons]; exact h1 _ _ ih
  rw [← List.reverse_reverse xs]
  exact this _
theorem gfold_lk (k : Key) (xs : List α) : lkg (gfold key va xs) k = if k ∈ xs.map key then some ((xs.filter fun x => decide (key x = k)).map va) else none := by
  refine snoc_ind (P := fun xs => ∀ k, lkg (gfold key va xs) k = if k ∈ xs.map key then some ((xs.filter fun x => decide (key x = k)).map va) else none) (fun k => by simp [gfold, lkg]) (fun xs x ih k => ?_) xs k
  rw [gfold_snoc, lkg_put, ih, ih, List.map_append, List.filter_append, filter_one]
  by_cases h : key x = k
  · subst h
    have hm : key x ∈ xs.map key ++ [x].map key := List.mem_append_right _ List.mem_cons_self
    rw [if_pos hm, if_pos rfl, decide_eq_true rfl, if_pos rfl, List.map_append]
    by_cases q : key x ∈ xs.map key
    · rw [if_pos q]
      rfl
    · rw [if_neg q]
      have : xs.filter (fun y => decide (key y = key x)) = [] := List.filter_eq_nil_iff.mpr fun y hy z => q (by
        rw [← of_decide_eq_true z]
        exact List.mem_map_of_mem hy)
      rw [this]
      rfl
  · have h' : ¬ k = key x := fun z => h z.symm
    rw [if_neg h, decide_eq_false h, if_neg (c := false = true) Bool.false_ne_true, List.append_nil]
    by_cases q : k ∈ xs.map key
    · rw [if_pos q, if_pos (List.mem_append_left _ q)]
    · rw [if_neg q, if_neg (c := k ∈ xs.map key ++ [x].map key) (fun z => (List.mem_append.mp z).elim q fun z => h' (List.mem_singleton.mp z))]
theorem gfold_keys (xs : List α) : ((gfold key va xs).map (·.1)).Nodup ∧ ∀ k, k ∈ (gfold key va xs).map (·.1) ↔ k ∈ xs.map key := by
  refine snoc_ind (P := fun xs => ((gfold key va xs).map (·.1)).Nodup ∧ ∀ k, k ∈ (gfold key va xs).map (·.1) ↔ k ∈ xs.map key) ⟨by simp [gfold], by simp [gfold]⟩ (fun xs x ⟨h1, h2⟩ => ?_) xs
  rw [gfold_snoc, keys_put]
  by_cases q : key x ∈ (gfold key va xs).map (·.1)
  · rw [if_pos q]
    refine ⟨h1, fun k => ?_⟩
    rw [h2, List.map_append, List.mem_append]
    refine ⟨.inl, fun h => h.elim id fun z => ?_⟩
    simp only [List.map_cons, List.map_nil, List.mem_singleton] at z
    rw [z]
    exact (h2 _).mp q
  · rw [if_neg q]
    refine ⟨List.nodup_append.mpr ⟨h1, by simp, fun a ha b hb z => ?_⟩, fun k => ?_⟩
    · rw [List.mem_singleton] at hb
      exact q (by rw [← hb, ← z]; exact ha)
    · rw [List.mem_append, h2, List.map_append, List.mem_append]
      rfl
theorem gfold_len (xs : List α) : (gfold key va xs).length ≤ xs.length ∧ ∀ x ∈ gfold key va xs, x.2.length ≤ xs.length := by
  obtain ⟨h1, h2⟩ := gfold_keys key va xs
  constructor
  · have := nodup_sub h1 fun k hk => (h2 k).mp hk
    simpa using this
  · intro x hx
    have hk : x.1 ∈ xs.map key := (h2 _).mp (List.mem_map_of_mem hx)
    have h3 := gfold_lk key va x.1 xs
    rw [if_pos hk] at h3
    have h4 : lkg (gfold key va xs) x.1 = some x.2 := by
      have gen : ∀ m : Gm, (m.map (·.1)).Nodup → x ∈ m → lkg m x.1 = some x.2 := fun m hn hm => by
        induction m with
        | nil => cases hm
        | cons y m ih =>
          rw [List.map_cons, List.nodup_cons] at hn
          rcases List.mem_cons.mp hm with rfl | hm
          · simp [lkg]
          · have : ¬ y.1 = x.1 := fun z => hn.1 (z ▸ List.mem_map_of_mem hm)
            have := ih hn.2 hm
            unfold lkg at *
            rw [List.find?_cons]
            simp [*]
      exact gen _ h1 hx
    rw [h4] at h3
    rw [Option.some.inj h3, List.length_map]
    exact List.length_filter_le ..
end
theorem lk_gr (k : Key) : ∀ m : Gm, lk (grD m) k = (lkg m k).map .list
  | [] => rfl
  | x :: m => by
    have ih := lk_gr k m
    by_cases h : x.1 = k
    · simp [lk, lkg, grD, List.find?_cons, keyOfD_kD, h]
    · have e1 : lk (grD (x :: m)) k = lk (grD m) k := by
        show (List.find? _ ((kD x.1, PyData.list x.2) :: grD m)).map _ = _
        rw [List.find?_cons_of_neg (by simp [keyOfD_kD, h])]
        rfl
      have e2 : lkg (x :: m) k = lkg m k := by
        unfold lkg
        rw [List.find?_cons_of_neg (by simpa using h)]
      rw [e1, e2, ih]
def rSortDI : List V → Hp → VK → Prop := fun xs H Q => ∃ (a : Addr) (kvs : List (Key × V)) (ks : List Int), xs = [.ref a] ∧ Rd H a (.dK kvs) ∧ kvs.map (·.1) = ks.map Sum.inl ∧ ks.length < 64 ∧ ∀ (ys : List Int) (p : Addr), ys.Perm ks → ys.Pairwise (· ≤ ·) → H p = none → Q (.ref p) (upd H p (.lst (ys.map V.int)))
theorem cr_sortDI {X : Cx} (hc : X.calm = true) : CallR X (.builtin "sorted") rSortDI := call_sortedDI hc
theorem RpKV.keys {K : Fg} {H : Hp} {m : Gm} : ∀ {vs : List (Key × V)}, RpKV K H vs (grD m) → vs.map (·.1) = m.map (·.1) := by
  induction m with
  | nil => intro vs h; cases h; rfl
  | cons x m ih =>
    intro vs h
    have h : RpKV K H vs ((kD x.1, .list x.2) :: grD m) := h
    generalize e : kD x.1 = kk at h
    cases h with
    | cons h1 h2 =>
      rename_i k' _ _
      rw [List.map_cons, List.map_cons, ih h2]
      congr 1
      have := congrArg keyOfD e
      rw [keyOfD_kD, keyOfD_kD] at this
      exact (Option.some.inj this).symm
theorem ints_rp {K : Fg} {H : Hp} : ∀ ys : List Int, RpAll K H (ys.map V.int) (ys.map en)
  | [] => .nil
  | y :: ys => .cons (.int y) (ints_rp ys)
section
variable {K : Fg} {Γ : En} {te : TE}
theorem el_sortDI {m : Gm} {ks : List Int} (h : EvC K Γ te (.dict (grD m))) (hk : m.map (·.1) = ks.map Sum.inl) (hl : ks.length < 64) : EvL K Γ (tCB rSortDI (tCons te tNil)) ((dsort ks).map en) := fun F B σ H E Q q => h F B σ H E _ fun v H1 e1 r1 => by
  obtain ⟨p, vs, rfl, h1, h2⟩ := r1.dic cut_ex
  refine ⟨p, vs, ks, rfl, h1, h2.keys.trans hk, hl, fun ys l hp hs hl => ?_⟩
  have hy : ys = dsort ks := dsort_uniq hp (List.Pairwise.imp (fun {a b} h => by rw [dle_int]; exact decide_eq_true h) hs)
  rw [hy]
  exact newL (E.ext e1) e1 (ints_rp _) q l hl
end
end K97
set_option Elab.async false
set_option linter.all false
set_option maxRecDepth 100000
set_option maxHeartbeats 4000000
/-! K97: sets of texts whose tables can be walked (turned from the hand layer's sets of ints). -/
namespace K97
open Dt (en)
open PySem PySem.Spec PyProof.Rows L2
def keyS (e : Int × Value) : Str := match e.2 with | .str k _ => k | _ => ⟨#[]⟩
def GoodS (w : World) (e : Int × Value) : Prop := ∃ k tk, e.2 = Value.str k tk ∧ e.1 = hashStr w k

def SetS (w : World) (h : Heap) (a : Addr) (S : Str → Bool) (n : Nat) : Prop :=
  ∃ o es ep t, h.get? a = some o ∧ o.ExactSet ∧ o.data = .set es ep t ∧ (∀ e ∈ es.toList, GoodS w e) ∧ (es.toList.map keyS).Nodup ∧ (∀ k, S k = true ↔ k ∈ es.toList.map keyS) ∧
    es.size < scanBound ∧ t.fits es.size = true ∧ es.size = n ∧ Ris t.place.toList ∧ (w.params.followText "set-order" = true ∨ t.led = true)

section
variable {P : Program} {w : World} {h h' : Heap} {a : Addr} {S : Str → Bool} {n : Nat}

theorem SetS.at (R : SetS w h a S n) (k : ∀ o, h.get? a = some o → h'.get? a = some o) : SetS w h' a S n := by
  obtain ⟨o, es, ep, t, ho, r⟩ := R
  exact ⟨o, es, ep, t, k o ho, r⟩
theorem SetS.lt (R : SetS w h a S n) : a < h.objs.size := by
  obtain ⟨o, es, ep, t, ho, r⟩ := R
  exact Heap.lt_size ho
theorem SetS.congr {S' : Str → Bool} (R : SetS w h a S n) (e : ∀ k, S' k = S k) : SetS w h a S' n := by
  have q : S' = S := funext e
  rw [q]; exact R
theorem goodS_elems {l : List (Int × Value)} (g : ∀ e ∈ l, GoodS w e) : ElemsOf (PySem.strKind P w) l := fun e he => by
  obtain ⟨k, tk, h1, h2⟩ := g e he
  exact ⟨⟨k, by rw [h1]; exact PySem.strKind_is P w k tk, h2⟩, by rw [h1] <;> rfl⟩
theorem goodS_is {e : Int × Value} (g : GoodS w e) (k : Str) : (PySem.strKind P w).is k e.2 = true ↔ keyS e = k := by
  obtain ⟨k0, tk, h1, _⟩ := g
  unfold keyS
  rw [h1]
  exact ⟨fun z => by simpa [PySem.strKind, Value.isStrOf] using z, fun z => by subst z; exact PySem.strKind_is P w k0 tk⟩
theorem goodS_mem {l : List (Int × Value)} (g : ∀ e ∈ l, GoodS w e) (k : Str) : k ∈ l.map keyS ↔ ∃ e ∈ l, (PySem.strKind P w).is k e.2 = true := by
  rw [List.mem_map]
  constructor
  · rintro ⟨e, he, q⟩
    exact ⟨e, he, (goodS_is (g e he) k).2 q⟩
  · rintro ⟨e, he, q⟩
    exact ⟨e, he, (goodS_is (g e he) k).1 q⟩
theorem SetS.setOf (R : SetS w h a S n) : h.SetOf (PySem.strKind P w) a S n := by
  obtain ⟨o, es, ep, t, ho, hx, hd, g, nd, hm, hb, hf, hn, _⟩ := R
  exact ⟨o, es, ep, t, ho, hx, hd, goodS_elems g, fun k => (hm k).trans (goodS_mem g k), hb, hf, hn⟩
end

section
variable {P : Program} {w : World} {A : Around} {E : Value → Shared → Prop} {s : Shared} {a : Addr} {S : Str → Bool} {n : Nat}

theorem storeS {h : Heap} {a : Addr} {o : Obj} {es es' : Array (Int × Value)} {ep : Nat} {t t' : SetTable} (ho : h.get? a = some o) (hd : o.data = .set es ep t) :
    (h.update a (Obj.putSet es' t')).get? a = some { o with data := .set es' (ep + 1) t' } := by
  have q := Heap.get?_update_self (Obj.putSet es' t') ho (by rw [putSet_of es' t' hd]; rfl)
  rw [putSet_of es' t' hd] at q
  exact q

theorem setS_add_tail {g : Bool → Sem Unit} (hg : ∀ (b : Bool) (s₁ : Shared) (Q' : Unit → Shared → Prop), Q' () s₁ → wpAny (model P w) A (g b) Q' E s₁)
    {o : Obj} {es : Array (Int × Value)} {ep : Nat} {t : SetTable} (ho : s.heap.get? a = some o) (hex : o.ExactSet) (hd : o.data = .set es ep t)
    {es1 : Array (Int × Value)} {t2 : SetTable} {S' : Str → Bool} (g1 : ∀ e ∈ es1.toList, GoodS w e) (nd1 : (es1.toList.map keyS).Nodup) (m1 : ∀ k, S' k = true ↔ k ∈ es1.toList.map keyS)
    (hb1 : es1.size < scanBound) (hf2 : t2.fits es1.size = true) (hr : Ris t2.place.toList) (hl : w.params.followText "set-order" = true ∨ t2.led = true) {wasDummy : Bool} {R : Option Bool → Shared → Prop}
    (hR : ∀ h', Heap.SameBut a s.heap h' → SetS w h' a S' es1.size → R (some true) { s with heap := h' }) :
    wpAny (model P w) A (do
        storeSet a es1 t2
        if (!wasDummy && t2.tooFull) = true then do
            g (relayAll t2 es1 (SetTable.grown es1.size)).2.2
            storeSet a (relayAll t2 es1 (SetTable.grown es1.size)).1 (relayAll t2 es1 (SetTable.grown es1.size)).2.1
            pure (some true)
          else pure (some true)) R E s := by
  refine wpAny_bind (wpAny_storeSet_of ho hd ?_ (fits_of_scanBound hb1))
  have ho1 := storeS (es' := es1) (t' := t2) ho hd
  have sb1 := Heap.SameBut.update s.heap a (Obj.putSet es1 t2)
  split
  · have pm := relayAll_perm t2 es1 (SetTable.grown es1.size)
    have hf3 := relayAll_fits t2 es1 (SetTable.grown es1.size)
    have hr3 := relayAll_ris t2 es1 (SetTable.grown es1.size)
    have hl3 := relayAll_led t2 es1 (SetTable.grown es1.size)
    generalize relayAll t2 es1 (SetTable.grown es1.size) = Z at pm hf3 hr3 hl3 ⊢
    obtain ⟨es2, t3, gave⟩ := Z
    dsimp only at pm hf3 hr3 hl3 ⊢
    have hsz : es2.size = es1.size := by rw [← Array.length_toList, pm.length_eq, Array.length_toList]
    have hb2 : es2.size < scanBound := by rw [hsz]; exact hb1
    refine wpAny_bind (hg _ _ _ ?_)
    refine wpAny_bind (wpAny_storeSet_of ho1 rfl ?_ (fits_of_scanBound hb2))
    have ho2 := storeS (es' := es2) (t' := t3) ho1 rfl
    refine wpAny_pure (hR _ (sb1.trans (Heap.SameBut.update _ a _)) ?_)
    exact ⟨_, es2, _, t3, ho2, hex, rfl, fun e he => g1 e (pm.mem_iff.mp he), (pm.map keyS).nodup_iff.mpr nd1, fun k => (m1 k).trans (pm.map keyS).mem_iff.symm, hb2, hf3, hsz, hr3,
      hl.imp id fun z => by rw [hl3]; exact z⟩
  · exact wpAny_pure (hR _ sb1 ⟨_, es1, _, t2, ho1, hex, rfl, g1, nd1, m1, hb1, hf2, rfl, hr, hl⟩)

theorem setS_add_hashed {k : Str} {tk : Tok} {Q : Bool → Shared → Prop} (R : SetS w s.heap a S n) (room : n + 1 < scanBound)
    (hQ : ∀ h', Heap.SameBut a s.heap h' → SetS w h' a (fun j => S j || decide (j = k)) (if S k = true then n else n + 1) → Q (!S k) { s with heap := h' }) :
    wpAny (model P w) A (setAddHashed a (.str k tk) ((PySem.strKind P w).hash k)) Q E s := by
  obtain ⟨o, es, ep, t, ho, hex, hd, g, nd, hm, hb, hf, hn, hr, hl⟩ := R
  have hkey : (PySem.strKind P w).is k (.str k tk) = true := PySem.strKind_is P w k tk
  have hsc : (Value.str k tk).scannable = true := rfl
  have hel : ElemsOf (PySem.strKind P w) es.toList := goodS_elems g
  unfold setAddHashed setAddHashedIn
  refine wpAny_holding (wpAny_bind (wpAny_setState_of ho hd hf ?_))
  dsimp only
  rw [byScan_of hsc hb hel]
  simp only [↓reduceIte]
  unfold setAddByScan
  refine wpAny_bind ?_
  refine wpAny_bind (wpAny_rule ?_)
  refine wpAny_bind (wpAny_setScan_of hkey ho hd hf hel ?_)
  cases hfi : List.findIdx? (fun e => (PySem.strKind P w).is k e.2) es.toList with
  | some j =>
    dsimp only
    obtain ⟨hj, pj, _⟩ := List.findIdx?_eq_some_iff_getElem.mp hfi
    have hSk : S k = true := (hm k).2 ((goodS_mem (P := P) (w := w) g k).2 ⟨es.toList[j], List.getElem_mem hj, pj⟩)
    refine wpAny_pure (wpAny_pure ?_)
    have q := hQ s.heap (Heap.SameBut.refl a s.heap) ⟨o, es, ep, t, ho, hex, hd, g, nd, fun i => by
      rw [Bool.or_eq_true, decide_eq_true_eq, ← hm i]
      exact ⟨fun z => z.elim id (fun e => e ▸ hSk), .inl⟩, hb, hf, by rw [if_pos hSk]; exact hn, hr, hl⟩
    rw [hSk] at q
    exact q
  | none =>
    dsimp only
    have hnk : k ∉ es.toList.map keyS := fun z => by
      obtain ⟨e, he, q⟩ := (goodS_mem (P := P) (w := w) g k).1 z
      have c := List.findIdx?_eq_none_iff.mp hfi e he
      rw [q] at c
      cases c
    have hSk : S k = false := by
      cases q : S k with
      | false => rfl
      | true => exact absurd ((hm k).1 q) hnk
    have hgw : ∀ (b : Bool) {s₁ : Shared} {Q' : Unit → Shared → Prop}, Q' () s₁ → wpAny (model P w) A (match b with | true => rule "set.scan.the-table-gave-way" | false => pure ()) Q' E s₁ :=
      fun b s₁ Q' q => by cases b <;> first | exact wpAny_pure q | exact wpAny_rule q
    have pm := layNew_perm t es ((PySem.strKind P w).hash k) (.str k tk)
    have hf1 := layNew_fits t es ((PySem.strKind P w).hash k) (.str k tk)
    have hr1 := layNew_ris t es ((PySem.strKind P w).hash k) (.str k tk) hr
    have hl1 := layNew_led t es ((PySem.strKind P w).hash k) (.str k tk)
    generalize layNew t es ((PySem.strKind P w).hash k) (.str k tk) = Z at pm hf1 hr1 hl1 ⊢
    obtain ⟨es1, t1, wasDummy, gave⟩ := Z
    dsimp only at pm hf1 hr1 hl1 ⊢
    rw [Array.toList_push] at pm
    have pc : es1.toList.Perm (((PySem.strKind P w).hash k, Value.str k tk) :: es.toList) := pm.trans (List.perm_append_singleton _ _)
    have pk : (es1.toList.map keyS).Perm (k :: es.toList.map keyS) := pc.map keyS
    have g1 : ∀ e ∈ es1.toList, GoodS w e := fun e he => by
      rcases List.mem_cons.mp (pc.mem_iff.mp he) with z | z
      · rw [z]; exact ⟨k, tk, rfl, rfl⟩
      · exact g e z
    have nd1 : (es1.toList.map keyS).Nodup := pk.nodup_iff.mpr (List.nodup_cons.mpr ⟨hnk, nd⟩)
    have m1 : ∀ i, (S i || decide (i = k)) = true ↔ i ∈ es1.toList.map keyS := fun i => by
      rw [Bool.or_eq_true, decide_eq_true_eq, hm i, pk.mem_iff, List.mem_cons]
      exact Or.comm
    have hsz : es1.size = n + 1 := by rw [← Array.length_toList, pc.length_eq, List.length_cons, Array.length_toList, hn]
    have hb1 : es1.size < scanBound := by rw [hsz]; exact room
    have hled : w.params.followText "set-order" = true ∨ t1.led = true := hl.imp id fun z => by rw [hl1]; exact z
    have fin : ∀ h', Heap.SameBut a s.heap h' → SetS w h' a (fun j => S j || decide (j = k)) es1.size → Q true { s with heap := h' } := fun h' sb r => by
      have q := hQ h' sb
      rw [hSk] at q
      rw [hsz] at r
      exact q r
    refine wpAny_bind (hgw _ ?_)
    split
    · refine wpAny_bind ?_
      rw [hashByValue_scannable 8 hsc]
      refine wpAny_pure ?_
      refine setS_add_tail ?_ ho hex hd g1 nd1 m1 hb1 ?_ ?_ ?_ ?_
      · intro b s₁ Q' q; cases b <;> first | exact wpAny_pure q | exact wpAny_rule q
      · first | (split <;> first | exact hf1 | exact SetTable.fits_plain_off hf1) | exact hf1
      · first | (split <;> exact hr1) | exact hr1
      · first | (split <;> exact hled) | exact hled
      · intro h' sb r; dsimp only; exact wpAny_pure (fin h' sb r)
    · refine wpAny_bind (wpAny_pure ?_)
      simp only [↓reduceIte]
      refine setS_add_tail ?_ ho hex hd g1 nd1 m1 hb1 hf1 hr1 hled ?_
      · intro b s₁ Q' q; cases b <;> first | exact wpAny_pure q | exact wpAny_rule q
      · intro h' sb r; dsimp only; exact wpAny_pure (fin h' sb r)

theorem setS_add {k : Str} {tk : Tok} {Q : Value → Shared → Prop} (R : SetS w s.heap a S n) (room : n + 1 < scanBound)
    (hQ : ∀ h', Heap.SameBut a s.heap h' → SetS w h' a (fun j => S j || decide (j = k)) (if S k = true then n else n + 1) → Q .none { s with heap := h', toks := s.toks + 1 }) :
    wpAny (model P w) A (call (.builtin "set.add") [.ref a, .str k tk]) Q E s := by
  have hS : s.heap.SetOf (PySem.strKind P w) a S n := R.setOf
  refine wpAny_call_entry F.slot_set_add hS.typeIs F.entry_set_add ?_ (F.args_set_add_2 _ _)
  unfold Builtin.«set.add» Builtin.Frozenset.oneOther
  simp only [List.isEmpty_nil, bind_assoc]
  unfold Builtin.Frozenset.addrOf setAdd
  refine wpAny_bind (wpAny_pure ?_)
  try dsimp only
  refine wpAny_bind (wpAny_pure ?_)
  try dsimp only
  refine wpAny_bind ?_
  refine wpAny_holding ?_
  refine wpAny_bind ((PySem.strKind P w).pyHash (PySem.strKind_is P w k tk) ?_)
  refine setS_add_hashed (s := { s with toks := s.toks + 1 }) R room fun h' sb r => ?_
  show wpAny _ _ (ret Value.none) _ _ _
  exact wpAny_pure ⟨_, rfl, hQ h' sb r⟩

end
end K97
set_option Elab.async false
set_option linter.all false
set_option maxRecDepth 100000
set_option maxHeartbeats 4000000
/-! K97: {text for .. in .. for .. in ..}; sorted of such a set. -/
namespace K97S
open PySem PySem.SeqAt PySem.W PySem.Calls PyProof.Rows
section
variable {prog : Program} {w : World} {A : Around} {E : Value → Shared → Prop} {s : Shared} {M : Model}
/-- sorted(x), where x's items are collected in some order -/
theorem sorted_colE {u : Value} {Pv : List Value → Prop} {Q : Value → Shared → Prop} (hL : ∀ vs, Pv vs → vs.length ≤ sizeLine)
    (hc : ∀ (E' : Value → Shared → Prop) (Q' : List Value → Shared → Prop), (∀ vs s1, Pv vs → (∀ b o, s.heap.get? b = some o → s1.heap.get? b = some o) → s1.gens = s.gens → s1.os = s.os → Q' vs s1) → wpAny (model prog w) A.in1 (collect u) Q' E' s)
    (κ : List Value → Shared → PyProof.Rows.KeyKind) (S : ∀ (vs : List Value) (s1 : Shared), Pv vs → (∀ b o, s.heap.get? b = some o → s1.heap.get? b = some o) → SortsAt prog w A.in1.in1 s1 (κ vs s1) vs)
    (h : ∀ (vs : List Value) (s1 s2 s0 : Shared) (out : List Value) (c : Nat), Pv vs → (∀ b o, s.heap.get? b = some o → s1.heap.get? b = some o) → (∀ b o, s.heap.get? b = some o → s0.heap.get? b = some o) → out = sortVals (κ vs s0) false vs vs → (∀ b o, s1.heap.get? b = some o → s2.heap.get? b = some o) →
      s1.gens = s.gens → s1.os = s.os → s2.gens = s1.gens → s2.os = s1.os → s2.heap.get? s1.heap.objs.size = some (seqObj "list" out.toArray c) → Q (.ref s1.heap.objs.size) s2) :
    wpAny (model prog w) A (call (.builtin "sorted") [u]) Q E s := by
  refine call_function_entry_kw kind_sorted plain_sorted entry_sorted (args_sorted1 _) ?_
  unfold Builtin.«sorted»
  refine wpAny_bind (m := checkCount "sorted" 1 1 _) (wpAny_pure ?_)
  refine wpAny_bind (hc _ _ fun vs s1 pv k1 g1 o1 => ?_)
  refine wpAny_bind (wpAny_newList ?_ (hL vs pv))
  have hoL : (s1.heap.push (seqObj "list" vs.toArray 0)).get? s1.heap.objs.size = some (seqObj "list" vs.toArray 0) := Heap.get?_push_size _ rfl
  have kk : ∀ b o, s.heap.get? b = some o → (sortingHeap (s1.heap.push (seqObj "list" vs.toArray 0)) s1.heap.objs.size vs).get? b = some o := fun b o e => by
    have q := k1 b o e
    exact sortingHeap_old (Nat.ne_of_lt (Heap.lt_size q)) (Heap.get?_push_of_some _ q)
  refine wpAny_bind (wpAny_holding (wpAny_call_entry_kw slot_list_sort ⟨_, hoL, rfl⟩ entry_list_sort ?body (args_list_sort _)))
  case body =>
    refine list_sort_vals (κ := κ vs { s1 with heap := sortingHeap (s1.heap.push (seqObj "list" vs.toArray 0)) s1.heap.objs.size vs }) (s := { s1 with heap := s1.heap.push (seqObj "list" vs.toArray 0) }) hoL (S _ _ pv kk) (hL vs pv) ⟨_, rfl, ?_⟩
    obtain ⟨c, hcc⟩ := sortedHeap_at (vs := vs) (out := (sortVals (κ vs { s1 with heap := sortingHeap (s1.heap.push (seqObj "list" vs.toArray 0)) s1.heap.objs.size vs }) false vs vs).toArray) hoL
    refine wpAny_pure ⟨_, rfl, h vs s1 _ { s1 with heap := sortingHeap (s1.heap.push (seqObj "list" vs.toArray 0)) s1.heap.objs.size vs } _ c pv k1 kk rfl (fun b u q => ?_) g1 o1 rfl rfl hcc⟩
    have hlt := Heap.lt_size q
    show (sortedHeap (s1.heap.push (seqObj "list" vs.toArray 0)) s1.heap.objs.size vs _).get? b = some u
    rw [sortedHeap_old (Nat.ne_of_lt hlt) (by rw [size_push']; exact Nat.lt_succ_of_lt hlt)]
    exact Heap.get?_push_of_some _ q
end
end K97S
namespace K97
open Dt (en)
open PySem PySem.Spec PyProof.Rows L2
/-- the set of texts at a -/
def SetTx (w : World) (a : Addr) (S : Str → Bool) (n : Nat) : HO := .ext fun h => SetS w h a S n
section
variable {X : Cx} {pins : List (Addr × Obj)} {σ : L2.St} {H : Hp} {s : Shared}
theorem setTx_new {w : World} {P : Program} {H : Hp} {h : Heap} {a : Addr} {S : Str → Bool} {n : Nat} (R : SetS w h a S n) : ObjOk P w H h a (SetTx w a S n) := by
  have ⟨o, _, _, _, ho, _⟩ := R
  exact ⟨R, ⟨o, ho⟩, fun h1 h2 p k => SetS.at p k⟩
theorem setTx_get {a : Addr} {S : Str → Bool} {n : Nat} (I : Inv X pins σ H s) (ha : H a = some (SetTx X.w a S n)) : SetS X.w s.heap a S n := (I.hok a _ ha).1
theorem setS_fresh {h : Heap} (w : World) : SetS w (h.push { cls := .type "set", dict := none, data := .set #[] 0 (.fresh 0 0 (!w.params.followText "set-order")) }) h.objs.size (fun _ => false) 0 :=
  ⟨_, #[], 0, _, Heap.get?_push_size _ rfl, ⟨rfl, rfl, rfl⟩, rfl, (fun e he => by simp at he), (by simp), (fun k => by simp), (by decide), (by rfl), rfl, List.Pairwise.nil, by
    show _ ∨ (!w.params.followText "set-order") = true
    cases w.params.followText "set-order"
    · exact .inr rfl
    · exact .inl rfl⟩
theorem addTx_ok {E : Value → Shared → Prop} {D : Addr} {S : Str → Bool} {n : Nat} {y : Str} {tk : Tok} {Q : Value → Shared → Prop} (I : Inv X pins σ H s) (hD : H D = some (SetTx X.w D S n)) (room : n + 1 < scanBound)
    (h : ∀ s', Inv X pins σ (upd H D (SetTx X.w D (fun j => S j || decide (j = y)) (if S y = true then n else n + 1))) s' → Q .none s') : wpAny (model X.prog X.w) X.A (call (.builtin "set.add") [.ref D, .str y tk]) Q E s := by
  refine setS_add (setTx_get I hD) room fun h' sb new => ?_
  have he : ∃ u, h'.get? D = some u := by
    have ⟨o, _, _, _, ho, _⟩ := new
    exact ⟨o, ho⟩
  exact h _ (I.write (e := D) (t' := s.toks + 1) (by rw [hD]; trivial) (.inl rfl) (fun b u hb hu => (sb.2 b hb).trans hu) he (setTx_new new))
end
/-- sorted of such a set -/
def rSortTx (w : World) : List V → Hp → VK → Prop := fun xs H Q => ∃ (a : Addr) (S : Str → Bool) (n : Nat), xs = [.ref a] ∧ H a = some (SetTx w a S n) ∧ ∀ (q : Addr) (ys : List Str), H q = none → ys.Nodup → (∀ k, k ∈ ys ↔ S k = true) → Q (.ref q) (upd H q (.lst ((dsort ys).map V.str)))
theorem strs_each {h : Heap} : ∀ {vs : List Value} {ks : List Str}, vs.map (fun v => match v with | .str x _ => x | _ => ⟨#[]⟩) = ks → (∀ v ∈ vs, ∃ k tk, v = Value.str k tk) → PySem.W.EachIs (fun v d => ∃ as, Reads h v d as) vs (ks.map en)
  | [], _, rfl, _ => .nil
  | v :: vs, _, rfl, hv => by
    obtain ⟨k, tk, rfl⟩ := hv v List.mem_cons_self
    exact .cons ⟨_, .str k tk⟩ (strs_each rfl fun u hu => hv u (List.mem_cons_of_mem _ hu))
theorem each_strs : ∀ {vs : List Value} {ks : List Str}, vs.map (fun v => match v with | .str x _ => x | _ => ⟨#[]⟩) = ks → (∀ v ∈ vs, ∃ k tk, v = Value.str k tk) → PySem.W.EachIs (fun u (y : Str) => ∃ tk, u = Value.str y tk) vs ks
  | [], _, rfl, _ => .nil
  | v :: vs, _, rfl, hv => by
    obtain ⟨k, tk, rfl⟩ := hv v List.mem_cons_self
    exact .cons ⟨tk, rfl⟩ (each_strs rfl fun u hu => hv u (List.mem_cons_of_mem _ hu))
theorem vals_strs : ∀ {us : List Value} {ys : List Str}, PySem.W.EachIs (fun u (y : Str) => ∃ tk, u = Value.str y tk) us ys → Vals (ys.map V.str) us
  | _, _, .nil => .nil
  | _, _, .cons ⟨tk, h⟩ t => .cons ⟨tk, h⟩ (vals_strs t)
theorem cr_sortTx {X : Cx} (hc : X.calm = true) (hu : X.A.units + 64 < cLine) : CallR X (.builtin "sorted") (rSortTx X.w) := by
  intro pins s σ H xs us Q I r h
  obtain ⟨a, S, n, rfl, ha, q⟩ := h
  obtain ⟨u, rfl, rx⟩ := vals1 r
  cases rx
  obtain ⟨o, es, ep, t, ho, hex, hd, g, nd, hm, hb, hf, hn, hr, hl⟩ := setTx_get I ha
  have hkey : ∀ vs : List Value, vs.Perm (es.toList.map (·.2)) → (∀ v ∈ vs, ∃ k tk, v = Value.str k tk) ∧ (vs.map (fun v => match v with | .str x _ => x | _ => ⟨#[]⟩)).Perm (es.toList.map keyS) := fun vs pm => by
    refine ⟨fun v hv => ?_, ?_⟩
    · obtain ⟨e, he, e2⟩ := List.mem_map.mp (pm.mem_iff.mp hv)
      obtain ⟨k, tk, h1, _⟩ := g e he
      exact ⟨k, tk, by rw [← e2]; exact h1⟩
    · have z := pm.map (fun v => match v with | Value.str x _ => x | _ => (⟨#[]⟩ : Str))
      rw [List.map_map] at z
      exact z
  have hlen : ∀ vs : List Value, vs.Perm (es.toList.map (·.2)) → vs.length ≤ sizeLine := fun vs pm => by
    rw [pm.length_eq, List.length_map, Array.length_toList]
    exact fits_of_scanBound hb
  refine K97S.sorted_colE (Pv := fun vs => vs.Perm (es.toList.map (·.2))) hlen (fun E' Q' hq => collect_set (A := X.A.in1) (I.ok.hd hc) ⟨o, ho, hex.1, hd⟩ hf hb hr hl fun s1 vs k1 hz g1 o1 pm => hq vs s1 pm k1 g1 o1)
    (fun vs s1 => PySem.W.dataKind s1.heap ((vs.map (fun v => match v with | .str x _ => x | _ => ⟨#[]⟩)).map en)) (fun vs s1 pm k => K97S.sortsAt2 (strs_each rfl (hkey vs pm).1) (PySem.W.AllAlike.of fun x y => Dt.al x y) ?_ fun d hd => ?_) fun vs s1 s2 s0 out c pm k1 k0 ho2 k2 g1 o1 g2 o2 hp => ?_
  · refine .inl (.inr fun d hd => ?_)
    obtain ⟨x, _, rfl⟩ := List.mem_map.mp hd
    exact ⟨by simp [en], by simp [en]⟩
  · obtain ⟨x, _, rfl⟩ := List.mem_map.mp hd
    show X.A.units + 1 + 1 + (PyData.str x).depth < cLine
    simp only [PyData.depth]
    omega
  · obtain ⟨p1, p2⟩ := hkey vs pm
    generalize hks : vs.map (fun v => match v with | Value.str x _ => x | _ => (⟨#[]⟩ : Str)) = ks at *
    have e2 := PySem.W.sortVals_data (R := fun u (y : Str) => ∃ tk, u = Value.str y tk) (enc := en) (bs := ks) (vs := vs) (h' := s0.heap) false (each_strs hks p1) ((each_strs hks p1).mono fun u y ⟨tk, e⟩ => ⟨_, by rw [e]; exact .str y tk⟩) (PySem.W.AllAlike.of fun x y => Dt.al x y)
    rw [← ho2] at e2
    have rys : Vals ((dsort ks).map V.str) out := vals_strs e2
    have I1 : Inv X pins σ H s1 := I.call' (ch := []) o1 (Un.kept k1) (I.hok.kept k1) (by rw [g1]; exact I.bare) (fun _ z => nomatch z)
    have hfr : H s1.heap.objs.size = none := I1.hok.fresh (Nat.le_refl _)
    have hy : ((dsort ks).map V.str).length ≤ sizeLine := by
      rw [rys.length, ho2, PySem.W.sortVals_length false rfl]
      exact hlen vs pm
    have I2 : Inv X pins σ (upd H s1.heap.objs.size (.lst ((dsort ks).map V.str))) s2 := I1.call' (ch := []) o2 (Un.laid k2 (Nat.le_refl _) hfr) (I1.hok.laid k2 (Nat.le_refl _) ⟨hy, out, c, rys, hp⟩) (by rw [g2]; exact I1.bare) (fun _ z => nomatch z)
    exact ⟨.ref s1.heap.objs.size, _, I2, rfl, q _ ks hfr (p2.nodup_iff.mpr nd) fun k => by rw [p2.mem_iff, ← hm k]⟩
end K97
set_option Elab.async false
set_option linter.all false
set_option maxRecDepth 100000
set_option maxHeartbeats 4000000
/-! K97: a set comprehension of texts with two clauses (turned from the hand layer's list comprehension with two). -/
namespace K97
open Dt (en)
open PySem PySem.Spec PyProof.Rows L2 PpSet
theorem sTurn2_out (elt t0 i0 t1 i1 : Expr) (ifs0 ifs1 : List Expr) (scope : Scope) (pos : Pos) (it acc : Value) (env : Env) :
    compTurn (.SetComp elt [⟨t0, i0, ifs0, 0⟩, ⟨t1, i1, ifs1, 0⟩] scope pos) 0 it acc env = (do
      standAt i0.pos
      match ← pyNext it with
      | none => pure (.done .next)
      | some v =>
        letOwnedTupleGo t0 it v
        assign t0 env v
        let mut ok := true
        for c in ifs0 do
          if ok then ok ← isTrue c env (eval c env)
        if ok then
          let x ← eval i1 env
          standAt i1.pos
          let x ← foldedSetIterable i1 env x
          let _ ← runOwn (.compStart (.SetComp elt [⟨t0, i0, ifs0, 0⟩, ⟨t1, i1, ifs1, 0⟩] scope pos) 1 (← holding [x] (pyIter x)) acc env) env
        again (.compLoop (.SetComp elt [⟨t0, i0, ifs0, 0⟩, ⟨t1, i1, ifs1, 0⟩] scope pos) 0 it acc env)) := by rfl
theorem sTurn2_in (elt t0 i0 t1 i1 : Expr) (ifs0 ifs1 : List Expr) (scope : Scope) (pos : Pos) (it acc : Value) (env : Env) :
    compTurn (.SetComp elt [⟨t0, i0, ifs0, 0⟩, ⟨t1, i1, ifs1, 0⟩] scope pos) 1 it acc env = (do
      standAt i1.pos
      match ← pyNext it with
      | none => pure (.done .next)
      | some v =>
        letOwnedTupleGo t1 it v
        assign t1 env v
        let mut ok := true
        for c in ifs1 do
          if ok then ok ← isTrue c env (eval c env)
        if ok then
          (do let v ← eval elt env; standAt elt.pos; let _ ← call (.builtin "set.add") [acc, v])
        again (.compLoop (.SetComp elt [⟨t0, i0, ifs0, 0⟩, ⟨t1, i1, ifs1, 0⟩] scope pos) 1 it acc env)) := by rfl

section
variable {prog : Program} {w : World} {A : Around} {R : Result → Shared → Prop} {s : Shared} {elt t0 i0 t1 i1 : Expr} {ifs0 ifs1 : List Expr} {scope : Scope} {pos : Pos} {it acc : Value} {env : Env}
theorem sLoop2_out (hs : ∀ x, foldedSetIterable i1 env x = pure x) (I : Nat → Shared → Prop)
    (turn : ∀ n s, I n s → wpAny (model prog w) A (pyNext it) (fun r s₁ => match r with
      | none => R (.ok .next) s₁
      | some v => wpAny (model prog w) A (letOwnedTupleGo t0 it v) (fun _ s₁' => wpAny (model prog w) A (assign t0 env v) (fun _ s₂ =>
          wpAny (model prog w) A (forIn ifs0 true fun c r => if r = true then do let ok ← isTrue c env (eval c env); pure (ForInStep.yield ok) else pure (ForInStep.yield r)) (fun ok s₃ =>
            if ok = true then wpAny (model prog w) A (eval i1 env) (fun x s₄ => wpAny (model prog w) A (pyIter x) (fun it1 s₅ =>
              codeAny (model prog w) A (.compStart (.SetComp elt [⟨t0, i0, ifs0, 0⟩, ⟨t1, i1, ifs1, 0⟩] scope pos) 1 it1 acc env) (fun r s' => match r with
                | .ok _ => ∃ m, m < n ∧ I m s'
                | .error _ => False) s₅) (notedBy (model prog w) A env fun e s' => R (.error e) s') s₄) (notedBy (model prog w) A env fun e s' => R (.error e) s') s₃
            else ∃ m, m < n ∧ I m s₃) (notedBy (model prog w) A env fun e s' => R (.error e) s') s₂) (notedBy (model prog w) A env fun e s' => R (.error e) s') s₁') (notedBy (model prog w) A env fun e s' => R (.error e) s') s₁) (notedBy (model prog w) A env fun e s' => R (.error e) s') s)
    (n : Nat) (h : I n s) :
    codeAny (model prog w) A (.compLoop (.SetComp elt [⟨t0, i0, ifs0, 0⟩, ⟨t1, i1, ifs1, 0⟩] scope pos) 0 it acc env) R s := by
  refine codeAny_loop rfl I (fun n s hI => ?_) n h
  show wpAny _ A ((compTurn (.SetComp elt [⟨t0, i0, ifs0, 0⟩, ⟨t1, i1, ifs1, 0⟩] scope pos) 0 it acc env).onRaise (fun x => do noteFrame x env; theTreesLotGoes x)) _ _ s
  refine wpAny_noted ?_
  rw [sTurn2_out]
  refine wpAny_bind (wpAny_standAt (wpAny_bind (wpAny_mono (turn n s hI) (fun r s₁ h₁ => ?_) fun _ _ h' => h')))
  cases r with
  | none => exact wpAny_pure h₁
  | some v =>
    refine wpAny_bind (wpAny_mono h₁ (fun _ s₁' h₁' => ?_) fun _ _ h' => h')
    refine wpAny_bind (wpAny_mono h₁' (fun _ s₂ h₂ => wpAny_bind (wpAny_mono h₂ (fun ok s₃ h₃ => ?_) fun _ _ h' => h')) fun _ _ h' => h')
    cases ok with
    | false => exact wpAny_pure ⟨rfl, h₃⟩
    | true =>
      refine wpAny_bind (wpAny_mono h₃ (fun x s₄ h₄ => ?_) fun _ _ h' => h')
      refine wpAny_bind (wpAny_standAt (wpAny_bind (wpAny_of_eq (hs x) (wpAny_bind (wpAny_holding (wpAny_mono h₄ (fun it1 s₅ h₅ => ?_) fun _ _ h' => h'))))))
      refine wpAny_bind (wpAny_runOwn ?_)
      rw [Around.mark_none]
      refine codeAny_mono h₅ fun r s' hr => ?_
      cases r with
      | ok f =>
        first
          | exact wpAny_pure ⟨rfl, hr⟩
          | exact wpAny_bind (wpAny_pure (wpAny_pure ⟨rfl, hr⟩))
      | error e => exact hr.elim
theorem sLoop2_in (I : Nat → Shared → Prop)
    (turn : ∀ n s, I n s → wpAny (model prog w) A (pyNext it) (fun r s₁ => match r with
      | none => R (.ok .next) s₁
      | some v => wpAny (model prog w) A (letOwnedTupleGo t1 it v) (fun _ s₁' => wpAny (model prog w) A (assign t1 env v) (fun _ s₂ =>
          wpAny (model prog w) A (forIn ifs1 true fun c r => if r = true then do let ok ← isTrue c env (eval c env); pure (ForInStep.yield ok) else pure (ForInStep.yield r)) (fun ok s₃ =>
            if ok = true then wpAny (model prog w) A (eval elt env) (fun x s₄ =>
              wpAny (model prog w) A (call (.builtin "set.add") [acc, x]) (fun _ s₅ => ∃ m, m < n ∧ I m s₅) (notedBy (model prog w) A env fun e s' => R (.error e) s') s₄) (notedBy (model prog w) A env fun e s' => R (.error e) s') s₃
            else ∃ m, m < n ∧ I m s₃) (notedBy (model prog w) A env fun e s' => R (.error e) s') s₂) (notedBy (model prog w) A env fun e s' => R (.error e) s') s₁') (notedBy (model prog w) A env fun e s' => R (.error e) s') s₁) (notedBy (model prog w) A env fun e s' => R (.error e) s') s)
    (n : Nat) (h : I n s) :
    codeAny (model prog w) A (.compLoop (.SetComp elt [⟨t0, i0, ifs0, 0⟩, ⟨t1, i1, ifs1, 0⟩] scope pos) 1 it acc env) R s := by
  refine codeAny_loop rfl I (fun n s hI => ?_) n h
  show wpAny _ A ((compTurn (.SetComp elt [⟨t0, i0, ifs0, 0⟩, ⟨t1, i1, ifs1, 0⟩] scope pos) 1 it acc env).onRaise (fun x => do noteFrame x env; theTreesLotGoes x)) _ _ s
  refine wpAny_noted ?_
  rw [sTurn2_in]
  refine wpAny_bind (wpAny_standAt (wpAny_bind (wpAny_mono (turn n s hI) (fun r s₁ h₁ => ?_) fun _ _ h' => h')))
  cases r with
  | none => exact wpAny_pure h₁
  | some v =>
    refine wpAny_bind (wpAny_mono h₁ (fun _ s₁' h₁' => ?_) fun _ _ h' => h')
    refine wpAny_bind (wpAny_mono h₁' (fun _ s₂ h₂ => wpAny_bind (wpAny_mono h₂ (fun ok s₃ h₃ => ?_) fun _ _ h' => h')) fun _ _ h' => h')
    cases ok with
    | false => exact wpAny_pure ⟨rfl, h₃⟩
    | true =>
      exact wpAny_bind (wpAny_bind (wpAny_mono h₃ (fun x s₄ h₄ => wpAny_bind (wpAny_standAt (wpAny_bind (wpAny_mono h₄ (fun _ s₅ h₅ => wpAny_pure (wpAny_pure ⟨rfl, h₅⟩)) fun _ _ h' => h')))) fun _ _ h' => h'))
theorem sStart1_ok (h0 : codeAny (model prog w) A (.compLoop (.SetComp elt [⟨t0, i0, ifs0, 0⟩, ⟨t1, i1, ifs1, 0⟩] scope pos) 1 it acc env) R s)
    (h : wpAny (model prog w) A (pyIter it) (fun it' s' => codeAny (model prog w) A (.compLoop (.SetComp elt [⟨t0, i0, ifs0, 0⟩, ⟨t1, i1, ifs1, 0⟩] scope pos) 1 it' acc env) R s')
      (notedBy (model prog w) A env fun x s' => R (.error x) s') s) :
    codeAny (model prog w) A (.compStart (.SetComp elt [⟨t0, i0, ifs0, 0⟩, ⟨t1, i1, ifs1, 0⟩] scope pos) 1 it acc env) R s := by
  refine codeAny_of_tree ?_
  show wpAny _ _ ((compStart (.SetComp elt [⟨t0, i0, ifs0, 0⟩, ⟨t1, i1, ifs1, 0⟩] scope pos) 1 it acc env).onRaise (fun x => do noteFrame x env; standAt theWindowsPlace)) _ _ s
  refine wpAny_notedAt ?_
  unfold compStart
  show wpAny _ _ (ask >>= _) _ _ s
  refine wpAny_bind (wpAny_askSetting (wpAny_ite ?_))
  split
  · first
      | exact wpAny_bind (wpAny_pure (wpAny_pure (And.intro rfl h0)))
      | exact wpAny_pure (And.intro rfl h0)
  · first
      | exact wpAny_bind (wpAny_rule (wpAny_bind (wpAny_standAt (wpAny_bind (wpAny_mono h (fun it' s' h' => wpAny_pure (And.intro rfl h')) fun _ _ x => x)))))
      | (refine wpAny_bind (wpAny_rule ?_); show wpAny _ _ (standAt i1.pos >>= _) _ _ s; exact wpAny_bind (wpAny_standAt (wpAny_bind (wpAny_mono h (fun it' s' h' => wpAny_pure (And.intro rfl h')) fun _ _ x => x))))
end

section
variable {X : Cx}
def tSc2 (w : World) (wi : TI) (g : TG) (tt : TT) (wi1 : TI) (g1 : TG) (tt1 : TT) (te : TE) (vs vs1 : List Nat) : TE := fun σ H Q => wi σ H fun J H1 => ∀ D, H1 D = none → ∃ W : Nat → Nat → Hp → Prop, (∃ m, W 0 m (upd H1 D (SetTx w D (fun _ => false) 0))) ∧ ∀ i m H, W i m H →
  (J.stop i H ∧ Q (.ref D) H) ∨ (J.go i H ∧ ∃ Nx : Hp → Prop, (∀ H', Nx H' → ∃ m', m' < m ∧ W (i + 1) m' H') ∧ ∀ x H', J.yld i H x H' → g x (wipe σ vs) H' fun σ2 H2 => wipe σ2 vs = wipe σ vs ∧ tt σ2 H2 fun b H3 =>
    if b = true then wi1 σ2 H3 fun J1 H4 => ∃ W1 : Nat → Nat → Hp → Prop, (∃ m, W1 0 m H4) ∧ ∀ j k H, W1 j k H →
      (J1.stop j H ∧ Nx H) ∨ (J1.go j H ∧ ∃ Nx1 : Hp → Prop, (∀ H', Nx1 H' → ∃ k', k' < k ∧ W1 (j + 1) k' H') ∧ ∀ x H', J1.yld j H x H' → g1 x (wipe σ2 vs1) H' fun σ3 H5 => wipe σ3 vs1 = wipe σ2 vs1 ∧ tt1 σ3 H5 fun b H6 =>
        if b = true then te σ3 H6 fun y H7 => ∃ (c : Str) (S : Str → Bool) (n : Nat), y = .str c ∧ H7 D = some (SetTx w D S n) ∧ n + 1 < scanBound ∧ Nx1 (upd H7 D (SetTx w D (fun j => S j || decide (j = c)) (if S c = true then n else n + 1))) else Nx1 H6)
    else Nx H3)
theorem sc2_core {pins : List (Addr × Obj)} {s : Shared} {σ : L2.St} {H : Hp} {Q : VK} {elt tg iter tg1 iter1 : Expr} {ifs ifs1 : List Expr} {scope : Scope} {own : List (PySem.Str × Nat)} {vs1 : List Nat} {pos pos' : Pos} {wi wi1 : TI} {g g1 : TG} {tt tt1 : TT} {te : TE} {use : Option (Value → Sem Unit)} {Qf : Value → Shared → Prop}
    (hc : X.calm = true) (hN : X.N.Nodup) (I : Inv X pins σ H s) (hi : PI X tg iter wi) (ok : BlkOk X.N X.env.scope scope own) (hv : ∀ i ∈ vs1, i ∈ own.map (·.2))
    (hg : ∀ (s : Shared) (H : Hp) (C : Addr) (cl : List (PySem.Str × Addr)) (fp : List Addr), PG (X.blk s H scope (compEnvC scope cl C X.env) fp) tg g) (ht : ∀ (s : Shared) (H : Hp) (C : Addr) (cl : List (PySem.Str × Addr)) (fp : List Addr), PTs (X.blk s H scope (compEnvC scope cl C X.env) fp) ifs tt)
    (he : ∀ (s : Shared) (H : Hp) (C : Addr) (cl : List (PySem.Str × Addr)) (fp : List Addr), PE (X.blk s H scope (compEnvC scope cl C X.env) fp) elt te) (hs : ∀ x, foldedSetIterable iter X.env x = pure x)
    (hi1 : ∀ (s : Shared) (H : Hp) (C : Addr) (cl : List (PySem.Str × Addr)) (fp : List Addr), PI (X.blk s H scope (compEnvC scope cl C X.env) fp) tg1 iter1 wi1)
    (hg1 : ∀ (s : Shared) (H : Hp) (C : Addr) (cl : List (PySem.Str × Addr)) (fp : List Addr), PG (X.blk s H scope (compEnvC scope cl C X.env) fp) tg1 g1)
    (ht1 : ∀ (s : Shared) (H : Hp) (C : Addr) (cl : List (PySem.Str × Addr)) (fp : List Addr), PTs (X.blk s H scope (compEnvC scope cl C X.env) fp) ifs1 tt1)
    (hs1 : ∀ env x, foldedSetIterable iter1 env x = pure x)
    (h : tSc2 X.w wi g tt wi1 g1 tt1 te (own.map (·.2)) vs1 σ H Q)
    (hRR : ∀ D C s' m H', Inv X pins σ H' s' → Q (.ref D) H' → s'.heap.Ns C m → FpOk X pins H' C → compPost (model X.prog X.w) X.A X.xe use Qf (.ref D) C (.ok .next) s') :
    wpAny (model X.prog X.w) X.A (comprehension (.SetComp elt [⟨tg, iter, ifs, 0⟩, ⟨tg1, iter1, ifs1, 0⟩] scope pos) scope X.env pos' (newSet (.type "set")) false (eval iter X.env) use) Qf X.xe s := by
  have hfree : ∀ y ∈ scope.names, y.2 = .free → ∃ c, X.env.cells.lookup y.1 = some c := fun y hy e => by
    rcases ok.free y hy e with k | k
    · exact I.ok.has _ (.inl k)
    · exact I.ok.has _ (.inr k)
  refine wpAny_comprehension_free (use := use) rfl hs (closure_ok hfree) ok.kind (fun y hy e => by rw [ok.uniq y hy, e])
    (thn (hi.run pins s σ H _ I h) fun xv s1 hx => thn hx fun itv s2 h2 => ?_)
  obtain ⟨it, fp, tn, J, H2, e, I2, T, st2, f2, q⟩ := h2
  subst e
  refine newSet_ok (newEnv_comp ?_)
  generalize hD : s2.heap.objs.size = D
  have hDn : H2 D = none := I2.hok.fresh (Nat.le_of_eq hD)
  obtain ⟨W, ⟨m0, w0⟩, turn⟩ := q D hDn
  generalize hs3 : ({ s2 with heap := s2.heap.push { cls := .type "set", dict := none, data := .set #[] 0 (.fresh 0 0 (!X.w.params.followText "set-order")) } } : Shared) = s3
  have I3 : Inv X pins σ (upd H2 D (SetTx X.w D (fun _ => false) 0)) s3 := by
    rw [← hs3]
    refine I2.laid (t' := s2.toks) (fun b o e => Heap.get?_push_of_some _ e) (Nat.le_of_eq hD) ?_
    rw [← hD]
    exact setTx_new (setS_fresh X.w)
  have h3 : s3.heap = s2.heap.push { cls := .type "set", dict := none, data := .set #[] 0 (.fresh 0 0 (!X.w.params.followText "set-order")) } := by rw [← hs3]
  have sz : ∀ b ∈ fp, b < s2.heap.objs.size := fun b hb => by
    obtain ⟨o, e, _⟩ := T.obj _ _ st2 b hb
    exact Heap.lt_size e
  have f3 : ∀ b ∈ fp, FpOk X pins (upd H2 D (SetTx X.w D (fun _ => false) 0)) b ∧ b < s3.heap.objs.size := fun b hb => by
    have hlt := sz b hb
    refine ⟨⟨?_, (f2 b hb).2⟩, by rw [h3, Heap.size_push]; exact Nat.lt_succ_of_lt hlt⟩
    rw [upd_ne (by rw [← hD]; exact Nat.ne_of_lt hlt)]
    exact (f2 b hb).1
  have st3 : tn 0 s3.heap := T.keep _ _ _ st2 fun b _ o e => by rw [h3]; exact Heap.get?_push_of_some _ e
  have I4 := block_start I3 ok hN f3
  have pg := hg s3 (upd H2 D (SetTx X.w D (fun _ => false) 0)) s3.heap.objs.size (cellsFrom (s3.heap.objs.size + 1) scope.names (cloFrom X.env.cells scope.names [])) fp
  have pt := ht s3 (upd H2 D (SetTx X.w D (fun _ => false) 0)) s3.heap.objs.size (cellsFrom (s3.heap.objs.size + 1) scope.names (cloFrom X.env.cells scope.names [])) fp
  have pe := he s3 (upd H2 D (SetTx X.w D (fun _ => false) 0)) s3.heap.objs.size (cellsFrom (s3.heap.objs.size + 1) scope.names (cloFrom X.env.cells scope.names [])) fp
  have pi1 := hi1 s3 (upd H2 D (SetTx X.w D (fun _ => false) 0)) s3.heap.objs.size (cellsFrom (s3.heap.objs.size + 1) scope.names (cloFrom X.env.cells scope.names [])) fp
  have pg1 := hg1 s3 (upd H2 D (SetTx X.w D (fun _ => false) 0)) s3.heap.objs.size (cellsFrom (s3.heap.objs.size + 1) scope.names (cloFrom X.env.cells scope.names [])) fp
  have pt1 := ht1 s3 (upd H2 D (SetTx X.w D (fun _ => false) 0)) s3.heap.objs.size (cellsFrom (s3.heap.objs.size + 1) scope.names (cloFrom X.env.cells scope.names [])) fp
  show codeAny _ _ (.compStart (.SetComp elt [⟨tg, iter, ifs, 0⟩, ⟨tg1, iter1, ifs1, 0⟩] scope pos) 0 (.ref it) (.ref D) (compEnvC scope (cellsFrom (s3.heap.objs.size + 1) scope.names (cloFrom X.env.cells scope.names [])) s3.heap.objs.size X.env)) (compPost (model X.prog X.w) X.A X.xe use Qf (.ref D) s3.heap.objs.size) { s3 with heap := pushCells (s3.heap.push { cls := .type "dict", data := .dict #[] }) scope.names }
  have nfp : ∀ b ∈ fp, (upd H2 D (SetTx X.w D (fun _ => false) 0)) b = none := fun b hb => (f3 b hb).1.1
  generalize hce : compEnvC scope (cellsFrom (s3.heap.objs.size + 1) scope.names (cloFrom X.env.cells scope.names [])) s3.heap.objs.size X.env = ce at I4 pg pt pe pi1 pg1 pt1 ⊢
  have cL : ce.locals = s3.heap.objs.size := by subst hce; rfl
  generalize hH3 : upd H2 D (SetTx X.w D (fun _ => false) 0) = H3 at I3 I4 pg pt pe pi1 pg1 pt1 w0 nfp f3
  generalize hs4 : ({ s3 with heap := pushCells (s3.heap.push { cls := .type "dict", data := .dict #[] }) scope.names } : Shared) = s4 at I4 ⊢
  have st4 : tn 0 s4.heap := T.keep _ _ _ st3 fun b _ o e => by rw [← hs4]; exact pushCells_keeps _ _ _ _ (Heap.get?_push_of_some _ e)
  have stat : ∀ {σ' : L2.St} {H' : Hp} {s' : Shared}, Inv (X.blk s3 H3 scope ce fp) [] σ' H' s' → (∀ b ∈ fp, H' b = none) → ∀ b ∈ fp, FpOk (X.blk s3 H3 scope ce fp) [] H' b := fun {σ' H' s'} I' hn b hb =>
    ⟨hn b hb, (I'.ok.exf b hb).1, I'.ok.exfs b hb, .inl hb, fun x c e => (I'.ok.exf b hb).2 x c e, fun p hp => absurd (show p ∈ ([] : List (Addr × Obj)) ++ [] from hp) (by simp)⟩
  have loop : codeAny (model X.prog X.w) X.A (.compLoop (.SetComp elt [⟨tg, iter, ifs, 0⟩, ⟨tg1, iter1, ifs1, 0⟩] scope pos) 0 (.ref it) (.ref D) ce) (compPost (model X.prog X.w) X.A X.xe use Qf (.ref D) s3.heap.objs.size) s4 := by
    refine sLoop2_out (hs1 ce) (fun n s' => ∃ i H', Inv (X.blk s3 H3 scope ce fp) [] (wipe σ (own.map (·.2))) H' s' ∧ tn i s'.heap ∧ (∀ b ∈ fp, H' b = none) ∧ W i n H') ?_ m0 ⟨0, H3, I4, st4, nfp, w0⟩
    rintro n s5 ⟨i, H5, I5, st5, n5, w5⟩
    rcases turn i n H5 w5 with ⟨stop, qq⟩ | ⟨go, Nx, hNx, step⟩
    · have td := T.done (X.blk s3 H3 scope ce fp) rfl rfl rfl hc i [] s5 _ H5 (fun _ _ => False) I5 (stat I5 n5) st5 stop
      refine thnF td fun r s6 ⟨hr, I6⟩ => ?_
      subst hr
      have I7 : Inv X pins σ H5 s6 := I3.call' (ch := fp) I6.os I6.base I6.hok I6.bare fun b hb => ⟨(f3 b hb).1.2.2.2.1, (f3 b hb).1.2.1, (f3 b hb).1.2.2.2.2.1, (f3 b hb).1.2.2.2.2.2⟩
      have nC : H5 s3.heap.objs.size = none := by
        have z : H5 ce.locals = none := I6.free
        rw [cL] at z
        exact z
      obtain ⟨m, hn, _⟩ := I6.loc
      have hn : s6.heap.Ns ce.locals m := hn
      rw [cL] at hn
      exact hRR D s3.heap.objs.size s6 m H5 I7 qq hn (I3.fpOk (Nat.le_refl _) nC)
    · have ti := T.item (X.blk s3 H3 scope ce fp) rfl rfl rfl hc i [] s5 _ H5 (fun _ _ => False) I5 (stat I5 n5) st5 go
      refine thnF ti fun r s6 ⟨u, hr, h6⟩ => ?_
      subst hr
      refine thnF h6 fun _ s7 ⟨x, H7, I7, r7, y7, st7, n7⟩ => ?_
      have I7' := I7.pinned (stat I7 n7) (T.obj _ _ st7)
      refine thnF (pg.run _ s7 _ H7 x u _ I7' r7 (step x H7 y7)) fun _ s8 ⟨σ8, H8, I8, hw8, q8⟩ => ?_
      refine thnF (pt.run _ s8 σ8 H8 _ I8 q8) fun b s9 ⟨H9, I9, q9⟩ => ?_
      have fin : ∀ {σ9 : L2.St} {s' : Shared} {H' : Hp}, Inv (X.blk s3 H3 scope ce fp) ([] ++ pinsAt fp s7.heap) σ9 H' s' → (wipe σ (own.map (·.2))).length = σ9.length → (∀ (j : Nat) v, (wipe σ (own.map (·.2)))[j]? = some (some v) → σ9[j]? = some (some v)) → Nx H' →
          ∃ m, m < n ∧ ∃ i H', Inv (X.blk s3 H3 scope ce fp) [] (wipe σ (own.map (·.2))) H' s' ∧ tn i s'.heap ∧ (∀ b ∈ fp, H' b = none) ∧ W i m H' := fun {σ9 s' H'} I' hl hk nx => by
        obtain ⟨m', hm, w'⟩ := hNx H' nx
        have pin' : ∀ b ∈ fp, ∀ o, s7.heap.get? b = some o → s'.heap.get? b = some o ∧ H' b = none := fun b hb o e =>
          let z := I'.pin (b, o) (List.mem_append_right _ (List.mem_append_right _ (mem_pinsAt hb e)))
          ⟨z.1, z.2.1⟩
        refine ⟨m', hm, i + 1, H', (I'.unpinned (pins := [])).weak hl hk, T.keep _ _ _ st7 fun b hb o e => (pin' b hb o e).1, fun b hb => ?_, w'⟩
        obtain ⟨o, e, _⟩ := T.obj _ _ st7 b hb
        exact (pin' b hb o e).2
      have hl8 : (wipe σ (own.map (·.2))).length = σ8.length := by rw [← hw8, wipe_length]
      have hk8 : ∀ (j : Nat) v, (wipe σ (own.map (·.2)))[j]? = some (some v) → σ8[j]? = some (some v) := fun j v e => by
        rw [← hw8] at e
        exact (wipe_some e).1
      have hk9 : ∀ (j : Nat) v, (wipe σ (own.map (·.2)))[j]? = some (some v) → (wipe σ8 vs1)[j]? = some (some v) := fun j v e => by
        rw [← hw8] at e
        obtain ⟨e1, e2⟩ := wipe_some e
        rw [wipe_out fun z => e2 (hv j z)]
        exact e1
      cases b with
      | false =>
        simp only [Bool.false_eq_true, if_false] at q9 ⊢
        exact fin I9 hl8 hk8 q9
      | true =>
        simp only [if_true] at q9 ⊢
        refine thnF (pi1.run _ s9 σ8 H9 _ I9 q9) fun xv s10 hx => thnF hx fun itv s11 h11 => ?_
        obtain ⟨it1, fp1, tn1, J1, H11, e1, I11, T1, st11, f11, W1, ⟨m1, w1⟩, turn1⟩ := h11
        subst e1
        have stat1 : ∀ {H' : Hp}, (∀ b ∈ fp1, H' b = none) → ∀ b ∈ fp1, FpOk (X.blk s3 H3 scope ce fp) ([] ++ pinsAt fp s7.heap) H' b := fun hn b hb => ⟨hn b hb, (f11 b hb).2⟩
        have loop1 : codeAny (model X.prog X.w) X.A (.compLoop (.SetComp elt [⟨tg, iter, ifs, 0⟩, ⟨tg1, iter1, ifs1, 0⟩] scope pos) 1 (.ref it1) (.ref D) ce)
            (fun r s' => match r with
              | .ok _ => ∃ m, m < n ∧ ∃ i H', Inv (X.blk s3 H3 scope ce fp) [] (wipe σ (own.map (·.2))) H' s' ∧ tn i s'.heap ∧ (∀ b ∈ fp, H' b = none) ∧ W i m H'
              | .error _ => False) s11 := by
          refine sLoop2_in (fun k s' => ∃ j H', Inv (X.blk s3 H3 scope ce fp) ([] ++ pinsAt fp s7.heap) (wipe σ8 vs1) H' s' ∧ tn1 j s'.heap ∧ (∀ b ∈ fp1, H' b = none) ∧ W1 j k H') ?_ m1 ⟨0, H11, I11.weak (wipe_length _ _) (fun j v e => (wipe_some e).1), st11, fun b hb => (f11 b hb).1, w1⟩
          rintro k s12 ⟨j, H12, I12, st12, n12, w12⟩
          rcases turn1 j k H12 w12 with ⟨stop1, nx1⟩ | ⟨go1, Nx1, hNx1, step1⟩
          · refine thnF (T1.done (X.blk s3 H3 scope ce fp) rfl rfl rfl hc j _ s12 (wipe σ8 vs1) H12 (fun _ _ => False) I12 (stat1 n12) st12 stop1) fun r s13 ⟨hr, I13⟩ => ?_
            subst hr
            exact fin I13 (hl8.trans (wipe_length σ8 vs1).symm) hk9 nx1
          · refine thnF (T1.item (X.blk s3 H3 scope ce fp) rfl rfl rfl hc j _ s12 (wipe σ8 vs1) H12 (fun _ _ => False) I12 (stat1 n12) st12 go1) fun r s13 ⟨u1, hr, h13⟩ => ?_
            subst hr
            refine thnF h13 fun _ s14 ⟨x1, H14, I14, r14, y14, st14, n14⟩ => ?_
            have I14' := I14.pinned (stat1 n14) (T1.obj _ _ st14)
            refine thnF (pg1.run _ s14 (wipe σ8 vs1) H14 x1 u1 _ I14' r14 (step1 x1 H14 y14)) fun _ s15 ⟨σ15, H15, I15, hw15, q15⟩ => ?_
            refine thnF (pt1.run _ s15 σ15 H15 _ I15 q15) fun b1 s16 ⟨H16, I16, q16⟩ => ?_
            have fin1 : ∀ {s' : Shared} {H' : Hp}, Inv (X.blk s3 H3 scope ce fp) (([] ++ pinsAt fp s7.heap) ++ pinsAt fp1 s14.heap) σ15 H' s' → Nx1 H' → ∃ m, m < k ∧ ∃ j H', Inv (X.blk s3 H3 scope ce fp) ([] ++ pinsAt fp s7.heap) (wipe σ8 vs1) H' s' ∧ tn1 j s'.heap ∧ (∀ b ∈ fp1, H' b = none) ∧ W1 j m H' := fun {s' H'} I' nx => by
              obtain ⟨m', hm, w'⟩ := hNx1 H' nx
              have pin' : ∀ b ∈ fp1, ∀ o, s14.heap.get? b = some o → s'.heap.get? b = some o ∧ H' b = none := fun b hb o e =>
                let z := I'.pin (b, o) (List.mem_append_right _ (List.mem_append_right _ (mem_pinsAt hb e)))
                ⟨z.1, z.2.1⟩
              refine ⟨m', hm, j + 1, H', I'.unpinned.weak (by rw [← hw15, wipe_length]) (fun j v e => by rw [← hw15] at e; exact (wipe_some e).1), T1.keep _ _ _ st14 fun b hb o e => (pin' b hb o e).1, fun b hb => ?_, w'⟩
              obtain ⟨o, e, _⟩ := T1.obj _ _ st14 b hb
              exact (pin' b hb o e).2
            cases b1 with
            | false =>
              simp only [Bool.false_eq_true, if_false] at q16 ⊢
              exact fin1 I16 q16
            | true =>
              simp only [if_true] at q16 ⊢
              refine thnF (pe.run _ s16 σ15 H16 _ I16 q16) fun z s17 ⟨yv, H17, I17, r17, cb, S0, n0, ey, hD17, hz17, nx⟩ => ?_
              subst ey
              obtain ⟨tk0, ez⟩ := (show ∃ t, z = Value.str cb t from r17)
              subst ez
              exact addTx_ok (X := X.blk s3 H3 scope ce fp) I17 hD17 hz17 fun s18 I18 => fin1 I18 nx
        exact sStart1_ok loop1 (T1.self X.A 0 _ _ _ st11 loop1)
  exact codeAny_compStart_set loop (T.self X.A 0 _ _ _ st4 loop)
theorem pe_sc2 {elt tg iter tg1 iter1 : Expr} {ifs ifs1 : List Expr} {scope : Scope} {own : List (PySem.Str × Nat)} {vs1 : List Nat} {pos : Pos} {wi wi1 : TI} {g g1 : TG} {tt tt1 : TT} {te : TE} (hc : X.calm = true) (hN : X.N.Nodup) (hi : PI X tg iter wi) (ok : BlkOk X.N X.env.scope scope own) (hv : ∀ i ∈ vs1, i ∈ own.map (·.2))
    (hg : ∀ (s : Shared) (H : Hp) (C : Addr) (cl : List (PySem.Str × Addr)) (fp : List Addr), PG (X.blk s H scope (compEnvC scope cl C X.env) fp) tg g) (ht : ∀ (s : Shared) (H : Hp) (C : Addr) (cl : List (PySem.Str × Addr)) (fp : List Addr), PTs (X.blk s H scope (compEnvC scope cl C X.env) fp) ifs tt)
    (hi1 : ∀ (s : Shared) (H : Hp) (C : Addr) (cl : List (PySem.Str × Addr)) (fp : List Addr), PI (X.blk s H scope (compEnvC scope cl C X.env) fp) tg1 iter1 wi1)
    (hg1 : ∀ (s : Shared) (H : Hp) (C : Addr) (cl : List (PySem.Str × Addr)) (fp : List Addr), PG (X.blk s H scope (compEnvC scope cl C X.env) fp) tg1 g1) (ht1 : ∀ (s : Shared) (H : Hp) (C : Addr) (cl : List (PySem.Str × Addr)) (fp : List Addr), PTs (X.blk s H scope (compEnvC scope cl C X.env) fp) ifs1 tt1)
    (he : ∀ (s : Shared) (H : Hp) (C : Addr) (cl : List (PySem.Str × Addr)) (fp : List Addr), PE (X.blk s H scope (compEnvC scope cl C X.env) fp) elt te) (hs : ∀ x, foldedSetIterable iter X.env x = pure x := by intro _; rfl) (hs1 : ∀ env x, foldedSetIterable iter1 env x = pure x := by intro _ _; rfl) :
    PE X (.SetComp elt [⟨tg, iter, ifs, 0⟩, ⟨tg1, iter1, ifs1, 0⟩] scope pos) (tSc2 X.w wi g tt wi1 g1 tt1 te (own.map (·.2)) vs1) := by
  refine ⟨fun pins s σ H Q I h => ?_⟩
  rw [eval_SetComp]
  refine sc2_core hc hN I hi ok hv hg ht he hs hi1 hg1 ht1 hs1 h fun D C s' m H' I' q hn f => ⟨m, hn, fun h'' sb => ?_⟩
  obtain ⟨f0, f1, f2, f3, f4, f5⟩ := f
  exact ⟨.ref D, H', I'.turned (t' := s'.toks) (fun b o hb e => (sb.2 b hb).trans e) f0 f1 f3 f4 f5, rfl, q⟩
end
end K97
set_option Elab.async false
set_option linter.all false
set_option maxRecDepth 100000
set_option maxHeartbeats 4000000
/-! K97: sorted({text for .. for ..}) over typed data. -/
namespace K97
open Dt (en)
open PySem L2
section
variable {X : Cx} (w : World) (hw : X.w = w)
include hw
theorem k_sortTx (hc : X.calm = true) (hu : X.A.units + 64 < cLine) : CallR X (.builtin "sorted") (rSortTx w) := hw ▸ cr_sortTx hc hu
theorem k_sc2 {elt tg iter tg1 iter1 : Expr} {ifs ifs1 : List Expr} {scope : Scope} {own : List (PySem.Str × Nat)} {vs1 : List Nat} {pos : Pos} {wi wi1 : TI} {g g1 : TG} {tt tt1 : TT} {te : TE} (hc : X.calm = true) (hN : X.N.Nodup) (hi : PI X tg iter wi) (ok : BlkOk X.N X.env.scope scope own) (hv : ∀ i ∈ vs1, i ∈ own.map (·.2))
    (hg : ∀ (s : Shared) (H : Hp) (C : Addr) (cl : List (PySem.Str × Addr)) (fp : List Addr), PG (X.blk s H scope (compEnvC scope cl C X.env) fp) tg g) (ht : ∀ (s : Shared) (H : Hp) (C : Addr) (cl : List (PySem.Str × Addr)) (fp : List Addr), PTs (X.blk s H scope (compEnvC scope cl C X.env) fp) ifs tt)
    (hi1 : ∀ (s : Shared) (H : Hp) (C : Addr) (cl : List (PySem.Str × Addr)) (fp : List Addr), PI (X.blk s H scope (compEnvC scope cl C X.env) fp) tg1 iter1 wi1)
    (hg1 : ∀ (s : Shared) (H : Hp) (C : Addr) (cl : List (PySem.Str × Addr)) (fp : List Addr), PG (X.blk s H scope (compEnvC scope cl C X.env) fp) tg1 g1) (ht1 : ∀ (s : Shared) (H : Hp) (C : Addr) (cl : List (PySem.Str × Addr)) (fp : List Addr), PTs (X.blk s H scope (compEnvC scope cl C X.env) fp) ifs1 tt1)
    (he : ∀ (s : Shared) (H : Hp) (C : Addr) (cl : List (PySem.Str × Addr)) (fp : List Addr), PE (X.blk s H scope (compEnvC scope cl C X.env) fp) elt te) (hs : ∀ x, foldedSetIterable iter X.env x = pure x := by intro _; rfl) (hs1 : ∀ env x, foldedSetIterable iter1 env x = pure x := by intro _ _; rfl) :
    PE X (.SetComp elt [⟨tg, iter, ifs, 0⟩, ⟨tg1, iter1, ifs1, 0⟩] scope pos) (tSc2 w wi g tt wi1 g1 tt1 te (own.map (·.2)) vs1) := hw ▸ pe_sc2 hc hN hi ok hv hg ht hi1 hg1 ht1 he hs hs1
end
section
variable {K : Fg} {F : Addr → Prop} {B : Hp} {Γ Γ' : En} {σ : L2.St} {H H' : Hp} {te : TE} {wi wi1 : TI} {g g1 : TG} {w : World}
theorem strs_rp {K : Fg} {H : Hp} : ∀ ys : List Str, RpAll K H (ys.map V.str) (ys.map en)
  | [] => .nil
  | y :: ys => .cons (.str y) (strs_rp ys)
theorem el_sortSet {pr pr1 : Bool} {α β : Type} {vs js vs1 js1 : List Nat} (enc : α → PyData) (enc1 : β → PyData) (xs : List α) (ys : α → List β) {f : β → Str} {Γ1 : α → En} {Γ2 : α → β → En} (zs : List Str) (hi : ItG pr K Γ wi (xs.map enc))
    (hg : ∀ x ∈ xs, TgG pr K (wipeE Γ vs) g (enc x) (Γ1 x) js) (hi1 : ∀ x ∈ xs, ItG pr1 K (Γ1 x) wi1 ((ys x).map enc1)) (hg1 : ∀ x ∈ xs, ∀ y ∈ ys x, TgG pr1 K (wipeE (Γ1 x) vs1) g1 (enc1 y) (Γ2 x y) js1) (he : ∀ x ∈ xs, ∀ y ∈ ys x, EvG K (Γ2 x y) te (en (f y)))
    (hz : xs.length ≤ 60) (hz1 : ∀ x ∈ xs, (ys x).length ≤ 60) (hv1 : ∀ x ∈ xs, NoMut (Γ1 x) vs1) (hzs : zs.Nodup) (hzm : ∀ k, k ∈ zs ↔ k ∈ (xs.flatMap ys).map f)
    (hv : NoMut Γ vs := by repeat (first | exact nm_nil | refine nm_cons rfl (by first | rfl | assumption) ?_)) (hj : ∀ j ∈ js, j ∈ vs := by decide) (hj1 : ∀ j ∈ js1, j ∈ vs1 := by decide) : EvL K Γ (tCB (rSortTx w) (tCons (tSc2 w wi g tYes wi1 g1 tYes te vs vs1) tNil)) ((dsort zs).map en) :=
  fun F B σ H E Q q => hi F B σ H E _ fun J H1 e1 dr D hD => by
    have E1 := E.ext e1
    have hxl : (xs.map enc).length = xs.length := List.length_map ..
    generalize hM : (fun a => (F a ∨ a = D) ∨ mu Γ σ a) = M
    have hMD : M D := by rw [← hM]; exact .inl (.inr rfl)
    have hB : B D = none := by
      cases z : B D with
      | none => rfl
      | some o => rw [E1.base _ _ z] at hD; cases hD
    have grow : ∀ {H' : Hp}, Ex H1 H' → Ex (frz F Γ σ H1) (cut M H') := fun e a o z => by
      obtain ⟨n, z⟩ := cut_some z
      refine cut_of (fun w => ?_) (e a o z)
      rw [← hM] at w
      rcases w with (w | w) | w
      · exact n (.inl w)
      · rw [w, hD] at z; cases z
      · exact n (.inr w)
    have exD : ∀ {Ha Hb : Hp}, Ex H1 Ha → (∀ a o, a ≠ D → Ha a = some o → Hb a = some o) → Ex H1 Hb := fun e k a o z => k a o (ne_of_none z hD) (e a o z)
    let Holds : List Str → Hp → Prop := fun pre H' => ∃ S n, H' D = some (SetTx w D S n) ∧ (∀ k, S k = true ↔ k ∈ pre) ∧ n ≤ pre.length
    refine ⟨fun i m H' => m = xs.length - i ∧ i ≤ xs.length ∧ Ex H1 H' ∧ Holds (((xs.take i).flatMap ys).map f) H', ⟨xs.length, by simp, Nat.zero_le _, Ex.new hD, _, 0, upd_same, fun k => by simp, Nat.zero_le _⟩, ?_⟩
    rintro i m H' ⟨rfl, hil, ex, S, n, hws, hS, hn⟩
    obtain ⟨d1, d2, d3⟩ := dr _ H' (grow ex)
    rw [hxl] at d1 d2
    by_cases hlt : i < xs.length
    · refine .inr ⟨d2 i hlt, fun H'' => Ex H1 H'' ∧ Holds (((xs.take (i + 1)).flatMap ys).map f) H'', fun H'' ⟨n1, n2⟩ => ⟨xs.length - (i + 1), by omega, rfl, hlt, n1, n2⟩, fun x0 H3 hy => ?_⟩
      have hx : xs[i] ∈ xs := List.getElem_mem hlt
      obtain ⟨e3, ry⟩ := d3 i (enc xs[i]) (by simp [hlt]) x0 H3 hy
      have E2 : EnvR K (fun a => F a ∨ a = D) B Γ σ H3 := E1.addF hD (ex.tr e3) (by rw [e3 _ _ hws]; simp)
      obtain ⟨E3, m3⟩ := E2.wipe hv
      refine hg _ hx _ B _ H3 x0 E3 (by rw [frz, m3, hM]; exact ry) _ fun σ2 E4 m4 hl2 ho2 => ⟨wipe_same hl2 hj ho2, ?_⟩
      have m5 : mu (Γ1 xs[i]) σ2 = mu Γ σ := m4.trans m3
      refine et_yes _ B σ2 H3 E4 _ fun H4 e4 => ?_
      rw [if_pos rfl]
      refine hi1 _ hx _ B σ2 H4 (E4.ext e4) _ fun J1 H5 e5 dr1 => ?_
      have E5 := (E4.ext e4).ext e5
      have e35 := (e3.tr e4).tr e5
      have hwl : ((xs.take i).flatMap ys).length ≤ i * 60 := by
        refine Nat.le_trans (flat_len (m := 60) fun x hx => hz1 x (List.mem_of_mem_take hx)) ?_
        rw [List.length_take]
        exact Nat.mul_le_mul_right _ (Nat.min_le_left ..)
      have hyl := hz1 _ hx
      refine ⟨fun j k H' => k = (ys xs[i]).length - j ∧ j ≤ (ys xs[i]).length ∧ (∀ a o, a ≠ D → H5 a = some o → H' a = some o) ∧ Holds (((xs.take i).flatMap ys ++ (ys xs[i]).take j).map f) H', ⟨(ys xs[i]).length, by simp, Nat.zero_le _, fun a o _ z => z, S, n, e35 _ _ hws, ?_, ?_⟩, ?_⟩
      · rw [List.take_zero, List.append_nil]
        exact hS
      · rw [List.take_zero, List.append_nil]
        exact hn
      rintro j k H6 ⟨rfl, hjl, kp, S1, n1, hus, hS1, hn1⟩
      have hF' : (F D ∨ D = D) := .inr rfl
      obtain ⟨b1, b2, b3⟩ := dr1 M H6 (by rw [frz, m5, hM]; exact cut_but hMD kp)
      rw [List.length_map] at b1 b2
      by_cases hjt : j < (ys xs[i]).length
      · refine .inr ⟨b2 j hjt, fun H' => (∀ a o, a ≠ D → H5 a = some o → H' a = some o) ∧ Holds (((xs.take i).flatMap ys ++ (ys xs[i]).take (j + 1)).map f) H', fun H'' ⟨n1, n2⟩ => ⟨(ys xs[i]).length - (j + 1), by omega, rfl, hjt, n1, n2⟩, fun y0 H7 hy1 => ?_⟩
        have hym : (ys xs[i])[j] ∈ ys xs[i] := List.getElem_mem hjt
        obtain ⟨e7, ry1⟩ := b3 j (enc1 (ys xs[i])[j]) (by simp [hjt]) y0 H7 hy1
        have E7 : EnvR K (fun a => F a ∨ a = D) B (Γ1 xs[i]) σ2 H7 := (E5.but hF' hB kp (by rw [hus]; simp)).ext e7
        obtain ⟨E8, m8⟩ := E7.wipe (hv1 _ hx)
        refine hg1 _ hx _ hym _ B _ H7 y0 E8 (by rw [frz, m8, m5, hM]; exact ry1) _ fun σ3 E9 m9 hl3 ho3 => ⟨wipe_same hl3 hj1 ho3, ?_⟩
        refine et_yes _ B σ3 H7 E9 _ fun H8 e8 => ?_
        rw [if_pos rfl]
        refine he _ hx _ hym _ B σ3 H8 (E9.ext e8) _ fun y H9 e9 r9 => ⟨f (ys xs[i])[j], S1, n1, Rp.strI r9, e9 _ _ (e8 _ _ (e7 _ _ hus)), ?_, fun a o hne z => ?_, _, _, upd_same, fun k => ?_, ?_⟩
        · refine Nat.lt_of_le_of_lt (Nat.succ_le_succ hn1) ?_
          rw [List.length_map, List.length_append, List.length_take]
          have : i * 60 ≤ 59 * 60 := Nat.mul_le_mul_right _ (by omega)
          unfold scanBound
          omega
        · rw [upd_ne hne]
          exact e9 _ _ (e8 _ _ (e7 _ _ (kp a o hne z)))
        · have e0 : (xs.take i).flatMap ys ++ (ys xs[i]).take (j + 1) = ((xs.take i).flatMap ys ++ (ys xs[i]).take j) ++ [(ys xs[i])[j]] := by rw [List.take_succ_eq_append_getElem hjt, List.append_assoc]
          rw [Bool.or_eq_true, decide_eq_true_eq, hS1, e0, List.map_append (l₁ := (xs.take i).flatMap ys ++ (ys xs[i]).take j), List.mem_append (s := List.map f ((xs.take i).flatMap ys ++ (ys xs[i]).take j))]
          exact or_congr Iff.rfl List.mem_singleton.symm
        · rw [List.take_succ_eq_append_getElem hjt, ← List.append_assoc, List.map_append, List.length_append, List.length_map, List.length_map]
          rw [List.length_map] at hn1
          show _ ≤ _ + 1
          split
          · omega
          · omega
      · have hje : j = (ys xs[i]).length := by omega
        subst hje
        refine .inl ⟨b1, exD (ex.tr e35) kp, S1, n1, hus, ?_, ?_⟩
        · rw [List.take_length] at hS1
          rw [flat_take hlt]
          exact hS1
        · rw [List.take_length] at hn1
          rw [flat_take hlt]
          exact hn1
    · have hie : i = xs.length := by omega
      subst hie
      refine .inl ⟨d1, D, S, n, rfl, hws, fun p ys' hp hyn hym => ?_⟩
      rw [List.take_length] at hS
      have hzz : dsort ys' = dsort zs := dsort_of_mem hyn hzs fun k => by rw [hym, hS, hzm]
      rw [hzz]
      exact newL (E1.ext ex) (e1.tr ex) (strs_rp _) q p hp
end
end K97
set_option Elab.async false
set_option linter.all false
set_option maxRecDepth 100000
set_option maxHeartbeats 4000000
/-! K97: expressions that draw from the box. -/
namespace K97
open Dt (en)
open PySem L2
/-- a value of data with P, the environment behind it told by P -/
def EvX (K : Fg) (Γ : En) (te : TE) (P : PyData → En → Prop) : Prop := ∀ (F : Addr → Prop) (B : Hp) (σ : L2.St) (H : Hp), EnvR K F B Γ σ H → ∀ Q : VK,
  (∀ d Γ' v H', P d Γ' → EnvR K F B Γ' σ H' → mu Γ' σ = mu Γ σ → Ex (frz F Γ σ H) (frz F Γ' σ H') → Rp K (frz F Γ' σ H') v d → Q v H') → te σ H Q
/-- a new list -/
def EvLX (K : Fg) (Γ : En) (te : TE) (P : List PyData → En → Prop) : Prop := ∀ (F : Addr → Prop) (B : Hp) (σ : L2.St) (H : Hp), EnvR K F B Γ σ H → ∀ Q : VK,
  (∀ ds Γ' p vs H', P ds Γ' → EnvR K (fun a => F a ∨ a = p) B Γ' σ H' → ¬ F p → B p = none → mu Γ' σ = mu Γ σ → Ex (frz F Γ σ H) (frz (fun a => F a ∨ a = p) Γ' σ H') → H' p = some (.lst vs) → RpAll K (frz (fun a => F a ∨ a = p) Γ' σ H') vs ds → Q (.ref p) H') → te σ H Q
def EtX (K : Fg) (Γ : En) (tt : TT) (P : Bool → En → Prop) : Prop := ∀ (F : Addr → Prop) (B : Hp) (σ : L2.St) (H : Hp), EnvR K F B Γ σ H → ∀ Q : Bool → Hp → Prop,
  (∀ b Γ' H', P b Γ' → EnvR K F B Γ' σ H' → mu Γ' σ = mu Γ σ → Ex (frz F Γ σ H) (frz F Γ' σ H') → Q b H') → tt σ H Q
def EaX (K : Fg) (Γ : En) (ta : TA) (P : List PyData → En → Prop) : Prop := ∀ (F : Addr → Prop) (B : Hp) (σ : L2.St) (H : Hp), EnvR K F B Γ σ H → ∀ Q : List V → Hp → Prop,
  (∀ ds Γ' vs H', P ds Γ' → EnvR K F B Γ' σ H' → mu Γ' σ = mu Γ σ → Ex (frz F Γ σ H) (frz F Γ' σ H') → RpAll K (frz F Γ' σ H') vs ds → Q vs H') → ta σ H Q
def ItX (pr : Bool) (K : Fg) (Γ : En) (wi : TI) (P : List PyData → En → Prop) : Prop := ∀ (F : Addr → Prop) (B : Hp) (σ : L2.St) (H : Hp), EnvR K F B Γ σ H → ∀ R : It → Hp → Prop,
  (∀ ds Γ' J H1, P ds Γ' → EnvR K F B Γ' σ H1 → mu Γ' σ = mu Γ σ → Ex (frz F Γ σ H) (frz F Γ' σ H1) → Drv pr K (frz F Γ' σ H1) J ds → R J H1) → wi σ H R
section
variable {K : Fg} {Γ Γ1 : En} {ta tb te tx : TE} {tt tu : TT} {t : TA} {d d' e : PyData} {ds es : List PyData} {a b : Bool} {P P' : PyData → En → Prop} {PL : List PyData → En → Prop} {PB : Bool → En → Prop} {F F' : Addr → Prop} {B H H' : Hp} {σ : L2.St}
theorem EnvR.less (E : EnvR K F' B Γ σ H) (h : ∀ a, F a → F' a) : EnvR K F B Γ σ H := by
  have l : Ex (frz F' Γ σ H) (frz F Γ σ H) := cut_less fun a w => w.elim (fun u => .inl (h a u)) .inr
  refine ⟨E.len, E.base, E.low, fun a w u => E.out a w (h a u), fun a w => E.fin a (h a w), fun i d q => ?_, fun i d q => ?_, fun i d q => ?_, E.bx, E.inj⟩
  · obtain ⟨v, a1, a2⟩ := E.im i d q
    exact ⟨v, a1, a2.up l⟩
  · obtain ⟨p, vs, a1, a2, a3⟩ := E.ac i d q
    exact ⟨p, vs, a1, a2, a3.up l⟩
  · obtain ⟨p, vs, a1, a2, a3⟩ := E.dc i d q
    exact ⟨p, vs, a1, a2, a3.up l⟩
theorem EvG.x (h : EvG K Γ te d) (hp : P d Γ) : EvX K Γ te P := fun F B σ H E Q q => h F B σ H E Q fun v H' e r => q d Γ v H' hp (E.ext e) rfl (cut_mono e) r
theorem EvL.x (h : EvL K Γ te ds) (hp : PL ds Γ) : EvLX K Γ te PL := fun F B σ H E Q q => h F B σ H E Q fun p vs H' hn e hl r => by
  have hB : B p = none := by
    cases w : B p with
    | none => rfl
    | some o => rw [E.base _ _ w] at hn; cases hn
  refine q ds Γ p vs H' hp (E.addF hn e (by rw [hl]; simp)) (fun w => E.fin p w hn) hB rfl (fun a o w => ?_) hl r
  obtain ⟨n1, n2⟩ := cut_some w
  refine cut_of (fun u => ?_) (e _ _ n2)
  rcases u with (u | u) | u
  · exact n1 (.inl u)
  · rw [u, hn] at n2; cases n2
  · exact n1 (.inr u)
theorem EtG.x (h : EtG K Γ tt b) (hp : PB b Γ) : EtX K Γ tt PB := fun F B σ H E Q q => h F B σ H E Q fun H' e => q b Γ H' hp (E.ext e) rfl (cut_mono e)
theorem EaG.x (h : EaG K Γ t ds) (hp : PL ds Γ) : EaX K Γ t PL := fun F B σ H E Q q => h F B σ H E Q fun vs H' e r => q ds Γ vs H' hp (E.ext e) rfl (cut_mono e) r
theorem ItG.x {pr : Bool} {wi : TI} (h : ItG pr K Γ wi ds) (hp : PL ds Γ) : ItX pr K Γ wi PL := fun F B σ H E R q => h F B σ H E R fun J H1 e dr => q ds Γ J H1 hp (E.ext e) rfl (cut_mono e) dr
theorem EvX.mono (h : EvX K Γ te P) (hp : ∀ d Γ', P d Γ' → P' d Γ') : EvX K Γ te P' := fun F B σ H E Q q => h F B σ H E Q fun d Γ' v H' p => q d Γ' v H' (hp _ _ p)
/-- the new list as data -/
theorem EvLX.g (h : EvLX K Γ te PL) (hp : ∀ ds Γ', PL ds Γ' → P (.list ds) Γ') : EvX K Γ te P := fun F B σ H E Q q => h F B σ H E Q fun ds Γ' p vs H' p1 E1 nF nB m x hl r => by
  have nmu : ¬ mu Γ' σ p := fun w => E1.out p w (.inr rfl)
  refine q _ Γ' _ H' (hp _ _ p1) (E1.less fun a w => .inl w) m (x.tr (cut_less fun a w => w.elim (fun u => .inl (.inl u)) .inr)) (.lst (.inl (.inl (cut_of (fun w => w.elim nF nmu) hl))) (r.up (cut_less fun a w => w.elim (fun u => .inl (.inl u)) .inr)))
/-- the data alone, as an environment -/
theorem EnvR.two {ds : List PyData} {vs : List V} (E : EnvR K F B Γ σ H) (r : RpAll K (frz F Γ σ H) vs ds) : EnvR K (fun a => F a ∨ mu Γ σ a) H (ds.map .im) (vs.map some) H ∧ ∀ H' : Hp, frz (fun a => F a ∨ mu Γ σ a) (ds.map .im) (vs.map some) H' = cut (fun a => F a ∨ mu Γ σ a) H' := by
  have nm : ∀ {i : Nat} {e : Ent}, (ds.map Ent.im)[i]? = some e → ∃ d, ds[i]? = some d ∧ e = .im d := fun {i e} h => by
    rw [List.getElem?_map] at h
    obtain ⟨d, h1, h2⟩ := Option.map_eq_some_iff.mp h
    exact ⟨d, h1, h2.symm⟩
  have hm : mu (ds.map Ent.im) (vs.map some) = fun _ => False := by
    funext a
    apply propext
    constructor
    · rintro ⟨i, e, h1, h2, _⟩
      obtain ⟨d, _, rfl⟩ := nm h1
      cases h2
    · exact False.elim
  have hf : ∀ H' : Hp, frz (fun a => F a ∨ mu Γ σ a) (ds.map .im) (vs.map some) H' = cut (fun a => F a ∨ mu Γ σ a) H' := fun H' => by
    rw [frz, hm]
    congr 1
    funext a
    simp
  refine ⟨⟨by rw [List.length_map, List.length_map, r.len], Ex.rfl' _, fun a w => ?_, fun a w => ?_, fun a w => ?_, fun i d q => ?_, fun i d q => ?_, fun i d q => ?_, fun i n q => ?_, fun i j e f a h1 _ h3 => ?_⟩, hf⟩
  · rw [hm] at w; exact w.elim
  · rw [hm] at w; exact w.elim
  · rcases w with w | w
    · exact E.fin a w
    · exact E.muIn w
  · obtain ⟨d', h1, h2⟩ := nm q
    cases h2
    obtain ⟨v, hv, rv⟩ := r.get h1
    refine ⟨v, by rw [List.getElem?_map, hv]; rfl, ?_⟩
    have := hf H
    rw [frz] at this
    rw [this]
    exact rv
  · obtain ⟨d', h1, h2⟩ := nm q
    cases h2
  · obtain ⟨d', h1, h2⟩ := nm q
    cases h2
  · obtain ⟨d', h1, h2⟩ := nm q
    cases h2
  · obtain ⟨d', h1, rfl⟩ := nm h1
    cases h3
/-- two operands -/
theorem x_op {r : R2} {P1 : PyData → En → Prop} (ha : EvX K Γ ta P1) (hb : ∀ d1 Γ1, P1 d1 Γ1 → EvX K Γ1 tb fun d2 Γ2 => ∃ d3, P d3 Γ2 ∧ EvG K [.im d1, .im d2] (tOp r (tVar 0) (tVar 1)) d3) : EvX K Γ (tOp r ta tb) P := fun F B σ H E Q q =>
  ha F B σ H E _ fun d1 Γ1 x H1 p1 E1 m1 x1 r1 => hb d1 Γ1 p1 F B σ H1 E1 _ fun d2 Γ2 y H2 ⟨d3, p3, h⟩ E2 m2 x2 r2 => by
    obtain ⟨E3, hf⟩ := E2.two (vs := [x, y]) (ds := [d1, d2]) (.cons (r1.up x2) (.one r2))
    obtain ⟨v, e1, w⟩ := h _ _ _ H2 E3 (fun v H' => Q v H') fun v H' e r3 => q d3 Γ2 v H' p3 (E2.ext e) (m2.trans m1) ((x1.tr x2).tr (cut_mono e)) (by
      rw [frz, ← hf H']
      exact r3)
    cases e1
    obtain ⟨v, e2, w⟩ := w
    cases e2
    exact w
/-- one operand, whatever is done with it -/
theorem x_cb {r : List V → Hp → VK → Prop} {P1 : PyData → En → Prop} (ha : EvX K Γ ta P1) (h : ∀ d1 Γ1, P1 d1 Γ1 → ∃ d3, P d3 Γ1 ∧ EvG K [.im d1] (tCB r (tCons (tVar 0) tNil)) d3) : EvX K Γ (tCB r (tCons ta tNil)) P := fun F B σ H E Q q =>
  ha F B σ H E _ fun d1 Γ1 x H1 p1 E1 m1 x1 r1 => by
    obtain ⟨d3, p3, h⟩ := h d1 Γ1 p1
    obtain ⟨E3, hf⟩ := E1.two (vs := [x]) (ds := [d1]) (.one r1)
    obtain ⟨v, e1, w⟩ := h _ _ _ H1 E3 (fun v H' => Q v H') fun v H' e r3 => q d3 Γ1 v H' p3 (E1.ext e) m1 (x1.tr (cut_mono e)) (by
      rw [frz, ← hf H']
      exact r3)
    cases e1
    exact w
/-- a new list from one operand -/
theorem x_cbL {r : List V → Hp → VK → Prop} {P1 : PyData → En → Prop} (ha : EvX K Γ ta P1) (h : ∀ d1 Γ1, P1 d1 Γ1 → ∃ ds, PL ds Γ1 ∧ EvL K [.im d1] (tCB r (tCons (tVar 0) tNil)) ds) : EvX K Γ (tCB r (tCons ta tNil)) (fun d Γ' => ∃ ds, d = .list ds ∧ PL ds Γ') :=
  x_cb ha fun d1 Γ1 p1 => by
    obtain ⟨ds, q1, q2⟩ := h d1 Γ1 p1
    exact ⟨.list ds, ⟨ds, rfl, q1⟩, q2.g⟩
/-- a def of ours, one operand -/
theorem x_call1 {R : List PyData → PyData → Prop} {E' : XK} {P1 : PyData → En → Prop} (ha : EvX K Γ ta P1) (h : ∀ d1 Γ1, P1 d1 Γ1 → ∃ d3, P d3 Γ1 ∧ R [d1] d3) : EvX K Γ (tCall (SpD K R) [] E' (tCons ta tNil)) P := fun F B σ H E Q q =>
  ha F B σ H E _ fun d1 Γ1 x H1 p1 E1 m1 x1 r1 => by
    obtain ⟨d3, p3, h⟩ := h d1 Γ1 p1
    refine ⟨fun a => F a ∨ mu Γ1 σ a, [d1], d3, fun a z => ?_, .one r1, h, fun v H2 e2 r2 => q d3 Γ1 v H2 p3 (E1.ext e2) m1 (x1.tr (cut_mono e2)) r2⟩
    rcases z with z | z
    · exact E1.fin a z
    · exact E1.muIn z
/-! arguments -/
theorem xa_nil (hp : PL [] Γ) : EaX K Γ tNil PL := ea_nil.x hp
theorem xa_cons {tr : TA} {P1 : PyData → En → Prop} (h : EvX K Γ ta P1) (g : ∀ d Γ1, P1 d Γ1 → EaX K Γ1 tr fun ds Γ2 => PL (d :: ds) Γ2) : EaX K Γ (tCons ta tr) PL := fun F B σ H E Q q => h F B σ H E _ fun d Γ1 v H1 p1 E1 m1 x1 r1 =>
  g d Γ1 p1 F B σ H1 E1 _ fun ds Γ2 vs H2 p2 E2 m2 x2 r2 => q _ Γ2 _ H2 p2 E2 (m2.trans m1) (x1.tr x2) (.cons (r1.up x2) r2)
theorem x_tup (h : EaX K Γ t PL) (hp : ∀ ds Γ', PL ds Γ' → ds.length ≤ 100000 ∧ P (.tuple ds) Γ') : EvX K Γ (tTupF t) P := fun F B σ H E Q q => h F B σ H E _ fun ds Γ1 vs H1 p1 E1 m1 x1 r1 => by
  obtain ⟨hl, p2⟩ := hp ds Γ1 p1
  exact ⟨by rw [r1.len]; exact size5 hl, newT E1 (Ex.rfl' _) r1 fun v H' e r => q _ Γ1 v H' p2 (E1.ext e) m1 (x1.tr (cut_mono e)) r⟩
/-! tests -/
theorem xt_test (h : EvX K Γ te fun d Γ' => ∃ b, d = .bool b ∧ PB b Γ') : EtX K Γ (tTest te) PB := fun F B σ H E Q q => h F B σ H E _ fun d Γ1 v H1 ⟨b, e, p1⟩ E1 m1 x1 r1 => by
  subst e
  exact ⟨b, r1.blI, q b Γ1 H1 p1 E1 m1 x1⟩
theorem xt_or (h : EtX K Γ tt fun b Γ' => (b = true → PB true Γ') ∧ (b = false → EtX K Γ' tu PB)) : EtX K Γ (tOr tt tu) PB := fun F B σ H E Q q => h F B σ H E _ fun b Γ1 H1 ⟨q1, q2⟩ E1 m1 x1 => by
  cases b with
  | true => exact q true Γ1 H1 (q1 rfl) E1 m1 x1
  | false =>
    rw [if_neg Bool.false_ne_true]
    exact q2 rfl F B σ H1 E1 Q fun b Γ2 H2 p2 E2 m2 x2 => q b Γ2 H2 p2 E2 (m2.trans m1) (x1.tr x2)
theorem xt_not (h : EtX K Γ tt fun b Γ' => PB (!b) Γ') : EtX K Γ (tNot tt) PB := fun F B σ H E Q q => h F B σ H E _ fun b Γ1 H1 p1 E1 m1 x1 => q (!b) Γ1 H1 p1 E1 m1 x1
theorem x_ifE (h : EtX K Γ tt fun b Γ' => (b = true → EvX K Γ' ta P) ∧ (b = false → EvX K Γ' tb P)) : EvX K Γ (tIf tt ta tb) P := fun F B σ H E Q q => h F B σ H E _ fun b Γ1 H1 ⟨q1, q2⟩ E1 m1 x1 => by
  cases b with
  | true =>
    rw [if_pos rfl]
    exact q1 rfl F B σ H1 E1 Q fun d Γ2 v H2 p2 E2 m2 x2 => q d Γ2 v H2 p2 E2 (m2.trans m1) (x1.tr x2)
  | false =>
    rw [if_neg Bool.false_ne_true]
    exact q2 rfl F B σ H1 E1 Q fun d Γ2 v H2 p2 E2 m2 x2 => q d Γ2 v H2 p2 E2 (m2.trans m1) (x1.tr x2)
/-! statements -/
variable {ts tu' : TS} {N : En → Prop} {R : PyData → En → Prop}
theorem sg_setX {i : Nat} (h : EvX K Γ te fun d Γ' => (∃ e, Γ'[i]? = some e ∧ e.mut = false) ∧ N (Γ'.set i (.im d))) : StG K Γ (tAsg te (gName i)) N R := fun F B D σ H E n r => h F B σ H E _ fun d Γ1 v H1 ⟨⟨e, hi, he⟩, hn⟩ E1 m1 x1 r1 => by
  have m2 := mu_set (σ := σ) (x := some v) (e' := .im d) hi he rfl
  refine n _ _ H1 hn (E1.put hi he rfl fun d' z => ⟨v, rfl, by cases z; exact r1⟩) ?_
  rw [frz, frz, m2]
  exact x1
theorem sg_retX (h : EvX K Γ te fun d Γ' => R d Γ') : StG K Γ (tRet te) N R := fun F B D σ H E n r => h F B σ H E _ fun d Γ1 v H1 p1 E1 m1 x1 r1 => r d Γ1 σ v H1 p1 E1 x1 (r1.up E1.less1)
theorem sg_dropX (h : EvX K Γ te fun _ Γ' => N Γ') : StG K Γ (tDrop te) N R := fun F B D σ H E n r => h F B σ H E _ fun d Γ1 v H1 p1 E1 m1 x1 r1 => n Γ1 σ H1 p1 E1 x1
theorem sg_ifX (h : EtX K Γ tt fun b Γ' => (b = true → StG K Γ' ts N R) ∧ (b = false → StG K Γ' tu' N R)) : StG K Γ (tIfS tt ts tu') N R := fun F B D σ H E n r => h F B σ H E _ fun b Γ1 H1 ⟨q1, q2⟩ E1 m1 x1 => by
  cases b with
  | true =>
    rw [if_pos rfl]
    exact q1 rfl F B D σ H1 E1 (fun Γ2 σ2 H2 a1 a2 a3 => n Γ2 σ2 H2 a1 a2 (x1.tr a3)) fun d Γ2 σ2 v H2 a1 a2 a3 => r d Γ2 σ2 v H2 a1 a2 (x1.tr a3)
  | false =>
    rw [if_neg Bool.false_ne_true]
    exact q2 rfl F B D σ H1 E1 (fun Γ2 σ2 H2 a1 a2 a3 => n Γ2 σ2 H2 a1 a2 (x1.tr a3)) fun d Γ2 σ2 v H2 a1 a2 a3 => r d Γ2 σ2 v H2 a1 a2 (x1.tr a3)
/-- a list that was others' becomes ours -/
theorem EnvR.own {p : Addr} {vs : List V} {j : Nat} {e : Ent} (E : EnvR K (fun a => F a ∨ a = p) B Γ σ H) (hF : ¬ F p) (hB : B p = none) (hj : Γ[j]? = some e) (he : e.mut = false) (hl : H p = some (.lst vs)) (r : RpAll K (frz (fun a => F a ∨ a = p) Γ σ H) vs ds) :
    EnvR K F B (Γ.set j (.ac ds)) (σ.set j (some (.ref p))) H ∧ frz F (Γ.set j (.ac ds)) (σ.set j (some (.ref p))) H = frz (fun a => F a ∨ a = p) Γ σ H := by
  have hm := mu_new (p := p) (e' := .ac ds) hj he rfl E.len
  have hjl : j < Γ.length := (List.getElem?_eq_some_iff.mp hj).1
  have hjs : j < σ.length := by rw [E.len]; exact hjl
  have hset : (fun a => F a ∨ (mu Γ σ a ∨ a = p)) = fun a => (F a ∨ a = p) ∨ mu Γ σ a := by
    funext a
    apply propext
    constructor
    · rintro (w | w | w)
      · exact .inl (.inl w)
      · exact .inr w
      · exact .inl (.inr w)
    · rintro ((w | w) | w)
      · exact .inl w
      · exact .inr (.inr w)
      · exact .inr (.inl w)
  have hf : frz F (Γ.set j (.ac ds)) (σ.set j (some (.ref p))) H = frz (fun a => F a ∨ a = p) Γ σ H := by rw [frz, frz, hm, hset]
  have hf' : cut (fun a => F a ∨ mu (Γ.set j (.ac ds)) (σ.set j (some (.ref p))) a) H = cut (fun a => (F a ∨ a = p) ∨ mu Γ σ a) H := hf
  have np : ∀ {i : Nat} {f : Ent} {a : Addr}, Γ[i]? = some f → f.mut = true → σ[i]? = some (some (.ref a)) → a ≠ p := fun h1 h2 h3 w => E.out _ ⟨_, _, h1, h2, h3⟩ (.inr w)
  have old : ∀ {i : Nat} {f : Ent}, (Γ.set j (.ac ds))[i]? = some f → i ≠ j → Γ[i]? = some f ∧ (σ.set j (some (V.ref p)))[i]? = σ[i]? := fun {i f} h n => by
    rw [List.getElem?_set_ne (Ne.symm n)] at h
    exact ⟨h, List.getElem?_set_ne (Ne.symm n)⟩
  have self : ∀ {f : Ent}, (Γ.set j (.ac ds))[j]? = some f → f = .ac ds := fun h => by
    rw [List.getElem?_set_self hjl] at h
    exact (Option.some.inj h).symm
  have selfS : (σ.set j (some (V.ref p)))[j]? = some (some (.ref p)) := List.getElem?_set_self hjs
  refine ⟨⟨by rw [List.length_set, List.length_set, E.len], E.base, fun a w => ?_, fun a w u => ?_, fun a w => E.fin a (.inl w), fun i d q => ?_, fun i d q => ?_, fun i d q => ?_, fun i n q => ?_, fun i k f g a h1 h2 h3 h4 h5 h6 => ?_⟩, hf⟩
  · rw [hm] at w
    rcases w with w | w
    · exact E.low a w
    · rw [w]; exact hB
  · rw [hm] at w
    rcases w with w | w
    · exact E.out a w (.inl u)
    · rw [w] at u; exact hF u
  · rw [hf']
    by_cases w : i = j
    · subst w
      cases self q
    · obtain ⟨q1, q2⟩ := old q w
      rw [q2]
      exact E.im i d q1
  · rw [hf']
    by_cases w : i = j
    · subst w
      cases self q
      exact ⟨p, vs, selfS, hl, r⟩
    · obtain ⟨q1, q2⟩ := old q w
      rw [q2]
      exact E.ac i d q1
  · rw [hf']
    by_cases w : i = j
    · subst w
      cases self q
    · obtain ⟨q1, q2⟩ := old q w
      rw [q2]
      exact E.dc i d q1
  · by_cases w : i = j
    · subst w
      cases self q
    · obtain ⟨q1, q2⟩ := old q w
      rw [q2]
      exact E.bx i n q1
  · by_cases w : i = j
    · by_cases w2 : k = j
      · rw [w, w2]
      · subst w
        obtain ⟨q1, q2⟩ := old h2 w2
        rw [q2] at h6
        rw [selfS] at h5
        cases h5
        exact absurd rfl (np q1 h4 h6)
    · obtain ⟨q1, q2⟩ := old h1 w
      rw [q2] at h5
      by_cases w2 : k = j
      · subst w2
        rw [selfS] at h6
        cases h6
        exact absurd rfl (np q1 h3 h5)
      · obtain ⟨q3, q4⟩ := old h2 w2
        rw [q4] at h6
        exact E.inj i k f g a q1 q3 h3 h4 h5 h6
theorem sg_setLX {i : Nat} (h : EvLX K Γ te fun ds Γ' => (∃ e, Γ'[i]? = some e ∧ e.mut = false) ∧ N (Γ'.set i (.ac ds))) : StG K Γ (tAsg te (gName i)) N R := fun F B D σ H E n r => h F B σ H E _ fun ds Γ1 p vs H1 ⟨⟨e, hi, he⟩, hn⟩ E1 nF nB m1 x1 hl r1 => by
  obtain ⟨E2, hf⟩ := E1.own nF nB hi he hl r1
  refine n _ _ H1 hn E2 ?_
  rw [hf]
  exact x1
/-- xs.append(e), e drawn -/
theorem sg_appX {i : Nat} (hi0 : ∃ f, Γ[i]? = some (.ac f)) (h : EvX K Γ te fun d Γ' => ∃ ds, Γ'[i]? = some (.ac ds) ∧ ds.length < 100000 ∧ N (Γ'.set i (.ac (ds ++ [d])))) : StG K Γ (tDrop (tBM K "list" rAppend (tVar i) (tCons te tNil))) N R := fun F B D σ H E n r => by
  obtain ⟨f, hf⟩ := hi0
  obtain ⟨p, vs, h1, h2, h3⟩ := E.ac i f hf
  refine ⟨.ref p, h1, .inl ⟨rfl, vs, .inl (.inl h2)⟩, h F B σ H E _ fun d Γ1 v H' ⟨ds, hi, hz, hn⟩ E' m1 x1 rv => ?_⟩
  obtain ⟨p', vs', a1, a2, a3⟩ := E'.ac i ds hi
  rw [h1] at a1
  cases a1
  obtain ⟨E2, m2, x2⟩ := E'.write (e' := .ac (ds ++ [d])) (o := .lst (vs' ++ [v])) hi h1 rfl rfl (fun ds' z => by cases z; exact ⟨_, rfl, a3.app (.one rv)⟩) (fun _ z => nomatch z) (fun _ z => nomatch z)
  exact ⟨p, vs', v, rfl, rfl, a2, by rw [a3.len]; exact mem_lim hz, n _ _ _ hn E2 (x1.tr x2)⟩
end
end K97
set_option Elab.async false
set_option linter.all false
set_option maxRecDepth 100000
set_option maxHeartbeats 4000000
/-! K97: defs that draw from the box. -/
namespace K97
open Dt (en)
open PySem L2
abbrev Bx := Addr × Int × Int × Int
/-- a box after at most n draws -/
def BxK (n : Nat) (b : Bx) : Prop := 0 ≤ b.2.1 ∧ 0 ≤ b.2.2.1 ∧ b.2.2.1 < 2305843009213693951 ∧ 0 ≤ b.2.2.2 ∧ b.2.2.2 ≤ n
theorem BxK.up {n m : Nat} {b : Bx} (h : BxK n b) (hm : n ≤ m) : BxK m b := ⟨h.1, h.2.1, h.2.2.1, h.2.2.2.1, by have := h.2.2.2.2; omega⟩
def bxV (b : Bx) : List V := [.int b.2.1, .int b.2.2.1, .int b.2.2.2]
/-- what a def that draws promises: behind it the box stands where it stood, with at most c draws more -/
def SpX (K : Fg) (Pre : List PyData → Prop) (R : List PyData → PyData → Prop) (c : List PyData → Nat) : Sp := fun vs H Q _ => ∃ (F : Addr → Prop) (b : Bx) (n : Nat) (ws : List V) (ds : List PyData), (∀ a, F a → H a ≠ none) ∧ ¬ F b.1 ∧ vs = .ref b.1 :: ws ∧ H b.1 = some (.lst (bxV b)) ∧ BxK n b ∧ n + c ds ≤ 1000000000 ∧ RpAll K (cut (fun a => F a ∨ a = b.1) H) ws ds ∧ Pre ds ∧
  ∀ (d : PyData) (v : V) (H' : Hp) (b' : Bx), R ds d → b'.1 = b.1 → BxK (n + c ds) b' → (∀ a o, a ≠ b.1 → H a = some o → H' a = some o) → H' b.1 = some (.lst (bxV b')) → Rp K (cut (fun a => F a ∨ a = b.1) H') v d → Q v H'
section
variable {K : Fg} {Γ Γ1 : En} {ta tb te tx : TE} {tt tu : TT} {t : TA} {d d' e : PyData} {ds es : List PyData} {a b : Bool} {P P' : PyData → En → Prop} {PL : List PyData → En → Prop} {PB : Bool → En → Prop} {F F' : Addr → Prop} {B H H' : Hp} {σ : L2.St}
theorem x_callB {Pre : List PyData → Prop} {R : List PyData → PyData → Prop} {c : List PyData → Nat} {E' : XK} {i : Nat} {b0 : Bx} (hi : Γ[i]? = some (.bx b0)) (h : EaX K Γ t fun ds Γ' => Pre ds ∧ ∃ b n, Γ'[i]? = some (.bx b) ∧ b.1 = b0.1 ∧ BxK n b ∧ n + c ds ≤ 1000000000 ∧ ∀ d b', R ds d → b'.1 = b0.1 → BxK (n + c ds) b' → P d (Γ'.set i (.bx b'))) : EvX K Γ (tCall (SpX K Pre R c) [] E' (tCons (tVar i) t)) P := fun F B σ H E Q q => by
  obtain ⟨p, vs, s1, s2, s3, s4⟩ := E.bx i b0 hi
  subst s3
  refine ⟨.ref b0.1, s1, h F B σ H E _ fun ds Γ1 ws H1 ⟨pre, b, n, hi1, hb, hbk, hn, fin⟩ E1 m1 x1 r1 => ?_⟩
  obtain ⟨p', vs', t1, t2, t3, t4⟩ := E1.bx i b hi1
  subst t3 t4
  have hmu : mu Γ1 σ b.1 := ⟨i, _, hi1, rfl, t1⟩
  have hset : (fun a => ((F a ∨ mu Γ1 σ a) ∧ a ≠ b.1) ∨ a = b.1) = fun a => F a ∨ mu Γ1 σ a := by
    funext a
    apply propext
    constructor
    · rintro (w | w)
      · exact w.1
      · rw [w]; exact .inr hmu
    · intro w
      by_cases z : a = b.1
      · exact .inr z
      · exact .inl ⟨w, z⟩
  show ∃ _, _
  refine ⟨fun a => (F a ∨ mu Γ1 σ a) ∧ a ≠ b.1, b, n, ws, ds, fun a w => ?_, fun w => w.2 rfl, by rw [List.append_nil, hb], t2, hbk, hn, by rw [hset]; exact r1, pre, fun d v H2 b' rd hb' hbk' kp hl rv => ?_⟩
  · rcases w.1 with w | w
    · exact E1.fin a w
    · exact E1.muIn w
  · rw [hset] at rv
    obtain ⟨E2, m2, x2⟩ := E1.write (e' := .bx b') (o := .lst (bxV b')) hi1 t1 rfl rfl (fun _ z => nomatch z) (fun _ z => nomatch z) (fun n' z => by cases z; exact ⟨_, rfl, hb'.symm, rfl⟩)
    have e3 : Ex (upd H1 b.1 (.lst (bxV b'))) H2 := fun a o w => by
      by_cases z : a = b.1
      · subst z
        rw [upd_same] at w
        cases w
        exact hl
      · rw [upd_ne z] at w
        exact kp a o z w
    have ef : frz F (Γ1.set i (.bx b')) σ H2 = cut (fun a => F a ∨ mu Γ1 σ a) H2 := by rw [frz, m2]
    refine q d _ v H2 (fin d b' rd (hb'.trans hb) hbk') (E2.ext e3) (m2.trans m1) (x1.tr (x2.tr (cut_mono e3))) ?_
    rw [ef]
    exact rv
/-- a box's number -/
theorem ev_bx {i : Nat} {b : Bx} {k : Nat} {j : Int} (hi : Γ[i]? = some (.bx b)) (hk : [b.2.1, b.2.2.1, b.2.2.2][k]? = some j) : EvG K Γ (tOp (rIx K) (tVar i) (tC (.int (k : Nat)))) (.int j) := fun F B σ H E Q q => by
  obtain ⟨p, vs, s1, s2, s3, s4⟩ := E.bx i b hi
  subst s4
  refine ⟨.ref p, s1, .inl ⟨p, _, (k : Nat), .int j, rfl, rfl, .inl (.inl s2), ?_, q _ H (Ex.rfl' H) (.int j)⟩⟩
  have hk3 : k < 3 := by
    have := (List.getElem?_eq_some_iff.mp hk).1
    simpa using this
  have h0 : (0 : Int) ≤ (k : Nat) := Int.natCast_nonneg k
  have h1 : ((k : Nat) : Int) < ((3 : Nat) : Int) := by omega
  show (ixN 3 (k : Nat)).bind _ = _
  unfold ixN
  rw [if_pos h0, if_pos h1]
  show [V.int b.2.1, .int b.2.2.1, .int b.2.2.2][k]? = _
  match k, hk3, hk with
  | 0, _, hk => cases hk; rfl
  | 1, _, hk => cases hk; rfl
  | 2, _, hk => cases hk; rfl
/-- a box's number is set -/
theorem sg_bxSet {i k : Nat} {b b' : Bx} {j : Int} {N : En → Prop} {R : PyData → En → Prop} (hi : Γ[i]? = some (.bx b)) (h : EvG K Γ te (.int j)) (hk : k < 3) (hb : b'.1 = b.1) (hv : bxV b' = (bxV b).set k (.int j)) (hn : N (Γ.set i (.bx b'))) : StG K Γ (tAsg te (gSub (tVar i) (tC (.int (k : Nat))) rSetL)) N R := fun F B D σ H E n r => h F B σ H E _ fun v H1 e rv => by
  have E1 := E.ext e
  obtain ⟨p, vs, s1, s2, s3, s4⟩ := E1.bx i b hi
  subst s4 s3
  cases rv
  obtain ⟨E2, m2, x2⟩ := E1.write (e' := .bx b') (o := .lst (bxV b')) hi s1 rfl rfl (fun _ z => nomatch z) (fun _ z => nomatch z) (fun n' z => by cases z; exact ⟨_, rfl, hb.symm, rfl⟩)
  refine ⟨.ref b.1, s1, b.1, _, (k : Nat), k, rfl, rfl, s2, ?_, ?_⟩
  · have h0 : (0 : Int) ≤ (k : Nat) := Int.natCast_nonneg k
    have h1 : ((k : Nat) : Int) < ((3 : Nat) : Int) := by omega
    show ixN 3 (k : Nat) = some k
    unfold ixN
    rw [if_pos h0, if_pos h1]
    rfl
  · have hv' : ([V.int b.2.1, .int b.2.2.1, .int b.2.2.2]).set k (V.int j) = bxV b' := hv.symm
    rw [hv']
    exact n _ σ _ hn E2 ((cut_mono e).tr x2)
/-! defs -/
def bxs (N : List Str) (b : Bx) (ds : List PyData) : En := .bx b :: (ds.map .im ++ List.replicate (N.length - 1 - ds.length) .no)
theorem envR_startB {N : List Str} {b : Bx} {ds : List PyData} {ws : List V} (hF : ∀ a, F a → H a ≠ none) (nF : ¬ F b.1) (hl : H b.1 = some (.lst (bxV b))) (r : RpAll K (cut (fun a => F a ∨ a = b.1) H) ws ds) (hN : ds.length + 1 ≤ N.length) : EnvR K F (cut (fun a => a = b.1) H) (bxs N b ds) (L2.start N (.ref b.1 :: ws)) H ∧ frz F (bxs N b ds) (L2.start N (.ref b.1 :: ws)) H = cut (fun a => F a ∨ a = b.1) H := by
  have hwl := r.len
  have hstart : L2.start N (.ref b.1 :: ws) = some (.ref b.1) :: (ws.map some ++ List.replicate (N.length - 1 - ws.length) none) := by
    unfold L2.start
    rw [List.map_cons, List.cons_append, List.length_cons]
    congr 2
    congr 1
    omega
  rw [hstart]
  have tail : ∀ {i : Nat} {f : Ent}, (ds.map Ent.im ++ List.replicate (N.length - 1 - ds.length) Ent.no)[i]? = some f → (∃ d, ds[i]? = some d ∧ f = .im d) ∨ f = .no := fun {i f} h => by
    rw [List.getElem?_append] at h
    by_cases w : i < (ds.map Ent.im).length
    · rw [if_pos w, List.getElem?_map] at h
      obtain ⟨d, h1, h2⟩ := Option.map_eq_some_iff.mp h
      exact .inl ⟨d, h1, h2.symm⟩
    · rw [if_neg w] at h
      exact .inr (List.eq_of_mem_replicate (List.mem_of_getElem? h))
  have hm : mu (bxs N b ds) (some (.ref b.1) :: (ws.map some ++ List.replicate (N.length - 1 - ws.length) none)) = fun a => a = b.1 := by
    funext a
    apply propext
    constructor
    · rintro ⟨i, f, h1, h2, h3⟩
      cases i with
      | zero =>
        cases h3
        rfl
      | succ i =>
        rcases tail h1 with ⟨d, _, rfl⟩ | rfl <;> cases h2
    · intro w
      subst w
      exact ⟨0, .bx b, rfl, rfl, rfl⟩
  have hf : ∀ H' : Hp, frz F (bxs N b ds) (some (.ref b.1) :: (ws.map some ++ List.replicate (N.length - 1 - ws.length) none)) H' = cut (fun a => F a ∨ a = b.1) H' := fun H' => by rw [frz, hm]
  refine ⟨⟨?_, cut_ex, fun a w => ?_, fun a w => ?_, hF, fun i d q => ?_, fun i d q => ?_, fun i d q => ?_, fun i n q => ?_, fun i j f g a h1 h2 h3 h4 h5 h6 => ?_⟩, hf H⟩
  · unfold bxs
    simp [hwl]
  · rw [hm] at w
    exact cut_in w
  · rw [hm] at w
    rw [w]
    exact nF
  · cases i with
    | zero => cases q
    | succ i =>
      rcases tail q with ⟨d', h1, h2⟩ | h2
      · cases h2
        obtain ⟨v, hv, rv⟩ := r.get h1
        refine ⟨v, ?_, ?_⟩
        · show (ws.map some ++ _)[i]? = _
          rw [List.getElem?_append_left (by rw [List.length_map]; exact (List.getElem?_eq_some_iff.mp hv).1), List.getElem?_map, hv]
          rfl
        · have := hf H
          rw [frz] at this
          rw [this]
          exact rv
      · cases h2
  · cases i with
    | zero => cases q
    | succ i => rcases tail q with ⟨d', _, h2⟩ | h2 <;> cases h2
  · cases i with
    | zero => cases q
    | succ i => rcases tail q with ⟨d', _, h2⟩ | h2 <;> cases h2
  · cases i with
    | zero =>
      cases q
      exact ⟨b.1, _, rfl, hl, rfl, rfl⟩
    | succ i => rcases tail q with ⟨d', _, h2⟩ | h2 <;> cases h2
  · cases i with
    | zero =>
      cases j with
      | zero => rfl
      | succ j => rcases tail h2 with ⟨d', _, h⟩ | h <;> (subst h; cases h4)
    | succ i => rcases tail h1 with ⟨d', _, h⟩ | h <;> (subst h; cases h3)
theorem has_box {P : Program} {w : World} {K : Fg} {mg : Str → Option Value} {base : Heap} {x : Str} {st : Stmt} {k : Nat} {N ps : List Str} {t : TS} {Pre : List PyData → Prop} {R : List PyData → PyData → Prop} {c : List PyData → Nat} (T : Txt1 K mg x st ps) (S : FnScope N ps (defScope st)) (hl : ∀ ds, Pre ds → ds.length + 1 = ps.length) (hN : ps.length ≤ N.length)
    (ph : ∀ (f : Addr) (cdv : Value) (A : Around) (outer : List Env) (s : Shared) (H : Hp) (E : XK), Room k (A.deeper (PyProof.Rows.envOfC x (defScope st) s.heap.objs.size f cdv)) → PSs (cxF P w K mg base N x st f cdv A outer s H E) (defBody st) t)
    (sem : ∀ ds b n, Pre ds → BxK n b → n + c ds ≤ 1000000000 → StG K (bxs N b ds) t (fun Γ' => R ds .none ∧ ∃ b', Γ'[0]? = some (.bx b') ∧ b'.1 = b.1 ∧ BxK (n + c ds) b') (fun d Γ' => R ds d ∧ ∃ b', Γ'[0]? = some (.bx b') ∧ b'.1 = b.1 ∧ BxK (n + c ds) b')) : Has P w K mg base x (k + 1) ps (SpX K Pre R c) := by
  obtain ⟨f, fd, hm, Fu, hb⟩ := T.ex
  refine ⟨f, fd, hm, Fu.kp, hb, Fu.ok S (fun vs H Q E h => ?_) fun cdv A outer s H vs Q E hr h => ?_⟩
  · obtain ⟨F, b, n, ws, ds, _, _, rfl, _, _, _, r, pre, _⟩ := h
    rw [List.length_cons, r.len]
    exact hl ds pre
  · obtain ⟨F, b, n, ws, ds, hF, nF, rfl, hp, hbk, hn, r, pre, q⟩ := h
    have hlen := hl ds pre
    obtain ⟨E0, f0⟩ := envR_startB (N := N) hF nF hp r (by omega)
    have keep : ∀ {H' : Hp}, Ex (cut (fun a => a = b.1) H) H' → ∀ a o, a ≠ b.1 → H a = some o → H' a = some o := fun e a o n w => e a o (cut_of n w)
    refine ⟨t, ph f cdv A outer s H E hr, sem ds b n pre hbk hn F _ _ _ H E0 (fun Γ' σ' H' ⟨rd, b', hb', e1, hk'⟩ E' x' => ?_) fun d Γ' σ' v H' ⟨rd, b', hb', e1, hk'⟩ E' x' rv => ?_⟩
    · obtain ⟨p', vs', s1, s2, s3, s4⟩ := E'.bx 0 b' hb'
      subst s3 s4
      refine q .none _ H' b' rd e1 hk' (keep E'.base) (e1 ▸ s2) .non
    · obtain ⟨p', vs', s1, s2, s3, s4⟩ := E'.bx 0 b' hb'
      subst s3 s4
      refine q d v H' b' rd e1 hk' (keep E'.base) (e1 ▸ s2) (rv.up (cut_less fun a z => z.elim .inl fun z => .inr ⟨0, b', hb', z.trans e1.symm⟩))
end
end K97
set_option Elab.async false
set_option linter.all false
set_option maxRecDepth 100000
set_option maxHeartbeats 4000000
/-! K97: comprehensions and loops that draw from the box. -/
namespace K97
open Dt (en)
open PySem L2
section
variable {K : Fg} {Γ Γ' Γ1 : En} {ta tb te tx : TE} {tt tu : TT} {t : TA} {d d' e : PyData} {ds es : List PyData} {a b : Bool} {P P' : PyData → En → Prop} {PL : List PyData → En → Prop} {PB : Bool → En → Prop} {F F' : Addr → Prop} {B H H' : Hp} {σ : L2.St}
/-- slots of which nothing is told may hold anything -/
theorem EnvR.unwipe {vs : List Nat} (E : EnvR K F B Γ (L2.wipe σ vs) H) (h : ∀ v ∈ vs, Γ[v]? = some .no) : EnvR K F B Γ σ H ∧ mu Γ σ = mu Γ (L2.wipe σ vs) := by
  have same : ∀ {i : Nat} {e : Ent}, Γ[i]? = some e → e ≠ .no → (L2.wipe σ vs)[i]? = σ[i]? := fun {i e} h1 h2 => by
    rw [wipe_get]
    by_cases w : i ∈ vs ∧ i < σ.length
    · rw [h i w.1] at h1
      cases h1
      exact absurd rfl h2
    · rw [if_neg w]
  have hm : mu Γ σ = mu Γ (L2.wipe σ vs) := by
    funext a
    apply propext
    constructor
    · rintro ⟨i, e, h1, h2, h3⟩
      exact ⟨i, e, h1, h2, by rw [same h1 (fun z => by rw [z] at h2; cases h2)]; exact h3⟩
    · rintro ⟨i, e, h1, h2, h3⟩
      exact ⟨i, e, h1, h2, by rw [← same h1 (fun z => by rw [z] at h2; cases h2)]; exact h3⟩
  refine ⟨⟨by have := E.len; rw [wipe_length] at this; exact this, E.base, by rw [hm]; exact E.low, by rw [hm]; exact E.out, E.fin, fun i d q => ?_, fun i d q => ?_, fun i d q => ?_, fun i n q => ?_, fun i j e f a h1 h2 h3 h4 h5 h6 => ?_⟩, hm⟩
  · rw [hm, ← same q (fun z => nomatch z)]
    exact E.im i d q
  · rw [hm, ← same q (fun z => nomatch z)]
    exact E.ac i d q
  · rw [hm, ← same q (fun z => nomatch z)]
    exact E.dc i d q
  · rw [← same q (fun z => nomatch z)]
    exact E.bx i n q
  · refine E.inj i j e f a h1 h2 h3 h4 ?_ ?_
    · rw [same h1 (fun z => by rw [z] at h3; cases h3)]
      exact h5
    · rw [same h2 (fun z => by rw [z] at h4; cases h4)]
      exact h6
theorem EnvR.upB {D : Addr} {o : HO} (E : EnvR K F B Γ σ H) (hF : F D) (hD : H D = some o) : EnvR K F (upd B D o) Γ σ H := by
  refine ⟨E.len, fun a u z => ?_, fun a w => ?_, E.out, E.fin, E.im, E.ac, E.dc, E.bx, E.inj⟩
  · by_cases n : a = D
    · subst n
      rw [upd_same] at z
      cases z
      exact hD
    · rw [upd_ne n] at z
      exact E.base a u z
  · rw [upd_ne fun n => E.out a w (by rw [n]; exact hF)]
    exact E.low a w
theorem EnvR.downB {B' : Hp} (E : EnvR K F B' Γ σ H) (h : Ex B B') : EnvR K F B Γ σ H := by
  refine ⟨E.len, h.tr E.base, fun a w => ?_, E.out, E.fin, E.im, E.ac, E.dc, E.bx, E.inj⟩
  cases z : B a with
  | none => rfl
  | some o =>
    have := h a o z
    rw [E.low a w] at this
    cases this
/-- a comprehension whose parts may draw: I i acc Γ before turn i -/
structure Lcx (pr : Bool) (K : Fg) (g : TG) (tt : TT) (te : TE) (vs : List Nat) (ds : List PyData) (Γ0 : En) (PL : List PyData → En → Prop) (I : Nat → List PyData → En → Prop) : Prop where
  hv : NoMut Γ0 vs
  wp : wipeE Γ0 vs = Γ0
  hz : ds.length ≤ 10000
  h0 : I 0 [] Γ0
  hs : ∀ i x acc Γi, ds[i]? = some x → I i acc Γi → acc.length ≤ i ∧ ∃ Γ2 js, TgG pr K Γi g x Γ2 js ∧ (∀ j ∈ js, j ∈ vs) ∧ EtX K Γ2 tt fun b Γ3 => (b = true → EvX K Γ3 te fun d Γ4 => NoMut Γ4 vs ∧ I (i + 1) (acc ++ [d]) (wipeE Γ4 vs)) ∧ (b = false → NoMut Γ3 vs ∧ I (i + 1) acc (wipeE Γ3 vs))
  hd : ∀ acc Γ', I ds.length acc Γ' → (∀ v ∈ vs, Γ'[v]? = some .no) ∧ PL acc Γ'
theorem el_lcX {pr : Bool} {wi : TI} {g : TG} {vs : List Nat} (hi : ItX pr K Γ wi fun ds Γ0 => ∃ I, Lcx pr K g tt te vs ds Γ0 PL I) : EvLX K Γ (tLc wi g tt te vs) PL :=
  fun F B σ H E Q q => hi F B σ H E _ fun ds Γ0 J H1 ⟨I, L⟩ E1 m1 x1 dr D hD => by
    have hB : B D = none := by
      cases z : B D with
      | none => rfl
      | some o => rw [E1.base _ _ z] at hD; cases hD
    have nF : ¬ F D := fun w => E1.fin D w hD
    obtain ⟨Ew, mw⟩ := E1.wipe L.hv
    rw [L.wp] at Ew mw
    have grow : ∀ {H' : Hp}, Ex (frz F Γ0 σ H1) (cut (fun a => (F a ∨ a = D) ∨ mu Γ0 σ a) (upd H1 D (.lst []))) := fun {H'} a o z => by
      obtain ⟨n, z⟩ := cut_some z
      refine cut_of (fun w => ?_) (by rw [upd_ne (ne_of_none z hD)]; exact z)
      rcases w with (w | w) | w
      · exact n (.inl w)
      · rw [w, hD] at z; cases z
      · exact n (.inr w)
    have Ed : EnvR K (fun a => F a ∨ a = D) B Γ0 (L2.wipe σ vs) (upd H1 D (.lst [])) := Ew.addF hD (Ex.new hD) (by rw [upd_same]; simp)
    let G0 := frz F Γ0 σ H1
    refine ⟨fun i m H' => m = ds.length - i ∧ i ≤ ds.length ∧ ∃ acc Γi ws, I i acc Γi ∧ EnvR K (fun a => F a ∨ a = D) B Γi (L2.wipe σ vs) H' ∧ mu Γi (L2.wipe σ vs) = mu Γ0 σ ∧ Ex (frz F Γ0 σ H1) (frz (fun a => F a ∨ a = D) Γi (L2.wipe σ vs) H') ∧ H' D = some (.lst ws) ∧ RpAll K (frz (fun a => F a ∨ a = D) Γi (L2.wipe σ vs) H') ws acc, ⟨ds.length, by simp, Nat.zero_le _, [], Γ0, [], L.h0, Ed, mw, by rw [frz, frz, mw]; exact grow (H' := H1), upd_same, .nil⟩, ?_⟩
    rintro i m H' ⟨rfl, hil, acc, Γi, ws, hI, Ei, mi, xi, hws, rws⟩
    obtain ⟨d1, d2, d3⟩ := dr _ H' xi
    by_cases hlt : i < ds.length
    · refine .inr ⟨d2 i hlt, fun H'' => ∃ acc Γi ws, I (i + 1) acc Γi ∧ EnvR K (fun a => F a ∨ a = D) B Γi (L2.wipe σ vs) H'' ∧ mu Γi (L2.wipe σ vs) = mu Γ0 σ ∧ Ex (frz F Γ0 σ H1) (frz (fun a => F a ∨ a = D) Γi (L2.wipe σ vs) H'') ∧ H'' D = some (.lst ws) ∧ RpAll K (frz (fun a => F a ∨ a = D) Γi (L2.wipe σ vs) H'') ws acc, fun H'' z => ⟨ds.length - (i + 1), by omega, rfl, hlt, z⟩, fun x0 H3 hy => ?_⟩
      have hdi : ds[i]? = some ds[i] := List.getElem?_eq_getElem hlt
      obtain ⟨e3, ry⟩ := d3 i _ hdi x0 H3 hy
      obtain ⟨hacc, Γ2, js, tg, hj, ht⟩ := L.hs i _ acc Γi hdi hI
      have E3 := Ei.ext e3
      refine tg _ B _ H3 x0 E3 ry _ fun σ2 E4 m4 hl2 ho2 => ?_
      have hwipe : L2.wipe σ2 vs = L2.wipe σ vs := by
        have w1 : L2.wipe (L2.wipe σ vs) vs = L2.wipe σ vs := by
          apply List.ext_getElem?
          intro k
          rw [wipe_get, wipe_length, wipe_get]
          by_cases z : k ∈ vs ∧ k < σ.length
          · rw [if_pos z, if_pos z]
          · rw [if_neg z, if_neg z]
        have w2 : L2.wipe σ2 vs = L2.wipe (L2.wipe σ vs) vs := wipe_same (by rw [hl2, wipe_length, wipe_length, wipe_length]) hj fun k hk => by rw [ho2 k hk, w1]
        rw [w2, w1]
      refine ⟨hwipe, ?_⟩
      have x3 : Ex (frz F Γ0 σ H1) (frz (fun a => F a ∨ a = D) Γ2 σ2 H3) := by
        refine xi.tr ?_
        rw [frz, frz, m4]
        exact cut_mono e3
      have r3 : RpAll K (frz (fun a => F a ∨ a = D) Γ2 σ2 H3) ws acc := by
        rw [frz, m4]
        exact rws.up (cut_mono e3)
      have hws3 := e3 _ _ hws
      have hBu : Ex B (upd B D (.lst ws)) := fun a o z => by rw [upd_ne (ne_of_none z hB)]; exact z
      have inD : ∀ {Γ' : En} {σ' : L2.St} {H' : Hp}, EnvR K (fun a => F a ∨ a = D) (upd B D (.lst ws)) Γ' σ' H' → H' D = some (.lst ws) := fun E' => E'.base D _ upd_same
      refine ht _ _ σ2 H3 (E4.upB (.inr rfl) hws3) _ fun b Γ3 H4 ⟨q1, q2⟩ E5 m5 x5 => ?_
      cases b with
      | false =>
        rw [if_neg Bool.false_ne_true]
        obtain ⟨nm, hI'⟩ := q2 rfl
        obtain ⟨E6, m6⟩ := (E5.downB hBu).wipe nm
        rw [hwipe] at E6 m6
        have ef : frz (fun a => F a ∨ a = D) (wipeE Γ3 vs) (L2.wipe σ vs) H4 = frz (fun a => F a ∨ a = D) Γ3 σ2 H4 := by rw [frz, frz, m6]
        refine ⟨acc, wipeE Γ3 vs, ws, hI', E6, m6.trans (m5.trans (m4.trans mi)), ?_, inD E5, ?_⟩
        · rw [ef]
          exact x3.tr x5
        · rw [ef]
          exact r3.up x5
      | true =>
        rw [if_pos rfl]
        refine q1 rfl _ _ σ2 H4 E5 _ fun d Γ4 y H5 ⟨nm, hI'⟩ E6 m6 x6 r6 => ⟨ws, inD E6, ?_, ?_⟩
        · rw [rws.len]
          have := L.hz
          exact Nat.lt_of_le_of_lt hacc (Nat.lt_of_lt_of_le (show i < 10001 by omega) (by decide))
        · have kp : ∀ a o, a ≠ D → H5 a = some o → (upd H5 D (.lst (ws ++ [y]))) a = some o := fun a o n z => by rw [upd_ne n]; exact z
          have E7 := (E6.downB hBu).but (.inr rfl) hB kp (by rw [upd_same]; simp)
          obtain ⟨E8, m8⟩ := E7.wipe nm
          rw [hwipe] at E8 m8
          have ck : Ex (frz (fun a => F a ∨ a = D) Γ4 σ2 H5) (frz (fun a => F a ∨ a = D) Γ4 σ2 (upd H5 D (.lst (ws ++ [y])))) := cut_but (.inl (.inr rfl)) kp
          have ef : frz (fun a => F a ∨ a = D) (wipeE Γ4 vs) (L2.wipe σ vs) (upd H5 D (.lst (ws ++ [y]))) = frz (fun a => F a ∨ a = D) Γ4 σ2 (upd H5 D (.lst (ws ++ [y]))) := by rw [frz, frz, m8]
          refine ⟨acc ++ [d], wipeE Γ4 vs, ws ++ [y], hI', E8, m8.trans (m6.trans (m5.trans (m4.trans mi))), ?_, upd_same, ?_⟩
          · rw [ef]
            exact ((x3.tr x5).tr x6).tr ck
          · rw [ef]
            exact (((r3.up x5).up x6).up ck).app (.one (r6.up ck))
    · have hie : i = ds.length := by omega
      subst hie
      obtain ⟨hno, hp⟩ := L.hd acc Γi hI
      obtain ⟨Ef, mf⟩ := Ei.unwipe hno
      have ef : ∀ H' : Hp, frz (fun a => F a ∨ a = D) Γi σ H' = frz (fun a => F a ∨ a = D) Γi (L2.wipe σ vs) H' := fun H' => by rw [frz, frz, mf]
      refine .inl ⟨d1, q acc Γi D ws H' hp Ef nF hB (mf.trans (mi.trans m1)) ?_ hws (by rw [ef]; exact rws)⟩
      rw [ef]
      exact x1.tr xi
variable {ts tu' : TS} {N : En → Prop} {R : PyData → En → Prop}
/-- a loop over what was drawn, then the rest -/
theorem sg_forX {pr : Bool} {wi : TI} {g : TG} (hi : ItX pr K Γ wi fun ds Γ0 => ∃ Iv : Nat → En → Prop, Iv 0 Γ0 ∧ (∀ i d Γ', ds[i]? = some d → Iv i Γ' → ∃ Γ2 js, TgG pr K Γ' g d Γ2 js ∧ StG K Γ2 ts (Iv (i + 1)) R) ∧ ∀ Γ', Iv ds.length Γ' → StG K Γ' tu' N R) : StG K Γ (tSeq (tFor wi g ts) tu') N R := fun F B D σ H E n r =>
  hi F B σ H E _ fun ds Γ0 J H1 ⟨Iv, i0, hs, hd⟩ E1 m1 x1 dr => by
    refine ⟨fun i m σ' H' => m = ds.length - i ∧ i ≤ ds.length ∧ ∃ Γ', Iv i Γ' ∧ EnvR K F B Γ' σ' H' ∧ Ex (frz F Γ0 σ H1) (frz F Γ' σ' H'), ⟨ds.length, by simp, Nat.zero_le _, Γ0, i0, E1, Ex.rfl' _⟩, ?_⟩
    rintro i m σ' H' ⟨rfl, hil, Γ', iv, E', x'⟩
    obtain ⟨d1, d2, d3⟩ := dr _ H' x'
    by_cases hlt : i < ds.length
    · refine .inr ⟨d2 i hlt, fun σ'' H'' => ∃ Γ'', Iv (i + 1) Γ'' ∧ EnvR K F B Γ'' σ'' H'' ∧ Ex (frz F Γ0 σ H1) (frz F Γ'' σ'' H''), fun σ'' H'' ⟨Γ'', q1, q2, q3⟩ => ⟨ds.length - (i + 1), by omega, rfl, hlt, Γ'', q1, q2, q3⟩, fun v H3 hy => ?_⟩
      have hdi : ds[i]? = some ds[i] := List.getElem?_eq_getElem hlt
      obtain ⟨e3, ry⟩ := d3 i _ hdi v H3 hy
      obtain ⟨Γ2, js, tg, st⟩ := hs i _ Γ' hdi iv
      refine tg F B σ' H3 v (E'.ext e3) ry _ fun σ2 E4 m4 _ _ => ?_
      have x4 : Ex (frz F Γ0 σ H1) (frz F Γ2 σ2 H3) := by
        refine x'.tr ?_
        rw [frz, frz, m4]
        exact cut_mono e3
      exact st F B _ σ2 H3 E4 (fun Γ5 σ5 H5 q E5 x5 => ⟨Γ5, q, E5, x4.tr x5⟩) fun d Γ5 σ5 v H5 q E5 x5 => r d Γ5 σ5 v H5 q E5 ((x1.tr x4).tr x5)
    · have hie : i = ds.length := by omega
      subst hie
      exact .inl ⟨d1, hd Γ' iv F B D σ' H' E' (fun Γ5 σ5 H5 q1 q2 q3 => n Γ5 σ5 H5 q1 q2 ((x1.tr x').tr q3)) fun d Γ5 σ5 v H5 q1 q2 q3 q4 => r d Γ5 σ5 v H5 q1 q2 ((x1.tr x').tr q3) q4⟩
/-! walks over what was drawn -/
theorem ix_lst (h : EvX K Γ te fun d Γ' => ∃ ds, d = .list ds ∧ PL ds Γ') : ItX false K Γ (iList K te) PL := fun F B σ H E R q => h F B σ H E _ fun d Γ1 v H1 ⟨ds, e, p1⟩ E1 m1 x1 r1 => by
  subst e
  cases r1 with
  | lst h1 h2 => exact ⟨_, rfl, ⟨_, cut_ex.l h1⟩, q ds Γ1 _ H1 p1 E1 m1 x1 (drv_lst h1 h2)⟩
theorem ix_tup (h : EvX K Γ te fun d Γ' => ∃ ds, d = .tuple ds ∧ PL ds Γ') : ItX false K Γ (iTup K te) PL := fun F B σ H E R q => h F B σ H E _ fun d Γ1 v H1 ⟨ds, e, p1⟩ E1 m1 x1 r1 => by
  subst e
  cases r1 with
  | tup h1 h2 => exact ⟨_, rfl, ⟨_, (h1.up cut_ex).sq⟩, q ds Γ1 _ H1 p1 E1 m1 x1 (drv_tup h1 h2)⟩
theorem ix_rng (h : EvX K Γ te fun d Γ' => ∃ n : Nat, d = .int n ∧ n ≤ 100000 ∧ PL ((List.range n).map fun (i : Nat) => PyData.int (i : Int)) Γ') : ItX false K Γ (iRng1 (tCons te tNil)) PL := fun F B σ H E R q => h F B σ H E _ fun d Γ1 v H1 ⟨n, e, hn, p1⟩ E1 m1 x1 r1 => by
  subst e
  obtain ⟨E3, hf⟩ := E1.two (vs := [v]) (ds := [.int n]) (.one r1)
  have h3 := it_rng (K := K) (Γ := [.im (.int n)]) (t := tCons (tVar 0) tNil) (ea_one (ev_var rfl)) hn _ _ _ H1 E3 (fun J H' => H' = H1 → R J H') fun J H' e dr z => by
    subst z
    refine q _ Γ1 J H' p1 E1 m1 x1 ?_
    have := hf H'
    show Drv false K (cut _ H') J _
    rw [← this]
    exact dr
  obtain ⟨w, e1, h3⟩ := h3
  cases e1
  obtain ⟨j, ej, a1, a2, h3⟩ := h3
  cases ej
  cases r1
  exact ⟨_, rfl, a1, a2, h3 rfl⟩
/-- xs[i], i drawn -/
theorem x_ixL (ha : EvG K Γ ta (.list ds)) (hb : EvX K Γ tb fun d Γ' => ∃ i : Nat, d = .int i ∧ i < ds.length ∧ ∀ x, ds[i]? = some x → P x Γ') : EvX K Γ (tOp (rIx K) ta tb) P := x_op (ha.x (P := fun d Γ' => d = .list ds ∧ Γ' = Γ) ⟨rfl, rfl⟩) fun d1 Γ1 ⟨e1, e2⟩ => by
  subst e1 e2
  refine hb.mono fun d2 Γ2 ⟨i, e, hi, hp⟩ => ?_
  subst e
  have hx : ds[i]? = some ds[i] := List.getElem?_eq_getElem hi
  refine ⟨ds[i], hp _ hx, ev_ixL (ev_var rfl).c (ev_var rfl) ?_⟩
  unfold L2.atI ixN
  rw [if_pos (Int.natCast_nonneg i), if_pos (by omega)]
  simpa using hx
theorem x_ixT (ha : EvG K Γ ta (.tuple ds)) (hb : EvX K Γ tb fun d Γ' => ∃ i : Nat, d = .int i ∧ i < ds.length ∧ ∀ x, ds[i]? = some x → P x Γ') : EvX K Γ (tOp (rIx K) ta tb) P := x_op (ha.x (P := fun d Γ' => d = .tuple ds ∧ Γ' = Γ) ⟨rfl, rfl⟩) fun d1 Γ1 ⟨e1, e2⟩ => by
  subst e1 e2
  refine hb.mono fun d2 Γ2 ⟨i, e, hi, hp⟩ => ?_
  subst e
  have hx : ds[i]? = some ds[i] := List.getElem?_eq_getElem hi
  refine ⟨ds[i], hp _ hx, ev_ixT (ev_var rfl).c (ev_var rfl) ?_⟩
  unfold L2.atI ixN
  rw [if_pos (Int.natCast_nonneg i), if_pos (by omega)]
  simpa using hx
theorem x_ixS {x : Str} (ha : EvG K Γ ta (.str x)) (hx0 : x.length ≤ 100000) (hb : EvX K Γ tb fun d Γ' => ∃ i : Nat, d = .int i ∧ i < x.cps.toList.length ∧ ∀ c, x.cps.toList[i]? = some c → P (.str ⟨#[c]⟩) Γ') : EvX K Γ (tOp (rIx K) ta tb) P := x_op (ha.x (P := fun d Γ' => d = .str x ∧ Γ' = Γ) ⟨rfl, rfl⟩) fun d1 Γ1 ⟨e1, e2⟩ => by
  subst e1 e2
  refine hb.mono fun d2 Γ2 ⟨i, e, hi, hp⟩ => ?_
  subst e
  have hx : x.cps.toList[i]? = some x.cps.toList[i] := List.getElem?_eq_getElem hi
  refine ⟨_, hp _ hx, ev_ixS (c := x.cps.toList[i]) (ev_var rfl) (ev_var rfl) hx0 ?_⟩
  unfold L2.atI ixN
  rw [if_pos (Int.natCast_nonneg i), if_pos (by omega)]
  simpa using hx
theorem xa_g {tr : TA} (h : EvG K Γ ta d) (g : EaX K Γ tr fun ds Γ2 => PL (d :: ds) Γ2) : EaX K Γ (tCons ta tr) PL := xa_cons (h.x (P := fun d' Γ' => d' = d ∧ Γ' = Γ) ⟨rfl, rfl⟩) fun d' Γ1 ⟨e1, e2⟩ => by
  subst e1 e2
  exact g
theorem xl_lst (h : EaX K Γ t fun ds Γ' => ds.length ≤ 100000 ∧ PL ds Γ') : EvLX K Γ (tLst t) PL := fun F B σ H E Q q => h F B σ H E _ fun ds Γ1 vs H1 ⟨hl, p1⟩ E1 m1 x1 r1 => by
  refine ⟨by rw [r1.len]; exact size5 hl, fun p hp => ?_⟩
  have hB : B p = none := by
    cases z : B p with
    | none => rfl
    | some o => rw [E1.base _ _ z] at hp; cases hp
  have gr : Ex (frz F Γ1 σ H1) (frz (fun a => F a ∨ a = p) Γ1 σ (upd H1 p (.lst vs))) := fun a o z => by
    obtain ⟨n, z⟩ := cut_some z
    refine cut_of (fun w => ?_) (by rw [upd_ne (ne_of_none z hp)]; exact z)
    rcases w with (w | w) | w
    · exact n (.inl w)
    · rw [w, hp] at z; cases z
    · exact n (.inr w)
  exact q ds Γ1 p vs _ p1 (E1.addF hp (Ex.new hp) (by rw [upd_same]; simp)) (fun w => E1.fin p w hp) hB m1 (x1.tr gr) upd_same (r1.up gr)
/-- a loop: what stands before each turn -/
theorem sg_forQ {pr : Bool} {wi : TI} {g : TG} {α : Type} (Γi : α → En) (I : Nat → α → Prop) (a0 : α) (hi : ItG pr K Γ wi ds) (w0 : Wk Γ (Γi a0)) (i0 : I 0 a0) (hs : ∀ i d a, ds[i]? = some d → I i a → ∃ Γ2 js, TgG pr K (Γi a) g d Γ2 js ∧ StG K Γ2 ts (fun Γ' => ∃ a', I (i + 1) a' ∧ Wk Γ' (Γi a')) R) (hd : ∀ a, I ds.length a → StG K (Γi a) tu' N R) : StG K Γ (tSeq (tFor wi g ts) tu') N R :=
  sg_seq (N1 := fun Γ' => ∃ a, I ds.length a ∧ Wk Γ' (Γi a)) (sg_for hi (fun i Γ' => ∃ a, I i a ∧ Wk Γ' (Γi a)) ⟨a0, i0, w0⟩ (fun i d Γ' hd ⟨a, hI, w⟩ => by
    obtain ⟨Γ2, js, h1, h2⟩ := hs i d a hd hI
    refine ⟨Γ2, js, fun F B σ H v E r Q q => ?_, h2⟩
    have e : frz F (Γi a) σ H = frz F Γ' σ H := by rw [frz, frz, w.mu]
    exact h1 F B σ H v (E.wk w) (by rw [e]; exact r) Q fun σ' q1 q2 q3 q4 => q σ' q1 (q2.trans w.mu) q3 q4) fun _ h => h) fun Γ' ⟨a, hI, w⟩ => sg_wk w (hd a hI)
theorem sg_forXQ {pr : Bool} {wi : TI} {g : TG} {α : Type} (hi : ItX pr K Γ wi fun ds Γ0 => ∃ (Γi : α → En) (I : Nat → α → Prop) (a0 : α), Wk Γ0 (Γi a0) ∧ I 0 a0 ∧ (∀ i d a, ds[i]? = some d → I i a → ∃ Γ2 js, TgG pr K (Γi a) g d Γ2 js ∧ StG K Γ2 ts (fun Γ' => ∃ a', I (i + 1) a' ∧ Wk Γ' (Γi a')) R) ∧ ∀ a, I ds.length a → StG K (Γi a) tu' N R) : StG K Γ (tSeq (tFor wi g ts) tu') N R :=
  sg_forX (fun F B σ H E R' q => hi F B σ H E R' fun ds Γ' J H1 ⟨Γi, I, a0, w0, i0, hs, hd⟩ => q ds Γ' J H1 ⟨fun i Γ' => ∃ a, I i a ∧ Wk Γ' (Γi a), ⟨a0, i0, w0⟩, fun i d Γ' hd ⟨a, hI, w⟩ => by
    obtain ⟨Γ2, js, h1, h2⟩ := hs i d a hd hI
    refine ⟨Γ2, js, fun F B σ H v E r Q q => ?_, h2⟩
    have e : frz F (Γi a) σ H = frz F Γ' σ H := by rw [frz, frz, w.mu]
    exact h1 F B σ H v (E.wk w) (by rw [e]; exact r) Q fun σ' q1 q2 q3 q4 => q σ' q1 (q2.trans w.mu) q3 q4, fun Γ' ⟨a, hI, w⟩ => sg_wk w (hd a hI)⟩)
end
end K97
set_option Elab.async false
set_option linter.all false
set_option maxRecDepth 100000
set_option maxHeartbeats 4000000
/-! K97: the law's draws. -/
namespace K97
open Dt (en)
open PySem L2
section
variable {P : Program} {w : World} {K : Fg} {mg : Str → Option Value} {base : Heap} {tk : Nat → Tok}
def Pre__law_take (ds : List PyData) : Prop := ∃ u : Int, ds = [.int u] ∧ 1 ≤ u ∧ u ≤ 1000000000
def R__law_take (ds : List PyData) (d : PyData) : Prop := ∃ (u : Int) (r : Nat), ds = [.int u] ∧ d = .int r ∧ (r : Int) < u
def c__law_take (_ : List PyData) : Nat := 1
theorem len__law_take (ds : List PyData) (h : Pre__law_take ds) : ds.length + 1 = 2 := by
  obtain ⟨u, rfl, _⟩ := h
  rfl
theorem nat_of {i u : Int} (h0 : 0 ≤ i) (h : i < u) : ∃ r : Nat, i = r ∧ (r : Int) < u := ⟨i.toNat, by omega, by omega⟩
def primes : List Int := [2147483629, 2147483587, 2147483579, 2147483563, 2147483549, 2147483543, 2147483497]
theorem primes_ok : ∀ p ∈ primes, 0 < p ∧ p < 2147483648 := by decide
theorem ok__law_take (T : Tx mg tk) (t : Txt1 K mg "_law_take" (topS 77) ["_law_box_here", "_law_upon"]) : Has P w K mg base "_law_take" 1 ["_law_box_here", "_law_upon"] (SpX K Pre__law_take R__law_take c__law_take) := by
  have sc : FnScope ["_law_box_here", "_law_upon", "_law_digit", "_law_prime", "_law_drawn"] ["_law_box_here", "_law_upon"] (defScope (topS 77)) := ⟨rfl, rfl, rfl, by decide +kernel, rfl, by decide +kernel, by decide +kernel⟩
  refine has_box t sc len__law_take (by decide) (fun f cdv A outer s H E hr => (pss_cons (ps_if (pt_cmpR (op_gt) (pe_ix (k_ix K rfl) (pv 0) pe_int (fun _ _ => rfl)) pe_int (nomark _))
   (pss_cons (ps_set (i := 2) sc.nd rfl (.inl rfl) (pe_op op_mod (pe_ix (k_ix K rfl) (pv 0) pe_int (fun _ _ => rfl)) (pv 1)))
  (pss_cons (ps_asg (pe_op op_fdiv (pe_ix (k_ix K rfl) (pv 0) pe_int (fun _ _ => rfl)) (pv 1)) (pg_sub (pv 0) pe_int set_list))
  (pss_one (ps_ret (pv 2)))))
   pss_nil)
  (pss_cons (ps_asg (pe_op op_add (pe_ix (k_ix K rfl) (pv 0) pe_int (fun _ _ => rfl)) pe_int) (pg_sub (pv 0) pe_int set_list))
  (pss_cons (ps_set (i := 3) sc.nd rfl (.inl rfl) (pe_ix (k_ix K rfl) (pe_lst (pa_cons pe_int (pa_cons pe_int (pa_cons pe_int (pa_cons pe_int (pa_cons pe_int (pa_cons pe_int (pa_cons pe_int pa_nil)))))))) (pe_op op_mod (pe_ix (k_ix K rfl) (pv 0) pe_int (fun _ _ => rfl)) pe_int) (fun _ _ => rfl)))
  (pss_cons (ps_set (i := 4) sc.nd rfl (.inl rfl) (pe_op op_mod (pe_op op_pow (pe_op op_add (pe_ix (k_ix K rfl) (pv 0) pe_int (fun _ _ => rfl)) (pe_op op_mul pe_int (pe_ix (k_ix K rfl) (pv 0) pe_int (fun _ _ => rfl)))) pe_int) (pv 3)))
  (pss_cons (ps_set (i := 4) sc.nd rfl (.inl rfl) (pe_op op_mod (pe_op op_mul (pv 4) (pe_op op_add (pe_op op_mod (pv 4) pe_int) (pe_ix (k_ix K rfl) (pv 0) pe_int (fun _ _ => rfl)))) (pv 3)))
  (pss_cons (ps_if (pt_cmpR (op_gt) (pv 1) (pe_op op_pow pe_int pe_int) (nomark _))
   (pss_one (ps_set (i := 4) sc.nd rfl (.inl rfl) (pe_op op_add (pe_op op_mul (pv 4) pe_int) (pe_op op_mod (pe_op op_add (pe_op op_mul (pe_ix (k_ix K rfl) (pv 0) pe_int (fun _ _ => rfl)) (pe_op op_add (pe_ix (k_ix K rfl) (pv 0) pe_int (fun _ _ => rfl)) pe_int)) (pe_op op_mul (pv 4) (pv 4))) pe_int))))
   pss_nil)
  (pss_one (ps_ret (pe_op op_mod (pe_op op_fdiv (pv 4) pe_int) (pv 1))))))))))) ?_
  rintro ds b n ⟨u, rfl, h1, h2⟩ ⟨k1, k2, k3, k4, k5⟩ hn
  obtain ⟨p, x, y, z⟩ := b
  have hn : n + 1 ≤ 1000000000 := hn
  have k1 : 0 ≤ x := k1
  have k2 : 0 ≤ y := k2
  have k3 : y < 2305843009213693951 := k3
  have k4 : 0 ≤ z := k4
  have k5 : z ≤ n := k5
  have bx0 : ∀ {Γ : En} {y z : Int}, Γ[0]? = some (.bx (p, x, y, z)) → EvG K Γ (tOp (rIx K) (tVar 0) (tC (.int 0))) (.int x) := fun h => ev_bx (k := 0) h rfl
  have bx1 : ∀ {Γ : En} {x z : Int}, Γ[0]? = some (.bx (p, x, y, z)) → EvG K Γ (tOp (rIx K) (tVar 0) (tC (.int 1))) (.int y) := fun h => ev_bx (k := 1) h rfl
  have bx2 : ∀ {Γ : En} {x y z : Int}, Γ[0]? = some (.bx (p, x, y, z)) → EvG K Γ (tOp (rIx K) (tVar 0) (tC (.int 2))) (.int z) := fun h => ev_bx (k := 2) h rfl
  show StG K [.bx (p, x, y, z), .im (.int u), .no, .no, .no] _ _ _
  by_cases hx : 0 < x
  · refine sg_end (sg_if (a := true) (et_test ((ev_I0 (bx0 rfl) ev_int fun H => .bl _).cast (by simp [hx]))) (fun _ => ?_) fun h => nomatch h)
    refine sg_then (sg_set (ev_I (bx0 rfl) (ev_var rfl) (by omega) fun H => .int _) rfl rfl rfl) ?_
    refine sg_then (sg_bxSet (k := 0) (b := (p, x, y, z)) (b' := (p, x / u, y, z)) rfl (ev_I (bx0 rfl) (ev_var rfl) ⟨by omega, by omega⟩ fun H => .int _) (by decide) rfl rfl rfl) ?_
    obtain ⟨r, hr, hru⟩ := nat_of (Int.emod_nonneg x (by omega : u ≠ 0)) (Int.emod_lt_of_pos x (by omega : 0 < u))
    exact sg_ret (ev_var rfl) ⟨⟨u, r, rfl, by rw [hr], hru⟩, (p, x / u, y, z), rfl, rfl, Int.ediv_nonneg k1 (by omega), k2, k3, k4, by show z ≤ ((n + 1 : Nat) : Int); omega⟩
  · refine sg_then (sg_if (a := false) (et_test ((ev_I0 (bx0 rfl) ev_int fun H => .bl _).cast (by simp [hx]))) (fun h => nomatch h) fun _ => sg_next rfl) ?_
    refine sg_then (sg_bxSet (k := 2) (b := (p, x, y, z)) (b' := (p, x, y, z + 1)) rfl (ev_I0 (bx2 rfl) ev_int fun H => .int _) (by decide) rfl rfl rfl) ?_
    obtain ⟨r7, hr7, hr7u⟩ := nat_of (Int.emod_nonneg (z + 1) (by omega : (7 : Int) ≠ 0)) (Int.emod_lt_of_pos (z + 1) (by omega : 0 < (7 : Int)))
    have hr7n : r7 < primes.length := by show r7 < 7; omega
    obtain ⟨q1, q2⟩ := primes_ok primes[r7] (List.getElem_mem hr7n)
    generalize hq : primes[r7] = q at *
    refine sg_then (sg_set (d := .int q) (ev_ixL (ds := primes.map .int) (i := r7) (el_lst (ea_cons ev_int (ea_cons ev_int (ea_cons ev_int (ea_cons ev_int (ea_cons ev_int (ea_cons ev_int (ea_one ev_int)))))))).c ((ev_I (bx2 rfl) ev_int (by omega) fun H => .int _).cast (by rw [hr7])) ?_) rfl rfl rfl) ?_
    · unfold L2.atI ixN
      rw [if_pos (Int.natCast_nonneg r7), if_pos (by rw [List.length_map]; omega)]
      show (primes.map PyData.int)[_]? = _
      rw [Int.toNat_natCast, List.getElem?_map, List.getElem?_eq_getElem hr7n, hq]
      rfl
    generalize hw : y + 7919 * (z + 1) = w1
    have hw1 : w1.natAbs < 2 ^ 64 := by omega
    refine sg_then (sg_set (d := .int (w1 ^ 3 % q)) (ev_I (ev_I ((ev_I0 (bx1 rfl) (ev_I ev_int (bx2 rfl) (.inl (by omega)) fun H => .int _) fun H => .int _).cast (by rw [hw])) ev_int ⟨by omega, by omega, hw1⟩ fun H => .int _) (ev_var rfl) q1 fun H => .int _) rfl rfl rfl) ?_
    obtain ⟨r1, hr1, hr1u⟩ := nat_of (Int.emod_nonneg (w1 ^ 3) (by omega : q ≠ 0)) (Int.emod_lt_of_pos (w1 ^ 3) q1)
    rw [hr1]
    refine sg_then (sg_set (d := .int (r1 * (r1 % 1009 + (z + 1)) % q)) (ev_I (ev_I (ev_var rfl) (ev_I0 (ev_I (ev_var rfl) ev_int (by omega) fun H => .int _) (bx2 rfl) fun H => .int _) (.inl (by omega)) fun H => .int _) (ev_var rfl) q1 fun H => .int _) rfl rfl rfl) ?_
    obtain ⟨r2, hr2, hr2u⟩ := nat_of (Int.emod_nonneg (r1 * (r1 % 1009 + (z + 1))) (by omega : q ≠ 0)) (Int.emod_lt_of_pos (r1 * (r1 % 1009 + (z + 1))) q1)
    rw [hr2]
    refine sg_seq (N1 := fun Γ' => ∃ m : Nat, Γ' = [.bx (p, x, y, z + 1), .im (.int u), .no, .im (.int q), .im (.int m)]) (sg_if (et_test (ev_I0 (ev_var rfl) (ev_I ev_int ev_int ⟨by decide, by decide, by decide⟩ fun H => .int _) fun H => .bl _)) (fun _ => ?_) fun _ => sg_next ⟨r2, rfl⟩) ?_
    · obtain ⟨r3, hr3, _⟩ := nat_of (Int.emod_nonneg (y * (z + 1 + 3) + r2 * r2) (by omega : (1000000007 : Int) ≠ 0)) (Int.emod_lt_of_pos (y * (z + 1 + 3) + r2 * r2) (by omega : 0 < (1000000007 : Int)))
      refine sg_set (d := .int (r2 * 1000000007 + r3)) ((ev_I0 (ev_I (ev_var rfl) ev_int (.inl (by omega)) fun H => .int _) (ev_I (ev_I0 (ev_I (bx1 rfl) (ev_I0 (bx2 rfl) ev_int fun H => .int _) (.inl (by omega)) fun H => .int _) (ev_I (ev_var rfl) (ev_var rfl) (.inl (by omega)) fun H => .int _) fun H => .int _) ev_int (by omega) fun H => .int _) fun H => .int _).cast (by rw [hr3])) rfl rfl ⟨r2 * 1000000007 + r3, by simp⟩
    · rintro _ ⟨m, rfl⟩
      obtain ⟨r, hr, hru⟩ := nat_of (Int.emod_nonneg ((m : Int) / 11) (by omega : u ≠ 0)) (Int.emod_lt_of_pos ((m : Int) / 11) (by omega : 0 < u))
      exact sg_ret ((ev_I (ev_I (ev_var rfl) ev_int ⟨by omega, by omega⟩ fun H => .int _) (ev_var rfl) (by omega) fun H => .int _).cast (by rw [hr])) ⟨⟨u, r, rfl, rfl, hru⟩, (p, x, y, z + 1), rfl, rfl, k1, k2, k3, by show 0 ≤ z + 1; omega, by show z + 1 ≤ ((n + 1 : Nat) : Int); omega⟩
theorem x_take {Γ : En} {tu : TE} {E' : XK} {i n : Nat} {u : Int} {b : Bx} {P : PyData → En → Prop} (hi : Γ[i]? = some (.bx b)) (hb : BxK n b) (hn : n + 1 ≤ 1000000000) (h : EvG K Γ tu (.int u)) (h1 : 1 ≤ u) (h2 : u ≤ 1000000000) (hp : ∀ (r : Nat) (b' : Bx), (r : Int) < u → b'.1 = b.1 → BxK (n + 1) b' → P (.int r) (Γ.set i (.bx b'))) : EvX K Γ (tCall (SpX K Pre__law_take R__law_take c__law_take) [] E' (tCons (tVar i) (tCons tu tNil))) P :=
  x_callB hi ((ea_one h).x ⟨⟨u, rfl, h1, h2⟩, b, n, hi, rfl, hb, hn, fun d b' ⟨u', r, e1, e2, e3⟩ hb' hk => by
    cases e1
    subst e2
    exact hp r b' e3 hb' hk⟩)
def elts : PyData → List PyData
  | .list ds => ds
  | .tuple ds => ds
  | .str x => x.cps.toList.map fun c => .str ⟨#[c]⟩
  | _ => []
def Pre__law_of (ds : List PyData) : Prop := ∃ s, ds = [s] ∧ elts s ≠ [] ∧ (elts s).length ≤ 1000
def R__law_of (ds : List PyData) (d : PyData) : Prop := ∃ s, ds = [s] ∧ d ∈ elts s
def c__law_of (_ : List PyData) : Nat := 1
theorem len__law_of (ds : List PyData) (h : Pre__law_of ds) : ds.length + 1 = 2 := by
  obtain ⟨u, rfl, _⟩ := h
  rfl
theorem ok__law_of (T : Tx mg tk) (t : Txt1 K mg "_law_of" (topS 78) ["_law_box_here", "_law_some"]) (h__law_take : Has P w K mg base "_law_take" 1 ["_law_box_here", "_law_upon"] (SpX K Pre__law_take R__law_take c__law_take)) : Has P w K mg base "_law_of" 2 ["_law_box_here", "_law_some"] (SpX K Pre__law_of R__law_of c__law_of) := by
  have sc : FnScope ["_law_box_here", "_law_some"] ["_law_box_here", "_law_some"] (defScope (topS 78)) := ⟨rfl, rfl, rfl, by decide +kernel, rfl, by decide +kernel, by decide +kernel⟩
  refine has_box t sc len__law_of (by decide) (fun f cdv A outer s H E hr => (pss_one (ps_ret (pe_ix (k_ix K rfl) (pv 1) (pe_has (h__law_take.up (by decide)) hr (by rfl) (pa_cons (pv 0) (pa_cons (pe_callB (k_len K rfl) (by rfl) T.b_len (by decide +kernel) (pa_cons (pv 1) pa_nil)) pa_nil))) (fun _ _ => rfl))))) ?_
  rintro ds b n ⟨s, rfl, h1, h2⟩ hb hn
  have hn : n + 1 ≤ 1000000000 := hn
  have h0 := List.length_pos_iff.mpr h1
  show StG K [.bx b, .im s] _ _ _
  cases s with
  | list ds =>
    have h0 : 0 < ds.length := h0
    have h2 : ds.length ≤ 1000 := h2
    exact sg_retX (x_ixL (ev_var rfl) (x_take rfl hb hn (ev_lenL (ev_var rfl).c) (by omega) (by omega) fun r b' hr e k => ⟨r, rfl, by omega, fun x hx => ⟨⟨_, rfl, List.mem_of_getElem? hx⟩, b', rfl, e, k⟩⟩))
  | tuple ds =>
    have h0 : 0 < ds.length := h0
    have h2 : ds.length ≤ 1000 := h2
    exact sg_retX (x_ixT (ev_var rfl) (x_take rfl hb hn (ev_lenT (ev_var rfl).c) (by omega) (by omega) fun r b' hr e k => ⟨r, rfl, by omega, fun x hx => ⟨⟨_, rfl, List.mem_of_getElem? hx⟩, b', rfl, e, k⟩⟩))
  | str x =>
    have e0 : (elts (.str x)).length = x.length := by
      show (x.cps.toList.map _).length = _
      rw [List.length_map]
      rfl
    rw [e0] at h0 h2
    exact sg_retX (x_ixS (ev_var rfl) (by omega) (x_take rfl hb hn (ev_lenS (ev_var rfl) (by omega)) (by omega) (by omega) fun r b' hr e k => ⟨r, rfl, by show r < x.length; omega, fun c hc => ⟨⟨_, rfl, List.mem_map.mpr ⟨c, List.mem_of_getElem? hc, rfl⟩⟩, b', rfl, e, k⟩⟩))
  | none => exact absurd rfl h1
  | bool _ => exact absurd rfl h1
  | int _ => exact absurd rfl h1
  | dict _ => exact absurd rfl h1
theorem x_of {Γ : En} {tu : TE} {E' : XK} {i n : Nat} {s : PyData} {b : Bx} {P : PyData → En → Prop} (hi : Γ[i]? = some (.bx b)) (hb : BxK n b) (hn : n + 1 ≤ 1000000000) (h : EvG K Γ tu s) (h1 : elts s ≠ []) (h2 : (elts s).length ≤ 1000) (hp : ∀ (d : PyData) (b' : Bx), d ∈ elts s → b'.1 = b.1 → BxK (n + 1) b' → P d (Γ.set i (.bx b'))) : EvX K Γ (tCall (SpX K Pre__law_of R__law_of c__law_of) [] E' (tCons (tVar i) (tCons tu tNil))) P :=
  x_callB hi ((ea_one h).x ⟨⟨s, rfl, h1, h2⟩, b, n, hi, rfl, hb, hn, fun d b' ⟨s', e1, e3⟩ hb' hk => by
    cases e1
    exact hp d b' e3 hb' hk⟩)
def Pre__law_values (ds : List PyData) : Prop := ∃ k : Nat, ds = [.int k] ∧ k ≤ 3
def R__law_values (ds : List PyData) (d : PyData) : Prop := ∃ (k : Nat) (vs : List Int), ds = [.int k] ∧ d = .list (vs.map en) ∧ vs.length = k ∧ vs.Nodup ∧ ∀ v ∈ vs, 0 ≤ v ∧ v ≤ 1000000000
def c__law_values (_ : List PyData) : Nat := 4
theorem len__law_values (ds : List PyData) (h : Pre__law_values ds) : ds.length + 1 = 2 := by
  obtain ⟨u, rfl, _⟩ := h
  rfl
theorem ok__law_values (T : Tx mg tk) (t : Txt1 K mg "_law_values" (topS 80) ["_law_box_here", "_law_count"]) (h__law_take : Has P w K mg base "_law_take" 1 ["_law_box_here", "_law_upon"] (SpX K Pre__law_take R__law_take c__law_take)) : Has P w K mg base "_law_values" 2 ["_law_box_here", "_law_count"] (SpX K Pre__law_values R__law_values c__law_values) := by
  have sc : FnScope ["_law_box_here", "_law_count", "_law_some", "_law_found", "_law_turn", "_law_value", "_law_each", "_law_spare"] ["_law_box_here", "_law_count"] (defScope (topS 80)) := ⟨rfl, rfl, rfl, by decide +kernel, rfl, by decide +kernel, by decide +kernel⟩
  refine has_box t sc len__law_values (by decide) (fun f cdv A outer s H E hr => (pss_cons (ps_set (i := 2) sc.nd rfl (.inl rfl) (pe_lst (pa_cons pe_int (pa_cons pe_int (pa_cons pe_int (pa_cons pe_int (pa_cons pe_int (pa_cons (pe_op op_pow pe_int pe_int) (pa_cons (pe_op op_add pe_int (pe_has (h__law_take.up (by decide)) hr (by rfl) (pa_cons (pv 0) (pa_cons (pe_op op_pow pe_int pe_int) pa_nil)))) pa_nil)))))))))
  (pss_cons (ps_set (i := 3) sc.nd rfl (.inr rfl) (pe_lst pa_nil))
  (pss_cons (ps_for PassesOwn.never rfl (pi_range1 (by rfl) T.b_range (pa_cons (pv 1) pa_nil)) (pg_name (i := 4) sc.nd rfl (.inl rfl))
   (pss_cons (ps_set (i := 5) sc.nd rfl (.inl rfl) (pe_ix (k_ix K rfl) (pv 2) (pe_has (h__law_take.up (by decide)) hr (by rfl) (pa_cons (pv 0) (pa_cons pe_int pa_nil))) (fun _ _ => rfl)))
  (pss_cons (ps_set (i := 7) sc.nd rfl (.inl rfl) (pe_ix (k_ix K rfl) (pe_lc (own := [("_law_each", 6)]) (by rfl) sc.nd (k_piT K rfl (pe_tupF (pa_cons pe_int (pa_cons pe_int (pa_cons pe_int (pa_cons pe_int (pa_cons pe_int pa_nil))))))) (blkOk_by (by kernel_rfl)) (fun _ _ _ _ _ => (pg_name (i := 6) sc.nd rfl (.inl rfl))) (fun _ _ _ _ _ => (pts_one (pt_cmpR (k_ni K rfl hr.units) (pv 6) (pv 3) (by rfl)))) (fun _ _ _ _ _ => (pv 6))) pe_int (fun _ _ => rfl)))
  (pss_one (ps_expr (k_bm K rfl PySem.F.plainAttrs_list PySem.F.slot_list_append PySem.F.type_list_append mt_append (pv 3) (pa_cons (pe_ifExp (pt_cmpR (k_ni K rfl hr.units) (pv 5) (pv 3) (by rfl)) (pv 5) (pv 7)) pa_nil)))))))
  (pss_one (ps_ret (pe_callB (k_sorted K rfl hr.units) (by rfl) T.b_sorted (by decide +kernel) (pa_cons (pv 3) pa_nil)))))))) ?_
  rintro ds b n ⟨k, rfl, hk⟩ hb hn
  have hn : n + 4 ≤ 1000000000 := hn
  show StG K [.bx b, .im (.int k), .no, .no, .no, .no, .no, .no] _ _ _
  have ten9 : ∀ {Γ : En}, EvG K Γ (tOp (rI CPow fun i j => .int (i ^ j.toNat)) (tC (.int 10)) (tC (.int 9))) (.int 1000000000) := ev_I ev_int ev_int ⟨by decide, by decide, by decide⟩ fun H => .int _
  refine sg_seq (N1 := fun Γ' => ∃ (b1 : Bx) (S : List PyData), Γ' = [.bx b1, .im (.int k), .im (.list S), .no, .no, .no, .no, .no] ∧ b1.1 = b.1 ∧ BxK (n + 1) b1 ∧ S.length = 7 ∧ ∀ x ∈ S, ∃ v : Int, x = .int v ∧ 0 ≤ v ∧ v ≤ 1000000000) (sg_setX (EvLX.g (PL := fun S Γ' => ∃ b1 : Bx, Γ' = [.bx b1, .im (.int k), .no, .no, .no, .no, .no, .no] ∧ b1.1 = b.1 ∧ BxK (n + 1) b1 ∧ S.length = 7 ∧ ∀ x ∈ S, ∃ v : Int, x = .int v ∧ 0 ≤ v ∧ v ≤ 1000000000) (xl_lst (xa_g ev_int (xa_g ev_int (xa_g ev_int (xa_g ev_int (xa_g ev_int (xa_g ten9 (xa_cons (P1 := fun d Γ' => ∃ (b1 : Bx) (v : Int), d = .int v ∧ 0 ≤ v ∧ v ≤ 1000000000 ∧ Γ' = [.bx b1, .im (.int k), .no, .no, .no, .no, .no, .no] ∧ b1.1 = b.1 ∧ BxK (n + 1) b1) (x_op (P1 := fun d Γ' => d = .int 1 ∧ Γ' = [.bx b, .im (.int k), .no, .no, .no, .no, .no, .no]) (ev_int.x ⟨rfl, rfl⟩) ?_) ?_)))))))) ?_)) ?_
  · rintro d1 Γ1 ⟨rfl, rfl⟩
    refine x_take rfl hb (by omega) ten9 (by omega) (by omega) fun r b1 hr e1 k1 => ⟨.int (1 + r), ⟨b1, 1 + r, rfl, by omega, by omega, rfl, e1, k1⟩, ev_I0 (ev_var rfl) (ev_var rfl) fun H => .int _⟩
  · rintro d Γ1 ⟨b1, v, rfl, h1, h2, rfl, e1, k1⟩
    refine xa_nil ⟨by simp, b1, rfl, e1, k1, rfl, ?_⟩
    intro x hx
    simp only [List.mem_cons, List.not_mem_nil, or_false] at hx
    rcases hx with rfl | rfl | rfl | rfl | rfl | rfl | rfl
    · exact ⟨0, rfl, by decide, by decide⟩
    · exact ⟨1, rfl, by decide, by decide⟩
    · exact ⟨2, rfl, by decide, by decide⟩
    · exact ⟨3, rfl, by decide, by decide⟩
    · exact ⟨7, rfl, by decide, by decide⟩
    · exact ⟨1000000000, rfl, by decide, by decide⟩
    · exact ⟨v, rfl, h1, h2⟩
  · rintro S Γ' ⟨b1, rfl, e1, k1, hS, hx⟩
    exact ⟨⟨.no, rfl, rfl⟩, b1, S, rfl, e1, k1, hS, hx⟩
  rintro _ ⟨b1, S, rfl, e1, k1, hS, hSx⟩
  refine sg_then (sg_setL (el_lst ea_nil) rfl rfl rfl) ?_
  refine sg_forQ (α := Bx × List Int) (fun a => [.bx a.1, .im (.int k), .im (.list S), .ac (a.2.map en), .no, .no, .no, .no]) (fun i a => a.1.1 = b.1 ∧ BxK (n + 1 + i) a.1 ∧ a.2.length = i ∧ a.2.Nodup ∧ ∀ v ∈ a.2, 0 ≤ v ∧ v ≤ 1000000000) (b1, []) (it_rng (ea_one (ev_var rfl)) (by omega)) (Wk.rfl' _) ⟨e1, k1, rfl, .nil, fun v h => nomatch h⟩ ?_ ?_
  · rintro i d ⟨b2, vs⟩ hd ⟨e2, k2, hl, hnd, hbd⟩
    have hik : i < k := by
      have := (List.getElem?_eq_some_iff.mp hd).1
      rw [List.length_map, List.length_range] at this
      exact this
    have e2 : b2.1 = b.1 := e2
    have k2 : BxK (n + 1 + i) b2 := k2
    have hl : vs.length = i := hl
    have hnd : vs.Nodup := hnd
    have hbd : ∀ v ∈ vs, 0 ≤ v ∧ v ≤ 1000000000 := hbd
    refine ⟨_, _, tg_name (j := 4) rfl rfl, ?_⟩
    refine sg_seq (N1 := fun Γ' => ∃ (b3 : Bx) (v : Int), Γ' = [.bx b3, .im (.int k), .im (.list S), .ac (vs.map en), .im d, .im (.int v), .no, .no] ∧ b3.1 = b.1 ∧ BxK (n + 1 + i + 1) b3 ∧ 0 ≤ v ∧ v ≤ 1000000000) (sg_setX (x_ixL (ev_var rfl) (x_take rfl k2 (by omega) ev_int (by omega) (by omega) fun r b3 hr e3 k3 => ⟨r, rfl, by omega, fun x hx => ⟨⟨.no, rfl, rfl⟩, ?_⟩⟩))) ?_
    · obtain ⟨v, rfl, q1, q2⟩ := hSx x (List.mem_of_getElem? hx)
      exact ⟨b3, v, rfl, e3.trans e2, k3, q1, q2⟩
    rintro _ ⟨b3, v, rfl, e3, k3, q1, q2⟩
    have hsp : ∃ (s : Int) (r : List Int), ([11, 12, 13, 14, 15] : List Int).filter (fun y => !decide (y ∈ vs)) = s :: r ∧ s ∉ vs ∧ 0 ≤ s ∧ s ≤ 1000000000 := by
      cases hf : ([11, 12, 13, 14, 15] : List Int).filter (fun y => !decide (y ∈ vs)) with
      | nil =>
        have := nodup_sub (xs := ([11, 12, 13, 14, 15] : List Int)) (ys := vs) (by decide) fun x hx => by
          have := List.filter_eq_nil_iff.mp hf x hx
          simpa using this
        simp only [List.length_cons, List.length_nil] at this
        omega
      | cons s r =>
        have hs : s ∈ ([11, 12, 13, 14, 15] : List Int).filter (fun y => !decide (y ∈ vs)) := by rw [hf]; exact List.mem_cons_self
        rw [List.mem_filter] at hs
        refine ⟨s, r, rfl, by simpa using hs.2, ?_⟩
        have := hs.1
        simp only [List.mem_cons, List.not_mem_nil, or_false] at this
        omega
    obtain ⟨s, r, hf, s1, s2, s3⟩ := hsp
    refine sg_then (sg_set (d := en s) (tv_atL (xs := s :: r) ((tv_lc en ([11, 12, 13, 14, 15] : List Int) (p := fun y => !decide (y ∈ vs)) (f := en) (it_tup (ev_tup (ea_cons ev_int (ea_cons ev_int (ea_cons ev_int (ea_cons ev_int (ea_one ev_int))))))) (fun y _ => tg_name rfl rfl) (fun y _ => et_test (tv_niL (ev_var rfl).c (ec_ac rfl))) (fun y _ _ => ev_var rfl) (by decide)).cast (by rw [hf])).c ev_int (atI_0 s r)) rfl rfl rfl) ?_
    refine sg_app (d := en (if v ∈ vs then s else v)) rfl (ev_ifE (et_test (tv_niL (α := Int) (x := v) (ev_var rfl).c (ec_ac rfl))) (fun h => (ev_var rfl).cast ?_) fun h => (ev_var rfl).cast ?_) (by rw [List.length_map]; omega) ⟨(b3, vs ++ [if v ∈ vs then s else v]), ⟨e3, ?_, ?_, ?_, ?_⟩, ?_⟩
    · rw [if_neg (by simpa using h)]
      rfl
    · rw [if_pos (by simpa using h)]
    · show BxK (n + 1 + (i + 1)) b3
      rw [show n + 1 + (i + 1) = n + 1 + i + 1 by omega]
      exact k3
    · show (vs ++ [_]).length = i + 1
      rw [List.length_append, hl]
      rfl
    · refine List.nodup_append.mpr ⟨hnd, by simp, fun x hx y hy z => ?_⟩
      rw [List.mem_singleton] at hy
      subst hy z
      split at hx
      · exact s1 hx
      · rename_i hv
        exact hv hx
    · intro x hx
      rcases List.mem_append.mp hx with hx | hx
      · exact hbd x hx
      · rw [List.mem_singleton] at hx
        rw [hx]
        split
        · exact ⟨s2, s3⟩
        · exact ⟨q1, q2⟩
    · show Wk _ [.bx b3, .im (.int k), .im (.list S), .ac ((vs ++ [if v ∈ vs then s else v]).map en), .no, .no, .no, .no]
      rw [List.map_append]
      exact wk_ok
  · rintro ⟨b2, vs⟩ ⟨e2, k2, hl, hnd, hbd⟩
    rw [List.length_map, List.length_range] at hl k2
    have hl : vs.length = k := hl
    exact sg_ret (tv_sortL (ec_ac rfl) (by show vs.length ≤ _; omega)).g ⟨⟨k, dsort vs, rfl, rfl, by rw [len_dsort, hl], dsort_nodup hnd, fun v hv => hbd v (mem_dsort.mp hv)⟩, b2, rfl, e2, k2.up (by show n + 1 + k ≤ n + 4; omega)⟩
end
end K97
set_option Elab.async false
set_option linter.all false
set_option maxRecDepth 100000
set_option maxHeartbeats 4000000
/-! K97: renamings, in plain words. -/
namespace K97
open Dt (en)
open PySem L2
/-- new name, way, shift -/
abbrev Rn := Str × Int × Int
abbrev Tb := List (Str × Rn)
def enc3 (x : Rn) : PyData := .tuple [.str x.1, .int x.2.1, .int x.2.2]
def dTb (tb : Tb) : List (PyData × PyData) := tb.map fun e => (.str e.1, enc3 e.2)
def tlk (tb : Tb) (c : Str) : Option Rn := (tb.find? fun p => decide (p.1 = c)).map (·.2)
theorem lk_tb (c : Str) : ∀ tb : Tb, lk (dTb tb) (.inr c) = (tlk tb c).map enc3
  | [] => rfl
  | p :: l => by
    by_cases h : p.1 = c
    · subst h
      simp [lk, tlk, dTb, List.find?_cons, keyOfD]
    · have e1 : lk (dTb (p :: l)) (.inr c) = lk (dTb l) (.inr c) := by
        show (List.find? _ ((PyData.str p.1, enc3 p.2) :: dTb l)).map _ = _
        rw [List.find?_cons_of_neg (by simp [keyOfD, h])]
        rfl
      have e2 : tlk (p :: l) c = tlk l c := by
        unfold tlk
        rw [List.find?_cons_of_neg (by simpa using h)]
      rw [e1, e2]
      exact lk_tb c l
def mName (tb : Tb) (c : Str) : Str := ((tlk tb c).map (·.1)).getD ⟨#[]⟩
def mValR (x : Rn) (v : Int) : Int := if 99 < v then v else if x.2.1 = 0 then (v + x.2.2) % 100 else 99 - v
def mVal (tb : Tb) (c : Str) (v : Int) : Int := match tlk tb c with
  | some x => mValR x v
  | none => v
def mPairR (tb : Tb) (p : Str × Int) : Str × Int := (mName tb p.1, mVal tb p.1 p.2)
def mNamed (tb : Tb) (l : Lg) : Lg := dsort (l.map (mPairR tb))
def mSet (tb : Tb) (cs : List Str) : List Str := dsort (cs.map (mName tb))
def mMovedW (tb : Tb) (ws : List (Str × Lg)) : List (Str × Lg) := dsort (ws.map fun w => (mName tb w.1, mNamed tb w.2))
def mMoved (tb : Tb) (e : Evd) : Evd := (mSet tb e.1, mMovedW tb e.2)
def InTb (tb : Tb) (c : Str) : Prop := ∃ x, tlk tb c = some x
theorem mName_of {tb : Tb} {c : Str} {x : Rn} (h : tlk tb c = some x) : mName tb c = x.1 := by simp [mName, h]
theorem mVal_of {tb : Tb} {c : Str} {x : Rn} (h : tlk tb c = some x) (v : Int) : mVal tb c v = mValR x v := by simp [mVal, h]
section
variable {K : Fg} {Γ : En} {ta tb' te : TE} {d1 d2 d3 : PyData} {N : En → Prop} {R : PyData → En → Prop}
/-- a, b, c = a tuple of three -/
theorem sg_asgP3 {i j k : Nat} {e1 e2 e3 : Ent} (h : EvG K Γ te (.tuple [d1, d2, d3])) (hi : Γ[i]? = some e1) (hj : Γ[j]? = some e2) (hk : Γ[k]? = some e3) (h1 : e1.mut = false) (h2 : e2.mut = false) (h3 : e3.mut = false) (hij : i ≠ j) (hik : i ≠ k) (hjk : j ≠ k) (hn : N (((Γ.set i (.im d1)).set j (.im d2)).set k (.im d3))) : StG K Γ (tAsg te (gTup K 3 (gCons (gName i) (gCons (gName j) (gCons (gName k) gNil))))) N R := fun F B D σ H E n r => h F B σ H E _ fun v H1 e rv => by
  cases rv with
  | tup s1 r1 =>
    cases r1 with
    | @cons v _ _ _ q1 r1 =>
      cases r1 with
      | @cons w _ _ _ q2 r1 =>
        cases r1 with
        | @cons y _ _ _ q3 r1 =>
          cases r1
          refine ⟨_, _, rfl, (s1.up cut_ex).sq, rfl, v, _, rfl, w, _, rfl, y, _, rfl, rfl, ?_⟩
          have E1 := (E.ext e).put (x := some v) hi h1 (e' := .im d1) rfl fun d' z => ⟨v, rfl, by cases z; exact q1⟩
          have m1 := mu_set (σ := σ) (x := some v) (e' := .im d1) hi h1 rfl
          have hj' := set_get (f := .im d1) hj hij
          have E2 := E1.put (x := some w) hj' h2 (e' := .im d2) rfl fun d' z => ⟨w, rfl, by cases z; rw [frz, m1]; exact q2⟩
          have m2 := mu_set (σ := σ.set i (some v)) (x := some w) (e' := .im d2) hj' h2 rfl
          have hk' := set_get (f := .im d2) (set_get (f := .im d1) hk hik) hjk
          have E3 := E2.put (x := some y) hk' h3 (e' := .im d3) rfl fun d' z => ⟨y, rfl, by cases z; rw [frz, m2, m1]; exact q3⟩
          have m3 := mu_set (σ := (σ.set i (some v)).set j (some w)) (x := some y) (e' := .im d3) hk' h3 rfl
          refine n _ _ H1 hn E3 ?_
          rw [frz, frz, m3, m2, m1]
          exact cut_mono e
theorem tv_tbat {tb : Tb} {c : Str} {x : Rn} (ha : EvC K Γ ta (.dict (dTb tb))) (hb : EvG K Γ tb' (en c)) (h : tlk tb c = some x) : EvG K Γ (tDGet ta tb') (enc3 x) := ev_dget (k := .inr c) ha hb (by rw [lk_tb, h]; rfl)
/-- table[c][0] -/
theorem tv_tbname {tb : Tb} {c : Str} (ha : EvC K Γ ta (.dict (dTb tb))) (hb : EvG K Γ tb' (en c)) (h : InTb tb c) : EvG K Γ (tOp (rIx K) (tDGet ta tb') (tC (.int 0))) (en (mName tb c)) := by
  obtain ⟨x, h⟩ := h
  rw [mName_of h]
  exact ev_ixT (tv_tbat ha hb h).c ev_int rfl
end
end K97
set_option Elab.async false
set_option linter.all false
set_option maxRecDepth 100000
set_option maxHeartbeats 4000000
/-! K97: the law's renaming. -/
namespace K97
open Dt (en)
open PySem L2
section
variable {P : Program} {w : World} {K : Fg} {mg : Str → Option Value} {base : Heap} {tk : Nat → Tok}
def R__law_pair := Rel (A := Tb × Str × Int) (fun a => InTb a.1 a.2.1) (fun a => [.dict (dTb a.1), en a.2.1, en a.2.2]) fun a => en (mPairR a.1 (a.2.1, a.2.2))
def R__law_named := Rel (A := Tb × Lg) (fun a => (∀ c ∈ cellsOf a.2, InTb a.1 c) ∧ a.2.length ≤ 1000) (fun a => [.dict (dTb a.1), en a.2]) fun a => en (mNamed a.1 a.2)
def R__law_set := Rel (A := Tb × List Str) (fun a => (∀ c ∈ a.2, InTb a.1 c) ∧ a.2.length ≤ 10000) (fun a => [.dict (dTb a.1), en a.2]) fun a => en (mSet a.1 a.2)
def R__law_moved := Rel (A := Tb × Evd) (fun a => (∀ c ∈ a.2.1, InTb a.1 c) ∧ a.2.1.length ≤ 10000 ∧ a.2.2.length ≤ 10000 ∧ ∀ x ∈ a.2.2, InTb a.1 x.1 ∧ (∀ c ∈ cellsOf x.2, InTb a.1 c) ∧ x.2.length ≤ 1000) (fun a => [.dict (dTb a.1), en a.2]) fun a => en (mMoved a.1 a.2)
theorem ok__law_pair (T : Tx mg tk) (t : Txt1 K mg "_law_pair" (topS 88) ["_law_table", "_law_spot", "_law_value"]) : Has P w K mg base "_law_pair" 1 ["_law_table", "_law_spot", "_law_value"] (SpD K R__law_pair) := by
  have sc : FnScope ["_law_table", "_law_spot", "_law_value", "_law_name", "_law_way", "_law_shift"] ["_law_table", "_law_spot", "_law_value"] (defScope (topS 88)) := ⟨rfl, rfl, rfl, by decide +kernel, rfl, by decide +kernel, by decide +kernel⟩
  refine has_rel t sc (fun a => rfl) (by decide) (fun f cdv A outer s H E hr => (pss_cons (ps_asg (pe_dget (hu_of hr) (pv 0) (pv 1) (fun _ _ => rfl)) (k_pgT K rfl (n := 3) rfl (pgs_cons (pg_name (i := 3) sc.nd rfl (.inl rfl)) (pgs_cons (pg_name (i := 4) sc.nd rfl (.inl rfl)) (pgs_cons (pg_name (i := 5) sc.nd rfl (.inl rfl)) pgs_nil)))))
  (pss_cons (ps_if (pt_cmpR (op_gt) (pv 2) pe_int (nomark _))
   (pss_one (ps_ret (pe_tupF (pa_cons (pv 3) (pa_cons (pv 2) pa_nil)))))
   pss_nil)
  (pss_one (ps_ret (pe_tupF (pa_cons (pv 3) (pa_cons (pe_ifExp (pt_cmpR (k_eq K rfl hr.units) (pv 4) pe_int (nomark _)) (pe_op op_mod (pe_op op_add (pv 2) (pv 5)) pe_int) (pe_op op_sub pe_int (pv 2))) pa_nil)))))))) ?_
  intro a ha
  obtain ⟨tb, c, v⟩ := a
  obtain ⟨⟨nm, wy, sh⟩, hx⟩ : InTb tb c := ha
  have hv : en (mPairR tb (c, v)) = .tuple [.str nm, .int (mValR (nm, wy, sh) v)] := by
    show PyData.tuple [.str (mName tb c), .int (mVal tb c v)] = _
    rw [mName_of hx, mVal_of hx]
  rw [hv]
  refine sg_then (sg_asgP3 (d1 := .str nm) (d2 := .int wy) (d3 := .int sh) (tv_tbat (ev_var rfl).c (ev_var rfl) hx) rfl rfl rfl rfl rfl rfl (by decide) (by decide) (by decide) rfl) ?_
  by_cases h1 : 99 < v
  · refine sg_end (sg_if (a := true) (et_test ((ev_I0 (ev_var rfl) ev_int fun H => .bl _).cast (by simp [h1]))) (fun _ => sg_ret (ev_tup (ea_cons (ev_var rfl) (ea_one (ev_var rfl)))) ?_) fun h => nomatch h)
    rw [mValR, if_pos h1]
    rfl
  · refine sg_then (sg_if (a := false) (et_test ((ev_I0 (ev_var rfl) ev_int fun H => .bl _).cast (by simp; omega))) (fun h => nomatch h) fun _ => sg_next rfl) ?_
    refine sg_ret (ev_tup (ea_cons (ev_var rfl) (ea_one (ev_ifE (d := .int (mValR (nm, wy, sh) v)) (et_test (tv_eq (α := Int) (x := wy) (y := 0) (ev_var rfl).c ev_int.c)) (fun h => (ev_I (ev_I0 (ev_var rfl) (ev_var rfl) fun H => .int _) ev_int (by omega) fun H => .int _).cast ?_) fun h => (ev_I0 ev_int (ev_var rfl) fun H => .int _).cast ?_)))) rfl
    · have h := of_decide_eq_true h
      rw [mValR, if_neg h1, if_pos h]
    · have h := of_decide_eq_false h
      rw [mValR, if_neg h1, if_neg h]
theorem ok__law_named (T : Tx mg tk) (t : Txt1 K mg "_law_named" (topS 89) ["_law_table", "_law_entry"]) (h__law_pair : Has P w K mg base "_law_pair" 1 ["_law_table", "_law_spot", "_law_value"] (SpD K R__law_pair)) : Has P w K mg base "_law_named" 2 ["_law_table", "_law_entry"] (SpD K R__law_named) := by
  have sc : FnScope ["_law_table", "_law_entry", "_law_spot", "_law_value"] ["_law_table", "_law_entry"] (defScope (topS 89)) := ⟨rfl, rfl, rfl, by decide +kernel, rfl, by decide +kernel, by decide +kernel⟩
  refine has_rel t sc (fun a => rfl) (by decide) (fun f cdv A outer s H E hr => (pss_one (ps_ret (pe_callTy (k_tup K rfl) (by rfl) T.b_tuple (by decide +kernel) (pa_cons (pe_callB (k_sorted K rfl hr.units) (by rfl) T.b_sorted (by decide +kernel) (pa_cons (pe_lc (own := [("_law_spot", 2), ("_law_value", 3)]) (by rfl) sc.nd (k_piT K rfl (pv 1)) (blkOk_by (by kernel_rfl)) (fun _ _ _ _ _ => (k_pgT K rfl (n := 2) rfl (pgs_cons (pg_name (i := 2) sc.nd rfl (.inl rfl)) (pgs_cons (pg_name (i := 3) sc.nd rfl (.inl rfl)) pgs_nil)))) (fun _ _ _ _ _ => pts_nil) (fun _ _ _ _ _ => (pe_has (h__law_pair.up (by decide)) hr (by rfl) (pa_cons (pv 0) (pa_cons (pv 2) (pa_cons (pv 3) pa_nil)))))) pa_nil)) pa_nil))))) ?_
  intro a ha
  obtain ⟨tb, l⟩ := a
  obtain ⟨h1, h2⟩ : (∀ c ∈ cellsOf l, InTb tb c) ∧ l.length ≤ 1000 := ha
  refine sg_ret (tv_tup (tv_sortL (xs := l.map (mPairR tb)) ((tv_lm en l (f := fun p => en (mPairR tb p)) (tv_it (ev_var rfl)) (fun p _ => tg_pair rfl rfl rfl rfl) (fun p hp => tv_call (tb, p.1, p.2) (ea_cons (ev_var rfl) (ea_cons (ev_var rfl) (ea_one (ev_var rfl)))) (h1 p.1 (List.mem_map_of_mem hp))) (by omega)).cast (by rw [List.map_map]; rfl)).c (by rw [List.length_map]; omega)).c) rfl
theorem ok__law_set (T : Tx mg tk) (t : Txt1 K mg "_law_set" (topS 90) ["_law_table", "_law_cells_here"]) : Has P w K mg base "_law_set" 1 ["_law_table", "_law_cells_here"] (SpD K R__law_set) := by
  have sc : FnScope ["_law_table", "_law_cells_here", "_law_spot"] ["_law_table", "_law_cells_here"] (defScope (topS 90)) := ⟨rfl, rfl, rfl, by decide +kernel, rfl, by decide +kernel, by decide +kernel⟩
  refine has_rel t sc (fun a => rfl) (by decide) (fun f cdv A outer s H E hr => (pss_one (ps_ret (pe_callTy (k_tup K rfl) (by rfl) T.b_tuple (by decide +kernel) (pa_cons (pe_callB (k_sorted K rfl hr.units) (by rfl) T.b_sorted (by decide +kernel) (pa_cons (pe_lc (own := [("_law_spot", 2)]) (by rfl) sc.nd (k_piT K rfl (pv 1)) (blkOk_by (by kernel_rfl)) (fun _ _ _ _ _ => (pg_name (i := 2) sc.nd rfl (.inl rfl))) (fun _ _ _ _ _ => pts_nil) (fun _ _ _ _ _ => (pe_ix (k_ix K rfl) (pe_dget (hu_of hr) (pv 0) (pv 2) (fun _ _ => rfl)) pe_int (fun _ _ => rfl)))) pa_nil)) pa_nil))))) ?_
  intro a ha
  obtain ⟨tb, cs⟩ := a
  obtain ⟨h1, h2⟩ : (∀ c ∈ cs, InTb tb c) ∧ cs.length ≤ 10000 := ha
  refine sg_ret (tv_tup (tv_sortL (xs := cs.map (mName tb)) ((tv_lm en cs (f := fun c => en (mName tb c)) (tv_it (ev_var rfl)) (fun p _ => tg_name rfl rfl) (fun c hc => tv_tbname (ev_var rfl).c (ev_var rfl) (h1 c hc)) (by omega)).cast (by rw [List.map_map]; rfl)).c (by rw [List.length_map]; omega)).c) rfl
theorem ok__law_moved (T : Tx mg tk) (t : Txt1 K mg "_law_moved" (topS 91) ["_law_table", "_law_shown"]) (h__law_named : Has P w K mg base "_law_named" 2 ["_law_table", "_law_entry"] (SpD K R__law_named)) (h__law_set : Has P w K mg base "_law_set" 1 ["_law_table", "_law_cells_here"] (SpD K R__law_set)) : Has P w K mg base "_law_moved" 3 ["_law_table", "_law_shown"] (SpD K R__law_moved) := by
  have sc : FnScope ["_law_table", "_law_shown", "_law_spot", "_law_entry", "_law_some"] ["_law_table", "_law_shown"] (defScope (topS 91)) := ⟨rfl, rfl, rfl, by decide +kernel, rfl, by decide +kernel, by decide +kernel⟩
  refine has_rel t sc (fun a => rfl) (by decide) (fun f cdv A outer s H E hr => (pss_cons (ps_setLc (i := 4) (own := [("_law_spot", 2), ("_law_entry", 3)]) (by rfl) sc.nd rfl rfl (sw_true rfl rfl rfl (by decide +kernel)) (k_piT K rfl (pe_ix (k_ix K rfl) (pv 1) pe_int (fun _ _ => rfl))) (blkOk_by (by kernel_rfl)) (fun _ _ _ _ _ => (k_pgT K rfl (n := 2) rfl (pgs_cons (pg_name (i := 2) sc.nd rfl (.inl rfl)) (pgs_cons (pg_name (i := 3) sc.nd rfl (.inl rfl)) pgs_nil)))) (fun _ _ _ _ _ => pts_nil) (fun _ _ _ _ _ => (pe_tupF (pa_cons (pe_ix (k_ix K rfl) (pe_dget (hu_of hr) (pv 0) (pv 2) (fun _ _ => rfl)) pe_int (fun _ _ => rfl)) (pa_cons (pe_has (h__law_named.up (by decide)) hr (by rfl) (pa_cons (pv 0) (pa_cons (pv 3) pa_nil))) pa_nil)))))
  (pss_one (ps_ret (pe_tupF (pa_cons (pe_has (h__law_set.up (by decide)) hr (by rfl) (pa_cons (pv 0) (pa_cons (pe_ix (k_ix K rfl) (pv 1) pe_int (fun _ _ => rfl)) pa_nil))) (pa_cons (pe_callTy (k_tup K rfl) (by rfl) T.b_tuple (by decide +kernel) (pa_cons (pe_callB (k_sorted K rfl hr.units) (by rfl) T.b_sorted (by decide +kernel) (pa_cons (pv 4) pa_nil)) pa_nil)) pa_nil))))))) ?_
  intro a ha
  obtain ⟨tb, C, ws⟩ := a
  obtain ⟨h1, h2, h3, h4⟩ : (∀ c ∈ C, InTb tb c) ∧ C.length ≤ 10000 ∧ ws.length ≤ 10000 ∧ ∀ x ∈ ws, InTb tb x.1 ∧ (∀ c ∈ cellsOf x.2, InTb tb c) ∧ x.2.length ≤ 1000 := ha
  refine sg_then (sg_set (d := .list ((ws.map fun w => (mName tb w.1, mNamed tb w.2)).map en)) ((tv_lm en ws (f := fun x => en (mName tb x.1, mNamed tb x.2)) (tv_it (xs := ws) (tv_pr2 (p := (C, ws)) (ev_var rfl).c)) (fun p _ => tg_pair rfl rfl rfl rfl) (fun x hx => ev_tup (ea_cons (tv_tbname (ev_var rfl).c (ev_var rfl) (h4 x hx).1) (ea_one (tv_call (tb, x.2) (ea_cons (ev_var rfl) (ea_one (ev_var rfl))) (h4 x hx).2)))) (by omega)).g.cast (by rw [List.map_map]; rfl)) rfl rfl rfl) ?_
  exact sg_ret (ev_tup (ea_cons (tv_call (tb, C) (ea_cons (ev_var rfl) (ea_one (tv_pr1 (p := (C, ws)) (ev_var rfl).c))) ⟨h1, h2⟩) (ea_one (tv_tup (tv_sortL (xs := ws.map fun w => (mName tb w.1, mNamed tb w.2)) (ev_var rfl).c (by rw [List.length_map]; omega)).c)))) rfl
end
end K97
set_option Elab.async false
set_option linter.all false
set_option maxRecDepth 100000
set_option maxHeartbeats 4000000
/-! K97: texts made of parts. -/
namespace K97
open Dt (en)
open PySem L2
def S0 (xs : List Nat) : Str := ⟨xs.toArray⟩
theorem s0_list (xs : List Nat) : (S0 xs).cps.toList = xs := by simp [S0]
theorem s0_len (xs : List Nat) : (S0 xs).length = xs.length := by simp [S0, Str.length]
theorem s0_inj {xs ys : List Nat} (h : S0 xs = S0 ys) : xs = ys := by rw [← s0_list xs, h, s0_list]
theorem s0_of (x : Str) : x = S0 x.cps.toList := by cases x; simp [S0]
theorem s0_app (xs ys : List Nat) : S0 xs ++ S0 ys = S0 (xs ++ ys) := by
  show Str.append _ _ = _
  simp [Str.append, S0]
theorem s0_join : ∀ xs : List Nat, Str.join Str.empty (xs.map fun c => S0 [c]) = S0 xs
  | [] => rfl
  | [x] => rfl
  | x :: y :: r => by
    have ih := s0_join (y :: r)
    show S0 [x] ++ Str.empty ++ Str.join Str.empty ((y :: r).map fun c => S0 [c]) = _
    rw [ih]
    show S0 [x] ++ S0 [] ++ S0 (y :: r) = _
    rw [s0_app, s0_app]
    rfl
theorem cutS_hi {xs : List Nat} {k : Nat} (h : k ≤ xs.length) : cutS (S0 xs) none (some k) = S0 (xs.take k) := by
  unfold cutS
  rw [s0_len, s0_list]
  have e1 : HT.sIx xs.length 0 none = 0 := rfl
  have e2 : HT.sIx xs.length xs.length (some (k : Int)) = k := by
    rw [HT.sIx_nat]
    omega
  rw [e1, e2]
  rfl
theorem cutS_lo {xs : List Nat} {k : Nat} (h : k ≤ xs.length) : cutS (S0 xs) (some k) none = S0 (xs.drop k) := by
  unfold cutS
  rw [s0_len, s0_list]
  have e1 : HT.sIx xs.length xs.length none = xs.length := rfl
  have e2 : HT.sIx xs.length 0 (some (k : Int)) = k := by
    rw [HT.sIx_nat]
    omega
  rw [e1, e2, List.take_of_length_le (by rw [List.length_drop]; omega)]
  rfl
section
variable {K : Fg} {Γ : En} {ta tb te : TE} {P : PyData → En → Prop} {N : En → Prop} {R : PyData → En → Prop}
abbrev rJoin (K : Fg) : V → List V → Hp → VK → Prop := fun x xs H Q => ∃ a p, ∃ ys : List Str, x = .str a ∧ xs = [.ref p] ∧ (SqL K H p (ys.map V.str) ∨ SqT K H p (ys.map V.str)) ∧ (ys.map (·.length)).sum + ys.length * a.length ≤ 16777216 ∧ Q (.str (Txt.join a ys)) H
theorem RpAll.strs' {H : Hp} : ∀ {vs : List V} {xs : List Str}, RpAll K H vs (xs.map .str) → vs = xs.map .str
  | _, [], h => by cases h; rfl
  | _, x :: xs, h => by
    have h : RpAll K H _ (.str x :: xs.map .str) := h
    cases h with
    | cons h1 h2 =>
      cases h1
      rw [RpAll.strs' h2]
      rfl
/-- sep.join(a list of texts) -/
theorem x_join {sep : Str} (h : EvX K Γ te fun d Γ' => ∃ ys : List Str, d = .list (ys.map .str) ∧ (ys.map (·.length)).sum + ys.length * sep.length ≤ 16777216 ∧ P (.str (Str.join sep ys)) Γ') : EvX K Γ (tM1 (rJoin K) (tC (.str sep)) te) P := fun F B σ H E Q q => by
  refine ⟨⟨sep, rfl⟩, h F B σ H E _ fun d Γ1 v H1 ⟨ys, e, hs, p1⟩ E1 m1 x1 r1 => ?_⟩
  subst e
  cases r1 with
  | lst h1 h2 =>
    have := RpAll.strs' h2
    subst this
    refine ⟨sep, _, ys, rfl, rfl, .inl (cut_ex.l h1), hs, ?_⟩
    rw [TL.join_eq]
    exact q _ Γ1 _ H1 p1 E1 m1 x1 (.str _)
theorem ev_slS {x : Str} {tl th : TO} {lo hi : Option Int} (ha : EvG K Γ ta (.str x)) (hx : x.length ≤ 100000) (hl : EoG K Γ tl lo) (hh : EoG K Γ th hi) : EvG K Γ (tSl rSlS ta tl th) (.str (cutS x lo hi)) := fun F B σ H E Q q =>
  ha F B σ H E _ fun v H1 e1 r1 => hl F B σ H1 (E.ext e1) _ fun H2 e2 => hh F B σ H2 ((E.ext e1).ext e2) _ fun H3 e3 => by
    cases r1
    exact ⟨x, rfl, size5 hx, q _ H3 (e1.tr (e2.tr e3)) (.str _)⟩
abbrev rCatS : R2 := fun x y H Q => ∃ i j, x = .str i ∧ y = .str j ∧ i.length + j.length ≤ sizeLine ∧ Q (.str (i ++ j)) H
theorem ev_catS {x y : Str} (ha : EvG K Γ ta (.str x)) (hb : EvG K Γ tb (.str y)) (hz : x.length + y.length ≤ 100000) : EvG K Γ (tOp rCatS ta tb) (.str (x ++ y)) := ev_op ha.c hb.c fun F B σ H u v E r1 r2 Q q =>
  ⟨x, y, (r1.rp cut_ex).strI, (r2.rp cut_ex).strI, size5 hz, q _ H (Ex.rfl' H) (.str _)⟩
/-- a, b = a drawn pair -/
theorem sg_asgPX {i j : Nat} (h : EvX K Γ te fun d Γ' => ∃ d1 d2 e1 e2, d = .tuple [d1, d2] ∧ Γ'[i]? = some e1 ∧ Γ'[j]? = some e2 ∧ e1.mut = false ∧ e2.mut = false ∧ i ≠ j ∧ N ((Γ'.set i (.im d1)).set j (.im d2))) : StG K Γ (tAsg te (gTup K 2 (gCons (gName i) (gCons (gName j) gNil)))) N R := fun F B D σ H E n r => h F B σ H E _ fun d Γ1 v H1 ⟨d1, d2, e1, e2, ed, hi, hj, h1, h2, hij, hn⟩ E1 m1 x1 rv => by
  subst ed
  refine tg_pair (pr := false) hi hj h1 h2 hij F B σ H1 v E1 rv _ fun σ' E' m' _ _ => n _ σ' H1 hn E' ?_
  rw [frz, frz, m', m1]
  rw [frz, frz, m1] at x1
  exact x1
end
section
variable {X : Cx} (K : Fg) (hK : X.K = K)
include hK
theorem k_join {o e : Expr} {to te : TE} {apos pos : Pos} (ho : PE X o to) (he : PE X e te) (hs : starEach [e] X.env = [(false, eval e X.env)] := by rfl) (hbase : attributeBase o "join" X.env (eval o X.env) = eval o X.env := by rfl) (hline : (apos.endLine == pos.line) = true := by rfl) :
    PE X (.Call (.Attribute o "join" apos) [e] [] pos) (tM1 (rJoin K) to te) := hK ▸ pe_join ho he hs hbase hline
end
end K97
set_option Elab.async false
set_option linter.all false
set_option maxRecDepth 100000
set_option maxHeartbeats 4000000
/-! K97: defs that hand back a new list. -/
namespace K97
open Dt (en)
open PySem L2
section
variable {K : Fg} {Γ Γ1 : En} {te ta : TE} {t : TA} {ts tu : TS} {N1 : En → Prop} {R : List PyData → En → Prop} {F : Addr → Prop} {B H H' : Hp} {σ : L2.St}
/-- a statement that ends by handing back a new list -/
def StGL (K : Fg) (Γ : En) (ts : TS) (R : List PyData → En → Prop) : Prop := ∀ (F : Addr → Prop) (B : Hp) (D : Ends) (σ : L2.St) (H : Hp), EnvR K F B Γ σ H →
  (∀ ds Γ' σ' p vs H', R ds Γ' → EnvR K (fun a => F a ∨ a = p) B Γ' σ' H' → ¬ F p → B p = none → H' p = some (.lst vs) → RpAll K (frz (fun a => F a ∨ a = p) Γ' σ' H') vs ds → D.rt (.ref p) H') → ts D σ H
theorem gl_seq (h : StG K Γ ts N1 fun _ _ => False) (g : ∀ Γ1, N1 Γ1 → StGL K Γ1 tu R) : StGL K Γ (tSeq ts tu) R := fun F B D σ H E r => h F B { D with nx := tu D } σ H E
  (fun Γ1 σ1 H1 n1 E1 x1 => g Γ1 n1 F B D σ1 H1 E1 r) fun d Γ2 σ2 v H2 r2 _ _ _ => r2.elim
theorem gl_then (h : StG K Γ ts (fun Γ' => Γ' = Γ1) fun _ _ => False) (g : StGL K Γ1 tu R) : StGL K Γ (tSeq ts tu) R := gl_seq h fun Γ' e => by rw [e]; exact g
theorem gl_ret (h : EvLX K Γ te R) : StGL K Γ (tRet te) R := fun F B D σ H E r => h F B σ H E _ fun ds Γ' p vs H' p1 E1 nF nB m x hl rv => r ds Γ' σ p vs H' p1 E1 nF nB hl rv
/-- what a def that draws promises, of a new list -/
def SpXL (K : Fg) (Pre : List PyData → Prop) (R : List PyData → List PyData → Prop) (c : List PyData → Nat) : Sp := fun vs H Q _ => ∃ (F : Addr → Prop) (b : Bx) (n : Nat) (ws : List V) (ds : List PyData), (∀ a, F a → H a ≠ none) ∧ ¬ F b.1 ∧ vs = .ref b.1 :: ws ∧ H b.1 = some (.lst (bxV b)) ∧ BxK n b ∧ n + c ds ≤ 1000000000 ∧ RpAll K (cut (fun a => F a ∨ a = b.1) H) ws ds ∧ Pre ds ∧
  ∀ (es : List PyData) (p : Addr) (us : List V) (H' : Hp) (b' : Bx), R ds es → b'.1 = b.1 → BxK (n + c ds) b' → (∀ a o, a ≠ b.1 → H a = some o → H' a = some o) → H' b.1 = some (.lst (bxV b')) → H p = none → H' p = some (.lst us) → RpAll K (cut (fun a => (F a ∨ a = b.1) ∨ a = p) H') us es → Q (.ref p) H'
theorem x_callBL {Pre : List PyData → Prop} {R0 : List PyData → List PyData → Prop} {c : List PyData → Nat} {E' : XK} {i : Nat} {b0 : Bx} (hi : Γ[i]? = some (.bx b0)) (h : EaX K Γ t fun ds Γ' => Pre ds ∧ ∃ b n, Γ'[i]? = some (.bx b) ∧ b.1 = b0.1 ∧ BxK n b ∧ n + c ds ≤ 1000000000 ∧ ∀ es b', R0 ds es → b'.1 = b0.1 → BxK (n + c ds) b' → R es (Γ'.set i (.bx b'))) : EvLX K Γ (tCall (SpXL K Pre R0 c) [] E' (tCons (tVar i) t)) R := fun F B σ H E Q q => by
  obtain ⟨p, vs, s1, s2, s3, s4⟩ := E.bx i b0 hi
  subst s3
  refine ⟨.ref b0.1, s1, h F B σ H E _ fun ds Γ1 ws H1 ⟨pre, b, n, hi1, hb, hbk, hn, fin⟩ E1 m1 x1 r1 => ?_⟩
  obtain ⟨p', vs', t1, t2, t3, t4⟩ := E1.bx i b hi1
  subst t3 t4
  have hmu : mu Γ1 σ b.1 := ⟨i, _, hi1, rfl, t1⟩
  have hset : (fun a => ((F a ∨ mu Γ1 σ a) ∧ a ≠ b.1) ∨ a = b.1) = fun a => F a ∨ mu Γ1 σ a := by
    funext a
    apply propext
    constructor
    · rintro (w | w)
      · exact w.1
      · rw [w]; exact .inr hmu
    · intro w
      by_cases z : a = b.1
      · exact .inr z
      · exact .inl ⟨w, z⟩
  have hset2 : ∀ p : Addr, (fun a => (((F a ∨ mu Γ1 σ a) ∧ a ≠ b.1) ∨ a = b.1) ∨ a = p) = fun a => (F a ∨ a = p) ∨ mu Γ1 σ a := fun p => by
    funext a
    have := congrFun hset a
    apply propext
    constructor
    · rintro (w | w)
      · rw [this] at w
        rcases w with w | w
        · exact .inl (.inl w)
        · exact .inr w
      · exact .inl (.inr w)
    · rintro ((w | w) | w)
      · exact .inl (by rw [this]; exact .inl w)
      · exact .inr w
      · exact .inl (by rw [this]; exact .inr w)
  show ∃ _, _
  refine ⟨fun a => (F a ∨ mu Γ1 σ a) ∧ a ≠ b.1, b, n, ws, ds, fun a w => ?_, fun w => w.2 rfl, by rw [List.append_nil, hb], t2, hbk, hn, by rw [hset]; exact r1, pre, fun es p us H2 b' rd hb' hbk' kp hl hp hus rv => ?_⟩
  · rcases w.1 with w | w
    · exact E1.fin a w
    · exact E1.muIn w
  · rw [hset2] at rv
    obtain ⟨E2, m2, x2⟩ := E1.write (e' := .bx b') (o := .lst (bxV b')) hi1 t1 rfl rfl (fun _ z => nomatch z) (fun _ z => nomatch z) (fun n' z => by cases z; exact ⟨_, rfl, hb'.symm, rfl⟩)
    have e3 : Ex (upd H1 b.1 (.lst (bxV b'))) H2 := fun a o w => by
      by_cases z : a = b.1
      · subst z
        rw [upd_same] at w
        cases w
        exact hl
      · rw [upd_ne z] at w
        exact kp a o z w
    have hpb : p ≠ b.1 := fun z => by rw [z, t2] at hp; cases hp
    have hpu : (upd H1 b.1 (.lst (bxV b'))) p = none := by rw [upd_ne hpb]; exact hp
    have hB : B p = none := by
      cases z : B p with
      | none => rfl
      | some o => rw [E1.base _ _ z] at hp; cases hp
    have E3 := E2.addF hpu e3 (by rw [hus]; simp)
    have ef : frz (fun a => F a ∨ a = p) (Γ1.set i (.bx b')) σ H2 = cut (fun a => (F a ∨ a = p) ∨ mu Γ1 σ a) H2 := by rw [frz, m2]
    refine q es _ p us H2 (fin es b' rd (hb'.trans hb) hbk') E3 (fun w => E1.fin p w hp) hB (m2.trans m1) (x1.tr (x2.tr ?_)) hus (by rw [ef]; exact rv)
    rw [ef]
    rw [frz, m2]
    intro a o w
    obtain ⟨n1, n2⟩ := cut_some w
    refine cut_of (fun u => ?_) (e3 _ _ n2)
    rcases u with (u | u) | u
    · exact n1 (.inl u)
    · rw [u, hpu] at n2; cases n2
    · exact n1 (.inr u)
theorem has_boxL {P : Program} {w : World} {K : Fg} {mg : Str → Option Value} {base : Heap} {x : Str} {st : Stmt} {k : Nat} {N ps : List Str} {t : TS} {Pre : List PyData → Prop} {R : List PyData → List PyData → Prop} {c : List PyData → Nat} (T : Txt1 K mg x st ps) (S : FnScope N ps (defScope st)) (hl : ∀ ds, Pre ds → ds.length + 1 = ps.length) (hN : ps.length ≤ N.length)
    (ph : ∀ (f : Addr) (cdv : Value) (A : Around) (outer : List Env) (s : Shared) (H : Hp) (E : XK), Room k (A.deeper (PyProof.Rows.envOfC x (defScope st) s.heap.objs.size f cdv)) → PSs (cxF P w K mg base N x st f cdv A outer s H E) (defBody st) t)
    (sem : ∀ ds b n, Pre ds → BxK n b → n + c ds ≤ 1000000000 → StGL K (bxs N b ds) t (fun es Γ' => R ds es ∧ ∃ b', Γ'[0]? = some (.bx b') ∧ b'.1 = b.1 ∧ BxK (n + c ds) b')) : Has P w K mg base x (k + 1) ps (SpXL K Pre R c) := by
  obtain ⟨f, fd, hm, Fu, hb⟩ := T.ex
  refine ⟨f, fd, hm, Fu.kp, hb, Fu.ok S (fun vs H Q E h => ?_) fun cdv A outer s H vs Q E hr h => ?_⟩
  · obtain ⟨F, b, n, ws, ds, _, _, rfl, _, _, _, r, pre, _⟩ := h
    rw [List.length_cons, r.len]
    exact hl ds pre
  · obtain ⟨F, b, n, ws, ds, hF, nF, rfl, hp, hbk, hn, r, pre, q⟩ := h
    have hlen := hl ds pre
    obtain ⟨E0, f0⟩ := envR_startB (N := N) hF nF hp r (by omega)
    have keep : ∀ {H' : Hp}, Ex (cut (fun a => a = b.1) H) H' → ∀ a o, a ≠ b.1 → H a = some o → H' a = some o := fun e a o n w => e a o (cut_of n w)
    refine ⟨t, ph f cdv A outer s H E hr, sem ds b n pre hbk hn F _ _ _ H E0 fun es Γ' σ' p us H' ⟨rd, b', hb', e1, hk'⟩ E' nFp nB hus rv => ?_⟩
    obtain ⟨p', vs', s1, s2, s3, s4⟩ := E'.bx 0 b' hb'
    subst s3 s4
    have hmu : mu Γ' σ' b.1 := ⟨0, _, hb', rfl, by rw [s1, e1]⟩
    have hpb : p ≠ b.1 := fun z => E'.out b.1 hmu (.inr z.symm)
    have hp0 : H p = none := by
      rw [cut_out (M := fun a => a = b.1) hpb] at nB
      exact nB
    refine q es p us H' b' rd e1 hk' (keep E'.base) (e1 ▸ s2) hp0 hus (rv.up (cut_less fun a z => ?_))
    rcases z with (z | z) | z
    · exact .inl (.inl z)
    · exact .inr (by rw [z]; exact hmu)
    · exact .inl (.inr z)
/-- a new list from data -/
def SpN (K : Fg) (R : List PyData → List PyData → Prop) : Sp := fun vs H Q _ => ∃ (F : Addr → Prop) (ds : List PyData), (∀ a, F a → H a ≠ none) ∧ RpAll K (cut F H) vs ds ∧ (∃ es, R ds es) ∧ ∀ (es : List PyData) (p : Addr) (us : List V) (H' : Hp), R ds es → Ex H H' → H p = none → H' p = some (.lst us) → RpAll K (cut (fun a => F a ∨ a = p) H') us es → Q (.ref p) H'
theorem has_new {P : Program} {w : World} {K : Fg} {mg : Str → Option Value} {base : Heap} {x : Str} {st : Stmt} {k : Nat} {N ps : List Str} {t : TS} {R : List PyData → List PyData → Prop} (T : Txt1 K mg x st ps) (S : FnScope N ps (defScope st)) (hl : ∀ ds es, R ds es → ds.length = ps.length) (hN : ps.length ≤ N.length)
    (ph : ∀ (f : Addr) (cdv : Value) (A : Around) (outer : List Env) (s : Shared) (H : Hp) (E : XK), Room k (A.deeper (PyProof.Rows.envOfC x (defScope st) s.heap.objs.size f cdv)) → PSs (cxF P w K mg base N x st f cdv A outer s H E) (defBody st) t)
    (sem : ∀ ds es, R ds es → StGL K (ims N ds) t fun es' _ => R ds es') : Has P w K mg base x (k + 1) ps (SpN K R) := by
  obtain ⟨f, fd, hm, Fu, hb⟩ := T.ex
  refine ⟨f, fd, hm, Fu.kp, hb, Fu.ok S (fun vs H Q E h => ?_) fun cdv A outer s H vs Q E hr h => ?_⟩
  · obtain ⟨F, ds, _, r, ⟨es, hR⟩, _⟩ := h
    rw [r.len]
    exact hl ds es hR
  · obtain ⟨F, ds, hF, r, ⟨es, hR⟩, q⟩ := h
    refine ⟨t, ph f cdv A outer s H E hr, sem ds es hR F H _ (L2.start N vs) H (envR_start hF r (by rw [hl ds es hR]; exact hN)) fun es' Γ' σ' p us H' rd E' nFp nB hus rv => ?_⟩
    exact q es' p us H' rd E'.base nB hus (rv.up (cut_less fun a z => .inl z))
theorem el_callN {R0 : List PyData → List PyData → Prop} {ds : List PyData} {E' : XK} (h : EaG K Γ t ds) (hr : ∃ es, R0 ds es) : EvLX K Γ (tCall (SpN K R0) [] E' t) fun es Γ' => R0 ds es ∧ Γ' = Γ := fun F B σ H E Q q => h F B σ H E _ fun ws H1 e1 r1 => by
  have E1 := E.ext e1
  show ∃ _, _
  refine ⟨fun a => F a ∨ mu Γ σ a, ds, fun a w => w.elim (E1.fin a) E1.muIn, by rw [List.append_nil]; exact r1, hr, fun es p us H' rd e2 hp hus rv => ?_⟩
  have hB : B p = none := by
    cases z : B p with
    | none => rfl
    | some o => rw [E1.base _ _ z] at hp; cases hp
  refine q es Γ p us H' ⟨rd, rfl⟩ (E1.addF hp e2 (by rw [hus]; simp)) (fun w => E1.fin p w hp) hB rfl (fun a o w => ?_) hus (rv.up (cut_less fun a z => ?_))
  · obtain ⟨n1, n2⟩ := cut_some w
    have n3 := e1 _ _ n2
    refine cut_of (fun u => ?_) (e2 _ _ n3)
    rcases u with (u | u) | u
    · exact n1 (.inl u)
    · rw [u, hp] at n3; cases n3
    · exact n1 (.inr u)
  · rcases z with (z | z) | z
    · exact .inl (.inl z)
    · exact .inr z
    · exact .inl (.inr z)
end
end K97
set_option Elab.async false
set_option linter.all false
set_option maxRecDepth 100000
set_option maxHeartbeats 4000000
/-! K97: the law's cells. -/
namespace K97
open Dt (en)
open PySem L2
section
variable {P : Program} {w : World} {K : Fg} {mg : Str → Option Value} {base : Heap} {tk : Nat → Tok}
def Pre__law_cells (ds : List PyData) : Prop := ds = [.int 5]
def R__law_cells (ds es : List PyData) : Prop := ∃ cs : List Str, es = cs.map en ∧ cs.length = 5 ∧ cs.Nodup ∧ ∀ c ∈ cs, CellOk c
def c__law_cells (_ : List PyData) : Nat := 11
theorem len__law_cells (ds : List PyData) (h : Pre__law_cells ds) : ds.length + 1 = 2 := by rw [h]; rfl
abbrev abc : Str := "abcdefghijklmnopqrstuvwxyz"
theorem abc_list : abc.cps.toList = (List.range 26).map (· + 97) := by decide +kernel
theorem abc_at {i : Nat} (h : i < 26) : abc.cps.toList[i]? = some (i + 97) := by
  rw [abc_list, List.getElem?_map, List.getElem?_range h]
  rfl
theorem ones_sum : ∀ xs : List Nat, (xs.map ((fun x : Str => x.length) ∘ fun c => S0 [c])).sum = xs.length
  | [] => rfl
  | x :: xs => by
    rw [List.map_cons, List.sum_cons, ones_sum xs, List.length_cons]
    show 1 + _ = _
    omega
theorem elts_str (x : Str) : elts (.str x) = x.cps.toList.map fun c => .str ⟨#[c]⟩ := rfl
theorem abc_elts : elts (.str abc) = (List.range 26).map fun i => .str (S0 [i + 97]) := by
  rw [elts_str, abc_list, List.map_map]
  rfl
theorem leap_ok : ∀ s : Fin 26, ∀ l ∈ ([1, 3, 5, 7, 9, 11] : List Nat), ∀ i : Fin 5, ∀ j : Fin 5, (s.1 + l * i.1) % 26 = (s.1 + l * j.1) % 26 → i = j := by decide +kernel
theorem ok__law_cells (T : Tx mg tk) (t : Txt1 K mg "_law_cells" (topS 79) ["_law_box_here", "_law_count"]) (h__law_of : Has P w K mg base "_law_of" 2 ["_law_box_here", "_law_some"] (SpX K Pre__law_of R__law_of c__law_of)) (h__law_take : Has P w K mg base "_law_take" 1 ["_law_box_here", "_law_upon"] (SpX K Pre__law_take R__law_take c__law_take)) : Has P w K mg base "_law_cells" 3 ["_law_box_here", "_law_count"] (SpXL K Pre__law_cells R__law_cells c__law_cells) := by
  have sc : FnScope ["_law_box_here", "_law_count", "_law_letters", "_law_start", "_law_leap", "_law_turn", "_law_stem", "_law_cut"] ["_law_box_here", "_law_count"] (defScope (topS 79)) := ⟨rfl, rfl, rfl, by decide +kernel, rfl, by decide +kernel, by decide +kernel⟩
  refine has_boxL t sc len__law_cells (by decide) (fun f cdv A outer s H E hr => (pss_cons (ps_set (i := 2) sc.nd rfl (.inr rfl) pe_str)
  (pss_cons (ps_asg (pe_tupF (pa_cons (pe_has (h__law_take.up (by decide)) hr (by rfl) (pa_cons (pv 0) (pa_cons pe_int pa_nil))) (pa_cons (pe_has (h__law_of.up (by decide)) hr (by rfl) (pa_cons (pv 0) (pa_cons (pe_lst (pa_cons pe_int (pa_cons pe_int (pa_cons pe_int (pa_cons pe_int (pa_cons pe_int (pa_cons pe_int pa_nil))))))) pa_nil))) pa_nil))) (k_pgT K rfl (n := 2) rfl (pgs_cons (pg_name (i := 3) sc.nd rfl (.inr rfl)) (pgs_cons (pg_name (i := 4) sc.nd rfl (.inr rfl)) pgs_nil))))
  (pss_cons (ps_set (i := 6) sc.nd rfl (.inr rfl) (k_join K rfl pe_str (pe_lc (own := [("_law_turn", 5)]) (by rfl) sc.nd (pi_range1 (by rfl) T.b_range (pa_cons (pe_has (h__law_of.up (by decide)) hr (by rfl) (pa_cons (pv 0) (pa_cons (pe_lst (pa_cons pe_int (pa_cons pe_int (pa_cons pe_int (pa_cons pe_int (pa_cons pe_int (pa_cons pe_int pa_nil))))))) pa_nil))) pa_nil)) (blkOk_by (by kernel_rfl)) (fun _ _ _ _ _ => (pg_name (i := 5) sc.nd rfl (.inl rfl))) (fun _ _ _ _ _ => pts_nil) (fun _ _ _ _ _ => (pe_has (h__law_of.up (by decide)) hr (by rfl) (pa_cons (pv 0) (pa_cons (pv 2) pa_nil)))))))
  (pss_cons (ps_set (i := 7) sc.nd rfl (.inr rfl) (pe_has (h__law_take.up (by decide)) hr (by rfl) (pa_cons (pv 0) (pa_cons (pe_op op_add (pe_callB (k_len K rfl) (by rfl) T.b_len (by decide +kernel) (pa_cons (pv 6) pa_nil)) pe_int) pa_nil))))
  (pss_one (ps_ret (pe_lc (own := [("_law_turn", 5)]) (by rfl) sc.nd (pi_range1 (by rfl) T.b_range (pa_cons (pv 1) pa_nil)) (blkOk_by (by kernel_rfl)) (fun _ _ _ _ _ => (pg_name (i := 5) sc.nd rfl (.inl rfl))) (fun _ _ _ _ _ => pts_nil) (fun _ _ _ _ _ => (pe_op op_add_str (pe_op op_add_str (pe_slice sl_str (pv 6) po_none (po_some (pv 7))) (pe_ix (k_ix K rfl) (pv 2) (pe_op op_mod (pe_op op_add (pv 3) (pe_op op_mul (pv 4) (pv 5))) pe_int) (fun _ _ => rfl))) (pe_slice sl_str (pv 6) (po_some (pv 7)) po_none))))))))))) ?_
  rintro ds b n rfl hb hn
  have hn : n + 11 ≤ 1000000000 := hn
  show StGL K [.bx b, .im (.int 5), .no, .no, .no, .no, .no, .no] _ _
  refine gl_then (sg_set ev_str rfl rfl rfl) ?_
  refine gl_seq (N1 := fun Γ' => ∃ (b2 : Bx) (s l : Nat), Γ' = [.bx b2, .im (.int 5), .im (.str abc), .im (.int s), .im (.int l), .no, .no, .no] ∧ b2.1 = b.1 ∧ BxK (n + 2) b2 ∧ s < 26 ∧ l ∈ ([1, 3, 5, 7, 9, 11] : List Nat)) (sg_asgPX (x_tup (xa_cons (P1 := fun d Γ' => ∃ (b1 : Bx) (s : Nat), d = .int s ∧ s < 26 ∧ Γ' = [.bx b1, .im (.int 5), .im (.str abc), .no, .no, .no, .no, .no] ∧ b1.1 = b.1 ∧ BxK (n + 1) b1) (x_take rfl hb (by omega) ev_int (by omega) (by omega) fun r b1 hr e1 k1 => ⟨b1, r, rfl, by omega, rfl, e1, k1⟩) (PL := fun ds Γ' => ∃ (b2 : Bx) (s l : Nat), ds = [.int s, .int l] ∧ Γ' = [.bx b2, .im (.int 5), .im (.str abc), .no, .no, .no, .no, .no] ∧ b2.1 = b.1 ∧ BxK (n + 2) b2 ∧ s < 26 ∧ l ∈ ([1, 3, 5, 7, 9, 11] : List Nat)) ?_) ?_)) ?_
  · rintro d Γ1 ⟨b1, s, rfl, hs, rfl, e1, k1⟩
    refine xa_cons (x_of (s := .list (([1, 3, 5, 7, 9, 11] : List Nat).map fun i : Nat => .int i)) rfl k1 (by omega) (el_lst (ea_cons ev_int (ea_cons ev_int (ea_cons ev_int (ea_cons ev_int (ea_cons ev_int (ea_one ev_int))))))).g (by simp [elts]) (by simp [elts]) fun d b2 hd e2 k2 => ?_) fun d Γ1 h => h
    obtain ⟨l, hl, rfl⟩ := List.mem_map.mp hd
    exact xa_nil ⟨b2, s, l, rfl, rfl, e2.trans e1, k2, hs, hl⟩
  · rintro ds Γ' ⟨b2, s, l, rfl, rfl, e2, k2, hs, hl⟩
    exact ⟨by simp, .int s, .int l, .no, .no, rfl, rfl, rfl, rfl, rfl, by decide, b2, s, l, rfl, e2, k2, hs, hl⟩
  rintro _ ⟨b2, s, l, rfl, e2, k2, hs, hl⟩
  refine gl_seq (N1 := fun Γ' => ∃ (b3 : Bx) (xs : List Nat), Γ' = [.bx b3, .im (.int 5), .im (.str abc), .im (.int s), .im (.int l), .no, .im (.str (S0 xs)), .no] ∧ b3.1 = b.1 ∧ BxK (n + 10) b3 ∧ xs.length ≤ 7 ∧ ∀ x ∈ xs, 97 ≤ x ∧ x ≤ 122) (sg_setX (x_join (EvLX.g (PL := fun ds Γ' => ∃ (b3 : Bx) (xs : List Nat), ds = xs.map (fun c => .str (S0 [c])) ∧ Γ' = [.bx b3, .im (.int 5), .im (.str abc), .im (.int s), .im (.int l), .no, .no, .no] ∧ b3.1 = b.1 ∧ BxK (n + 10) b3 ∧ xs.length ≤ 7 ∧ ∀ x ∈ xs, 97 ≤ x ∧ x ≤ 122) (el_lcX (ix_rng ?_)) ?_))) ?_
  · refine x_of (s := .list (([0, 0, 1, 2, 4, 7] : List Nat).map fun i : Nat => .int i)) rfl k2 (by omega) (el_lst (ea_cons ev_int (ea_cons ev_int (ea_cons ev_int (ea_cons ev_int (ea_cons ev_int (ea_one ev_int))))))).g (by simp [elts]) (by simp [elts]) fun d b3 hd e3 k3 => ?_
    obtain ⟨m, hm, rfl⟩ := List.mem_map.mp hd
    have hm7 : m ≤ 7 := by
      simp only [List.mem_cons, List.not_mem_nil, or_false] at hm
      omega
    refine ⟨m, rfl, by omega, fun i acc Γ' => ∃ (b4 : Bx) (xs : List Nat), acc = xs.map (fun c => .str (S0 [c])) ∧ Γ' = [.bx b4, .im (.int 5), .im (.str abc), .im (.int s), .im (.int l), .no, .no, .no] ∧ b4.1 = b.1 ∧ BxK (n + 3 + i) b4 ∧ xs.length = i ∧ ∀ x ∈ xs, 97 ≤ x ∧ x ≤ 122, ⟨nm_cons rfl rfl nm_nil, rfl, by simp; omega, ⟨b3, [], rfl, rfl, e3.trans e2, k3, rfl, fun x h => nomatch h⟩, ?_, ?_⟩⟩
    · rintro i x acc _ hi ⟨b4, xs, rfl, rfl, e4, k4, hl4, hx4⟩
      have him : i < m := by
        have := (List.getElem?_eq_some_iff.mp hi).1
        rwa [List.length_map, List.length_range] at this
      refine ⟨by rw [List.length_map]; omega, _, _, tg_name (j := 5) rfl rfl, by decide, et_yes.x ⟨fun _ => ?_, fun h => nomatch h⟩⟩
      refine x_of (s := .str abc) rfl k4 (by omega) (ev_var rfl) (by rw [abc_elts]; simp) (by rw [abc_elts]; simp) fun d b5 hd e5 k5 => ?_
      rw [abc_elts] at hd
      obtain ⟨a, ha, rfl⟩ := List.mem_map.mp hd
      rw [List.mem_range] at ha
      refine ⟨nm_cons rfl rfl nm_nil, b5, xs ++ [a + 97], ?_, rfl, e5.trans e4, ?_, ?_, ?_⟩
      · rw [List.map_append]
        rfl
      · rw [show n + 3 + (i + 1) = n + 3 + i + 1 by omega]
        exact k5
      · rw [List.length_append, hl4]
        rfl
      · intro x hx
        rcases List.mem_append.mp hx with hx | hx
        · exact hx4 x hx
        · rw [List.mem_singleton] at hx
          omega
    · rintro acc _ ⟨b4, xs, rfl, rfl, e4, k4, hl4, hx4⟩
      rw [List.length_map, List.length_range] at k4 hl4
      refine ⟨?_, b4, xs, rfl, rfl, e4, k4.up (by omega), by omega, hx4⟩
      intro v hv
      cases List.mem_singleton.mp hv
      rfl
  · rintro ds _ ⟨b3, xs, rfl, rfl, e3, k3, hl3, hx3⟩
    refine ⟨xs.map fun c => S0 [c], by rw [List.map_map]; rfl, ?_, ⟨.no, rfl, rfl⟩, b3, xs, ?_, e3, k3, hl3, hx3⟩
    · rw [List.map_map, List.length_map]
      have : (xs.map ((fun x : Str => x.length) ∘ fun c => S0 [c])).sum = xs.length := ones_sum xs
      rw [this]
      have e0 : (Str.length ("" : Str)) = 0 := rfl
      rw [e0]
      omega
    · have : Str.join ("" : Str) (xs.map fun c => S0 [c]) = S0 xs := s0_join xs
      rw [this]
      rfl
  rintro _ ⟨b3, xs, rfl, e3, k3, hl3, hx3⟩
  refine gl_seq (N1 := fun Γ' => ∃ (b4 : Bx) (k : Nat), Γ' = [.bx b4, .im (.int 5), .im (.str abc), .im (.int s), .im (.int l), .no, .im (.str (S0 xs)), .im (.int k)] ∧ b4.1 = b.1 ∧ BxK (n + 11) b4 ∧ k ≤ xs.length) (sg_setX (x_take (u := xs.length + 1) rfl k3 (by omega) ((ev_I0 (ev_lenS (ev_var rfl) (by rw [s0_len]; omega)) ev_int fun H => .int _).cast (by rw [s0_len])) (by omega) (by omega) fun r b4 hr e4 k4 => ⟨⟨.no, rfl, rfl⟩, b4, r, rfl, e4.trans e3, k4, by omega⟩)) ?_
  rintro _ ⟨b4, k, rfl, e4, k4, hk⟩
  have hl11 : l ≤ 11 := by
    simp only [List.mem_cons, List.not_mem_nil, or_false] at hl
    omega
  refine gl_ret (EvL.x (tv_lm (fun i : Nat => .int i) (List.range 5) (f := fun i => en (S0 (xs.take k ++ [(s + l * i) % 26 + 97] ++ xs.drop k))) (it_rng (n := 5) (ea_one (ev_var rfl))) (fun i _ => tg_name rfl rfl) (fun i hi => ?_) (by simp)) ⟨⟨(List.range 5).map fun i => S0 (xs.take k ++ [(s + l * i) % 26 + 97] ++ xs.drop k), by rw [List.map_map]; rfl, by simp, ?_, ?_⟩, b4, rfl, e4, k4⟩)
  · have hm : (s + l * i) % 26 < 26 := Nat.mod_lt _ (by omega)
    rw [List.mem_range] at hi
    refine (ev_catS (ev_catS ((ev_slS (ev_var rfl) (by rw [s0_len]; omega) eo_no (eo_int (ev_var rfl))).cast (by rw [cutS_hi hk])) (ev_ixS (i := ((s + l * i) % 26 : Nat)) (c := (s + l * i) % 26 + 97) (ev_var rfl) ((ev_I (ev_I0 (ev_var rfl) (ev_I (ev_var rfl) (ev_var rfl) (.inl (by omega)) fun H => .int _) fun H => .int _) ev_int (by omega) fun H => .int _).cast ?_) (by decide) ?_) ?_) ((ev_slS (ev_var rfl) (by rw [s0_len]; omega) (eo_int (ev_var rfl)) eo_no).cast (by rw [cutS_lo hk])) ?_).cast ?_
    · simp
    · unfold L2.atI ixN
      rw [if_pos (Int.natCast_nonneg _), if_pos (by rw [abc_list]; simp; omega)]
      exact abc_at hm
    · rw [s0_len, List.length_take]
      show _ + 1 ≤ _
      omega
    · show (S0 (xs.take k) ++ S0 [(s + l * i) % 26 + 97]).length + _ ≤ _
      rw [s0_app, s0_len, s0_len, List.length_append, List.length_take, List.length_drop]
      show _ + 1 + _ ≤ _
      omega
    · show PyData.str (S0 (xs.take k) ++ S0 [(s + l * i) % 26 + 97] ++ S0 (xs.drop k)) = _
      rw [s0_app, s0_app]
      rfl
  · refine List.Pairwise.map _ (R := fun i j => i < 5 ∧ j < 5 ∧ i ≠ j) ?_ ?_
    · rintro i j ⟨hi, hj, hne⟩ h
      have h := s0_inj h
      rw [List.append_assoc, List.append_assoc] at h
      have h := List.append_cancel_left h
      have h := (List.cons.inj h).1
      exact hne (congrArg Fin.val (leap_ok ⟨s, hs⟩ l hl ⟨i, hi⟩ ⟨j, hj⟩ (by show (s + l * i) % 26 = (s + l * j) % 26; omega)))
    · decide
  · intro c hc
    obtain ⟨i, hi, rfl⟩ := List.mem_map.mp hc
    have hm : (s + l * i) % 26 < 26 := Nat.mod_lt _ (by omega)
    refine ⟨?_, ?_, fun x hx => ?_⟩
    · rw [s0_len]; simp; omega
    · rw [s0_len]; simp; omega
    · rw [s0_list] at hx
      simp only [List.mem_append, List.mem_singleton] at hx
      rcases hx with (hx | hx) | hx
      · exact hx3 x (List.mem_of_mem_take hx)
      · omega
      · exact hx3 x (List.mem_of_mem_drop hx)
end
end K97
set_option Elab.async false
set_option linter.all false
set_option maxRecDepth 100000
set_option maxHeartbeats 4000000
/-! K97: the order of pairs; sorted logs are well-formed. -/
namespace K97
open Dt (en)
open PySem L2
section
variable {α β : Type} [Dt α] [Dt β]
theorem dle_fst {p q : α × β} (h : dle p q = true) : dle p.1 q.1 = true := by
  have h : (!PySem.W.dataLt (.tuple [en q.1, en q.2]) (.tuple [en p.1, en p.2])) = true := h
  rw [PySem.W.dataLt_pair (Dt.al _ _) (Dt.al _ _)] at h
  by_cases e : PyData.eqv (en q.1) (en p.1) = true
  · have e := (Dt.ev q.1 p.1).mp e
    rw [e]
    exact dle_total.refl p.1
  · rw [if_neg e] at h
    exact h
theorem dle_of_fst {p q : α × β} (h : dle p.1 q.1 = true) (hne : p.1 ≠ q.1) : dle p q = true := by
  show (!PySem.W.dataLt (.tuple [en q.1, en q.2]) (.tuple [en p.1, en p.2])) = true
  rw [PySem.W.dataLt_pair (Dt.al _ _) (Dt.al _ _), if_neg fun e => hne ((Dt.ev q.1 p.1).mp e).symm]
  exact h
end
theorem cells_sort_up {l : Lg} (hn : (cellsOf l).Nodup) : Up (cellsOf (dsort l)) := by
  have hp : (cellsOf (dsort l)).Pairwise fun a b => dle a b = true := List.Pairwise.map _ (fun a b h => dle_fst h) (dsort_pw l)
  have hnd : (cellsOf (dsort l)).Nodup := ((dsort_perm l).symm.map (fun p : Str × Int => p.1)).nodup hn
  exact up_of hnd hp
theorem mem_cells_sort {l : Lg} {c : Str} : c ∈ cellsOf (dsort l) ↔ c ∈ cellsOf l := ((dsort_perm l).map (fun p : Str × Int => p.1)).mem_iff
theorem lgW_sort {l : Lg} (hn : (cellsOf l).Nodup) (hp : ∀ p ∈ l, PairOk p) (hl : l.length ≤ 60) : LgW (dsort l) := ⟨fun p h => hp p (mem_dsort.mp h), cells_sort_up hn, by rw [len_dsort]; exact hl⟩
/-- a well-formed log stands sorted -/
theorem lgW_sorted {l : Lg} (h : LgW l) : dsort l = l := by
  refine dsort_self ?_
  have h1 : l.Pairwise fun p q : Str × Int => strLt p.1 q.1 = true := List.pairwise_map.mp h.up
  exact List.Pairwise.imp (fun {p q} h => dle_of_fst (dle_of_lt h) (strLt_ne h)) h1
section
variable {K : Fg} {Γ : En} {ta tb te : TE} {ds : List PyData} {b : Bool}
abbrev rInt1 : List V → Hp → VK → Prop := fun xs H Q => (∃ i, xs = [.int i] ∧ Q (.int i) H) ∨ ∃ k, xs = [.bl k] ∧ Q (.int (if k then 1 else 0)) H
theorem ev_intB (h : EvG K Γ te (.bool b)) : EvG K Γ (tCB rInt1 (tCons te tNil)) (.int (if b then 1 else 0)) := fun F B σ H E Q q => h F B σ H E _ fun v H1 e1 r1 => by
  cases r1
  exact .inr ⟨b, rfl, q _ H1 e1 (.int _)⟩
theorem RpAll.rep {H : Hp} {vs : List V} (r : RpAll K H vs ds) : ∀ k, RpAll K H (List.replicate k vs).flatten (List.replicate k ds).flatten
  | 0 => .nil
  | k + 1 => by
    rw [List.replicate_succ, List.replicate_succ, List.flatten_cons, List.flatten_cons]
    exact r.app (RpAll.rep r k)
/-- a new list times a number -/
theorem el_rep {k : Nat} (ha : EvL K Γ ta ds) (hb : EvG K Γ tb (.int k)) (hz : ds.length * k ≤ 100000) (hk : k ≤ 100000) : EvL K Γ (tOp rRep ta tb) (List.replicate k ds).flatten := fun F B σ H E Q q =>
  ha F B σ H E _ fun p vs H1 hp e1 hl r1 => hb F B σ H1 (E.ext e1) _ fun v H2 e2 r2 => by
    cases r2
    refine ⟨p, k, vs, rfl, rfl, e2 _ _ hl, by omega, by omega, by rw [r1.len, Int.toNat_natCast]; exact size5 hz, fun p2 hp2 => ?_⟩
    rw [Int.toNat_natCast]
    have e3 : Ex H2 (upd H2 p2 (.lst (List.replicate k vs).flatten)) := Ex.new hp2
    refine q p2 _ _ ((e1.tr e2).free hp2) ((e1.tr e2).tr e3) upd_same ((r1.rep k).up fun a o z => ?_)
    obtain ⟨n, z⟩ := cut_some z
    have z2 := e2 _ _ z
    refine cut_of (fun w => ?_) (e3 _ _ z2)
    rcases w with (w | w) | w
    · exact n (.inl (.inl w))
    · rw [w, hp2] at z2; cases z2
    · exact n (.inr w)
/-- [e] * int(test) -/
theorem el_once {d : PyData} (ha : EvG K Γ ta d) (hb : EvG K Γ tb (.bool b)) : EvL K Γ (tOp rRep (tLst (tCons ta tNil)) (tCB rInt1 (tCons tb tNil))) (if b then [d] else []) := by
  cases b with
  | true => exact (el_rep (k := 1) (el_lst (ea_one ha)) (ev_intB hb) (by simp) (by decide)).cast (by simp)
  | false => exact (el_rep (k := 0) (el_lst (ea_one ha)) (ev_intB hb) (by simp) (by decide)).cast (by simp)
end
end K97
set_option Elab.async false
set_option linter.all false
set_option maxRecDepth 100000
set_option maxHeartbeats 4000000
/-! K97: what a renaming keeps, in plain words. -/
namespace K97
open Dt (en)
open PySem L2
/-- a renaming of the cells cs -/
structure RnOk (cs : List Str) (tb : Tb) : Prop where
  nm : ∀ c ∈ cs, CellOk (mName tb c)
  inj : ∀ c ∈ cs, ∀ d ∈ cs, mName tb c = mName tb d → c = d
  vi : ∀ c (v w : Int), 0 ≤ v → 0 ≤ w → mVal tb c v = mVal tb c w → v = w
  vo : ∀ c (v : Int), 0 ≤ v → v ≤ 1000000000 → 0 ≤ mVal tb c v ∧ mVal tb c v ≤ 1000000000
  inT : ∀ c ∈ cs, InTb tb c
/-- a log over cs -/
structure OnC (cs : List Str) (l : Lg) : Prop where
  w : LgW l
  sub : ∀ c ∈ cellsOf l, c ∈ cs
section
variable {cs : List Str} {tb : Tb} {l m : Lg} {c d : Str}
theorem OnC.val (h : OnC cs l) {v : Int} (e : lkp l c = some v) : 0 ≤ v ∧ v ≤ 1000000000 ∧ c ∈ cs := by
  have h1 := (lkp_of_mem h.w.up.nodup).mp e
  have h2 := h.w.ok _ h1
  exact ⟨h2.2.1, h2.2.2, h.sub c (List.mem_map_of_mem (f := fun p : Str × Int => p.1) h1)⟩
theorem cells_pairR (tb : Tb) (l : Lg) : cellsOf (l.map (mPairR tb)) = (cellsOf l).map (mName tb) := by
  unfold cellsOf
  rw [List.map_map, List.map_map]
  rfl
theorem nodup_map_on {α β : Type} {f : α → β} : ∀ {xs : List α}, xs.Nodup → (∀ a ∈ xs, ∀ b ∈ xs, f a = f b → a = b) → (xs.map f).Nodup
  | [], _, _ => .nil
  | x :: xs, hn, hf => by
    rw [List.nodup_cons] at hn
    rw [List.map_cons, List.nodup_cons]
    refine ⟨fun z => ?_, nodup_map_on hn.2 fun a ha b hb => hf a (List.mem_cons_of_mem _ ha) b (List.mem_cons_of_mem _ hb)⟩
    obtain ⟨y, hy, e⟩ := List.mem_map.mp z
    exact hn.1 (hf y (List.mem_cons_of_mem _ hy) x List.mem_cons_self e ▸ hy)
variable (T : RnOk cs tb)
include T
theorem RnOk.pin {p q : Str × Int} (hp : p.1 ∈ cs) (hq : q.1 ∈ cs) (h1 : 0 ≤ p.2) (h2 : 0 ≤ q.2) (e : mPairR tb p = mPairR tb q) : p = q := by
  have e1 : mName tb p.1 = mName tb q.1 := congrArg (fun z : Str × Int => z.1) e
  have e2 : mVal tb p.1 p.2 = mVal tb q.1 q.2 := congrArg (fun z : Str × Int => z.2) e
  have e3 := T.inj _ hp _ hq e1
  rw [← e3] at e2
  have e4 := T.vi _ _ _ h1 h2 e2
  cases p
  cases q
  simp_all
theorem named_nodup (h : OnC cs l) : (cellsOf (l.map (mPairR tb))).Nodup := by
  rw [cells_pairR]
  exact nodup_map_on h.w.up.nodup fun a ha b hb => T.inj a (h.sub a ha) b (h.sub b hb)
theorem named_w (h : OnC cs l) : LgW (mNamed tb l) := lgW_sort (named_nodup T h) (fun p hp => by
  obtain ⟨q, hq, rfl⟩ := List.mem_map.mp hp
  have h1 := h.w.ok q hq
  exact ⟨T.nm _ (h.sub _ (List.mem_map_of_mem (f := fun p : Str × Int => p.1) hq)), T.vo _ _ h1.2.1 h1.2.2⟩) (by rw [List.length_map]; exact h.w.lenS)
omit T in
theorem mem_named {p : Str × Int} : p ∈ mNamed tb l ↔ ∃ q ∈ l, p = mPairR tb q := by
  unfold mNamed
  rw [mem_dsort, List.mem_map]
  constructor
  · rintro ⟨q, h1, h2⟩
    exact ⟨q, h1, h2.symm⟩
  · rintro ⟨q, h1, h2⟩
    exact ⟨q, h1, h2.symm⟩
omit T in
theorem named_cells {x : Str} : x ∈ cellsOf (mNamed tb l) ↔ ∃ c ∈ cellsOf l, x = mName tb c := by
  unfold mNamed
  rw [mem_cells_sort, cells_pairR, List.mem_map]
  constructor
  · rintro ⟨q, h1, h2⟩
    exact ⟨q, h1, h2.symm⟩
  · rintro ⟨q, h1, h2⟩
    exact ⟨q, h1, h2.symm⟩
omit T in
theorem named_len : (mNamed tb l).length = l.length := by unfold mNamed; rw [len_dsort, List.length_map]
theorem lkp_named (h : OnC cs l) (hc : c ∈ cs) : lkp (mNamed tb l) (mName tb c) = (lkp l c).map (mVal tb c) := by
  have hn := (named_w T h).up.nodup
  cases q : lkp l c with
  | some v =>
    refine (lkp_of_mem hn).mpr (mem_named.mpr ⟨(c, v), (lkp_of_mem h.w.up.nodup).mp q, rfl⟩)
  | none =>
    cases q' : lkp (mNamed tb l) (mName tb c) with
    | none => rfl
    | some v =>
      obtain ⟨p, hp, e⟩ := mem_named.mp ((lkp_of_mem hn).mp q')
      have e1 : mName tb c = mName tb p.1 := congrArg (fun z : Str × Int => z.1) e
      have hpc : p.1 ∈ cellsOf l := List.mem_map_of_mem (f := fun p : Str × Int => p.1) hp
      have e2 := T.inj _ hc _ (h.sub _ hpc) e1
      have := lkp_mem.mpr hpc
      rw [← e2, q] at this
      cases this
theorem named_some (h : OnC cs l) (hc : c ∈ cs) : (lkp (mNamed tb l) (mName tb c)).isSome = (lkp l c).isSome := by rw [lkp_named T h hc, Option.isSome_map]
theorem named_has (h : OnC cs l) (hc : c ∈ cs) : mName tb c ∈ cellsOf (mNamed tb l) ↔ c ∈ cellsOf l := by
  rw [cellsOf, ← lkp_mem, named_some T h hc, lkp_mem]
  rfl
/-- of two logs -/
theorem named_eqAt (h : OnC cs l) (g : OnC cs m) (hc : c ∈ cs) : lkp (mNamed tb l) (mName tb c) = lkp (mNamed tb m) (mName tb c) ↔ lkp l c = lkp m c := by
  rw [lkp_named T h hc, lkp_named T g hc]
  constructor
  · intro e
    cases q : lkp l c with
    | none =>
      cases q' : lkp m c with
      | none => rfl
      | some v => rw [q, q'] at e; cases e
    | some v =>
      cases q' : lkp m c with
      | none => rw [q, q'] at e; cases e
      | some w =>
        rw [q, q'] at e
        rw [T.vi c v w (h.val q).1 (g.val q').1 (Option.some.inj e)]
  · intro e
    rw [e]
omit T in
theorem log_ext (h : LgW l) (g : LgW m) (e : ∀ p, p ∈ l ↔ p ∈ m) : l = m := by
  have nd : ∀ {l : Lg}, LgW l → l.Nodup := fun {l} h => List.Pairwise.imp (R := fun a b : Str × Int => strLt a.1 b.1 = true) (fun {a b} (z : strLt a.1 b.1 = true) (e : a = b) => strLt_ne z (congrArg (fun p : Str × Int => p.1) e)) (List.pairwise_map.mp h.up)
  rw [← lgW_sorted h, ← lgW_sorted g]
  exact dsort_of_mem (nd h) (nd g) e
theorem named_sub (h : OnC cs l) (g : OnC cs m) (e : mNamed tb l = mNamed tb m) : ∀ p ∈ l, p ∈ m := fun p hp => by
  have hc : p.1 ∈ cs := h.sub _ (List.mem_map_of_mem (f := fun p : Str × Int => p.1) hp)
  have h1 : lkp l p.1 = some p.2 := (lkp_of_mem h.w.up.nodup).mpr hp
  have h2 := (named_eqAt T h g hc).mp (by rw [e])
  rw [h1] at h2
  exact (lkp_of_mem g.w.up.nodup).mp h2.symm
theorem named_inj (h : OnC cs l) (g : OnC cs m) (e : mNamed tb l = mNamed tb m) : l = m :=
  log_ext h.w g.w fun p => ⟨named_sub T h g e p, named_sub T g h e.symm p⟩
end
/-! ### groups, sets of cells, pairs -/
/-- G' are the logs of G renamed -/
structure GR (cs : List Str) (tb : Tb) (G G' : List Lg) : Prop where
  on : ∀ l ∈ G, OnC cs l
  nd : G.Nodup
  nd' : G'.Nodup
  mem : ∀ l', l' ∈ G' ↔ ∃ l ∈ G, l' = mNamed tb l
/-- D' are the cells of D renamed -/
structure SR (cs : List Str) (tb : Tb) (D D' : List Str) : Prop where
  sub : ∀ c ∈ D, c ∈ cs
  mem : ∀ x, x ∈ D' ↔ ∃ c ∈ D, x = mName tb c
/-- k' are the pairs of k renamed -/
structure PR (cs : List Str) (tb : Tb) (k k' : Lg) : Prop where
  sub : ∀ p ∈ k, p.1 ∈ cs ∧ 0 ≤ p.2
  mem : ∀ p', p' ∈ k' ↔ ∃ p ∈ k, p' = mPairR tb p
section
variable {cs : List Str} {tb : Tb} {G G' : List Lg} {D D' E E' A A' : List Str} {k k' l s : Lg} {c : Str}
theorem SR.has (T : RnOk cs tb) (h : SR cs tb D D') (hc : c ∈ cs) : mName tb c ∈ D' ↔ c ∈ D := by
  rw [h.mem]
  constructor
  · rintro ⟨d, h1, h2⟩
    rw [T.inj c hc d (h.sub d h1) h2]
    exact h1
  · intro h1
    exact ⟨c, h1, rfl⟩
theorem SR.nil' (h : SR cs tb D D') : D' = [] ↔ D = [] := by
  constructor
  · intro e
    apply List.eq_nil_iff_forall_not_mem.mpr
    intro c hc
    have : mName tb c ∈ D' := (h.mem _).mpr ⟨c, hc, rfl⟩
    rw [e] at this
    cases this
  · intro e
    apply List.eq_nil_iff_forall_not_mem.mpr
    intro x hx
    obtain ⟨c, hc, _⟩ := (h.mem x).mp hx
    rw [e] at hc
    cases hc
theorem SR.app (h : SR cs tb D D') (g : SR cs tb E E') : SR cs tb (D ++ E) (D' ++ E') := ⟨fun c hc => (List.mem_append.mp hc).elim (h.sub c) (g.sub c), fun x => by
  rw [List.mem_append, h.mem, g.mem]
  constructor
  · rintro (⟨c, h1, h2⟩ | ⟨c, h1, h2⟩)
    · exact ⟨c, List.mem_append.mpr (.inl h1), h2⟩
    · exact ⟨c, List.mem_append.mpr (.inr h1), h2⟩
  · rintro ⟨c, h1, h2⟩
    rcases List.mem_append.mp h1 with h1 | h1
    · exact .inl ⟨c, h1, h2⟩
    · exact .inr ⟨c, h1, h2⟩⟩
theorem SR.nil : SR cs tb [] [] := ⟨(fun c h => nomatch h), fun x => by simp⟩
theorem SR.one (hc : c ∈ cs) : SR cs tb [c] [mName tb c] := ⟨fun d h => by rw [List.mem_singleton.mp h]; exact hc, fun x => by simp⟩
theorem SR.filter (T : RnOk cs tb) (h : SR cs tb D D') {p q : Str → Bool} (hp : ∀ c ∈ cs, q (mName tb c) = p c) : SR cs tb (D.filter p) (D'.filter q) := ⟨fun c hc => h.sub c (List.mem_filter.mp hc).1, fun x => by
  rw [List.mem_filter, h.mem]
  constructor
  · rintro ⟨⟨c, h1, rfl⟩, h2⟩
    rw [hp c (h.sub c h1)] at h2
    exact ⟨c, List.mem_filter.mpr ⟨h1, h2⟩, rfl⟩
  · rintro ⟨c, h1, rfl⟩
    rw [List.mem_filter] at h1
    exact ⟨⟨c, h1.1, rfl⟩, by rw [hp c (h.sub c h1.1)]; exact h1.2⟩⟩
theorem SR.perm (h : SR cs tb D D') (hE : ∀ x, x ∈ E ↔ x ∈ D) (hE' : ∀ x, x ∈ E' ↔ x ∈ D') : SR cs tb E E' := ⟨fun c hc => h.sub c ((hE c).mp hc), fun x => by
  rw [hE', h.mem]
  constructor
  · rintro ⟨c, h1, h2⟩
    exact ⟨c, (hE c).mpr h1, h2⟩
  · rintro ⟨c, h1, h2⟩
    exact ⟨c, (hE c).mp h1, h2⟩⟩
theorem SR.set (h : ∀ c ∈ D, c ∈ cs) : SR cs tb D (mSet tb D) := ⟨h, fun x => by
  unfold mSet
  rw [mem_dsort, List.mem_map]
  constructor
  · rintro ⟨c, h1, h2⟩
    exact ⟨c, h1, h2.symm⟩
  · rintro ⟨c, h1, h2⟩
    exact ⟨c, h1, h2.symm⟩⟩
theorem SR.notIn (T : RnOk cs tb) (h : SR cs tb A A') (c : Str) (hc : c ∈ cs) : (!decide (mName tb c ∈ A')) = !decide (c ∈ A) := by rw [decide_eq_decide.mpr (h.has T hc)]
theorem SR.isIn (T : RnOk cs tb) (h : SR cs tb A A') (c : Str) (hc : c ∈ cs) : decide (mName tb c ∈ A') = decide (c ∈ A) := by rw [decide_eq_decide.mpr (h.has T hc)]
theorem set_nodup (T : RnOk cs tb) (hn : D.Nodup) (hs : ∀ c ∈ D, c ∈ cs) : (D.map (mName tb)).Nodup := nodup_map_on hn fun a ha b hb => T.inj a (hs a ha) b (hs b hb)
theorem set_up (T : RnOk cs tb) (hn : D.Nodup) (hs : ∀ c ∈ D, c ∈ cs) : Up (mSet tb D) := dsort_up (set_nodup T hn hs)
theorem SR.eq (T : RnOk cs tb) (h : SR cs tb D D') (hn : D.Nodup) (hu : Up D') : mSet tb D = D' := up_eq (set_up T hn h.sub) hu fun x => by rw [(SR.set (tb := tb) h.sub).mem, h.mem]
theorem SR.pm (T : RnOk cs tb) (h : SR cs tb D D') (hn : D.Nodup) (hn' : D'.Nodup) : (D.map (mName tb)).Perm D' := (List.perm_ext_iff_of_nodup (set_nodup T hn h.sub) hn').mpr fun x => by
  rw [h.mem, List.mem_map]
  constructor
  · rintro ⟨c, h1, h2⟩
    exact ⟨c, h1, h2.symm⟩
  · rintro ⟨c, h1, h2⟩
    exact ⟨c, h1, h2.symm⟩
theorem SR.len (T : RnOk cs tb) (h : SR cs tb D D') (hn : D.Nodup) (hn' : D'.Nodup) : D'.length = D.length := by
  have := (h.pm T hn hn').length_eq
  rw [List.length_map] at this
  exact this.symm
theorem GR.len (T : RnOk cs tb) (h : GR cs tb G G') : G'.length = G.length := by
  have h1 : (G.map (mNamed tb)).Nodup := nodup_map_on h.nd fun a ha b hb => named_inj T (h.on a ha) (h.on b hb)
  have h2 : (G.map (mNamed tb)).Perm G' := (List.perm_ext_iff_of_nodup h1 h.nd').mpr fun x => by
    rw [h.mem, List.mem_map]
    constructor
    · rintro ⟨c, h1, h2⟩
      exact ⟨c, h1, h2.symm⟩
    · rintro ⟨c, h1, h2⟩
      exact ⟨c, h1, h2.symm⟩
  have := h2.length_eq
  rw [List.length_map] at this
  exact this.symm
theorem GR.nil' (T : RnOk cs tb) (h : GR cs tb G G') : G' = [] ↔ G = [] := by
  rw [← List.length_eq_zero_iff, ← List.length_eq_zero_iff, h.len T]
theorem GR.has (T : RnOk cs tb) (h : GR cs tb G G') (hl : OnC cs l) : mNamed tb l ∈ G' ↔ l ∈ G := by
  rw [h.mem]
  constructor
  · rintro ⟨m, h1, h2⟩
    rw [named_inj T hl (h.on m h1) h2]
    exact h1
  · intro h1
    exact ⟨l, h1, rfl⟩
theorem GR.shared (T : RnOk cs tb) (h : GR cs tb G G') : SR cs tb (mShared G) (mShared G') := by
  have sub : ∀ c ∈ mShared G, c ∈ cs := fun c hc => by
    obtain ⟨h1, h2⟩ := mem_mShared.mp hc
    obtain ⟨g, r, e⟩ := List.exists_cons_of_ne_nil h1
    have hg : g ∈ G := by rw [e]; exact List.mem_cons_self
    exact (h.on g hg).sub c (lkp_mem.mp (h2 g hg))
  refine ⟨sub, fun x => ?_⟩
  constructor
  · intro hx
    obtain ⟨h1, h2⟩ := mem_mShared.mp hx
    have hG : G ≠ [] := fun z => h1 ((h.nil' T).mpr z)
    obtain ⟨g, r, e⟩ := List.exists_cons_of_ne_nil hG
    have hg : g ∈ G := by rw [e]; exact List.mem_cons_self
    have h3 := h2 (mNamed tb g) ((h.mem _).mpr ⟨g, hg, rfl⟩)
    obtain ⟨c, h4, rfl⟩ := named_cells.mp (lkp_mem.mp h3)
    have hc := (h.on g hg).sub c h4
    refine ⟨c, mem_mShared.mpr ⟨hG, fun l hl => ?_⟩, rfl⟩
    rw [← named_some T (h.on l hl) hc]
    exact h2 _ ((h.mem _).mpr ⟨l, hl, rfl⟩)
  · rintro ⟨c, hc, rfl⟩
    have hcc := sub c hc
    obtain ⟨h1, h2⟩ := mem_mShared.mp hc
    refine mem_mShared.mpr ⟨fun z => h1 ((h.nil' T).mp z), fun l' hl' => ?_⟩
    obtain ⟨l, hl, rfl⟩ := (h.mem l').mp hl'
    rw [named_some T (h.on l hl) hcc]
    exact h2 l hl
theorem GR.unread (T : RnOk cs tb) (h : GR cs tb G G') (hD : SR cs tb D D') : SR cs tb (mUnread G D) (mUnread G' D') := (h.shared T).filter T fun c hc => hD.notIn T c hc
theorem GR.agree (T : RnOk cs tb) (h : GR cs tb G G') (hk : PR cs tb k k') : GR cs tb (mAgreeing G k) (mAgreeing G' k') := by
  refine ⟨fun l hl => h.on l (mem_mAgreeing.mp hl).1, List.filter_sublist.nodup h.nd, List.filter_sublist.nodup h.nd', fun l' => ?_⟩
  have key : ∀ l ∈ G, ((∀ p ∈ k', lkp (mNamed tb l) p.1 = some p.2) ↔ ∀ p ∈ k, lkp l p.1 = some p.2) := fun l hl => by
    have one : ∀ p ∈ k, (lkp (mNamed tb l) (mPairR tb p).1 = some (mPairR tb p).2 ↔ lkp l p.1 = some p.2) := fun p hp => by
      obtain ⟨h1, h2⟩ := hk.sub p hp
      show lkp (mNamed tb l) (mName tb p.1) = some (mVal tb p.1 p.2) ↔ _
      rw [lkp_named T (h.on l hl) h1]
      constructor
      · intro e
        obtain ⟨v, hv, e⟩ := Option.map_eq_some_iff.mp e
        rw [hv, T.vi _ _ _ ((h.on l hl).val hv).1 h2 e]
      · intro e
        rw [e]
        rfl
    constructor
    · intro q p hp
      exact (one p hp).mp (q _ ((hk.mem _).mpr ⟨p, hp, rfl⟩))
    · intro q p' hp'
      obtain ⟨p, hp, rfl⟩ := (hk.mem p').mp hp'
      exact (one p hp).mpr (q p hp)
  rw [mem_mAgreeing, h.mem]
  constructor
  · rintro ⟨⟨l, hl, rfl⟩, h2⟩
    exact ⟨l, mem_mAgreeing.mpr ⟨hl, (key l hl).mp h2⟩, rfl⟩
  · rintro ⟨l, hl, rfl⟩
    obtain ⟨h1, h2⟩ := mem_mAgreeing.mp hl
    exact ⟨⟨l, h1, rfl⟩, (key l h1).mpr h2⟩
theorem PR.filter (T : RnOk cs tb) (hl : OnC cs l) (hD : SR cs tb D D') : PR cs tb (l.filter fun p => decide (p.1 ∈ D)) ((mNamed tb l).filter fun p => decide (p.1 ∈ D')) := by
  refine ⟨fun p hp => ?_, fun p' => ?_⟩
  · have h1 := (List.mem_filter.mp hp).1
    exact ⟨hl.sub _ (List.mem_map_of_mem (f := fun p : Str × Int => p.1) h1), (hl.w.ok p h1).2.1⟩
  · rw [List.mem_filter, mem_named]
    constructor
    · rintro ⟨⟨p, h1, rfl⟩, h2⟩
      refine ⟨p, List.mem_filter.mpr ⟨h1, ?_⟩, rfl⟩
      rw [← hD.isIn T p.1 (hl.sub _ (List.mem_map_of_mem (f := fun p : Str × Int => p.1) h1))]
      exact h2
    · rintro ⟨p, h1, rfl⟩
      obtain ⟨h1, h2⟩ := List.mem_filter.mp h1
      refine ⟨⟨p, h1, rfl⟩, ?_⟩
      show decide (mName tb p.1 ∈ D') = true
      rw [hD.isIn T p.1 (hl.sub _ (List.mem_map_of_mem (f := fun p : Str × Int => p.1) h1))]
      exact h2
theorem GR.after (T : RnOk cs tb) (h : GR cs tb G G') (hl : OnC cs l) (hD : SR cs tb D D') : GR cs tb (mAfter G l D) (mAfter G' (mNamed tb l) D') := h.agree T (PR.filter T hl hD)
theorem GR.avail (T : RnOk cs tb) (h : GR cs tb G G') (hl : OnC cs l) (hD : SR cs tb D D') : SR cs tb (mAvail G l D) (mAvail G' (mNamed tb l) D') := (h.after T hl hD).unread T hD
theorem GR.cells (T : RnOk cs tb) (h : GR cs tb G G') : SR cs tb (mCells G) (mCells G') := by
  have sub : ∀ c ∈ mCells G, c ∈ cs := fun c hc => by
    obtain ⟨l, hl, hc⟩ := mem_mCells.mp hc
    exact (h.on l hl).sub c hc
  refine ⟨sub, fun x => ?_⟩
  rw [mem_mCells]
  constructor
  · rintro ⟨l', hl', hx⟩
    obtain ⟨l, hl, rfl⟩ := (h.mem l').mp hl'
    obtain ⟨c, hc, rfl⟩ := named_cells.mp hx
    exact ⟨c, mem_mCells.mpr ⟨l, hl, hc⟩, rfl⟩
  · rintro ⟨c, hc, rfl⟩
    obtain ⟨l, hl, hc⟩ := mem_mCells.mp hc
    exact ⟨mNamed tb l, (h.mem _).mpr ⟨l, hl, rfl⟩, named_cells.mpr ⟨c, hc, rfl⟩⟩
theorem GR.split (T : RnOk cs tb) (h : GR cs tb G G') : SR cs tb (mSplit G) (mSplit G') := by
  have hs := h.shared T
  have sub : ∀ c ∈ mSplit G, c ∈ cs := fun c hc => hs.sub c (mem_mSplit.mp hc).1
  have key : ∀ c ∈ mShared G, ∀ a ∈ G, ∀ b ∈ G, (val (mName tb c) (mNamed tb a) ≠ val (mName tb c) (mNamed tb b) ↔ val c a ≠ val c b) := fun c hc a ha b hb => by
    have hcc := hs.sub c hc
    obtain ⟨_, h2⟩ := mem_mShared.mp hc
    have ha' : (lkp (mNamed tb a) (mName tb c)).isSome = true := by rw [named_some T (h.on a ha) hcc]; exact h2 a ha
    have hb' : (lkp (mNamed tb b) (mName tb c)).isSome = true := by rw [named_some T (h.on b hb) hcc]; exact h2 b hb
    rw [val_ne ha' hb', val_ne (h2 a ha) (h2 b hb)]
    exact not_congr (named_eqAt T (h.on a ha) (h.on b hb) hcc)
  refine ⟨sub, fun x => ?_⟩
  rw [mem_mSplit, hs.mem]
  constructor
  · rintro ⟨⟨c, hc, rfl⟩, a', ha', b', hb', hne⟩
    obtain ⟨a, ha, rfl⟩ := (h.mem a').mp ha'
    obtain ⟨b, hb, rfl⟩ := (h.mem b').mp hb'
    exact ⟨c, mem_mSplit.mpr ⟨hc, a, ha, b, hb, (key c hc a ha b hb).mp hne⟩, rfl⟩
  · rintro ⟨c, hc, rfl⟩
    obtain ⟨hc, a, ha, b, hb, hne⟩ := mem_mSplit.mp hc
    exact ⟨⟨c, hc, rfl⟩, _, (h.mem _).mpr ⟨a, ha, rfl⟩, _, (h.mem _).mpr ⟨b, hb, rfl⟩, (key c hc a ha b hb).mpr hne⟩
theorem GR.stuck (T : RnOk cs tb) (h : GR cs tb G G') : (decide (1 < G'.length) && decide (mSplit G' = [])) = (decide (1 < G.length) && decide (mSplit G = [])) := by
  rw [h.len T, decide_eq_decide.mpr (h.split T).nil']
theorem GR.good (T : RnOk cs tb) (h : GR cs tb G G') : Good G' ↔ Good G := by
  constructor
  · rintro g S hS ⟨a, ha, b, hb, hne⟩
    obtain ⟨x, hx, a', ha', b', hb', hne'⟩ := g (S.map (mNamed tb)) (fun l' hl' => by
      obtain ⟨l, hl, rfl⟩ := List.mem_map.mp hl'
      exact (h.mem _).mpr ⟨l, hS l hl, rfl⟩) ⟨_, List.mem_map_of_mem ha, _, List.mem_map_of_mem hb, fun z => hne (named_inj T (h.on a (hS a ha)) (h.on b (hS b hb)) z)⟩
    obtain ⟨c, hc, rfl⟩ := named_cells.mp (lkp_mem.mp (hx _ (List.mem_map_of_mem ha)))
    have hcc := (h.on a (hS a ha)).sub c hc
    obtain ⟨p, hp, rfl⟩ := List.mem_map.mp ha'
    obtain ⟨q, hq, rfl⟩ := List.mem_map.mp hb'
    refine ⟨c, fun l hl => ?_, p, hp, q, hq, fun z => hne' ((named_eqAt T (h.on p (hS p hp)) (h.on q (hS q hq)) hcc).mpr z)⟩
    rw [← named_some T (h.on l (hS l hl)) hcc]
    exact hx _ (List.mem_map_of_mem hl)
  · rintro g S' hS ⟨a', ha', b', hb', hne⟩
    obtain ⟨a, ha, rfl⟩ := (h.mem a').mp (hS _ ha')
    obtain ⟨b, hb, rfl⟩ := (h.mem b').mp (hS _ hb')
    obtain ⟨c, hc, p, hp, q, hq, hne'⟩ := g (G.filter fun l => decide (mNamed tb l ∈ S')) (fun l hl => (List.mem_filter.mp hl).1) ⟨a, List.mem_filter.mpr ⟨ha, decide_eq_true ha'⟩, b, List.mem_filter.mpr ⟨hb, decide_eq_true hb'⟩, fun z => hne (by rw [z])⟩
    have hcc := (h.on a ha).sub c (lkp_mem.mp (hc a (List.mem_filter.mpr ⟨ha, decide_eq_true ha'⟩)))
    obtain ⟨hp, hp'⟩ := List.mem_filter.mp hp
    obtain ⟨hq, hq'⟩ := List.mem_filter.mp hq
    refine ⟨mName tb c, fun l' hl' => ?_, mNamed tb p, of_decide_eq_true hp', mNamed tb q, of_decide_eq_true hq', fun z => hne' ((named_eqAt T (h.on p hp) (h.on q hq) hcc).mp z)⟩
    obtain ⟨l, hl, rfl⟩ := (h.mem l').mp (hS _ hl')
    rw [named_some T (h.on l hl) hcc]
    exact hc l (List.mem_filter.mpr ⟨hl, decide_eq_true hl'⟩)
theorem GR.none (T : RnOk cs tb) (h : GR cs tb G G') : mStuck G' = none ↔ mStuck G = none := by
  rw [stuck_iff h.nd', stuck_iff h.nd]
  exact h.good T
theorem GR.reader (T : RnOk cs tb) (h : GR cs tb G G') : (decide (0 < G'.length) && (mStuck G').isNone) = (decide (0 < G.length) && (mStuck G).isNone) := by
  rw [h.len T]
  congr 1
  rw [Bool.eq_iff_iff, Option.isNone_iff_eq_none, Option.isNone_iff_eq_none]
  exact h.none T
theorem GR.w' (T : RnOk cs tb) (h : GR cs tb G G') (hz : G.length ≤ 60) : LgsW G' := ⟨by rw [h.len T]; exact hz, h.nd', fun l' hl' => by
  obtain ⟨l, hl, rfl⟩ := (h.mem l').mp hl'
  exact named_w T (h.on l hl)⟩
theorem GR.mk' (T : RnOk cs tb) (on : ∀ l ∈ G, OnC cs l) (nd : G.Nodup) : GR cs tb G (dsort (G.map (mNamed tb))) :=
  ⟨on, nd, dsort_nodup (nodup_map_on nd fun a ha b hb => named_inj T (on a ha) (on b hb)), fun l' => by
    rw [mem_dsort, List.mem_map]
    constructor
    · rintro ⟨c, h1, h2⟩
      exact ⟨c, h1, h2.symm⟩
    · rintro ⟨c, h1, h2⟩
      exact ⟨c, h1, h2.symm⟩⟩
theorem GR.with' (T : RnOk cs tb) (h : GR cs tb G G') (hl : OnC cs l) : GR cs tb (mWith G l) (mWith G' (mNamed tb l)) := by
  have nd : ∀ {G : List Lg} {l : Lg}, G.Nodup → (mWith G l).Nodup := fun {G l} hn => by
    unfold mWith
    split
    · exact hn
    · rename_i hx
      exact (dsort_perm _).symm.nodup (List.nodup_append.mpr ⟨hn, by simp, fun a ha b hb => by
        rw [List.mem_singleton] at hb
        exact fun z => hx (by rw [← hb, ← z]; exact ha)⟩)
  refine ⟨fun m hm => ?_, nd h.nd, nd h.nd', fun l' => ?_⟩
  · rcases mem_mWith.mp hm with hm | rfl
    · exact h.on m hm
    · exact hl
  · rw [mem_mWith, h.mem]
    constructor
    · rintro (⟨m, h1, rfl⟩ | rfl)
      · exact ⟨m, mem_mWith.mpr (.inl h1), rfl⟩
      · exact ⟨l, mem_mWith.mpr (.inr rfl), rfl⟩
    · rintro ⟨m, h1, rfl⟩
      rcases mem_mWith.mp h1 with h1 | rfl
      · exact .inl ⟨m, h1, rfl⟩
      · exact .inr rfl
end
end K97
set_option Elab.async false
set_option linter.all false
set_option maxRecDepth 100000
set_option maxHeartbeats 4000000
/-! K97: a renaming keeps what is told of orders. -/
namespace K97
open Dt (en)
open PySem L2
/-- a log of a family and its renaming -/
structure RG (cs : List Str) (tb : Tb) (G G' : List Lg) (l : Lg) : Prop where
  T : RnOk cs tb
  g : GR cs tb G G'
  m : l ∈ G
  w : LgsW G
section
variable {cs : List Str} {tb : Tb} {G G' : List Lg} {D D' E E' A A' : List Str} {l s : Lg} {c a b : Str}
theorem RG.on (h : RG cs tb G G' l) : OnC cs l := h.g.on l h.m
theorem RG.m' (h : RG cs tb G G' l) : mNamed tb l ∈ G' := (h.g.mem _).mpr ⟨l, h.m, rfl⟩
theorem RG.w' (h : RG cs tb G G' l) : LgsW G' := h.g.w' h.T h.w.len
theorem RG.rd (h : RG cs tb G G' l) (st : mStuck G = none) : Rd0 G l ∧ Rd0 G' (mNamed tb l) := ⟨⟨h.w, st, h.m⟩, ⟨h.w', (h.g.none h.T).mpr st, h.m'⟩⟩
theorem RG.avail (h : RG cs tb G G' l) (hD : SR cs tb D D') : SR cs tb (mAvail G l D) (mAvail G' (mNamed tb l) D') := h.g.avail h.T h.on hD
theorem RG.more (h : RG cs tb G G' l) (hA : SR cs tb A A') (hD : SR cs tb D D') : SR cs tb (mMore G l A D) (mMore G' (mNamed tb l) A' D') := (h.avail hD).filter h.T fun c hc => hA.notIn h.T c hc
theorem RG.rw (h : RG cs tb G G' l) (hA : SR cs tb A A') : ∀ (n : Nat) (D D' : List Str), SR cs tb D D' → SR cs tb (mRw G l A n D) (mRw G' (mNamed tb l) A' n D')
  | 0, _, _, hD => hD
  | n + 1, D, D', hD => by
    have hm := h.more hA hD
    unfold mRw
    by_cases e : mMore G l A D = []
    · rw [if_pos e, if_pos (hm.nil'.mpr e)]
      exact hD
    · rw [if_neg e, if_neg fun z => e (hm.nil'.mp z)]
      exact h.rw hA n _ _ (hD.app hm)
theorem RG.readW (h : RG cs tb G G' l) (hA : SR cs tb A A') : SR cs tb (mReadW G l A) (mReadW G' (mNamed tb l) A') := by
  unfold mReadW
  rw [named_len]
  exact h.rw hA _ _ _ .nil
/-- next cells -/
theorem RG.next (h : RG cs tb G G' l) : mSet tb (mAvail G l []) = mAvail G' (mNamed tb l) [] := (h.avail .nil).eq h.T (avail_up h.w).nodup (avail_up h.w')
theorem RG.rd' (h : RG cs tb G G' l) : ∀ (n : Nat) (f : List (List Str)) (D D' : List Str), SR cs tb D D' → Dn l D → Dn (mNamed tb l) D' → (mRd G l n f D).map (mSet tb) = mRd G' (mNamed tb l) n (f.map (mSet tb)) D'
  | 0, _, _, _, _, _, _ => rfl
  | n + 1, f, D, D', hD, d, d' => by
    have hl := hD.len h.T d.nd d'.nd
    have ha := h.avail hD
    unfold mRd
    rw [hl, named_len]
    by_cases e : D.length < l.length
    · rw [if_pos e, if_pos e, h.rd' n _ _ _ (hD.app ha) (d.app h.w (h.w.ok l h.m) h.m (List.Sublist.refl _)) (d'.app h.w' (h.w'.ok _ h.m') h.m' (List.Sublist.refl _)), List.map_append, List.map_singleton, ha.eq h.T (avail_up h.w).nodup (avail_up h.w')]
    · rw [if_neg e, if_neg e]
/-- rounds -/
theorem RG.rounds (h : RG cs tb G G' l) : (mRounds G l).map (mSet tb) = mRounds G' (mNamed tb l) := by
  unfold mRounds
  rw [named_len]
  exact h.rd' _ [] _ _ .nil .nil .nil
theorem RG.readW_nd (h : RG cs tb G G' l) : (mReadW G l A).Nodup := (mReadW_dn h.w (h.w.ok l h.m) h.m).nd
/-- closures -/
theorem RG.clos (h : RG cs tb G G' l) (hA : ∀ c ∈ A, c ∈ cs) : mSet tb (dsort (mReadW G l A)) = dsort (mReadW G' (mNamed tb l) (mSet tb A)) :=
  ((h.readW (.set hA)).perm (fun x => mem_dsort) fun x => mem_dsort).eq h.T (dsort_nodup h.readW_nd) (dsort_up (mReadW_dn h.w' (h.w'.ok _ h.m') h.m').nd)
theorem mem_prec {p : Str × Str} : p ∈ mPrec G l ↔ p.1 ∈ cellsOf l ∧ p.2 ∈ cellsOf l ∧ p.2 ≠ p.1 ∧ p.2 ∉ mReadW G l [p.1] := by
  unfold mPrec mPrecF
  rw [List.mem_flatMap]
  constructor
  · rintro ⟨q, hq, hp⟩
    obtain ⟨r, hr, rfl⟩ := List.mem_map.mp hp
    rw [List.mem_filter] at hr
    simp only [Bool.and_eq_true, Bool.not_eq_true', decide_eq_false_iff_not] at hr
    exact ⟨List.mem_map_of_mem (f := fun p : Str × Int => p.1) hq, List.mem_map_of_mem (f := fun p : Str × Int => p.1) hr.1, hr.2.1, hr.2.2⟩
  · rintro ⟨h1, h2, h3, h4⟩
    obtain ⟨q, hq, e1⟩ := List.mem_map.mp h1
    obtain ⟨r, hr, e2⟩ := List.mem_map.mp h2
    refine ⟨q, hq, List.mem_map.mpr ⟨r, List.mem_filter.mpr ⟨hr, ?_⟩, ?_⟩⟩
    · simp only [Bool.and_eq_true, Bool.not_eq_true', decide_eq_false_iff_not]
      rw [e1, e2]
      exact ⟨h3, h4⟩
    · rw [e1, e2]
/-- pairs upwards -/
def Lt2 (p q : Str × Str) : Prop := strLt p.1 q.1 = true ∨ (p.1 = q.1 ∧ strLt p.2 q.2 = true)
theorem dle_of_snd {α β : Type} [Dt α] [Dt β] {p q : α × β} (h : dle p.2 q.2 = true) (e : p.1 = q.1) : dle p q = true := by
  show (!PySem.W.dataLt (.tuple [en q.1, en q.2]) (.tuple [en p.1, en p.2])) = true
  rw [PySem.W.dataLt_pair (Dt.al _ _) (Dt.al _ _), if_pos ((Dt.ev q.1 p.1).mpr e.symm)]
  by_cases w : PyData.eqv (en q.2) (en p.2) = true
  · rw [if_pos w]
    rfl
  · rw [if_neg w]
    exact h
theorem Lt2.le {p q : Str × Str} (h : Lt2 p q) : dle p q = true := by
  rcases h with h | ⟨h1, h2⟩
  · exact dle_of_fst (dle_of_lt h) (strLt_ne h)
  · exact dle_of_snd (dle_of_lt h2) h1
theorem Lt2.ne {p q : Str × Str} (h : Lt2 p q) : p ≠ q := by
  rintro rfl
  rcases h with h | ⟨_, h⟩ <;> exact absurd rfl (strLt_ne h)
theorem prec_up (hl : LgW l) : (mPrec G l).Pairwise Lt2 := by
  have hu : l.Pairwise fun p q : Str × Int => strLt p.1 q.1 = true := List.pairwise_map.mp hl.up
  unfold mPrec
  rw [List.pairwise_flatMap]
  refine ⟨fun p _ => ?_, List.Pairwise.imp (fun {p q} h x hx y hy => ?_) hu⟩
  · unfold mPrecF
    rw [List.pairwise_map]
    exact List.Pairwise.imp (fun h => .inr ⟨rfl, h⟩) (List.Pairwise.sublist List.filter_sublist hu)
  · unfold mPrecF at hx hy
    obtain ⟨u, _, rfl⟩ := List.mem_map.mp hx
    obtain ⟨v, _, rfl⟩ := List.mem_map.mp hy
    exact .inl h
/-- precedence -/
theorem RG.prec (h : RG cs tb G G' l) : dsort ((mPrec G l).map fun p => (mName tb p.1, mName tb p.2)) = mPrec G' (mNamed tb l) := by
  have hu := prec_up (G := G) h.on.w
  have hu' := prec_up (G := G') (named_w h.T h.on)
  have on : ∀ p ∈ mPrec G l, p.1 ∈ cs ∧ p.2 ∈ cs := fun p hp => by
    obtain ⟨h1, h2, _⟩ := mem_prec.mp hp
    exact ⟨h.on.sub _ h1, h.on.sub _ h2⟩
  have hn : ((mPrec G l).map fun p => (mName tb p.1, mName tb p.2)).Nodup := nodup_map_on (List.Pairwise.imp (fun z => z.ne) hu) fun p hp q hq e => by
    have e1 := h.T.inj _ (on p hp).1 _ (on q hq).1 (congrArg (fun z : Str × Str => z.1) e)
    have e2 := h.T.inj _ (on p hp).2 _ (on q hq).2 (congrArg (fun z : Str × Str => z.2) e)
    exact Prod.ext e1 e2
  have hs : dsort (mPrec G' (mNamed tb l)) = mPrec G' (mNamed tb l) := dsort_self (List.Pairwise.imp (fun z => z.le) hu')
  rw [← hs]
  refine dsort_of_mem hn (List.Pairwise.imp (fun z => z.ne) hu') fun p' => ?_
  have key : ∀ a b, a ∈ cs → b ∈ cs → (mName tb b ∈ mReadW G' (mNamed tb l) [mName tb a] ↔ b ∈ mReadW G l [a]) := fun a b ha hb => (h.readW (.one ha)).has h.T hb
  rw [List.mem_map, mem_prec]
  constructor
  · rintro ⟨p, hp, rfl⟩
    obtain ⟨h1, h2, h3, h4⟩ := mem_prec.mp hp
    obtain ⟨c1, c2⟩ := on p hp
    exact ⟨(named_has h.T h.on c1).mpr h1, (named_has h.T h.on c2).mpr h2, fun z => h3 (h.T.inj _ c2 _ c1 z), fun z => h4 ((key _ _ c1 c2).mp z)⟩
  · rintro ⟨h1, h2, h3, h4⟩
    obtain ⟨a, ha, e1⟩ := named_cells.mp h1
    obtain ⟨b, hb, e2⟩ := named_cells.mp h2
    have c1 := h.on.sub a ha
    have c2 := h.on.sub b hb
    refine ⟨(a, b), mem_prec.mpr ⟨ha, hb, fun z => h3 ?_, fun z => h4 ?_⟩, ?_⟩
    · have z : b = a := z
      rw [e1, e2, z]
    · rw [e1, e2]
      exact (key _ _ c1 c2).mpr z
    · show (mName tb a, mName tb b) = p'
      rw [← e1, ← e2]
/-! ### how many orders -/
def mCnt (L : List Lg) (l : Lg) : Nat → List Str → Nat
  | 0, _ => 1
  | n + 1, D => ((mAvail L l D).map fun c => mCnt L l n (D ++ [c])).sum
theorem filter_congr' {α : Type} {p q : α → Bool} : ∀ {xs : List α}, (∀ x ∈ xs, p x = q x) → xs.filter p = xs.filter q
  | [], _ => rfl
  | x :: xs, h => by
    rw [List.filter_cons, List.filter_cons, h x List.mem_cons_self, filter_congr' fun y hy => h y (List.mem_cons_of_mem _ hy)]
theorem avail_congr (L : List Lg) (l : Lg) (h : ∀ x, x ∈ D ↔ x ∈ E) : mAvail L l D = mAvail L l E := by
  have h1 : mAfter L l D = mAfter L l E := by
    unfold mAfter
    rw [filter_congr' fun p _ => decide_eq_decide.mpr (h p.1)]
  unfold mAvail mUnread
  rw [h1]
  exact filter_congr' fun c _ => by rw [decide_eq_decide.mpr (h c)]
theorem cnt_congr (L : List Lg) (l : Lg) : ∀ (n : Nat) (D E : List Str), (∀ x, x ∈ D ↔ x ∈ E) → mCnt L l n D = mCnt L l n E
  | 0, _, _, _ => rfl
  | n + 1, D, E, h => by
    unfold mCnt
    rw [avail_congr L l h]
    congr 1
    refine List.map_congr_left fun c _ => cnt_congr L l n _ _ fun x => ?_
    rw [List.mem_append, List.mem_append, h]
theorem RG.cntF (h : RG cs tb G G' l) : ∀ (n : Nat) (D D' : List Str), SR cs tb D D' → mCnt G' (mNamed tb l) n D' = mCnt G l n D
  | 0, _, _, _ => rfl
  | n + 1, D, D', hD => by
    have ha := h.avail hD
    have hp := ha.pm h.T (avail_up h.w).nodup (avail_up h.w').nodup
    unfold mCnt
    rw [← (hp.map fun c => mCnt G' (mNamed tb l) n (D' ++ [c])).sum_nat, List.map_map]
    congr 1
    exact List.map_congr_left fun c hc => h.cntF n _ _ (hD.app (.one (ha.sub c hc)))
def mCount (L : List Lg) (l : Lg) : Nat := mCnt L l l.length []
theorem RG.count (h : RG cs tb G G' l) : mCount G' (mNamed tb l) = mCount G l := by
  unfold mCount
  rw [named_len]
  exact h.cntF _ _ _ .nil
end
end K97
set_option Elab.async false
set_option linter.all false
set_option maxRecDepth 100000
set_option maxHeartbeats 4000000
/-! K97: loose logs. -/
namespace K97
open Dt (en)
open PySem L2
section
variable {P : Program} {w : World} {K : Fg} {mg : Str → Option Value} {base : Heap} {tk : Nat → Tok}
/-- the law's five cells -/
structure Five (cs : List Str) : Prop where
  len : cs.length ≤ 5
  nd : cs.Nodup
  ok : ∀ c ∈ cs, CellOk c
/-- logs over these cells -/
structure Over (cs : List Str) (L : List Lg) : Prop where
  w : LgsW L
  sub : ∀ l ∈ L, ∀ c ∈ cellsOf l, c ∈ cs
def Pre__law_loose (ds : List PyData) : Prop := ∃ (cs : List Str) (k : Nat), ds = [.list (cs.map en), .int k] ∧ Five cs ∧ k ≤ 10
def R__law_loose (ds : List PyData) (d : PyData) : Prop := ∃ (cs : List Str) (k : Nat) (L : List Lg), ds = [.list (cs.map en), .int k] ∧ d = en L ∧ Over cs L ∧ L.length ≤ k ∧ (0 < k → L ≠ [])
def c__law_loose (_ : List PyData) : Nat := 100
theorem len__law_loose (ds : List PyData) (h : Pre__law_loose ds) : ds.length + 1 = 3 := by
  obtain ⟨cs, k, rfl, _⟩ := h
  rfl
theorem over_sort {cs : List Str} {L : List Lg} (h : Over cs L) : Over cs (dsort L) := ⟨⟨by rw [len_dsort]; exact h.w.len, dsort_nodup h.w.nd, fun l hl => h.w.ok l (mem_dsort.mp hl)⟩, fun l hl => h.sub l (mem_dsort.mp hl)⟩
theorem ok__law_loose (T : Tx mg tk) (t : Txt1 K mg "_law_loose" (topS 83) ["_law_box_here", "_law_cells_here", "_law_count"]) (h__law_take : Has P w K mg base "_law_take" 1 ["_law_box_here", "_law_upon"] (SpX K Pre__law_take R__law_take c__law_take)) : Has P w K mg base "_law_loose" 2 ["_law_box_here", "_law_cells_here", "_law_count"] (SpX K Pre__law_loose R__law_loose c__law_loose) := by
  have sc : FnScope ["_law_box_here", "_law_cells_here", "_law_count", "_law_found", "_law_turn", "_law_name", "_law_entry"] ["_law_box_here", "_law_cells_here", "_law_count"] (defScope (topS 83)) := ⟨rfl, rfl, rfl, by decide +kernel, rfl, by decide +kernel, by decide +kernel⟩
  refine has_box t sc len__law_loose (by decide) (fun f cdv A outer s H E hr => (pss_cons (ps_set (i := 3) sc.nd rfl (.inl rfl) (pe_lst pa_nil))
  (pss_cons (ps_for PassesOwn.never rfl (pi_range1 (by rfl) T.b_range (pa_cons (pv 2) pa_nil)) (pg_name (i := 4) sc.nd rfl (.inl rfl))
   (pss_cons (ps_set (i := 6) sc.nd rfl (.inl rfl) (pe_callTy (k_tup K rfl) (by rfl) T.b_tuple (by decide +kernel) (pa_cons (pe_callB (k_sorted K rfl hr.units) (by rfl) T.b_sorted (by decide +kernel) (pa_cons (pe_lc (own := [("_law_name", 5)]) (by rfl) sc.nd (k_piL K rfl (pv 1)) (blkOk_by (by kernel_rfl)) (fun _ _ _ _ _ => (pg_name (i := 5) sc.nd rfl (.inl rfl))) (fun _ _ _ _ _ => (pts_one (pt_cmpR (op_gt) (pe_has (h__law_take.up (by decide)) hr (by rfl) (pa_cons (pv 0) (pa_cons pe_int pa_nil))) pe_int (nomark _)))) (fun _ _ _ _ _ => (pe_tupF (pa_cons (pv 5) (pa_cons (pe_has (h__law_take.up (by decide)) hr (by rfl) (pa_cons (pv 0) (pa_cons pe_int pa_nil))) pa_nil))))) pa_nil)) pa_nil)))
  (pss_one (ps_expr (k_bm K rfl PySem.F.plainAttrs_list PySem.F.slot_list_extend PySem.F.type_list_extend mt_extend (pv 3) (pa_cons (pe_op op_rep (pe_lst (pa_cons (pv 6) pa_nil)) (pe_callTy call_int1 (by rfl) T.b_int (by decide +kernel) (pa_cons (pe_cmpR (k_ni K rfl hr.units) (pv 6) (pv 3) (by rfl)) pa_nil))) pa_nil))))))
  (pss_one (ps_ret (pe_callTy (k_tup K rfl) (by rfl) T.b_tuple (by decide +kernel) (pa_cons (pe_callB (k_sorted K rfl hr.units) (by rfl) T.b_sorted (by decide +kernel) (pa_cons (pv 3) pa_nil)) pa_nil))))))) ?_
  rintro ds b n ⟨cs, k, rfl, hcs, hk⟩ hb hn
  have hn : n + 100 ≤ 1000000000 := hn
  have hcl := hcs.len
  show StG K [.bx b, .im (.list (cs.map en)), .im (.int k), .no, .no, .no, .no] _ _ _
  refine sg_then (sg_setL (el_lst ea_nil) rfl rfl rfl) ?_
  refine sg_forQ (α := Bx × List Lg) (fun a => [.bx a.1, .im (.list (cs.map en)), .im (.int k), .ac (a.2.map en), .no, .no, .no]) (fun i a => a.1.1 = b.1 ∧ BxK (n + 10 * i) a.1 ∧ Over cs a.2 ∧ a.2.length ≤ i ∧ (0 < i → a.2 ≠ [])) (b, []) (it_rng (ea_one (ev_var rfl)) (by omega)) (Wk.rfl' _) ⟨rfl, hb, ⟨⟨by simp, .nil, fun l h => nomatch h⟩, fun l h => nomatch h⟩, Nat.le_refl _, fun h => absurd h (Nat.lt_irrefl _)⟩ ?_ ?_
  · rintro i d ⟨b2, L⟩ hd ⟨e2, k2, hov, hl, hne⟩
    have hik : i < k := by
      have := (List.getElem?_eq_some_iff.mp hd).1
      rwa [List.length_map, List.length_range] at this
    have e2 : b2.1 = b.1 := e2
    have k2 : BxK (n + 10 * i) b2 := k2
    have hov : Over cs L := hov
    have hl : L.length ≤ i := hl
    refine ⟨_, _, tg_name (j := 4) rfl rfl, ?_⟩
    show StG K [.bx b2, .im (.list (cs.map en)), .im (.int k), .ac (L.map en), .im d, .no, .no] _ _ _
    refine sg_seq (N1 := fun Γ' => ∃ (b3 : Bx) (l : Lg), Γ' = [.bx b3, .im (.list (cs.map en)), .im (.int k), .ac (L.map en), .im d, .no, .im (en l)] ∧ b3.1 = b.1 ∧ BxK (n + 10 * i + 10) b3 ∧ LgW l ∧ ∀ c ∈ cellsOf l, c ∈ cs) (sg_setX (x_cb (P1 := fun d' Γ' => ∃ (b3 : Bx) (l : Lg), d' = .list (l.map en) ∧ Γ' = [.bx b3, .im (.list (cs.map en)), .im (.int k), .ac (L.map en), .im d, .no, .no] ∧ b3.1 = b.1 ∧ BxK (n + 10 * i + 10) b3 ∧ LgW l ∧ ∀ c ∈ cellsOf l, c ∈ cs) (x_cb (P1 := fun d' Γ' => ∃ (b3 : Bx) (l : Lg), d' = .list (l.map en) ∧ Γ' = [.bx b3, .im (.list (cs.map en)), .im (.int k), .ac (L.map en), .im d, .no, .no] ∧ b3.1 = b.1 ∧ BxK (n + 10 * i + 10) b3 ∧ (cellsOf l).Sublist cs ∧ (∀ p ∈ l, PairOk p)) (EvLX.g (PL := fun ds' Γ' => ∃ (b3 : Bx) (l : Lg), ds' = l.map en ∧ Γ' = [.bx b3, .im (.list (cs.map en)), .im (.int k), .ac (L.map en), .im d, .no, .no] ∧ b3.1 = b.1 ∧ BxK (n + 10 * i + 10) b3 ∧ (cellsOf l).Sublist cs ∧ (∀ p ∈ l, PairOk p)) (el_lcX ((it_lst (ev_var rfl)).x ⟨fun m acc Γ' => ∃ (b3 : Bx) (l : Lg), acc = l.map en ∧ Γ' = [.bx b3, .im (.list (cs.map en)), .im (.int k), .ac (L.map en), .im d, .no, .no] ∧ b3.1 = b.1 ∧ BxK (n + 10 * i + 2 * m) b3 ∧ (cellsOf l).Sublist (cs.take m) ∧ (∀ p ∈ l, PairOk p), ⟨nm_cons rfl rfl nm_nil, rfl, by rw [List.length_map]; omega, ⟨b2, [], rfl, rfl, e2, k2, List.Sublist.refl _, fun p h => nomatch h⟩, ?_, ?_⟩⟩)) ?_) ?_) ?_)) ?_
    · rintro m x acc _ hm ⟨b3, l, rfl, rfl, e3, k3, hsub, hok⟩
      rw [List.getElem?_map] at hm
      obtain ⟨c, hc, rfl⟩ := Option.map_eq_some_iff.mp hm
      have hml : m < cs.length := (List.getElem?_eq_some_iff.mp hc).1
      have hcc : CellOk c := hcs.ok c (List.mem_of_getElem? hc)
      have hll := hsub.length_le
      have htl := len_take cs m
      rw [cellsOf, List.length_map] at hll
      have htm : (cs.take m).length ≤ m := by rw [List.length_take]; exact Nat.min_le_left ..
      have htk : cs.take (m + 1) = cs.take m ++ [c] := by rw [List.take_add_one, hc]; rfl
      refine ⟨by rw [List.length_map]; omega, _, _, tg_name (j := 5) rfl rfl, by decide, xt_test (x_op (P1 := fun d' Γ' => ∃ (b4 : Bx) (r : Nat), d' = .int r ∧ Γ' = [.bx b4, .im (.list (cs.map en)), .im (.int k), .ac (L.map en), .im d, .im (en c), .no] ∧ b4.1 = b.1 ∧ BxK (n + 10 * i + 2 * m + 1) b4) (x_take (u := 3) rfl k3 (by omega) ev_int (by omega) (by omega) fun r b4 hr e4 k4 => ⟨b4, r, rfl, rfl, e4.trans e3, k4⟩) ?_)⟩
      rintro d1 Γ1 ⟨b4, r, rfl, rfl, e4, k4⟩
      refine ev_int.x ⟨.bool (decide ((r : Int) > 0)), ⟨decide ((r : Int) > 0), rfl, fun hr => ?_, fun hr => ?_⟩, ev_I0 (ev_var rfl) (ev_var rfl) fun H => .bl _⟩
      · refine x_tup (xa_g (PL := fun ds' Γ' => ∃ (b5 : Bx) (v : Nat), ds' = [en c, .int v] ∧ v < 3 ∧ Γ' = [.bx b5, .im (.list (cs.map en)), .im (.int k), .ac (L.map en), .im d, .im (en c), .no] ∧ b5.1 = b.1 ∧ BxK (n + 10 * i + 2 * m + 1 + 1) b5) (ev_var rfl) (xa_cons (P1 := fun d' Γ' => ∃ (b5 : Bx) (v : Nat), d' = .int v ∧ v < 3 ∧ Γ' = [.bx b5, .im (.list (cs.map en)), .im (.int k), .ac (L.map en), .im d, .im (en c), .no] ∧ b5.1 = b.1 ∧ BxK (n + 10 * i + 2 * m + 1 + 1) b5) (x_take (u := 3) rfl k4 (by omega) ev_int (by omega) (by omega) fun v b5 hv e5 k5 => ⟨b5, v, rfl, by omega, rfl, e5.trans e4, k5⟩) ?_)) ?_
        · rintro d' Γ1 ⟨b5, v, rfl, hv, rfl, e5, k5⟩
          exact xa_nil ⟨b5, v, rfl, hv, rfl, e5, k5⟩
        · rintro ds' _ ⟨b5, v, rfl, hv, rfl, e5, k5⟩
          refine ⟨by simp, nm_cons rfl rfl nm_nil, b5, l ++ [(c, (v : Int))], ?_, rfl, e5, ?_, ?_, ?_⟩
          · rw [List.map_append]
            rfl
          · rw [show n + 10 * i + 2 * (m + 1) = n + 10 * i + 2 * m + 1 + 1 by omega]
            exact k5
          · rw [htk]
            show (List.map _ (l ++ [_])).Sublist _
            rw [List.map_append]
            exact hsub.append (List.Sublist.refl _)
          · intro p hp
            rcases List.mem_append.mp hp with hp | hp
            · exact hok p hp
            · rw [List.mem_singleton] at hp
              subst hp
              exact ⟨hcc, by show (0 : Int) ≤ v; omega, by show (v : Int) ≤ 1000000000; omega⟩
      · refine ⟨nm_cons rfl rfl nm_nil, b4, l, rfl, rfl, e4, k4.up (by omega), ?_, hok⟩
        rw [htk]
        exact hsub.trans (List.sublist_append_left ..)
    · rintro acc _ ⟨b3, l, rfl, rfl, e3, k3, hsub, hok⟩
      rw [List.length_map] at k3 hsub
      rw [List.take_length] at hsub
      refine ⟨?_, b3, l, rfl, rfl, e3, k3.up (by omega), hsub, hok⟩
      intro v hv
      cases List.mem_singleton.mp hv
      rfl
    · rintro ds' Γ' ⟨b3, l, rfl, rfl, e3, k3, hsub, hok⟩
      exact ⟨b3, l, rfl, rfl, e3, k3, hsub, hok⟩
    · rintro d' Γ' ⟨b3, l, rfl, rfl, e3, k3, hsub, hok⟩
      have hll := hsub.length_le
      rw [cellsOf, List.length_map] at hll
      exact ⟨.list ((dsort l).map en), ⟨b3, dsort l, rfl, rfl, e3, k3, lgW_sort (hsub.nodup hcs.nd) hok (by omega), fun c hc => hsub.subset (mem_cells_sort.mp hc)⟩, (tv_sortL (xs := l) (ev_var rfl).c (by omega)).g⟩
    · rintro d' Γ' ⟨b3, l, rfl, rfl, e3, k3, hw, hsub⟩
      exact ⟨en l, ⟨⟨.no, rfl, rfl⟩, b3, l, rfl, e3, k3, hw, hsub⟩, tv_tup (ev_var rfl).c⟩
    rintro _ ⟨b3, l, rfl, e3, k3, hw, hsub⟩
    refine sg_ext (es := (if l ∈ L then [] else [l]).map en) rfl ((el_once (ev_var rfl) (tv_niL (α := Lg) (x := l) (ev_var rfl).c (ec_ac rfl))).cast ?_) ?_ ⟨(b3, L ++ if l ∈ L then [] else [l]), ⟨e3, ?_, ?_, ?_, ?_⟩, ?_⟩
    · by_cases h : l ∈ L <;> simp [h]
    · rw [List.length_map, List.length_map]
      split <;> simp <;> omega
    · rw [show n + 10 * (i + 1) = n + 10 * i + 10 by omega]
      exact k3
    · show Over cs (L ++ _)
      split
      · rw [List.append_nil]
        exact hov
      · rename_i hnl
        refine ⟨⟨by rw [List.length_append, List.length_singleton]; omega, List.nodup_append.mpr ⟨hov.w.nd, by simp, fun a ha b hb z => ?_⟩, fun m hm => ?_⟩, fun m hm => ?_⟩
        · rw [List.mem_singleton] at hb
          exact hnl (by rw [← hb, ← z]; exact ha)
        · rcases List.mem_append.mp hm with hm | hm
          · exact hov.w.ok m hm
          · cases List.mem_singleton.mp hm
            exact hw
        · rcases List.mem_append.mp hm with hm | hm
          · exact hov.sub m hm
          · cases List.mem_singleton.mp hm
            exact hsub
    · show (L ++ _).length ≤ i + 1
      rw [List.length_append]
      split <;> simp <;> omega
    · intro _
      show L ++ _ ≠ []
      split
      · rename_i h
        rw [List.append_nil]
        exact List.ne_nil_of_mem h
      · simp
    · show Wk _ [.bx b3, .im (.list (cs.map en)), .im (.int k), .ac ((L ++ if l ∈ L then [] else [l]).map en), .no, .no, .no]
      rw [List.map_append]
      exact wk_ok
  · rintro ⟨b2, L⟩ ⟨e2, k2, hov, hl, hne⟩
    rw [List.length_map, List.length_range] at hl k2 hne
    have hl : L.length ≤ k := hl
    exact sg_ret (tv_tup (tv_sortL (xs := L) (ec_ac rfl) (by omega)).c) ⟨⟨cs, k, dsort L, rfl, rfl, over_sort hov, by rw [len_dsort]; exact hl, fun h z => hne h (List.eq_nil_of_length_eq_zero (by rw [← len_dsort, z]; rfl))⟩, b2, rfl, e2, k2.up (by show n + 10 * k ≤ n + 100; omega)⟩
end
end K97
set_option Elab.async false
set_option linter.all false
set_option maxRecDepth 100000
set_option maxHeartbeats 4000000
/-! K97: lists that stand still from here on; pop(i) with i drawn. -/
namespace K97
open Dt (en)
open PySem L2
section
variable {K : Fg} {Γ Γ1 : En} {te ta tb : TE} {t : TA} {ts tu : TS} {N : En → Prop} {R : PyData → En → Prop} {F : Addr → Prop} {B H H' : Hp} {σ : L2.St} {ds : List PyData}
theorem EnvR.freeze {j : Nat} (E : EnvR K F B Γ σ H) (h : Γ[j]? = some (.ac ds)) : EnvR K F B (Γ.set j (.im (.list ds))) σ H ∧ Ex (frz F Γ σ H) (frz F (Γ.set j (.im (.list ds))) σ H) := by
  obtain ⟨p, vs, s1, s2, s3⟩ := E.ac j ds h
  have hj : j < Γ.length := (List.getElem?_eq_some_iff.mp h).1
  have sub : ∀ a, mu (Γ.set j (.im (.list ds))) σ a → mu Γ σ a := fun a ⟨i, e, h1, h2, h3⟩ => by
    by_cases w : j = i
    · subst w
      rw [List.getElem?_set_self hj] at h1
      cases h1
      cases h2
    · rw [List.getElem?_set_ne w] at h1
      exact ⟨i, e, h1, h2, h3⟩
  have np : ¬ mu (Γ.set j (.im (.list ds))) σ p := fun ⟨i, e, h1, h2, h3⟩ => by
    by_cases w : j = i
    · subst w
      rw [List.getElem?_set_self hj] at h1
      cases h1
      cases h2
    · rw [List.getElem?_set_ne w] at h1
      exact w (E.inj j i _ _ p h h1 rfl h2 s1 h3)
  have nF : ¬ F p := E.out p ⟨j, _, h, rfl, s1⟩
  have ex : Ex (frz F Γ σ H) (frz F (Γ.set j (.im (.list ds))) σ H) := cut_less fun a w => w.elim .inl fun w => .inr (sub a w)
  refine ⟨⟨by rw [List.length_set]; exact E.len, E.base, fun a w => E.low a (sub a w), fun a w => E.out a (sub a w), E.fin, fun i d q => ?_, fun i d q => ?_, fun i d q => ?_, fun i n q => ?_, fun i k f g a h1 h2 h3 h4 h5 h6 => ?_⟩, ex⟩
  · by_cases w : j = i
    · subst w
      rw [List.getElem?_set_self hj] at q
      cases q
      exact ⟨.ref p, s1, .lst (.inl (.inl (cut_of (fun z => z.elim nF np) s2))) (s3.up ex)⟩
    · rw [List.getElem?_set_ne w] at q
      obtain ⟨v, h1, h2⟩ := E.im i d q
      exact ⟨v, h1, h2.up ex⟩
  · by_cases w : j = i
    · subst w
      rw [List.getElem?_set_self hj] at q
      cases q
    · rw [List.getElem?_set_ne w] at q
      obtain ⟨p', vs', h1, h2, h3⟩ := E.ac i d q
      exact ⟨p', vs', h1, h2, h3.up ex⟩
  · by_cases w : j = i
    · subst w
      rw [List.getElem?_set_self hj] at q
      cases q
    · rw [List.getElem?_set_ne w] at q
      obtain ⟨p', vs', h1, h2, h3⟩ := E.dc i d q
      exact ⟨p', vs', h1, h2, h3.up ex⟩
  · by_cases w : j = i
    · subst w
      rw [List.getElem?_set_self hj] at q
      cases q
    · rw [List.getElem?_set_ne w] at q
      exact E.bx i n q
  · have back : ∀ {i : Nat} {f : Ent}, (Γ.set j (.im (.list ds)))[i]? = some f → f.mut = true → Γ[i]? = some f := fun {i f} h1 h2 => by
      by_cases w : j = i
      · subst w
        rw [List.getElem?_set_self hj] at h1
        cases h1
        cases h2
      · rw [List.getElem?_set_ne w] at h1
        exact h1
    exact E.inj i k f g a (back h1 h3) (back h2 h4) h3 h4 h5 h6
/-- from here on a list of ours stands still -/
theorem sg_freeze {j : Nat} (h : Γ[j]? = some (.ac ds)) (g : StG K (Γ.set j (.im (.list ds))) ts N R) : StG K Γ ts N R := fun F B D σ H E n r => by
  obtain ⟨E1, x1⟩ := E.freeze h
  exact g F B D σ H E1 (fun Γ2 σ2 H2 a1 a2 a3 => n Γ2 σ2 H2 a1 a2 (x1.tr a3)) fun d Γ2 σ2 v H2 a1 a2 a3 => r d Γ2 σ2 v H2 a1 a2 (x1.tr a3)
/-- x = xs.pop(i), i drawn -/
theorem sg_popAtX {i j : Nat} (hi0 : ∃ f, Γ[i]? = some (.ac f)) (h : EvX K Γ te fun d Γ' => ∃ (ds : List PyData) (k : Nat) (x : PyData) (e : Ent), d = .int k ∧ Γ'[i]? = some (.ac ds) ∧ ds.length ≤ 100000 ∧ ds[k]? = some x ∧ Γ'[j]? = some e ∧ e.mut = false ∧ N ((Γ'.set i (.ac (ds.eraseIdx k))).set j (.im x))) : StG K Γ (tAsg (tBM K "list" rPopAt (tVar i) (tCons te tNil)) (gName j)) N R := fun F B D σ H E n r => by
  obtain ⟨f, hf⟩ := hi0
  obtain ⟨p, vs, h1, h2, h3⟩ := E.ac i f hf
  refine ⟨.ref p, h1, .inl ⟨rfl, vs, .inl (.inl h2)⟩, h F B σ H E _ fun d Γ1 v H' ⟨ds, k, x, e, ed, hi, hz, hx, hj, he, hn⟩ E' m1 x1 rv => ?_⟩
  subst ed
  cases rv
  obtain ⟨p', vs', a1, a2, a3⟩ := E'.ac i ds hi
  rw [h1] at a1
  cases a1
  obtain ⟨y, hy, ry⟩ := a3.get hx
  have hkl : k < vs'.length := (List.getElem?_eq_some_iff.mp hy).1
  have hlen := a3.len
  obtain ⟨E2, m2, x2⟩ := E'.write (e' := .ac (ds.eraseIdx k)) (o := .lst (vs'.eraseIdx k)) hi h1 rfl rfl (fun ds' z => by cases z; exact ⟨_, rfl, a3.erase k⟩) (fun _ z => nomatch z) (fun _ z => nomatch z)
  have hij : i ≠ j := fun z => by
    subst z
    rw [hi] at hj
    cases hj
    cases he
  have hj' : (Γ1.set i (.ac (ds.eraseIdx k)))[j]? = some e := by rw [List.getElem?_set_ne hij]; exact hj
  have m3 := mu_set (σ := σ) (x := some y) (e' := .im x) hj' he rfl
  refine ⟨p, vs', k, k, y, rfl, rfl, a2, by omega, by omega, ?_, hy, n _ _ _ hn (E2.put hj' he rfl fun d' z => ⟨y, rfl, by cases z; exact ry.up x2⟩) ((x1.tr x2).tr ?_)⟩
  · unfold seqIndex?
    simp
    omega
  · rw [frz, frz, m3]
    exact Ex.rfl' _
theorem tv_eqNil {α : Type} [Dt α] {xs : List α} (ha : EvC K Γ ta (.list (xs.map en))) (hk : Dt.k α ≤ 59 := by decide) : EvG K Γ (tOp (rEqP K false) ta (tLst tNil)) (.bool xs.isEmpty) :=
  (ev_eq ha (el_lst ea_nil).c (by rw [PyData.plain]; exact dt_plain xs) rfl (by have := dt_depth xs; simp only [PyData.depth]; omega)).cast (by cases xs <;> simp [PyData.eqv, PyData.eqvAll])
abbrev rMin2 : List V → Hp → VK → Prop := fun xs H Q => ∃ i j, xs = [.int i, .int j] ∧ Q (.int (if j < i then j else i)) H
theorem ev_min2 {i j : Int} (ha : EvG K Γ ta (.int i)) (hb : EvG K Γ tb (.int j)) : EvG K Γ (tCB rMin2 (tCons ta (tCons tb tNil))) (.int (if j < i then j else i)) := fun F B σ H E Q q => ea_cons ha (ea_one hb) F B σ H E _ fun vs H1 e1 r1 => by
  cases r1 with
  | cons q1 r1 =>
    cases r1 with
    | cons q2 r1 =>
      cases r1
      cases q1
      cases q2
      exact ⟨i, j, rfl, q _ H1 e1 (.int _)⟩
end
end K97
set_option Elab.async false
set_option linter.all false
set_option maxRecDepth 100000
set_option maxHeartbeats 4000000
/-! K97: trees. -/
namespace K97
open Dt (en)
open PySem L2
section
variable {P : Program} {w : World} {K : Fg} {mg : Str → Option Value} {base : Heap} {tk : Nat → Tok}
def encB (x : Int × PyData) : PyData := .tuple [.int x.1, x.2]
/-- a tree over cs with at most m leaves -/
def TrOk : Nat → List Str → Nat → PyData → Prop
  | 0, _, _, d => d = .tuple []
  | k + 1, cs, m, d => d = .tuple [] ∨ ∃ (c : Str) (cs' : List Str) (q : Nat) (bs : List (Int × PyData)), c ∈ cs ∧ cs'.length = k ∧ Five cs' ∧ (∀ x ∈ cs', x ∈ cs) ∧ c ∉ cs' ∧ d = .tuple [.str c, .tuple (bs.map encB)] ∧ bs ≠ [] ∧ (bs.map (·.1)).Nodup ∧ (∀ x ∈ bs, (0 ≤ x.1 ∧ x.1 ≤ 1000000000) ∧ TrOk k cs' q x.2) ∧ 1 ≤ q ∧ bs.length * q ≤ m
def cT : Nat → Nat
  | 0 => 0
  | k + 1 => 7 + 3 * cT k
theorem cT_le {k : Nat} (h : k ≤ 5) : cT k ≤ 1000 := by
  match k, h with
  | 0, _ => decide
  | 1, _ => decide
  | 2, _ => decide
  | 3, _ => decide
  | 4, _ => decide
  | 5, _ => decide
def PreT (j : Nat) (ds : List PyData) : Prop := ∃ (cs : List Str) (m : Nat), ds = [.list (cs.map en), .int m] ∧ Five cs ∧ cs.length < j ∧ 1 ≤ m ∧ m ≤ 8
def R__law_tree (ds : List PyData) (d : PyData) : Prop := ∃ (cs : List Str) (m : Nat), ds = [.list (cs.map en), .int m] ∧ TrOk cs.length cs m d
def c__law_tree (ds : List PyData) : Nat := match ds with
  | .list xs :: _ => cT xs.length
  | _ => 0
theorem len_tree (j : Nat) (ds : List PyData) (h : PreT j ds) : ds.length + 1 = 3 := by
  obtain ⟨cs, m, rfl, _⟩ := h
  rfl
theorem erase_map {α β : Type} (f : α → β) : ∀ (l : List α) (j : Nat), (l.eraseIdx j).map f = (l.map f).eraseIdx j
  | [], _ => rfl
  | _ :: _, 0 => rfl
  | x :: l, j + 1 => by
    rw [List.eraseIdx_cons_succ, List.map_cons, List.map_cons, List.eraseIdx_cons_succ, erase_map f l j]
theorem str_map_inj {cs cs' : List Str} (h : cs.map (en (α := Str)) = cs'.map en) : cs = cs' := List.map_inj_right (fun a b => en_inj) |>.mp h
theorem five_erase {cs : List Str} {i : Nat} (h : Five cs) : Five (cs.eraseIdx i) := ⟨Nat.le_trans (List.length_eraseIdx_le ..) h.len, (List.eraseIdx_sublist ..).nodup h.nd, fun c hc => h.ok c (List.mem_of_mem_eraseIdx hc)⟩
theorem nodup_erase {α : Type} : ∀ {xs : List α} {i : Nat} {x : α}, xs.Nodup → xs[i]? = some x → x ∉ xs.eraseIdx i
  | [], _, _, _, h => by simp at h
  | y :: ys, 0, x, hn, h => by
    cases h
    exact (List.nodup_cons.mp hn).1
  | y :: ys, i + 1, x, hn, h => by
    have h : ys[i]? = some x := h
    rw [List.eraseIdx_cons_succ, List.mem_cons]
    rintro (z | z)
    · exact (List.nodup_cons.mp hn).1 (z ▸ List.mem_of_getElem? h)
    · exact nodup_erase (List.nodup_cons.mp hn).2 h z
theorem ok_tree0 (t : Txt1 K mg "_law_tree" (topS 81) ["_law_box_here", "_law_cells_here", "_law_budget"]) : Has P w K mg base "_law_tree" 4 ["_law_box_here", "_law_cells_here", "_law_budget"] (SpX K (PreT 0) R__law_tree c__law_tree) := by
  have sc : FnScope ["_law_box_here", "_law_cells_here", "_law_budget", "_law_left", "_law_name", "_law_count", "_law_branches", "_law_value"] ["_law_box_here", "_law_cells_here", "_law_budget"] (defScope (topS 81)) := ⟨rfl, rfl, rfl, by decide +kernel, rfl, by decide +kernel, by decide +kernel⟩
  obtain ⟨f, fd, hm, Fu, hb⟩ := t.ex
  refine ⟨f, fd, hm, Fu.kp, hb, Fu.ok (k := 3) sc (fun vs H Q E h => ?_) fun cdv A outer s H vs Q E hr h => ?_⟩
  · obtain ⟨F, b, n, ws, ds, _, _, _, _, _, _, _, ⟨cs, m, _, _, h, _⟩, _⟩ := h
    exact absurd h (Nat.not_lt_zero _)
  · obtain ⟨F, b, n, ws, ds, _, _, _, _, _, _, _, ⟨cs, m, _, _, h, _⟩, _⟩ := h
    exact absurd h (Nat.not_lt_zero _)
theorem ok_tree1 (T : Tx mg tk) (t : Txt1 K mg "_law_tree" (topS 81) ["_law_box_here", "_law_cells_here", "_law_budget"]) (h__law_take : Has P w K mg base "_law_take" 1 ["_law_box_here", "_law_upon"] (SpX K Pre__law_take R__law_take c__law_take)) (h__law_values : Has P w K mg base "_law_values" 2 ["_law_box_here", "_law_count"] (SpX K Pre__law_values R__law_values c__law_values))
    (j : Nat) (h__law_tree : Has P w K mg base "_law_tree" (4 + j) ["_law_box_here", "_law_cells_here", "_law_budget"] (SpX K (PreT j) R__law_tree c__law_tree)) : Has P w K mg base "_law_tree" (4 + j + 1) ["_law_box_here", "_law_cells_here", "_law_budget"] (SpX K (PreT (j + 1)) R__law_tree c__law_tree) := by
  have sc : FnScope ["_law_box_here", "_law_cells_here", "_law_budget", "_law_left", "_law_name", "_law_count", "_law_branches", "_law_value"] ["_law_box_here", "_law_cells_here", "_law_budget"] (defScope (topS 81)) := ⟨rfl, rfl, rfl, by decide +kernel, rfl, by decide +kernel, by decide +kernel⟩
  refine has_box (k := 4 + j) t sc (len_tree _) (by decide) (fun f cdv A outer s H E hr => (pss_cons (ps_if (PW.pt (pw_or (pt_cmpR (k_eq K rfl hr.units) (pv 1) (pe_lst pa_nil) (nomark _)) (pw_or (pt_cmpR (op_lt) (pv 2) pe_int (nomark _)) (pw_or1 (pt_cmpR (k_eq K rfl hr.units) (pe_has (h__law_take.up (by omega)) hr (by rfl) (pa_cons (pv 0) (pa_cons pe_int pa_nil))) pe_int (nomark _))))))
   (pss_one (ps_ret (pe_tupF pa_nil)))
   pss_nil)
  (pss_cons (ps_set (i := 3) sc.nd rfl (.inl rfl) (pe_callTy (k_lst K rfl) (by rfl) T.b_list (by decide +kernel) (pa_cons (pv 1) pa_nil)))
  (pss_cons (ps_set (i := 4) sc.nd rfl (.inl rfl) (k_bm K rfl PySem.F.plainAttrs_list PySem.F.slot_list_pop PySem.F.type_list_pop mt_popAt (pv 3) (pa_cons (pe_has (h__law_take.up (by omega)) hr (by rfl) (pa_cons (pv 0) (pa_cons (pe_callB (k_len K rfl) (by rfl) T.b_len (by decide +kernel) (pa_cons (pv 3) pa_nil)) pa_nil))) pa_nil)))
  (pss_cons (ps_set (i := 5) sc.nd rfl (.inl rfl) (pe_op op_add pe_int (pe_has (h__law_take.up (by omega)) hr (by rfl) (pa_cons (pv 0) (pa_cons (pe_callB (call_min2 (by rfl)) (by rfl) T.b_min (by decide +kernel) (pa_cons pe_int (pa_cons (pv 2) pa_nil))) pa_nil)))))
  (pss_cons (ps_set (i := 6) sc.nd rfl (.inl rfl) (pe_lst pa_nil))
  (pss_cons (ps_for PassesOwn.never rfl (k_piL K rfl (pe_has (h__law_values.up (by omega)) hr (by rfl) (pa_cons (pv 0) (pa_cons (pv 5) pa_nil)))) (pg_name (i := 7) sc.nd rfl (.inl rfl))
   (pss_one (ps_expr (k_bm K rfl PySem.F.plainAttrs_list PySem.F.slot_list_append PySem.F.type_list_append mt_append (pv 6) (pa_cons (pe_tupF (pa_cons (pv 7) (pa_cons (pe_has (h__law_tree.up (by omega)) hr (by rfl) (pa_cons (pv 0) (pa_cons (pv 3) (pa_cons (pe_op op_fdiv (pv 2) (pv 5)) pa_nil)))) pa_nil))) pa_nil)))))
  (pss_one (ps_ret (pe_tupF (pa_cons (pv 4) (pa_cons (pe_callTy (k_tup K rfl) (by rfl) T.b_tuple (by decide +kernel) (pa_cons (pv 6) pa_nil)) pa_nil)))))))))))) ?_
  rintro ds b n ⟨cs, m, rfl, hcs, hcj, hm1, hm8⟩ hb hn
  have hcl := hcs.len
  have hc0 : c__law_tree [.list (cs.map en), .int m] = cT cs.length := by
    show cT (cs.map en).length = _
    rw [List.length_map]
  rw [hc0] at hn ⊢
  have hct := cT_le hcl
  show StG K [.bx b, .im (.list (cs.map en)), .im (.int m), .no, .no, .no, .no, .no] _ _ _
  by_cases hcn : cs = []
  · subst hcn
    refine sg_end (sg_ifX (xt_or ((et_test (tv_eqNil (ev_var rfl).c)).x ⟨fun _ => ⟨fun _ => sg_ret (ev_tup ea_nil) ⟨⟨[], m, rfl, rfl⟩, b, rfl, rfl, hb.up (by omega)⟩, fun h => nomatch h⟩, fun h => nomatch h⟩)))
  obtain ⟨k, hk⟩ : ∃ k, cs.length = k + 1 := ⟨cs.length - 1, by have := List.length_pos_iff.mpr hcn; omega⟩
  rw [hk] at hn hct ⊢
  have hcT : cT (k + 1) = 7 + 3 * cT k := rfl
  rw [hcT] at hn hct ⊢
  have hne : cs.isEmpty = false := by cases cs with
    | nil => exact absurd rfl hcn
    | cons _ _ => rfl
  refine sg_seq (N1 := fun Γ' => ∃ b1 : Bx, Γ' = [.bx b1, .im (.list (cs.map en)), .im (.int m), .no, .no, .no, .no, .no] ∧ b1.1 = b.1 ∧ BxK (n + 1) b1) (sg_ifX (xt_or ((et_test (tv_eqNil (ev_var rfl).c)).x ⟨fun h => absurd h (by rw [hne]; decide), fun _ => xt_or ((et_test ((ev_I0 (ev_var rfl) ev_int fun H => .bl _).cast (by rw [decide_eq_false (by omega)]))).x (b := false) ⟨(fun h => nomatch h), fun _ => xt_test (x_op (P1 := fun d Γ' => ∃ (b1 : Bx) (r : Nat), d = .int r ∧ Γ' = [.bx b1, .im (.list (cs.map en)), .im (.int m), .no, .no, .no, .no, .no] ∧ b1.1 = b.1 ∧ BxK (n + 1) b1) (x_take (u := 5) rfl hb (by omega) ev_int (by omega) (by omega) fun r b1 hr e1 k1 => ⟨b1, r, rfl, rfl, e1, k1⟩) ?_)⟩)⟩))) ?_
  · rintro d Γ1 ⟨b1, r, rfl, rfl, e1, k1⟩
    refine ev_int.x ⟨.bool (decide ((r : Int) = 0)), ⟨decide ((r : Int) = 0), rfl, fun _ => sg_ret (ev_tup ea_nil) ⟨⟨cs, m, rfl, ?_⟩, b1, rfl, e1, k1.up (by omega)⟩, fun _ => sg_next ⟨b1, rfl, e1, k1⟩⟩, tv_eq (α := Int) (ev_var rfl).c (ev_var rfl).c⟩
    rw [hk]
    exact .inl rfl
  rintro _ ⟨b1, rfl, e1, k1⟩
  refine sg_then (sg_setL (el_lstL (ev_var rfl).c) rfl rfl rfl) ?_
  refine sg_seq (N1 := fun Γ' => ∃ (b2 : Bx) (i : Nat) (c : Str), Γ' = [.bx b2, .im (.list (cs.map en)), .im (.int m), .ac ((cs.eraseIdx i).map en), .im (.str c), .no, .no, .no] ∧ b2.1 = b.1 ∧ BxK (n + 2) b2 ∧ cs[i]? = some c) (sg_popAtX ⟨_, rfl⟩ (x_take (u := cs.length) rfl k1 (by omega) ((ev_lenL (ec_ac rfl)).cast (by rw [List.length_map])) (by omega) (by omega) fun r b2 hr e2 k2 => ⟨cs.map en, r, en cs[r]!, .no, rfl, rfl, by rw [List.length_map]; omega, ?_, rfl, rfl, b2, r, cs[r]!, ?_, e2.trans e1, k2, ?_⟩)) ?_
  · have hrl : r < cs.length := by omega
    rw [List.getElem?_map, List.getElem?_eq_getElem hrl, getElem!_pos cs r hrl]
    rfl
  · show [_, _, _, Ent.ac ((cs.map en).eraseIdx r), _, _, _, _] = _
    rw [← erase_map]
    rfl
  · have hrl : r < cs.length := by omega
    rw [List.getElem?_eq_getElem hrl, getElem!_pos cs r hrl]
  rintro _ ⟨b2, i, c, rfl, e2, k2, hi⟩
  have hil : i < cs.length := (List.getElem?_eq_some_iff.mp hi).1
  have hcs' : Five (cs.eraseIdx i) := five_erase hcs
  have hl' : (cs.eraseIdx i).length = k := by rw [List.length_eraseIdx_of_lt hil]; omega
  have hsub : ∀ x ∈ cs.eraseIdx i, x ∈ cs := fun x hx => List.mem_of_mem_eraseIdx hx
  have hnc : c ∉ cs.eraseIdx i := nodup_erase hcs.nd hi
  have hcm : c ∈ cs := List.mem_of_getElem? hi
  generalize cs.eraseIdx i = cs' at *
  refine sg_freeze (j := 3) rfl ?_
  refine sg_seq (N1 := fun Γ' => ∃ (b3 : Bx) (q : Nat), Γ' = [.bx b3, .im (.list (cs.map en)), .im (.int m), .im (.list (cs'.map en)), .im (.str c), .im (.int q), .no, .no] ∧ b3.1 = b.1 ∧ BxK (n + 3) b3 ∧ 1 ≤ q ∧ q ≤ 3 ∧ q ≤ m) (sg_setX (x_op (P1 := fun d Γ' => d = .int 1 ∧ Γ' = [.bx b2, .im (.list (cs.map en)), .im (.int m), .im (.list (cs'.map en)), .im (.str c), .no, .no, .no]) (ev_int.x ⟨rfl, rfl⟩) ?_)) ?_
  · rintro d1 Γ1 ⟨rfl, rfl⟩
    refine x_take (u := if (m : Int) < 3 then m else 3) rfl k2 (by omega) (ev_min2 ev_int (ev_var rfl)) (by split <;> omega) (by split <;> omega) fun r b3 hr e3 k3 => ⟨.int ((1 + r : Nat) : Int), ⟨⟨.no, rfl, rfl⟩, b3, 1 + r, rfl, e3.trans e2, k3, by omega, by split at hr <;> omega, by split at hr <;> omega⟩, (ev_I0 (ev_var rfl) (ev_var rfl) fun H => .int _).cast (by simp)⟩
  rintro _ ⟨b3, q, rfl, e3, k3, hq1, hq3, hqm⟩
  refine sg_then (sg_setL (el_lst ea_nil) rfl rfl rfl) ?_
  have hdiv : 1 ≤ m / q := (Nat.one_le_div_iff (by omega)).mpr hqm
  have hdm : q * (m / q) ≤ m := Nat.mul_div_le m q
  have hd8 : m / q ≤ 8 := Nat.le_trans (Nat.div_le_self m q) hm8
  refine sg_forXQ (α := Bx × List (Int × PyData)) (ix_lst (x_callB rfl ((ea_one (ev_var rfl)).x ⟨⟨q, rfl, hq3⟩, b3, n + 3, rfl, rfl, k3, (by show n + 3 + 4 ≤ _; omega), fun d b4 ⟨q', vs, eq, ed, hvl, hvn, hvb⟩ e4 k4 => ?_⟩)))
  have hqq : q' = q := by
    have := (List.cons.inj eq).1
    have := PyData.int.inj this
    omega
  subst hqq
  subst ed
  refine ⟨vs.map en, rfl, fun a => [.bx a.1, .im (.list (cs.map en)), .im (.int m), .im (.list (cs'.map en)), .im (.str c), .im (.int q'), .ac (a.2.map encB), .no], fun i a => a.1.1 = b.1 ∧ BxK (n + 7 + i * cT k) a.1 ∧ a.2.map (·.1) = vs.take i ∧ ∀ x ∈ a.2, (0 ≤ x.1 ∧ x.1 ≤ 1000000000) ∧ TrOk k cs' (m / q') x.2, (b4, []), Wk.rfl' _, ⟨e4.trans e3, k4.up (by show n + 3 + 4 ≤ _; omega), by simp, fun x h => nomatch h⟩, ?_, ?_⟩
  · rintro i d ⟨b5, bs⟩ hd ⟨e5, k5, hbs, hbb⟩
    rw [List.getElem?_map] at hd
    obtain ⟨v, hv, rfl⟩ := Option.map_eq_some_iff.mp hd
    have e5 : b5.1 = b.1 := e5
    have k5 : BxK (n + 7 + i * cT k) b5 := k5
    have hbs : bs.map (·.1) = vs.take i := hbs
    have hiv : i < vs.length := (List.getElem?_eq_some_iff.mp hv).1
    have hbl : bs.length ≤ i := by
      have := congrArg List.length hbs
      rw [List.length_map, List.length_take] at this
      omega
    have hmul : (i + 1) * cT k ≤ 3 * cT k := Nat.mul_le_mul_right _ (by omega)
    have hmul2 : (i + 1) * cT k = i * cT k + cT k := Nat.succ_mul ..
    refine ⟨_, _, tg_name (j := 7) rfl rfl, ?_⟩
    refine sg_appX ⟨_, rfl⟩ (x_tup (xa_g (PL := fun ds' Γ' => ∃ (b6 : Bx) (tr : PyData), ds' = [en v, tr] ∧ Γ' = [.bx b6, .im (.list (cs.map en)), .im (.int m), .im (.list (cs'.map en)), .im (.str c), .im (.int q'), .ac (bs.map encB), .im (en v)] ∧ b6.1 = b.1 ∧ BxK (n + 7 + (i + 1) * cT k) b6 ∧ TrOk k cs' (m / q') tr) (ev_var rfl) (xa_cons (P1 := fun d Γ' => ∃ (b6 : Bx), Γ' = [.bx b6, .im (.list (cs.map en)), .im (.int m), .im (.list (cs'.map en)), .im (.str c), .im (.int q'), .ac (bs.map encB), .im (en v)] ∧ b6.1 = b.1 ∧ BxK (n + 7 + (i + 1) * cT k) b6 ∧ TrOk k cs' (m / q') d) (x_callB rfl ((ea_cons (ev_var rfl) (ea_one ((ev_I (ev_var rfl) (ev_var rfl) ⟨by omega, by omega⟩ fun H => .int _).cast (d' := .int ((m / q' : Nat) : Int)) (by simp)))).x ⟨⟨cs', m / q', rfl, hcs', by omega, hdiv, hd8⟩, b5, n + 7 + i * cT k, rfl, rfl, k5, ?_, fun d b6 ⟨cs2, m2, e7, ht⟩ e6 k6 => ?_⟩)) ?_)) ?_)
    · show n + 7 + i * cT k + cT (cs'.map en).length ≤ _
      rw [List.length_map, hl']
      omega
    · obtain ⟨a1, a2⟩ := List.cons.inj e7
      have a3 := str_map_inj (PyData.list.inj a1)
      have a4 : ((m / q' : Nat) : Int) = m2 := PyData.int.inj (List.cons.inj a2).1
      have a5 : m / q' = m2 := by omega
      subst a3 a5
      rw [hl'] at ht
      refine ⟨b6, rfl, e6.trans e5, ?_, ht⟩
      have : c__law_tree [.list (cs'.map en), .int ((m / q' : Nat) : Int)] = cT k := by
        show cT (cs'.map en).length = _
        rw [List.length_map, hl']
      rw [this] at k6
      rw [hmul2, ← Nat.add_assoc]
      exact k6
    · rintro d Γ1 ⟨b6, rfl, e6, k6, ht⟩
      exact xa_nil ⟨b6, d, rfl, rfl, e6, k6, ht⟩
    · rintro ds' _ ⟨b6, tr, rfl, rfl, e6, k6, ht⟩
      refine ⟨by simp, bs.map encB, rfl, by rw [List.length_map]; omega, (b6, bs ++ [(v, tr)]), ⟨e6, k6, ?_, ?_⟩, ?_⟩
      · show (bs ++ [(v, tr)]).map (·.1) = _
        rw [List.map_append, hbs, List.take_add_one, hv]
        rfl
      · intro x hx
        rcases List.mem_append.mp hx with hx | hx
        · exact hbb x hx
        · cases List.mem_singleton.mp hx
          exact ⟨hvb v (List.mem_of_getElem? hv), ht⟩
      · show Wk _ [.bx b6, .im (.list (cs.map en)), .im (.int m), .im (.list (cs'.map en)), .im (.str c), .im (.int q'), .ac ((bs ++ [(v, tr)]).map encB), .no]
        rw [List.map_append]
        exact wk_ok
  · rintro ⟨b5, bs⟩ ⟨e5, k5, hbs, hbb⟩
    rw [List.length_map] at k5 hbs
    rw [List.take_length] at hbs
    have hbl : bs.length = vs.length := by
      have := congrArg List.length hbs
      rwa [List.length_map] at this
    have hmul : vs.length * cT k ≤ 3 * cT k := Nat.mul_le_mul_right _ (by omega)
    refine sg_ret (ev_tup (ea_cons (ev_var rfl) (ea_one (ev_tupL (ec_ac rfl))))) ⟨⟨cs, m, rfl, ?_⟩, b5, rfl, e5, k5.up (by omega)⟩
    rw [hk]
    refine .inr ⟨c, cs', m / q', bs, hcm, hl', hcs', hsub, hnc, rfl, fun z => ?_, by rw [hbs]; exact hvn, hbb, hdiv, by rw [hbl, hvl]; exact hdm⟩
    rw [z] at hbl
    simp only [List.length_nil] at hbl
    omega
end
end K97
set_option Elab.async false
set_option linter.all false
set_option maxRecDepth 100000
set_option maxHeartbeats 4000000
/-! K97: a def that promises one of several answers; a, b = xs.pop(). -/
namespace K97
open Dt (en)
open PySem L2
/-- pure, but told only up to R -/
def SpQ (K : Fg) (S : List PyData → (PyData → Prop) → Prop) : Sp := fun vs H Q _ => ∃ (F : Addr → Prop) (ds : List PyData) (R : PyData → Prop), (∀ a, F a → H a ≠ none) ∧ RpAll K (cut F H) vs ds ∧ S ds R ∧ ∀ d v H', R d → Ex H H' → Rp K (cut F H') v d → Q v H'
section
variable {K : Fg} {Γ Γ1 : En} {te ta tb : TE} {t : TA} {ts tu : TS} {N : En → Prop} {R : PyData → En → Prop} {F : Addr → Prop} {B H H' : Hp} {σ : L2.St} {ds : List PyData} {P : PyData → En → Prop}
theorem has_q {Pg : Program} {w : World} {K : Fg} {mg : Str → Option Value} {base : Heap} {x : Str} {st : Stmt} {k : Nat} {N ps : List Str} {t : TS} {S : List PyData → (PyData → Prop) → Prop} (T : Txt1 K mg x st ps) (Sc : FnScope N ps (defScope st)) (hl : ∀ ds R, S ds R → ds.length = ps.length) (hN : ps.length ≤ N.length)
    (ph : ∀ (f : Addr) (cdv : Value) (A : Around) (outer : List Env) (s : Shared) (H : Hp) (E : XK), Room k (A.deeper (PyProof.Rows.envOfC x (defScope st) s.heap.objs.size f cdv)) → PSs (cxF Pg w K mg base N x st f cdv A outer s H E) (defBody st) t)
    (sem : ∀ ds R, S ds R → StG K (ims N ds) t (fun _ => R .none) (fun d' _ => R d')) : Has Pg w K mg base x (k + 1) ps (SpQ K S) := by
  obtain ⟨f, fd, hm, Fu, hb⟩ := T.ex
  refine ⟨f, fd, hm, Fu.kp, hb, Fu.ok Sc (fun vs H Q E h => ?_) fun cdv A outer s H vs Q E hr h => ?_⟩
  · obtain ⟨F, ds, R, _, r, hR, _⟩ := h
    rw [r.len]; exact hl ds R hR
  · obtain ⟨F, ds, R, hF, r, hR, q⟩ := h
    refine ⟨t, ph f cdv A outer s H E hr, sem ds R hR F H _ (L2.start N vs) H (envR_start hF r (by rw [hl ds R hR]; exact hN)) (fun Γ' σ' H' n E' x' => ?_) fun d' Γ' σ' v H' hd E' x' rv => ?_⟩
    · exact q .none _ H' n E'.base .non
    · exact q d' v H' hd E'.base (rv.up (cut_less fun a z => .inl z))
theorem x_callQ {S : List PyData → (PyData → Prop) → Prop} {E' : XK} (h : EaX K Γ t fun ds Γ' => ∃ R0, S ds R0 ∧ ∀ d, R0 d → P d Γ') : EvX K Γ (tCall (SpQ K S) [] E' t) P := fun F B σ H E Q q => h F B σ H E _ fun ds Γ1 vs H1 ⟨R0, pre, fin⟩ E1 m1 x1 r1 => by
  refine ⟨fun a => F a ∨ mu Γ1 σ a, ds, R0, fun a z => ?_, by rw [List.append_nil]; exact r1, pre, fun d v H2 rd e2 r2 => q d Γ1 v H2 (fin d rd) (E1.ext e2) m1 (x1.tr (cut_mono e2)) r2⟩
  rcases z with z | z
  · exact E1.fin a z
  · exact E1.muIn z
/-- a, b = xs.pop() -/
theorem sg_popP {i j k : Nat} {e1 e2 : Ent} {d1 d2 : PyData} (hi : Γ[i]? = some (.ac (ds ++ [.tuple [d1, d2]]))) (hj : Γ[j]? = some e1) (hk : Γ[k]? = some e2) (h1 : e1.mut = false) (h2 : e2.mut = false) (hjk : j ≠ k) (hn : N (((Γ.set i (.ac ds)).set j (.im d1)).set k (.im d2))) : StG K Γ (tAsg (tBM0 K "list" rPop (tVar i)) (gTup K 2 (gCons (gName j) (gCons (gName k) gNil)))) N R := fun F B D σ H E n r => by
  obtain ⟨p, vs, s1, s2, s3⟩ := E.ac i _ hi
  have hl := s3.len
  rw [List.length_append, List.length_singleton] at hl
  have hd : (ds ++ [PyData.tuple [d1, d2]])[vs.length - 1]? = some (.tuple [d1, d2]) := by
    rw [hl, Nat.add_sub_cancel, List.getElem?_append_right (Nat.le_refl _)]
    simp
  obtain ⟨v, hv, rv⟩ := s3.get hd
  refine ⟨.ref p, s1, .inl ⟨rfl, vs, .inl (.inl s2)⟩, p, vs, v, rfl, rfl, s2, hv, ?_⟩
  have hij : i ≠ j := fun z => by
    subst z
    rw [hi] at hj; cases hj; cases h1
  have hik : i ≠ k := fun z => by
    subst z
    rw [hi] at hk; cases hk; cases h2
  have hdl : RpAll K (frz F Γ σ H) vs.dropLast ds := by
    have := s3.dropLast
    rwa [List.dropLast_concat] at this
  obtain ⟨E2, m2, x2⟩ := E.write (e' := .ac ds) (o := .lst vs.dropLast) hi s1 rfl rfl (fun ds' z => by cases z; exact ⟨_, rfl, hdl⟩) (fun _ z => nomatch z) (fun _ z => nomatch z)
  refine tg_pair (pr := false) (K := K) (Γ := Γ.set i (.ac ds)) (by rw [List.getElem?_set_ne hij]; exact hj) (by rw [List.getElem?_set_ne hik]; exact hk) h1 h2 hjk F B σ _ v E2 (rv.up x2) _ fun σ' E' m' _ _ => n _ σ' _ hn E' (x2.tr ?_)
  rw [frz, frz, m']
  exact Ex.rfl' _
theorem ev_neNil (ha : EvC K Γ ta (.list ds)) (hp : PyData.plainAll ds = true) (hd : PyData.depthAll ds ≤ 59) : EvG K Γ (tOp (rEqP K true) ta (tLst tNil)) (.bool (!ds.isEmpty)) :=
  (ev_ne ha (el_lst ea_nil).c (by rw [PyData.plain]; exact hp) rfl (by simp only [PyData.depth]; omega)).cast (by cases ds <;> simp [PyData.eqv, PyData.eqvAll])
theorem ev_eqNilT (ha : EvC K Γ ta (.tuple ds)) (hp : PyData.plainAll ds = true) (hd : PyData.depthAll ds ≤ 59) : EvG K Γ (tOp (rEqP K false) ta (tTupF tNil)) (.bool ds.isEmpty) :=
  (ev_eq ha (ev_tup ea_nil).c (by rw [PyData.plain]; exact hp) rfl (by simp only [PyData.depth]; omega)).cast (by cases ds <;> simp [PyData.eqv, PyData.eqvAll])
theorem plainAll_iff : ∀ {ds : List PyData}, PyData.plainAll ds = true ↔ ∀ d ∈ ds, d.plain = true
  | [] => by simp [PyData.plainAll]
  | x :: xs => by simp [PyData.plainAll, plainAll_iff (ds := xs)]
theorem depthAll_le {n : Nat} : ∀ {ds : List PyData}, (∀ d ∈ ds, d.depth ≤ n) → PyData.depthAll ds ≤ n
  | [], _ => by simp [PyData.depthAll]
  | x :: xs, h => by
    have h1 := h x List.mem_cons_self
    have h2 := depthAll_le (ds := xs) fun d hd => h d (List.mem_cons_of_mem _ hd)
    simp only [PyData.depthAll]
    omega
/-- a new list from one operand that draws -/
theorem xl_cb {r : List V → Hp → VK → Prop} {P1 : PyData → En → Prop} {PL : List PyData → En → Prop} (ha : EvX K Γ ta P1) (h : ∀ d1 Γ1, P1 d1 Γ1 → ∃ ds, PL ds Γ1 ∧ EvL K [.im d1] (tCB r (tCons (tVar 0) tNil)) ds) : EvLX K Γ (tCB r (tCons ta tNil)) PL := fun F B σ H E Q q =>
  ha F B σ H E _ fun d1 Γ1 x H1 p1 E1 m1 x1 r1 => by
    obtain ⟨ds, p3, h⟩ := h d1 Γ1 p1
    obtain ⟨E3, hf⟩ := E1.two (vs := [x]) (ds := [d1]) (.one r1)
    obtain ⟨v, e1, w⟩ := h _ _ _ H1 E3 (fun v H' => Q v H') fun p vs H' hp e hl r3 => by
      have hB : B p = none := by
        cases z : B p with
        | none => rfl
        | some o => rw [E1.base _ _ z] at hp; cases hp
      have gr : Ex (frz F Γ1 σ H1) (frz (fun a => F a ∨ a = p) Γ1 σ H') := fun a o z => by
        obtain ⟨n, z⟩ := cut_some z
        refine cut_of (fun w => ?_) (e _ _ z)
        rcases w with (w | w) | w
        · exact n (.inl w)
        · rw [w, hp] at z; cases z
        · exact n (.inr w)
      refine q ds Γ1 p vs H' p3 (E1.addF hp e (by rw [hl]; simp)) (fun w => E1.fin p w hp) hB m1 (x1.tr gr) hl (r3.up (cut_less fun a w => ?_))
      rcases w with (w | w) | w
      · exact .inl (.inl (.inl w))
      · exact .inl (.inr w)
      · exact .inl (.inl (.inr w))
    cases e1
    exact w
section
variable {α : Type} [Dt α] {xs : List α} {tl th : TO}
theorem tv_slHi {s : Nat} (ha : EvC K Γ ta (en xs)) (h : EvG K Γ tb (.int s)) : EvG K Γ (tSl (rSlF K) ta tNoPart (tPart tb)) (en (xs.take s)) := (ev_slT ha eo_no (eo_int h)).cast (by
  show PyData.tuple _ = PyData.tuple _
  congr 1
  unfold cutD
  rw [HT.sIx_none, HT.sIx_nat, List.length_map, List.drop_zero, List.map_take, Nat.sub_zero]
  rcases Nat.le_total s xs.length with w | w
  · rw [Nat.min_eq_left w]
  · rw [Nat.min_eq_right w, List.take_of_length_le (by rw [List.length_map]; omega), List.take_of_length_le (by rw [List.length_map]; omega)])
theorem tv_slLo {s : Nat} (ha : EvC K Γ ta (en xs)) (h : EvG K Γ tb (.int s)) : EvG K Γ (tSl (rSlF K) ta (tPart tb) tNoPart) (en (xs.drop s)) := (ev_slT ha (eo_int h) eo_no).cast (by
  show PyData.tuple _ = PyData.tuple _
  congr 1
  unfold cutD
  rw [HT.sIx_none, HT.sIx_nat, List.length_map, List.map_drop]
  rcases Nat.le_total s xs.length with w | w
  · rw [Nat.min_eq_left w, List.take_of_length_le (by rw [List.length_drop, List.length_map]; omega)]
  · rw [Nat.min_eq_right w, List.drop_of_length_le (by rw [List.length_map]; omega), List.drop_of_length_le (by rw [List.length_map]; omega), List.take_nil])
theorem tv_slOne {s : Nat} {tc : TE} (ha : EvC K Γ ta (en xs)) (h : EvG K Γ tb (.int s)) (g : EvG K Γ tc (.int ((s : Int) + 1))) : EvG K Γ (tSl (rSlF K) ta (tPart tb) (tPart tc)) (en ((xs.drop s).take 1)) := (ev_slT ha (eo_int h) (eo_int (i := ((s + 1 : Nat) : Int)) g)).cast (by
  show PyData.tuple _ = PyData.tuple _
  congr 1
  unfold cutD
  rw [HT.sIx_nat, HT.sIx_nat, List.length_map, List.map_take, List.map_drop]
  rcases Nat.lt_or_ge s xs.length with w | w
  · rw [Nat.min_eq_left (by omega), Nat.min_eq_left (by omega), Nat.add_sub_cancel_left]
  · rw [Nat.min_eq_right w, List.drop_of_length_le (by rw [List.length_map]; omega), List.drop_of_length_le (by rw [List.length_map]; omega), List.take_nil, List.take_nil])
end
end
end K97
set_option Elab.async false
set_option linter.all false
set_option maxRecDepth 100000
set_option maxHeartbeats 4000000
/-! K97: leaves of a tree. -/
namespace K97
open Dt (en)
open PySem L2
section
variable {P : Program} {w : World} {K : Fg} {mg : Str → Option Value} {base : Heap} {tk : Nat → Tok}
/-- two logs that differ at a cell -/
def Dv (a b : Lg) : Prop := ∃ (c : Str) (v v' : Int), (c, v) ∈ a ∧ (c, v') ∈ b ∧ v ≠ v'
theorem Dv.symm {a b : Lg} : Dv a b → Dv b a := fun ⟨c, v, v', h1, h2, h3⟩ => ⟨c, v', v, h2, h1, h3.symm⟩
theorem Dv.left {a a' b : Lg} (h : Dv a b) (s : ∀ p ∈ a, p ∈ a') : Dv a' b := by
  obtain ⟨c, v, v', h1, h2, h3⟩ := h
  exact ⟨c, v, v', s _ h1, h2, h3⟩
theorem Dv.ne {a b : Lg} (h : Dv a b) (w : LgW a) : a ≠ b := by
  obtain ⟨c, v, v', h1, h2, h3⟩ := h
  rintro rfl
  have hn := Up.nodup w.up
  have e1 := (lkp_of_mem hn).mpr h1
  have e2 := (lkp_of_mem hn).mpr h2
  rw [e1] at e2
  exact h3 (Option.some.inj e2)
/-- a branch that waits -/
structure Wt where
  cs : List Str
  m : Nat
  d : PyData
  pr : Lg
def encW (x : Wt) : PyData := .tuple [x.d, en x.pr]
structure WtOk (cs0 : List Str) (x : Wt) : Prop where
  five : Five x.cs
  tr : TrOk x.cs.length x.cs x.m x.d
  m1 : 1 ≤ x.m
  m8 : x.m ≤ 8
  nd : (cellsOf x.pr).Nodup
  off : ∀ c ∈ cellsOf x.pr, c ∈ cs0 ∧ c ∉ x.cs
  sub : ∀ c ∈ x.cs, c ∈ cs0
  ok : ∀ p ∈ x.pr, PairOk p
theorem tr_shape : ∀ {k : Nat} {cs : List Str} {m : Nat} {d : PyData}, TrOk k cs m d → d.plain = true ∧ d.depth ≤ 3 * k + 1 ∧ ∃ ds, d = .tuple ds
  | 0, _, _, d, h => by
    cases h
    exact ⟨rfl, by simp [PyData.depth, PyData.depthAll], _, rfl⟩
  | k + 1, cs, m, d, h => by
    rcases h with h | ⟨c, cs', q, bs, h1, h2, h3, h4, h5, rfl, h6, h7, h8, _⟩
    · cases h
      exact ⟨rfl, by simp [PyData.depth, PyData.depthAll], _, rfl⟩
    · have hp : ∀ x ∈ bs.map encB, x.plain = true := fun x hx => by
        obtain ⟨b, hb, rfl⟩ := List.mem_map.mp hx
        have := (tr_shape (h8 b hb).2).1
        simp [encB, PyData.plain, PyData.plainAll, this]
      have hd : ∀ x ∈ bs.map encB, x.depth ≤ 3 * k + 2 := fun x hx => by
        obtain ⟨b, hb, rfl⟩ := List.mem_map.mp hx
        have := (tr_shape (h8 b hb).2).2.1
        simp only [encB, PyData.depth, PyData.depthAll]
        omega
      have hp' := plainAll_iff.mpr hp
      have hd' := depthAll_le hd
      refine ⟨by simp [PyData.plain, PyData.plainAll, hp'], ?_, _, rfl⟩
      simp only [PyData.depth, PyData.depthAll]
      omega
def wsum (W : List Wt) : Nat := (W.map fun x => 9 ^ x.cs.length).sum
def msum (W : List Wt) : Nat := (W.map fun x => x.m).sum
def S__law_leaves (ds : List PyData) (R : PyData → Prop) : Prop := ∃ (cs : List Str) (m : Nat) (d : PyData), ds = [d] ∧ Five cs ∧ TrOk cs.length cs m d ∧ 1 ≤ m ∧ m ≤ 8 ∧ R = fun d' => ∃ L : List Lg, d' = en L ∧ Over cs L ∧ L ≠ [] ∧ L.length ≤ m
theorem len__law_leaves (ds : List PyData) (R : PyData → Prop) (h : S__law_leaves ds R) : ds.length = 1 := by
  obtain ⟨cs, m, d, rfl, _⟩ := h
  rfl
theorem enW_plain {cs0 : List Str} {W : List Wt} (h : ∀ x ∈ W, WtOk cs0 x) : PyData.plainAll (W.map encW) = true ∧ PyData.depthAll (W.map encW) ≤ 59 := by
  refine ⟨plainAll_iff.mpr fun d hd => ?_, depthAll_le fun d hd => ?_⟩
  · obtain ⟨x, hx, rfl⟩ := List.mem_map.mp hd
    have := (tr_shape (h x hx).tr).1
    have h2 := Dt.pl x.pr
    simp [encW, PyData.plain, PyData.plainAll, this, h2]
  · obtain ⟨x, hx, rfl⟩ := List.mem_map.mp hd
    have h1 := (tr_shape (h x hx).tr).2.1
    have h2 := Dt.dp x.pr
    have h3 : Dt.k Lg ≤ 10 := by decide
    have h4 := (h x hx).five.len
    simp only [encW, PyData.depth, PyData.depthAll]
    omega
theorem wsum_app (W V : List Wt) : wsum (W ++ V) = wsum W + wsum V := by simp [wsum, List.sum_append]
theorem msum_app (W V : List Wt) : msum (W ++ V) = msum W + msum V := by simp [msum, List.sum_append]
structure LvInv (cs0 : List Str) (M : Nat) (f : List Lg) (W : List Wt) : Prop where
  w : ∀ x ∈ W, WtOk cs0 x
  fo : ∀ l ∈ f, LgW l ∧ ∀ c ∈ cellsOf l, c ∈ cs0
  dv : (f ++ W.map Wt.pr).Pairwise Dv
  len : f.length + msum W ≤ M
  ne : f ≠ [] ∨ W ≠ []
theorem len_msum : ∀ {V : List Wt}, (∀ y ∈ V, 1 ≤ y.m) → V.length ≤ msum V
  | [], _ => Nat.le_refl _
  | y :: V, h => by
    have h1 := h y List.mem_cons_self
    have h2 := len_msum (V := V) fun z hz => h z (List.mem_cons_of_mem _ hz)
    have h3 : msum (y :: V) = y.m + msum V := by simp [msum]
    rw [h3, List.length_cons]
    omega
theorem dv_put {A : List Lg} {p : Lg} {ps : List Lg} (h : (A ++ [p]).Pairwise Dv) (hp : ∀ p' ∈ ps, ∀ q ∈ p, q ∈ p') (hs : ps.Pairwise Dv) : (A ++ ps).Pairwise Dv := by
  rw [List.pairwise_append] at h ⊢
  exact ⟨h.1, hs, fun a ha b hb => ((h.2.2 a ha p (List.mem_singleton.mpr rfl)).symm.left (hp b hb)).symm⟩
theorem dv_perm {A A' : List Lg} (h : A.Pairwise Dv) (p : A.Perm A') : A'.Pairwise Dv := (p.pairwise_iff fun {a b} h => Dv.symm h).mp h
theorem ok__law_leaves (T : Tx mg tk) (t : Txt1 K mg "_law_leaves" (topS 82) ["_law_tree_here"]) : Has P w K mg base "_law_leaves" 1 ["_law_tree_here"] (SpQ K S__law_leaves) := by
  have sc : FnScope ["_law_tree_here", "_law_found", "_law_waiting", "_law_here", "_law_pairs", "_law_value", "_law_below"] ["_law_tree_here"] (defScope (topS 82)) := ⟨rfl, rfl, rfl, by decide +kernel, rfl, by decide +kernel, by decide +kernel⟩
  refine has_q t sc len__law_leaves (by decide) (fun f cdv A outer s H E hr => (pss_cons (ps_par (i := 1) (j := 2) (by rfl) sc.nd rfl rfl (by decide) rfl rfl (pa_cons (pe_lst pa_nil) (pa_cons (pe_lst (pa_cons (pe_tupF (pa_cons (pv 0) (pa_cons (pe_tupF pa_nil) pa_nil))) pa_nil)) pa_nil)) (by rfl))
  (pss_cons (ps_while PassesOwn.never (pt_cmpR (k_ne K rfl hr.units) (pv 2) (pe_lst pa_nil) (nomark _))
   (pss_cons (ps_asg (k_bm0 K rfl PySem.F.plainAttrs_list PySem.F.slot_list_pop PySem.F.type_list_pop mt_pop (pv 2)) (k_pgT K rfl (n := 2) rfl (pgs_cons (pg_name (i := 3) sc.nd rfl (.inr rfl)) (pgs_cons (pg_name (i := 4) sc.nd rfl (.inr rfl)) pgs_nil))))
  (pss_one (ps_if (pt_cmpR (k_eq K rfl hr.units) (pv 3) (pe_tupF pa_nil) (nomark _))
   (pss_one (ps_expr (k_bm K rfl PySem.F.plainAttrs_list PySem.F.slot_list_append PySem.F.type_list_append mt_append (pv 1) (pa_cons (pe_callTy (k_tup K rfl) (by rfl) T.b_tuple (by decide +kernel) (pa_cons (pe_callB (k_sorted K rfl hr.units) (by rfl) T.b_sorted (by decide +kernel) (pa_cons (pv 4) pa_nil)) pa_nil)) pa_nil))))
   (pss_one (ps_expr (k_bm K rfl PySem.F.plainAttrs_list PySem.F.slot_list_extend PySem.F.type_list_extend mt_extend (pv 2) (pa_cons (pe_lc (own := [("_law_value", 5), ("_law_below", 6)]) (by rfl) sc.nd (k_piT K rfl (pe_ix (k_ix K rfl) (pv 3) pe_int (fun _ _ => rfl))) (blkOk_by (by kernel_rfl)) (fun _ _ _ _ _ => (k_pgT K rfl (n := 2) rfl (pgs_cons (pg_name (i := 5) sc.nd rfl (.inl rfl)) (pgs_cons (pg_name (i := 6) sc.nd rfl (.inl rfl)) pgs_nil)))) (fun _ _ _ _ _ => pts_nil) (fun _ _ _ _ _ => (pe_tupF (pa_cons (pv 6) (pa_cons (pe_op (k_cat K rfl) (pv 4) (pe_tupF (pa_cons (pe_tupF (pa_cons (pe_ix (k_ix K rfl) (pv 3) pe_int (fun _ _ => rfl)) (pa_cons (pv 5) pa_nil))) pa_nil))) pa_nil))))) pa_nil))))))))
  (pss_one (ps_ret (pe_callTy (k_tup K rfl) (by rfl) T.b_tuple (by decide +kernel) (pa_cons (pe_callB (k_sorted K rfl hr.units) (by rfl) T.b_sorted (by decide +kernel) (pa_cons (pv 1) pa_nil)) pa_nil))))))) ?_
  rintro ds R ⟨cs, m, d, rfl, hcs, htr, hm1, hm8, rfl⟩
  show StG K [.im d, .no, .no, .no, .no, .no, .no] _ _ _
  have hcl := hcs.len
  refine sg_seq (N1 := fun Γ' => Γ' = [.im d, .ac [], .ac [.tuple [d, en ([] : Lg)]], .no, .no, .no, .no]) (sg_parLL (el_lst ea_nil) (el_lst (ea_one (ev_tup (ea_cons (ev_var rfl) (ea_one (ev_tup ea_nil)))))) rfl rfl rfl rfl (by decide) rfl) ?_
  rintro _ rfl
  refine sg_whileW (α := List Lg × List Wt) (fun x => [.im d, .ac (x.1.map en), .ac (x.2.map encW), .no, .no, .no, .no]) (fun x => LvInv cs m x.1 x.2) (fun x => wsum x.2) ([], [⟨cs, m, d, []⟩]) ⟨?_, (fun l h => nomatch h), ?_, ?_, .inr (by simp)⟩ (Wk.rfl' _) ?_
  · intro x hx
    cases List.mem_singleton.mp hx
    exact ⟨hcs, htr, hm1, hm8, .nil, fun c h => (nomatch h), fun c h => h, (fun p h => nomatch h)⟩
  · exact List.pairwise_singleton _ _
  · simp [msum]
  rintro ⟨f, W⟩ iv
  have iv : LvInv cs m f W := iv
  have hfm : f.length ≤ m := by have := iv.len; omega
  refine ⟨!(W.map encW).isEmpty, et_test (ev_neNil (ec_ac rfl) (enW_plain iv.w).1 (enW_plain iv.w).2), fun hb => ?_, fun hb => ?_⟩
  · have hW : W ≠ [] := fun z => by rw [z] at hb; cases hb
    obtain ⟨V, x, rfl⟩ : ∃ V x, W = V ++ [x] := ⟨W.dropLast, W.getLast hW, (List.dropLast_concat_getLast hW).symm⟩
    have hx := iv.w x (by simp)
    have hV : ∀ y ∈ V, WtOk cs y := fun y hy => iv.w y (List.mem_append_left _ hy)
    obtain ⟨tp, td, ts, ets⟩ := tr_shape hx.tr
    have hxl := hx.five.len
    have hpl : x.pr.length ≤ 5 := by
      have h1 := nodup_sub (xs := cellsOf x.pr) (ys := cs) hx.nd fun c hc => (hx.off c hc).1
      rw [cellsOf, List.length_map] at h1
      omega
    have hlen := iv.len
    rw [msum_app] at hlen
    have hlx : msum [x] = x.m := by simp [msum]
    have hwx : wsum [x] = 9 ^ x.cs.length := by simp [wsum]
    have hx1 := hx.m1
    have hdv := iv.dv
    rw [List.map_append, ← List.append_assoc, List.map_singleton] at hdv
    refine sg_seq (N1 := fun Γ' => Γ' = [.im d, .ac (f.map en), .ac (V.map encW), .im x.d, .im (en x.pr), .no, .no]) (sg_popP (i := 2) (ds := V.map encW) (d1 := x.d) (d2 := en x.pr) ?_ rfl rfl rfl rfl (by decide) rfl) ?_
    · rw [List.map_append]
      rfl
    rintro _ rfl
    refine sg_if (a := ts.isEmpty) (et_test (ev_eqNilT ((ev_var rfl).cast ets).c ?_ ?_)) (fun hts => ?_) fun hts => ?_
    · rw [ets, PyData.plain] at tp
      exact tp
    · rw [ets] at td
      simp only [PyData.depth] at td
      omega
    · refine sg_app (d := en (dsort x.pr)) rfl (tv_tup (tv_sortT (xs := x.pr) (ev_var rfl).c (by omega)).c) (by rw [List.length_map]; omega) ⟨(f ++ [dsort x.pr], V), ?_, ?_, ?_⟩
      · show wsum V < wsum (V ++ [x])
        rw [wsum_app, hwx]
        have := Nat.pow_pos (n := x.cs.length) (show 0 < 9 by decide)
        omega
      · refine ⟨hV, fun l hl => ?_, ?_, ?_, .inl (by simp)⟩
        · rcases List.mem_append.mp hl with hl | hl
          · exact iv.fo l hl
          · cases List.mem_singleton.mp hl
            exact ⟨lgW_sort hx.nd hx.ok (by omega), fun c hc => (hx.off c (mem_cells_sort.mp hc)).1⟩
        · have h1 := dv_put (ps := [dsort x.pr]) hdv (fun p' hp q hq => by cases List.mem_singleton.mp hp; exact mem_dsort.mpr hq) (List.pairwise_singleton _ _)
          refine dv_perm h1 ?_
          rw [List.append_assoc, List.append_assoc]
          exact List.perm_append_comm.append_left f
        · show (f ++ [_]).length + msum V ≤ m
          rw [List.length_append, List.length_singleton]
          omega
      · show Wk _ [.im d, .ac ((f ++ [dsort x.pr]).map en), .ac (V.map encW), .no, .no, .no, .no]
        rw [List.map_append]
        exact wk_ok
    · obtain ⟨k, hk⟩ : ∃ k, x.cs.length = k + 1 := by
        cases z : x.cs.length with
        | zero =>
          have := hx.tr
          rw [z, ets] at this
          cases this
          cases hts
        | succ k => exact ⟨k, rfl⟩
      have htr2 := hx.tr
      rw [hk] at htr2 hwx
      rcases htr2 with h | ⟨c, cs', q, bs, h1, h2, h3, h4, h5, h6, h7, h8, h9, h10, h11⟩
      · rw [ets] at h
        cases h
        cases hts
      have hbm : bs.length ≤ x.m := Nat.le_trans (Nat.le_mul_of_pos_right _ h10) h11
      have hb8 : bs.length ≤ 8 := Nat.le_trans hbm hx.m8
      have hq8 : q ≤ 8 := Nat.le_trans (Nat.le_trans (Nat.le_mul_of_pos_left q (List.length_pos_iff.mpr h7)) h11) hx.m8
      have hcx := hx.five.ok c h1
      have hc0 := hx.sub c h1
      let mk : Int × PyData → Wt := fun b => ⟨cs', q, b.2, x.pr ++ [(c, b.1)]⟩
      have hmw : wsum (bs.map mk) = bs.length * 9 ^ k := by
        unfold wsum
        rw [List.map_map, List.map_congr_left (g := fun _ => 9 ^ k) fun b _ => by show 9 ^ cs'.length = 9 ^ k; rw [h2]]
        rw [List.map_const', List.sum_replicate_nat]
      have hmm : msum (bs.map mk) = bs.length * q := by
        unfold msum
        rw [List.map_map]
        show (bs.map fun _ => q).sum = _
        rw [List.map_const', List.sum_replicate_nat]
      refine sg_ext (ds := V.map encW) (es := bs.map fun b => encW (mk b)) rfl (tv_lm encB bs (f := fun b => encW (mk b)) (it_tup (ev_ixT (d := .tuple (bs.map encB)) ((ev_var rfl).cast h6).c ev_int rfl)) (fun b _ => tg_pair (e := .no) (f := .no) rfl rfl rfl rfl (by decide)) (fun b _ => ev_tup (ea_cons (ev_var rfl) (ea_one (tv_cat (xs := x.pr) (ys := [(c, b.1)]) (ev_var rfl).c (ev_tup (ea_one (ev_tup (ea_cons (ev_ixT (d := .str c) ((ev_var rfl).cast h6).c ev_int rfl) (ea_one (ev_var rfl)))))).c (by simp; omega))))) (by omega)) ?_ ⟨(f, V ++ bs.map mk), ?_, ⟨fun y hy => ?_, iv.fo, ?_, ?_, ?_⟩, ?_⟩
      · rw [List.length_map, List.length_map]
        have : V.length ≤ msum V := len_msum fun y hy => (hV y hy).m1
        omega
      · show wsum (V ++ bs.map mk) < wsum (V ++ [x])
        rw [wsum_app, wsum_app, hmw, hwx, Nat.pow_succ]
        have hp := Nat.pow_pos (n := k) (show 0 < 9 by decide)
        have := Nat.mul_le_mul_right (9 ^ k) hb8
        omega
      · rcases List.mem_append.mp hy with hy | hy
        · exact hV y hy
        · obtain ⟨b, hb, rfl⟩ := List.mem_map.mp hy
          have hcp : c ∉ cellsOf x.pr := fun z => (hx.off c z).2 h1
          have hce : cellsOf (x.pr ++ [(c, b.1)]) = cellsOf x.pr ++ [c] := by simp [cellsOf]
          refine ⟨h3, ?_, h10, hq8, ?_, fun c' hc' => ?_, fun c' hc' => hx.sub c' (h4 c' hc'), fun p hp => ?_⟩
          · show TrOk cs'.length cs' q b.2
            rw [h2]
            exact (h9 b hb).2
          · show (cellsOf (x.pr ++ [(c, b.1)])).Nodup
            rw [hce]
            exact List.nodup_append.mpr ⟨hx.nd, by simp, fun a ha b hb z => hcp (by rw [List.mem_singleton.mp hb] at z; rw [← z]; exact ha)⟩
          · have hc' : c' ∈ cellsOf (x.pr ++ [(c, b.1)]) := hc'
            rw [hce] at hc'
            rcases List.mem_append.mp hc' with h | h
            · exact ⟨(hx.off c' h).1, fun z => (hx.off c' h).2 (h4 c' z)⟩
            · cases List.mem_singleton.mp h
              exact ⟨hc0, h5⟩
          · have hp : p ∈ x.pr ++ [(c, b.1)] := hp
            rcases List.mem_append.mp hp with h | h
            · exact hx.ok p h
            · cases List.mem_singleton.mp h
              exact ⟨hcx, (h9 b hb).1.1, (h9 b hb).1.2⟩
      · rw [List.map_append, ← List.append_assoc]
        refine dv_put (ps := (bs.map mk).map Wt.pr) hdv (fun p' hp q hq => ?_) ?_
        · rw [List.map_map] at hp
          obtain ⟨b, _, rfl⟩ := List.mem_map.mp hp
          exact List.mem_append_left _ hq
        · rw [List.map_map, List.pairwise_map]
          have hb : (bs.map (·.1)).Pairwise (· ≠ ·) := h8
          rw [List.pairwise_map] at hb
          exact hb.imp fun {a b} hab => ⟨c, a.1, b.1, List.mem_append_right _ (by simp), List.mem_append_right _ (by simp), hab⟩
      · show f.length + msum (V ++ bs.map mk) ≤ m
        rw [msum_app, hmm]
        omega
      · exact .inr fun z => h7 (List.map_eq_nil_iff.mp (List.append_eq_nil_iff.mp z).2)
      · show Wk _ [.im d, .ac (f.map en), .ac ((V ++ bs.map mk).map encW), .no, .no, .no, .no]
        rw [List.map_append, List.map_map]
        exact wk_ok
  · have hW : W = [] := by
      cases W with
      | nil => rfl
      | cons _ _ => cases hb
    subst hW
    have hdv := iv.dv
    rw [List.map_nil, List.append_nil] at hdv
    have hnd : f.Nodup := List.Pairwise.imp_of_mem (fun {a b} ha _ h => h.ne (iv.fo a ha).1) hdv
    exact sg_ret (tv_tup (tv_sortL (xs := f) (ec_ac rfl) (by omega)).c) ⟨dsort f, rfl, over_sort ⟨⟨by omega, hnd, fun l hl => (iv.fo l hl).1⟩, fun l hl => (iv.fo l hl).2⟩, fun z => iv.ne.elim (fun h => h (List.eq_nil_of_length_eq_zero (by rw [← len_dsort, z]; rfl))) fun h => h rfl, by rw [len_dsort]; exact hfm⟩
end
end K97
set_option Elab.async false
set_option linter.all false
set_option maxRecDepth 100000
set_option maxHeartbeats 4000000
/-! K97: families of logs. -/
namespace K97
open Dt (en)
open PySem L2
section
variable {P : Program} {w : World} {K : Fg} {mg : Str → Option Value} {base : Heap} {tk : Nat → Tok}
def Pre__law_logs (ds : List PyData) : Prop := ∃ (cs : List Str) (m : Nat), ds = [.list (cs.map en), .int m] ∧ Five cs ∧ 1 ≤ m ∧ m ≤ 8
def R__law_logs (ds : List PyData) (d : PyData) : Prop := ∃ (cs : List Str) (m : Nat) (L : List Lg), ds = [.list (cs.map en), .int m] ∧ d = en L ∧ Over cs L ∧ L ≠ [] ∧ L.length ≤ m
def c__law_logs (_ : List PyData) : Nat := 2000
theorem len__law_logs (ds : List PyData) (h : Pre__law_logs ds) : ds.length + 1 = 3 := by
  obtain ⟨cs, k, rfl, _⟩ := h
  rfl
/-- a log with one value one up -/
def bend (l : Lg) (s : Nat) : Lg := l.take s ++ ((l.drop s).take 1).map (fun p => (p.1, (p.2 + 1) % 1000000000)) ++ l.drop (s + 1)
theorem bend_cells (l : Lg) (s : Nat) : (bend l s).map (·.1) = l.map (·.1) := by
  unfold bend
  rw [List.map_append, List.map_append, List.map_map]
  have e : ((l.drop s).take 1).map ((fun p : Str × Int => p.1) ∘ fun p => (p.1, (p.2 + 1) % 1000000000)) = ((l.drop s).take 1).map (·.1) := rfl
  rw [e, ← List.map_append, ← List.map_append, List.append_assoc, ← List.drop_drop, List.take_append_drop, List.take_append_drop]
theorem bend_ok {l : Lg} (h : LgW l) (s : Nat) : LgW (bend l s) := by
  refine ⟨fun p hp => ?_, by rw [bend_cells]; exact h.up, ?_⟩
  · unfold bend at hp
    rcases List.mem_append.mp hp with hp | hp
    · rcases List.mem_append.mp hp with hp | hp
      · exact h.ok p (List.mem_of_mem_take hp)
      · obtain ⟨q, hq, rfl⟩ := List.mem_map.mp hp
        have := h.ok q (List.mem_of_mem_drop (List.mem_of_mem_take hq))
        have h1 := Int.emod_nonneg (q.2 + 1) (by decide : (1000000000 : Int) ≠ 0)
        have h2 := Int.emod_lt_of_pos (q.2 + 1) (by decide : (0 : Int) < 1000000000)
        exact ⟨this.1, h1, by show (q.2 + 1) % 1000000000 ≤ _; omega⟩
    · exact h.ok p (List.mem_of_mem_drop hp)
  · have := congrArg List.length (bend_cells l s)
    rw [List.length_map, List.length_map] at this
    rw [this]
    exact h.lenS
theorem over_put {cs : List Str} {L : List Lg} {l : Lg} (h : Over cs L) (hl : LgW l) (hc : ∀ c ∈ cellsOf l, c ∈ cs) (hz : L.length < 60) : Over cs (L ++ if l ∈ L then [] else [l]) := by
  split
  · rw [List.append_nil]
    exact h
  · rename_i hnl
    refine ⟨⟨by rw [List.length_append, List.length_singleton]; omega, List.nodup_append.mpr ⟨h.w.nd, by simp, fun a ha b hb z => ?_⟩, fun m hm => ?_⟩, fun m hm => ?_⟩
    · rw [List.mem_singleton] at hb
      exact hnl (by rw [← hb, ← z]; exact ha)
    · rcases List.mem_append.mp hm with hm | hm
      · exact h.w.ok m hm
      · cases List.mem_singleton.mp hm
        exact hl
    · rcases List.mem_append.mp hm with hm | hm
      · exact h.sub m hm
      · cases List.mem_singleton.mp hm
        exact hc
theorem over_erase {cs : List Str} {L : List Lg} (h : Over cs L) (i : Nat) : Over cs (L.eraseIdx i) := ⟨⟨Nat.le_trans (List.length_eraseIdx_le ..) h.w.len, (List.eraseIdx_sublist ..).nodup h.w.nd, fun l hl => h.w.ok l (List.mem_of_mem_eraseIdx hl)⟩, fun l hl => h.sub l (List.mem_of_mem_eraseIdx hl)⟩
theorem ok__law_logs (T : Tx mg tk) (t : Txt1 K mg "_law_logs" (topS 84) ["_law_box_here", "_law_cells_here", "_law_budget"]) (h__law_leaves : Has P w K mg base "_law_leaves" 1 ["_law_tree_here"] (SpQ K S__law_leaves)) (h__law_loose : Has P w K mg base "_law_loose" 2 ["_law_box_here", "_law_cells_here", "_law_count"] (SpX K Pre__law_loose R__law_loose c__law_loose)) (h__law_take : Has P w K mg base "_law_take" 1 ["_law_box_here", "_law_upon"] (SpX K Pre__law_take R__law_take c__law_take)) (h__law_tree : Has P w K mg base "_law_tree" 10 ["_law_box_here", "_law_cells_here", "_law_budget"] (SpX K (PreT 6) R__law_tree c__law_tree)) : Has P w K mg base "_law_logs" 11 ["_law_box_here", "_law_cells_here", "_law_budget"] (SpX K Pre__law_logs R__law_logs c__law_logs) := by
  have sc : FnScope ["_law_box_here", "_law_cells_here", "_law_budget", "_law_way", "_law_found", "_law_at", "_law_entry", "_law_spot", "_law_name", "_law_value", "_law_bent"] ["_law_box_here", "_law_cells_here", "_law_budget"] (defScope (topS 84)) := ⟨rfl, rfl, rfl, by decide +kernel, rfl, by decide +kernel, by decide +kernel⟩
  refine has_box t sc len__law_logs (by decide) (fun f cdv A outer s H E hr => (pss_cons (ps_set (i := 3) sc.nd rfl (.inl rfl) (pe_has (h__law_take.up (by decide)) hr (by rfl) (pa_cons (pv 0) (pa_cons pe_int pa_nil))))
  (pss_cons (ps_if (pt_cmpR (k_eq K rfl hr.units) (pv 3) pe_int (nomark _))
   (pss_one (ps_ret (pe_has (h__law_loose.up (by decide)) hr (by rfl) (pa_cons (pv 0) (pa_cons (pv 1) (pa_cons (pe_op op_add pe_int (pe_has (h__law_take.up (by decide)) hr (by rfl) (pa_cons (pv 0) (pa_cons (pv 2) pa_nil)))) pa_nil))))))
   pss_nil)
  (pss_cons (ps_set (i := 4) sc.nd rfl (.inl rfl) (pe_callTy (k_lst K rfl) (by rfl) T.b_list (by decide +kernel) (pa_cons (pe_has (h__law_leaves.up (by decide)) hr (by rfl) (pa_cons (pe_has (h__law_tree.up (by decide)) hr (by rfl) (pa_cons (pv 0) (pa_cons (pv 1) (pa_cons (pv 2) pa_nil)))) pa_nil)) pa_nil)))
  (pss_cons (ps_if (PW.pt (pw_and (pt_cmpR (k_eq K rfl hr.units) (pv 3) pe_int (nomark _)) (pw_and1 (pt_cmpR (k_ne K rfl hr.units) (pe_ix (k_ix K rfl) (pv 4) pe_int (fun _ _ => rfl)) (pe_tupF pa_nil) (nomark _)))))
   (pss_cons (ps_set (i := 5) sc.nd rfl (.inl rfl) (pe_has (h__law_take.up (by decide)) hr (by rfl) (pa_cons (pv 0) (pa_cons (pe_callB (k_len K rfl) (by rfl) T.b_len (by decide +kernel) (pa_cons (pv 4) pa_nil)) pa_nil))))
  (pss_cons (ps_set (i := 6) sc.nd rfl (.inl rfl) (k_bm K rfl PySem.F.plainAttrs_list PySem.F.slot_list_pop PySem.F.type_list_pop mt_popAt (pv 4) (pa_cons (pv 5) pa_nil)))
  (pss_cons (ps_set (i := 7) sc.nd rfl (.inl rfl) (pe_ifExp (pt_cmpR (k_ne K rfl hr.units) (pv 6) (pe_tupF pa_nil) (nomark _)) (pe_has (h__law_take.up (by decide)) hr (by rfl) (pa_cons (pv 0) (pa_cons (pe_callB (k_len K rfl) (by rfl) T.b_len (by decide +kernel) (pa_cons (pv 6) pa_nil)) pa_nil))) pe_int))
  (pss_cons (ps_set (i := 10) sc.nd rfl (.inl rfl) (pe_callTy (k_tup K rfl) (by rfl) T.b_tuple (by decide +kernel) (pa_cons (pe_lc (own := [("_law_name", 8), ("_law_value", 9)]) (by rfl) sc.nd (k_piT K rfl (pe_slice (k_slT K rfl) (pv 6) (po_some (pv 7)) (po_some (pe_op op_add (pv 7) pe_int)))) (blkOk_by (by kernel_rfl)) (fun _ _ _ _ _ => (k_pgT K rfl (n := 2) rfl (pgs_cons (pg_name (i := 8) sc.nd rfl (.inl rfl)) (pgs_cons (pg_name (i := 9) sc.nd rfl (.inl rfl)) pgs_nil)))) (fun _ _ _ _ _ => pts_nil) (fun _ _ _ _ _ => (pe_tupF (pa_cons (pv 8) (pa_cons (pe_op op_mod (pe_op op_add (pv 9) pe_int) (pe_op op_pow pe_int pe_int)) pa_nil))))) pa_nil)))
  (pss_cons (ps_set (i := 6) sc.nd rfl (.inl rfl) (pe_op (k_cat K rfl) (pe_op (k_cat K rfl) (pe_slice (k_slT K rfl) (pv 6) po_none (po_some (pv 7))) (pv 10)) (pe_slice (k_slT K rfl) (pv 6) (po_some (pe_op op_add (pv 7) pe_int)) po_none)))
  (pss_one (ps_expr (k_bm K rfl PySem.F.plainAttrs_list PySem.F.slot_list_extend PySem.F.type_list_extend mt_extend (pv 4) (pa_cons (pe_op op_rep (pe_lst (pa_cons (pv 6) pa_nil)) (pe_callTy call_int1 (by rfl) T.b_int (by decide +kernel) (pa_cons (pe_cmpR (k_ni K rfl hr.units) (pv 6) (pv 4) (by rfl)) pa_nil))) pa_nil)))))))))
   pss_nil)
  (pss_one (ps_ret (pe_callTy (k_tup K rfl) (by rfl) T.b_tuple (by decide +kernel) (pa_cons (pe_callB (k_sorted K rfl hr.units) (by rfl) T.b_sorted (by decide +kernel) (pa_cons (pv 4) pa_nil)) pa_nil))))))))) ?_
  rintro ds b n ⟨cs, m, rfl, hcs, hm1, hm8⟩ hb hn
  have hn : n + 2000 ≤ 1000000000 := hn
  have hcl := hcs.len
  show StG K [.bx b, .im (.list (cs.map en)), .im (.int m), .no, .no, .no, .no, .no, .no, .no, .no] _ _ _
  refine sg_seq (N1 := fun Γ' => ∃ (b1 : Bx) (wy : Nat), Γ' = [.bx b1, .im (.list (cs.map en)), .im (.int m), .im (.int wy), .no, .no, .no, .no, .no, .no, .no] ∧ b1.1 = b.1 ∧ BxK (n + 1) b1) (sg_setX (x_take rfl hb (by omega) ev_int (by omega) (by omega) fun r b1 hr e1 k1 => ⟨⟨.no, rfl, rfl⟩, b1, r, rfl, e1, k1⟩)) ?_
  rintro _ ⟨b1, wy, rfl, e1, k1⟩
  refine sg_seq (N1 := fun Γ' => Γ' = [.bx b1, .im (.list (cs.map en)), .im (.int m), .im (.int wy), .no, .no, .no, .no, .no, .no, .no]) (sg_if (et_test (tv_eq (α := Int) (x := (wy : Int)) (y := 0) (ev_var rfl).c ev_int.c)) (fun _ => ?_) fun _ => sg_next rfl) ?_
  · refine sg_retX (x_callB rfl (xa_g (ev_var rfl) (xa_cons (P1 := fun d Γ' => ∃ (b2 : Bx) (k : Nat), d = .int k ∧ k ≤ m ∧ 0 < k ∧ Γ' = [.bx b2, .im (.list (cs.map en)), .im (.int m), .im (.int wy), .no, .no, .no, .no, .no, .no, .no] ∧ b2.1 = b.1 ∧ BxK (n + 2) b2) (x_op (P1 := fun d Γ' => d = .int 1 ∧ Γ' = [.bx b1, .im (.list (cs.map en)), .im (.int m), .im (.int wy), .no, .no, .no, .no, .no, .no, .no]) (ev_int.x ⟨rfl, rfl⟩) ?_) ?_)))
    · rintro d Γ' ⟨rfl, rfl⟩
      exact x_take rfl k1 (by omega) (ev_var rfl) (by omega) (by omega) fun r b2 hr e2 k2 => ⟨.int ((1 + r : Nat) : Int), ⟨b2, 1 + r, rfl, by omega, by omega, rfl, e2.trans e1, k2⟩, (ev_I0 (ev_var rfl) (ev_var rfl) fun H => .int _).cast (by simp)⟩
    · rintro d Γ' ⟨b2, k, rfl, hk, hk0, rfl, e2, k2⟩
      refine xa_nil ⟨⟨cs, k, rfl, hcs, by omega⟩, b2, n + 2, rfl, e2.trans e1.symm, k2, (by show n + 2 + 100 ≤ _; omega), fun d b3 ⟨cs', k', L, eq, ed, hov, hl, hne⟩ e3 k3 => ⟨⟨cs, m, L, rfl, ed, ?_, ?_, ?_⟩, b3, rfl, e3.trans e1, k3.up (by show n + 2 + 100 ≤ n + 2000; omega)⟩⟩
      all_goals
        obtain ⟨a1, a2⟩ := List.cons.inj eq
        have a3 := str_map_inj (PyData.list.inj a1)
        have a4 : (k : Int) = k' := PyData.int.inj (List.cons.inj a2).1
        subst a3
      · exact hov
      · exact hne (by omega)
      · omega
  rintro _ rfl
  refine sg_seq (N1 := fun Γ' => ∃ (b2 : Bx) (L : List Lg), Γ' = [.bx b2, .im (.list (cs.map en)), .im (.int m), .im (.int wy), .ac (L.map en), .no, .no, .no, .no, .no, .no] ∧ b2.1 = b.1 ∧ BxK (n + 1 + 1000) b2 ∧ Over cs L ∧ L ≠ [] ∧ L.length ≤ m) (sg_setLX (xl_cb (P1 := fun d Γ' => ∃ (b2 : Bx) (L : List Lg), d = en L ∧ Γ' = [.bx b2, .im (.list (cs.map en)), .im (.int m), .im (.int wy), .no, .no, .no, .no, .no, .no, .no] ∧ b2.1 = b.1 ∧ BxK (n + 1 + 1000) b2 ∧ Over cs L ∧ L ≠ [] ∧ L.length ≤ m) (x_callQ (xa_cons (P1 := fun d Γ' => ∃ (b2 : Bx), TrOk cs.length cs m d ∧ Γ' = [.bx b2, .im (.list (cs.map en)), .im (.int m), .im (.int wy), .no, .no, .no, .no, .no, .no, .no] ∧ b2.1 = b.1 ∧ BxK (n + 1 + 1000) b2) (x_callB rfl ((ea_cons (ev_var rfl) (ea_one (ev_var rfl))).x ⟨⟨cs, m, rfl, hcs, by omega, hm1, hm8⟩, b1, n + 1, rfl, rfl, k1, ?_, fun d b2 ⟨cs2, m2, e7, ht⟩ e2 k2 => ?_⟩)) ?_)) ?_)) ?_
  · have := cT_le hcl
    show n + 1 + cT (cs.map en).length ≤ _
    rw [List.length_map]
    omega
  · obtain ⟨a1, a2⟩ := List.cons.inj e7
    have a3 := str_map_inj (PyData.list.inj a1)
    have a4 : (m : Int) = m2 := PyData.int.inj (List.cons.inj a2).1
    have a5 : m = m2 := by omega
    subst a3 a5
    have := cT_le hcl
    refine ⟨b2, ht, rfl, e2.trans e1, BxK.up k2 ?_⟩
    show n + 1 + cT (cs.map en).length ≤ _
    rw [List.length_map]
    omega
  · rintro d Γ' ⟨b2, ht, rfl, e2, k2⟩
    exact xa_nil ⟨_, ⟨cs, m, d, rfl, hcs, ht, hm1, hm8, rfl⟩, fun d' ⟨L, ed, hov, hne, hl⟩ => ⟨b2, L, ed, rfl, e2, k2, hov, hne, hl⟩⟩
  · rintro d Γ' ⟨b2, L, rfl, rfl, e2, k2, hov, hne, hl⟩
    exact ⟨L.map en, ⟨⟨.no, rfl, rfl⟩, b2, L, rfl, e2, k2, hov, hne, hl⟩, el_lstT (ev_var rfl).c⟩
  rintro _ ⟨b2, L, rfl, e2, k2, hov, hne, hl⟩
  have fin : ∀ (b3 : Bx) (L' : List Lg) (ds' : En), b3.1 = b.1 → BxK (n + 1 + 1002) b3 → Over cs L' → L' ≠ [] → L'.length ≤ m → ds'[0]? = some (.bx b3) → ds'[4]? = some (.ac (L'.map en)) → StG K ds' (tRet (tCB (rTupF K) (tCons (tCB (rSortF K) (tCons (tVar 4) tNil)) tNil))) (fun Γ' => R__law_logs [.list (cs.map en), .int m] .none ∧ ∃ b', Γ'[0]? = some (.bx b') ∧ b'.1 = b.1 ∧ BxK (n + 2000) b') (fun d Γ' => R__law_logs [.list (cs.map en), .int m] d ∧ ∃ b', Γ'[0]? = some (.bx b') ∧ b'.1 = b.1 ∧ BxK (n + 2000) b') := fun b3 L' ds' e3 k3 hov' hne' hl' h0 h4 =>
    sg_ret (tv_tup (tv_sortL (xs := L') (ec_ac h4) (by omega)).c) ⟨⟨cs, m, dsort L', rfl, rfl, over_sort hov', fun z => hne' (List.eq_nil_of_length_eq_zero (by rw [← len_dsort, z]; rfl)), by rw [len_dsort]; exact hl'⟩, b3, h0, e3, k3.up (by omega)⟩
  obtain ⟨l0, L0, rfl⟩ := List.exists_cons_of_ne_nil hne
  refine sg_seq (N1 := fun Γ' => ∃ (b3 : Bx) (L' : List Lg), b3.1 = b.1 ∧ BxK (n + 1 + 1002) b3 ∧ Over cs L' ∧ L' ≠ [] ∧ L'.length ≤ m ∧ Γ'[0]? = some (.bx b3) ∧ Γ'[4]? = some (.ac (L'.map en))) (sg_if (et_and (et_test (tv_eq (α := Int) (x := (wy : Int)) (y := 1) (ev_var rfl).c ev_int.c)) fun _ => et_test (tv_ne (α := Lg) (x := l0) (y := []) (tv_atL (xs := l0 :: L0) (ec_ac rfl) ev_int (atI_0 l0 L0)).c (ev_tup ea_nil).c)) (fun _ => ?_) fun _ => sg_next ⟨b2, l0 :: L0, e2, k2.up (by omega), hov, hne, hl, rfl, rfl⟩) ?_
  · generalize l0 :: L0 = L at *
    have hlp := List.length_pos_iff.mpr hne
    refine sg_seq (N1 := fun Γ' => ∃ (b3 : Bx) (r : Nat), Γ' = [.bx b3, .im (.list (cs.map en)), .im (.int m), .im (.int wy), .ac (L.map en), .im (.int r), .no, .no, .no, .no, .no] ∧ b3.1 = b.1 ∧ BxK (n + 1 + 1001) b3 ∧ r < L.length) (sg_setX (x_take (u := L.length) rfl k2 (by omega) ((ev_lenL (ec_ac rfl)).cast (by rw [List.length_map])) (by omega) (by omega) fun r b3 hr e3 k3 => ⟨⟨.no, rfl, rfl⟩, b3, r, rfl, e3.trans e2, k3, by omega⟩)) ?_
    rintro _ ⟨b3, r, rfl, e3, k3, hr⟩
    obtain ⟨l, hlr⟩ : ∃ l, L[r]? = some l := ⟨_, List.getElem?_eq_getElem hr⟩
    have hlw := hov.w.ok l (List.mem_of_getElem? hlr)
    have hlc := hov.sub l (List.mem_of_getElem? hlr)
    have hll := hlw.lenS
    refine sg_seq (N1 := fun Γ' => Γ' = [.bx b3, .im (.list (cs.map en)), .im (.int m), .im (.int wy), .ac ((L.eraseIdx r).map en), .im (.int r), .im (en l), .no, .no, .no, .no]) (sg_popAtX ⟨_, rfl⟩ ((ev_var rfl).x ⟨L.map en, r, en l, .no, rfl, rfl, by rw [List.length_map]; omega, by rw [List.getElem?_map, hlr]; rfl, rfl, rfl, by rw [← erase_map]; rfl⟩)) ?_
    rintro _ rfl
    have hov2 := over_erase hov r
    have hl2 : (L.eraseIdx r).length + 1 = L.length := by rw [List.length_eraseIdx_of_lt hr]; omega
    generalize L.eraseIdx r = L2 at *
    refine sg_seq (N1 := fun Γ' => ∃ (b4 : Bx) (s : Nat), Γ' = [.bx b4, .im (.list (cs.map en)), .im (.int m), .im (.int wy), .ac (L2.map en), .im (.int r), .im (en l), .im (.int s), .no, .no, .no] ∧ b4.1 = b.1 ∧ BxK (n + 1 + 1002) b4) (sg_setX (x_ifE ((et_test (tv_ne (α := Lg) (x := l) (y := []) (ev_var rfl).c (ev_tup ea_nil).c)).x ⟨fun h => ?_, fun _ => ev_int.x ⟨⟨.no, rfl, rfl⟩, b3, 0, rfl, e3, k3.up (by omega)⟩⟩))) ?_
    · have hne' : l ≠ [] := by simpa using h
      have := List.length_pos_iff.mpr hne'
      exact x_take (u := l.length) rfl k3 (by omega) (tv_len (ev_var rfl).c) (by omega) (by omega) fun s b4 hs e4 k4 => ⟨⟨.no, rfl, rfl⟩, b4, s, rfl, e4.trans e3, k4⟩
    rintro _ ⟨b4, s, rfl, e4, k4⟩
    refine sg_then (sg_set (d := en (((l.drop s).take 1).map fun p : Str × Int => (p.1, (p.2 + 1) % 1000000000))) (EvG.cast (ev_tupL (EvL.c (tv_lm (vs := [8, 9]) en ((l.drop s).take 1) (f := fun p : Str × Int => en (p.1, (p.2 + 1) % 1000000000)) (tv_it (tv_slOne (s := s) (ev_var rfl).c (ev_var rfl) (ev_I0 (d := .int ((s : Int) + 1)) (ev_var rfl) ev_int fun H => .int _))) (fun p _ => tg_pair (j := 8) (k := 9) (e := .no) (f := .no) rfl rfl rfl rfl (by decide)) ?_ (by simp; omega) (nm_cons rfl rfl (nm_cons rfl rfl nm_nil)) (by decide)))) (by show PyData.tuple _ = PyData.tuple _; rw [List.map_map]; rfl)) rfl rfl rfl) ?_
    · intro p _
      exact ev_tup (ea_cons (ev_var rfl) (ea_one (ev_I (d := .int ((p.2 + 1) % 1000000000)) (ev_I0 (d := .int (p.2 + 1)) (ev_var rfl) ev_int fun H => .int _) (ev_I (d := .int 1000000000) ev_int ev_int ⟨by decide, by decide, by decide⟩ fun H => .int _) (by decide) fun H => .int _)))
    refine sg_then (sg_set (d := en (bend l s)) ?_ rfl rfl rfl) ?_
    · have e1 : EvG K [.bx b4, .im (.list (cs.map en)), .im (.int m), .im (.int wy), .ac (L2.map en), .im (.int r), .im (en l), .im (.int s), .no, .no, .im (en (((l.drop s).take 1).map fun p : Str × Int => (p.1, (p.2 + 1) % 1000000000)))] (tOp (rI0 fun i j => .int (i + j)) (tVar 7) (tC (.int 1))) (.int ((s + 1 : Nat) : Int)) := (ev_I0 (ev_var rfl) ev_int fun H => .int _).cast (by simp)
      exact tv_cat (tv_cat (tv_slHi (ev_var rfl).c (ev_var rfl)).c (ev_var rfl).c (by simp; omega)).c (tv_slLo (ev_var rfl).c e1).c (by simp; omega)
    refine sg_ext (es := (if bend l s ∈ L2 then [] else [bend l s]).map en) rfl ((el_once (ev_var rfl) (tv_niL (α := Lg) (x := bend l s) (ev_var rfl).c (ec_ac rfl))).cast ?_) ?_ ?_
    · by_cases h : bend l s ∈ L2 <;> simp [h]
    · rw [List.length_map, List.length_map]
      split <;> simp <;> omega
    · refine ⟨b4, L2 ++ if bend l s ∈ L2 then [] else [bend l s], e4, k4, over_put hov2 (bend_ok hlw s) (fun c hc => hlc c (by rw [cellsOf, bend_cells] at hc; exact hc)) (by omega), ?_, ?_, rfl, ?_⟩
      · split
        · rename_i h
          rw [List.append_nil]
          exact List.ne_nil_of_mem h
        · simp
      · rw [List.length_append]
        split <;> simp <;> omega
      · show some (Ent.ac (L2.map en ++ _)) = _
        rw [List.map_append]
  · rintro Γ' ⟨b3, L', e3, k3, hov', hne', hl', h0, h4⟩
    exact fin b3 L' Γ' e3 k3 hov' hne' hl' h0 h4
end
end K97
set_option Elab.async false
set_option linter.all false
set_option maxRecDepth 100000
set_option maxHeartbeats 4000000
/-! K97: the values of a family, cell by cell. -/
namespace K97
open Dt (en)
open PySem L2
section
variable {P : Program} {w : World} {K : Fg} {mg : Str → Option Value} {base : Heap} {tk : Nat → Tok}
def gv (xs : List (Str × Int)) : Gm := gfold (fun p : Str × Int => .inr p.1) (fun p => .int p.2) xs
theorem gv_snoc (xs : List (Str × Int)) (p : Str × Int) : gv (xs ++ [p]) = gput (gv xs) (.inr p.1) (.int p.2) := gfold_snoc _ _ xs p
theorem gv_small {xs : List (Str × Int)} {n : Nat} (h : xs.length ≤ n) : (gv xs).length ≤ n ∧ ∀ x ∈ gv xs, x.2.length ≤ n := by
  have := gfold_len (fun p : Str × Int => .inr p.1) (fun p => .int p.2) xs
  exact ⟨Nat.le_trans this.1 h, fun x hx => Nat.le_trans (this.2 x hx) h⟩
def R__law_values_of : List PyData → PyData → Prop := Rel (fun L : List Lg => LgsW L) (fun L => [en L]) fun L => .dict (grD (gv L.flatten))
theorem flatLg_len {L : List Lg} (h : ∀ l ∈ L, l.length ≤ 60) : L.flatten.length ≤ L.length * 60 := by
  induction L with
  | nil => simp
  | cons l L ih =>
    have h1 := h l List.mem_cons_self
    have h2 := ih fun m hm => h m (List.mem_cons_of_mem _ hm)
    rw [List.flatten_cons, List.length_append, List.length_cons, Nat.succ_mul]
    omega
theorem ok__law_values_of (T : Tx mg tk) (t : Txt1 K mg "_law_values_of" (topS 86) ["_law_family"]) : Has P w K mg base "_law_values_of" 1 ["_law_family"] (SpD K R__law_values_of) := by
  have sc : FnScope ["_law_family", "_law_found", "_law_entry", "_law_spot", "_law_value"] ["_law_family"] (defScope (topS 86)) := ⟨rfl, rfl, rfl, by decide +kernel, rfl, by decide +kernel, by decide +kernel⟩
  refine has_rel t sc (fun a => rfl) (by decide) (fun f cdv A outer s H E hr => (pss_cons (ps_set (i := 1) sc.nd rfl (.inl rfl) pe_dnewK)
  (pss_cons (ps_for PassesOwn.never rfl (k_piT K rfl (pv 0)) (pg_name (i := 2) sc.nd rfl (.inl rfl))
   (pss_one (ps_for PassesOwn.never rfl (k_piT K rfl (pv 2)) (k_pgT K rfl (n := 2) rfl (pgs_cons (pg_name (i := 3) sc.nd rfl (.inl rfl)) (pgs_cons (pg_name (i := 4) sc.nd rfl (.inl rfl)) pgs_nil)))
   (pss_one (ps_expr (k_bm K rfl PySem.F.plainAttrs_list PySem.F.slot_list_append PySem.F.type_list_append mt_append (pe_dsetd (pv 1) (pv 3) (pe_lst pa_nil) ⟨rfl, rfl, rfl, rfl⟩) (pa_cons (pv 4) pa_nil)))))))
  (pss_frz (j := 1) (pss_one (ps_ret (pv 1))))))) ?_
  intro a ha
  have ha : LgsW a := ha
  have hl := ha.len
  refine sg_group (j := 1) (Γ1 := [.im (en a), .no, .no, .no, .no]) (m := gv (a.take (a.map en).length).flatten) rfl rfl (gr_for (fun i => gv (a.take i).flatten) (tv_it (ev_var rfl)) (fun i d hd => ?_)) ?_
  · rw [List.getElem?_map] at hd
    obtain ⟨l, hli, rfl⟩ := Option.map_eq_some_iff.mp hd
    have hlm : l ∈ a := List.mem_of_getElem? hli
    have hll := (ha.ok l hlm).lenS
    have htk : (a.take (i + 1)).flatten = (a.take i).flatten ++ l := by rw [List.take_add_one, hli, List.flatten_append]; simp
    have hf := flatLg_len (L := a.take i) fun m hm => (ha.ok m (List.mem_of_mem_take hm)).lenS
    have htl := len_take a i
    refine ⟨_, _, [.im (en a), .no, .im (en l), .no, .no], tg_name (j := 2) rfl rfl, by decide, rfl, ?_, wk_ok⟩
    rw [htk]
    have h0 := gr_for (K := K) (j := 1) (Γ := [.im (en a), .no, .im (en l), .no, .no]) (fun k => gv ((a.take i).flatten ++ l.take k)) (tv_it (K := K) (xs := l) (te := tVar 2) (ev_var rfl)) (ts := tDrop (tBM K "list" rAppend (tDSetd (tVar 1) (tVar 3) (tLst tNil)) (tCons (tVar 4) tNil))) (g := gTup K 2 (gCons (gName 3) (gCons (gName 4) gNil))) (fun k d hd => ?_)
    · rw [List.length_map, List.take_length, List.take_zero, List.append_nil] at h0
      exact h0
    · rw [List.getElem?_map] at hd
      obtain ⟨p, hp, rfl⟩ := Option.map_eq_some_iff.mp hd
      have hk : l.take (k + 1) = l.take k ++ [p] := by rw [List.take_add_one, hp]; rfl
      have hlk := len_take l k
      have hsm := gv_small (xs := (a.take i).flatten ++ l.take k) (n := 4000) (by rw [List.length_append]; omega)
      refine ⟨_, _, [.im (en a), .no, .im (en l), .im (en p.1), .im (en p.2)], tg_pair (j := 3) (k := 4) (e := .no) (f := .no) rfl rfl rfl rfl (by decide), by decide, rfl, ?_, wk_ok⟩
      rw [hk, ← List.append_assoc, gv_snoc]
      exact gr_app (k := .inr p.1) (ev_var rfl) (ev_var rfl) (by omega) fun x hx => by have := hsm.2 x hx; omega
  · rw [List.length_map, List.take_length]
    exact sg_ret (ev_var rfl) rfl
end
end K97
set_option Elab.async false
set_option linter.all false
set_option maxRecDepth 100000
set_option maxHeartbeats 4000000
/-! K97: dicts of ours, with texts as keys. -/
namespace K97
open Dt (en)
open PySem L2
section
variable {K : Fg} {Γ Γ1 : En} {te ta tb : TE} {t : TA} {ts tu : TS} {N : En → Prop} {R : PyData → En → Prop} {F : Addr → Prop} {B H H' : Hp} {σ : L2.St} {P : PyData → En → Prop}
/-- d = {} -/
theorem sg_newD {j : Nat} {e : Ent} (hj : Γ[j]? = some e) (he : e.mut = false) (hn : N (Γ.set j (.dc []))) : StG K Γ (tAsg tDNewK (gName j)) N R := fun F B D σ H E n r => fun p hp => by
  obtain ⟨E', x⟩ := E.newM (e' := .dc []) hj he hp (Ex.new hp) rfl (fun _ z => nomatch z) (fun ds' z => by cases z; exact ⟨[], upd_same, .nil⟩) (fun _ z => nomatch z)
  exact n _ _ _ hn E' x
/-- from here on a dict of ours stands still -/
theorem sg_freezeD {j : Nat} {ds : List (PyData × PyData)} (h : Γ[j]? = some (.dc ds)) (g : StG K (Γ.set j (.im (.dict ds))) ts N R) : StG K Γ (tFz j ts) N R := fun F B D σ H E n r => by
  obtain ⟨p, vs, s1, s2, s3⟩ := E.dc j ds h
  refine ⟨p, _, s1, s2, trivial, fun od => ?_⟩
  have hj : j < Γ.length := (List.getElem?_eq_some_iff.mp h).1
  have mp : mu Γ σ p := ⟨j, _, h, rfl, s1⟩
  have sub : ∀ a, mu (Γ.set j (.im (.dict ds))) σ a → mu Γ σ a := fun a ⟨i, e, h1, h2, h3⟩ => by
    by_cases w : j = i
    · subst w
      rw [List.getElem?_set_self hj] at h1
      cases h1
      cases h2
    · rw [List.getElem?_set_ne w] at h1
      exact ⟨i, e, h1, h2, h3⟩
  have np : ¬ mu (Γ.set j (.im (.dict ds))) σ p := fun ⟨i, e, h1, h2, h3⟩ => by
    by_cases w : j = i
    · subst w
      rw [List.getElem?_set_self hj] at h1
      cases h1
      cases h2
    · rw [List.getElem?_set_ne w] at h1
      exact w (E.inj j i _ _ p h h1 rfl h2 s1 h3)
  have nF : ¬ F p := E.out p mp
  have kp : ∀ a o, a ≠ p → H a = some o → upd H p (.frz od (.dK vs)) a = some o := fun a o w z => by rw [upd_ne w]; exact z
  have ex : Ex (frz F Γ σ H) (frz F (Γ.set j (.im (.dict ds))) σ (upd H p (.frz od (.dK vs)))) := fun a o w => by
    obtain ⟨n1, n2⟩ := cut_some w
    exact cut_of (fun u => n1 (u.elim .inl fun u => .inr (sub a u))) (kp a o (fun z => n1 (.inr (by rw [z]; exact mp))) n2)
  have hp2 : upd H p (.frz od (.dK vs)) p = some (.frz od (.dK vs)) := upd_same
  generalize upd H p (.frz od (.dK vs)) = H2 at *
  have ne : ∀ {i : Nat} {f : Ent} {a : Addr}, j ≠ i → Γ[i]? = some f → f.mut = true → σ[i]? = some (some (.ref a)) → a ≠ p := fun w h1 h2 h3 z => w (E.inj j _ _ _ p h h1 rfl h2 s1 (z ▸ h3))
  have E2 : EnvR K F B (Γ.set j (.im (.dict ds))) σ H2 := by
    refine ⟨by rw [List.length_set]; exact E.len, fun a o z => kp a o (fun w => by have := E.low p mp; rw [← w, z] at this; cases this) (E.base a o z), fun a w => E.low a (sub a w), fun a w => E.out a (sub a w), fun a w => ?_, fun i d q => ?_, fun i d q => ?_, fun i d q => ?_, fun i n q => ?_, fun i k f g a h1 h2 h3 h4 h5 h6 => ?_⟩
    · cases z : H a with
      | none => exact absurd z (E.fin a w)
      | some o => rw [kp a o (fun w2 => nF (w2 ▸ w)) z]; simp
    · by_cases w : j = i
      · subst w
        rw [List.getElem?_set_self hj] at q
        cases q
        exact ⟨.ref p, s1, .dic ⟨od, cut_of (fun z => z.elim nF np) hp2⟩ (s3.up ex)⟩
      · rw [List.getElem?_set_ne w] at q
        obtain ⟨v, h1, h2⟩ := E.im i d q
        exact ⟨v, h1, h2.up ex⟩
    · by_cases w : j = i
      · subst w
        rw [List.getElem?_set_self hj] at q
        cases q
      · rw [List.getElem?_set_ne w] at q
        obtain ⟨p', vs', h1, h2, h3⟩ := E.ac i d q
        exact ⟨p', vs', h1, kp _ _ (ne w q rfl h1) h2, h3.up ex⟩
    · by_cases w : j = i
      · subst w
        rw [List.getElem?_set_self hj] at q
        cases q
      · rw [List.getElem?_set_ne w] at q
        obtain ⟨p', vs', h1, h2, h3⟩ := E.dc i d q
        exact ⟨p', vs', h1, kp _ _ (ne w q rfl h1) h2, h3.up ex⟩
    · by_cases w : j = i
      · subst w
        rw [List.getElem?_set_self hj] at q
        cases q
      · rw [List.getElem?_set_ne w] at q
        obtain ⟨p', vs', h1, h2, h3⟩ := E.bx i n q
        exact ⟨p', vs', h1, kp _ _ (ne w q rfl h1) h2, h3⟩
    · have back : ∀ {i : Nat} {f : Ent}, (Γ.set j (.im (.dict ds)))[i]? = some f → f.mut = true → Γ[i]? = some f := fun {i f} h1 h2 => by
        by_cases w : j = i
        · subst w
          rw [List.getElem?_set_self hj] at h1
          cases h1
          cases h2
        · rw [List.getElem?_set_ne w] at h1
          exact h1
      exact E.inj i k f g a (back h1 h3) (back h2 h4) h3 h4 h5 h6
  exact g F B D σ H2 E2 (fun Γ2 σ2 H3 a1 a2 a3 => n Γ2 σ2 H3 a1 a2 (ex.tr a3)) fun d Γ2 σ2 v H3 a1 a2 a3 => r d Γ2 σ2 v H3 a1 a2 (ex.tr a3)
/-- xs.pop(i), i drawn, as a value -/
theorem x_popAt {i : Nat} (hi0 : ∃ f, Γ[i]? = some (.ac f)) (h : EvX K Γ te fun d Γ' => ∃ (ds : List PyData) (k : Nat) (x : PyData), d = .int k ∧ Γ'[i]? = some (.ac ds) ∧ ds.length ≤ 100000 ∧ ds[k]? = some x ∧ P x (Γ'.set i (.ac (ds.eraseIdx k)))) : EvX K Γ (tBM K "list" rPopAt (tVar i) (tCons te tNil)) P := fun F B σ H E Q q => by
  obtain ⟨f, hf⟩ := hi0
  obtain ⟨p, vs, h1, h2, h3⟩ := E.ac i f hf
  refine ⟨.ref p, h1, .inl ⟨rfl, vs, .inl (.inl h2)⟩, h F B σ H E _ fun d Γ1 v H' ⟨ds, k, x, ed, hi, hz, hx, hn⟩ E' m1 x1 rv => ?_⟩
  subst ed
  cases rv
  obtain ⟨p', vs', a1, a2, a3⟩ := E'.ac i ds hi
  rw [h1] at a1
  cases a1
  obtain ⟨y, hy, ry⟩ := a3.get hx
  have hkl : k < vs'.length := (List.getElem?_eq_some_iff.mp hy).1
  have hlen := a3.len
  obtain ⟨E2, m2, x2⟩ := E'.write (e' := .ac (ds.eraseIdx k)) (o := .lst (vs'.eraseIdx k)) hi h1 rfl rfl (fun ds' z => by cases z; exact ⟨_, rfl, a3.erase k⟩) (fun _ z => nomatch z) (fun _ z => nomatch z)
  refine ⟨p, vs', k, k, y, rfl, rfl, a2, by omega, by omega, ?_, hy, q x _ y _ hn E2 (m2.trans m1) (x1.tr x2) (ry.up x2)⟩
  unfold seqIndex?
  simp
  omega
theorem RpKV.snoc {k : Key} {v : V} {d : PyData} : ∀ {vs : List (Key × V)} {ds : List (PyData × PyData)}, RpKV K H vs ds → Rp K H v d → RpKV K H (vs ++ [(k, v)]) (ds ++ [(kD k, d)])
  | _, [], h, r => by cases h; exact .cons r .nil
  | _, _ :: _, h, r => by
    cases h with
    | cons h1 h2 => exact .cons h1 (RpKV.snoc h2 r)
/-- d[k] = e, k new, e drawn -/
theorem sg_dputX {j : Nat} {tv ty : TE} (h : EvX K Γ tv fun d Γ' => ∃ (ds : List (PyData × PyData)) (k : Key), Γ'[j]? = some (.dc ds) ∧ ds.length < 100000 ∧ EvG K Γ' ty (kD k) ∧ lk ds k = none ∧ N (Γ'.set j (.dc (ds ++ [(kD k, d)])))) : StG K Γ (sDPut (tVar j) ty tv) N R := fun F B D σ H E n r => h F B σ H E _ fun d Γ1 v H1 ⟨ds, k, hj, hz, hy, hk, hn⟩ E1 m1 x1 rv => by
  obtain ⟨p, vs, s1, s2, s3⟩ := E1.dc j ds hj
  refine ⟨.ref p, s1, hy F B σ H1 E1 _ fun y H2 e2 ry => ?_⟩
  have E2 := E1.ext e2
  have s3 := s3.up (cut_mono e2)
  have rv := rv.up (cut_mono e2)
  have s2 := e2 _ _ s2
  have hv : valV vs k = none := by
    rcases RpKV.val k s3 with ⟨_, q⟩ | ⟨_, _, q, _⟩
    · exact q
    · rw [hk] at q; cases q
  rw [kV_of ry]
  refine ⟨p, _, rfl, .k s2 (by rw [s3.len]; exact mem_lim hz), ?_⟩
  rw [putK_none hv]
  obtain ⟨E3, m3, x3⟩ := E2.write (e' := .dc (ds ++ [(kD k, d)])) (o := .dK (vs ++ [(k, v)])) hj s1 rfl rfl (fun _ z => nomatch z) (fun ds' z => by cases z; exact ⟨_, rfl, s3.snoc rv⟩) (fun _ z => nomatch z)
  exact n _ _ _ hn E3 (x1.tr ((cut_mono e2).tr x3))
end
end K97
set_option Elab.async false
set_option linter.all false
set_option maxRecDepth 100000
set_option maxHeartbeats 4000000
/-! K97: a drawn renaming. -/
namespace K97
open Dt (en)
open PySem L2
section
variable {P : Program} {w : World} {K : Fg} {mg : Str → Option Value} {base : Heap} {tk : Nat → Tok}
/-- a renaming of these cells -/
structure TbOk (cs : List Str) (tb : Tb) : Prop where
  keys : tb.map (·.1) = cs
  nd : (tb.map (·.2.1)).Nodup
  ok : ∀ e ∈ tb, CellOk e.2.1
  way : ∀ e ∈ tb, 0 ≤ e.2.2.1 ∧ e.2.2.1 < 2
  shift : ∀ e ∈ tb, 0 ≤ e.2.2.2 ∧ e.2.2.2 < 100
def Pre__law_renaming (ds : List PyData) : Prop := ∃ cs : List Str, ds = [.list (cs.map en)] ∧ Five cs ∧ cs.length = 5
def R__law_renaming (ds : List PyData) (d : PyData) : Prop := ∃ (cs : List Str) (tb : Tb), ds = [.list (cs.map en)] ∧ d = .dict (dTb tb) ∧ TbOk cs tb
def c__law_renaming (_ : List PyData) : Nat := c__law_cells [] + 15
theorem len__law_renaming (ds : List PyData) (h : Pre__law_renaming ds) : ds.length + 1 = 2 := by
  obtain ⟨cs, rfl, _⟩ := h
  rfl
theorem tlk_none {tb : Tb} {c : Str} (h : c ∉ tb.map (·.1)) : tlk tb c = none := by
  unfold tlk
  rw [List.find?_eq_none.mpr]
  · rfl
  · intro p hp
    simp only [decide_eq_true_eq]
    exact fun z => h (List.mem_map.mpr ⟨p, hp, z⟩)
theorem notin_take {α : Type} : ∀ {xs : List α} {i : Nat} {x : α}, xs.Nodup → xs[i]? = some x → x ∉ xs.take i
  | [], _, _, _, h => by simp at h
  | _ :: _, 0, _, _, _ => by simp
  | y :: ys, i + 1, x, hn, h => by
    have h : ys[i]? = some x := h
    rw [List.take_succ_cons, List.mem_cons]
    rintro (z | z)
    · exact (List.nodup_cons.mp hn).1 (z ▸ List.mem_of_getElem? h)
    · exact notin_take (List.nodup_cons.mp hn).2 h z
theorem ok__law_renaming (T : Tx mg tk) (t : Txt1 K mg "_law_renaming" (topS 87) ["_law_box_here", "_law_cells_here"]) (h__law_cells : Has P w K mg base "_law_cells" 3 ["_law_box_here", "_law_count"] (SpXL K Pre__law_cells R__law_cells c__law_cells)) (h__law_take : Has P w K mg base "_law_take" 1 ["_law_box_here", "_law_upon"] (SpX K Pre__law_take R__law_take c__law_take)) : Has P w K mg base "_law_renaming" 4 ["_law_box_here", "_law_cells_here"] (SpX K Pre__law_renaming R__law_renaming c__law_renaming) := by
  have sc : FnScope ["_law_box_here", "_law_cells_here", "_law_names", "_law_table", "_law_spot"] ["_law_box_here", "_law_cells_here"] (defScope (topS 87)) := ⟨rfl, rfl, rfl, by decide +kernel, rfl, by decide +kernel, by decide +kernel⟩
  refine has_box t sc len__law_renaming (by decide) (fun f cdv A outer s H E hr => (pss_cons (ps_set (i := 2) sc.nd rfl (.inl rfl) (pe_has (h__law_cells.up (by decide)) hr (by rfl) (pa_cons (pv 0) (pa_cons (pe_callB (k_len K rfl) (by rfl) T.b_len (by decide +kernel) (pa_cons (pv 1) pa_nil)) pa_nil))))
  (pss_cons (ps_set (i := 3) sc.nd rfl (.inl rfl) pe_dnewK)
  (pss_cons (ps_for PassesOwn.never rfl (k_piL K rfl (pv 1)) (pg_name (i := 4) sc.nd rfl (.inl rfl))
   (pss_one (ps_dput (hu_of hr) (pv 3) (pv 4) (pe_tupF (pa_cons (k_bm K rfl PySem.F.plainAttrs_list PySem.F.slot_list_pop PySem.F.type_list_pop mt_popAt (pv 2) (pa_cons (pe_has (h__law_take.up (by decide)) hr (by rfl) (pa_cons (pv 0) (pa_cons (pe_callB (k_len K rfl) (by rfl) T.b_len (by decide +kernel) (pa_cons (pv 2) pa_nil)) pa_nil))) pa_nil)) (pa_cons (pe_has (h__law_take.up (by decide)) hr (by rfl) (pa_cons (pv 0) (pa_cons pe_int pa_nil))) (pa_cons (pe_has (h__law_take.up (by decide)) hr (by rfl) (pa_cons (pv 0) (pa_cons pe_int pa_nil))) pa_nil)))) rfl)))
  (pss_frz (j := 3) (pss_one (ps_ret (pv 3)))))))) ?_
  rintro ds b n ⟨cs, rfl, hcs, h5⟩ hb hn
  have hn : n + (11 + 15) ≤ 1000000000 := hn
  show StG K [.bx b, .im (.list (cs.map en)), .no, .no, .no] _ _ _
  refine sg_seq (N1 := fun Γ' => ∃ (b1 : Bx) (ns : List Str), Γ' = [.bx b1, .im (.list (cs.map en)), .ac (ns.map en), .no, .no] ∧ b1.1 = b.1 ∧ BxK (n + c__law_cells []) b1 ∧ ns.length = 5 ∧ ns.Nodup ∧ ∀ c ∈ ns, CellOk c) (sg_setLX (x_callBL rfl ((ea_one (ev_lenL (ev_var rfl).c)).x ⟨?_, b, n, rfl, rfl, hb, ?_, fun es b1 ⟨ns, e1, e2, e3, e4⟩ eb kb => ⟨⟨.no, rfl, rfl⟩, b1, ns, by rw [e1]; rfl, eb, kb, e2, e3, e4⟩⟩))) ?_
  · show _ = _
    rw [List.length_map, h5]
    rfl
  · show n + c__law_cells [] ≤ _
    show n + 11 ≤ _
    omega
  rintro _ ⟨b1, ns, rfl, e1, k1, hn5, hnd, hok⟩
  refine sg_then (sg_newD rfl rfl rfl) ?_
  refine sg_forQ (α := Bx × List Str × Tb) (fun a => [.bx a.1, .im (.list (cs.map en)), .ac (a.2.1.map en), .dc (dTb a.2.2), .no]) (fun i a => a.1.1 = b.1 ∧ BxK (n + 11 + 3 * i) a.1 ∧ a.2.1.length + i = 5 ∧ a.2.1.Nodup ∧ (∀ c ∈ a.2.1, CellOk c ∧ c ∉ a.2.2.map (·.2.1)) ∧ TbOk (cs.take i) a.2.2) (b1, ns, []) (it_lst (ev_var rfl)) (Wk.rfl' _) ⟨e1, k1, hn5, hnd, fun c hc => ⟨hok c hc, by simp⟩, ⟨rfl, .nil, (fun e h => nomatch h), (fun e h => nomatch h), (fun e h => nomatch h)⟩⟩ ?_ ?_
  · rintro i d ⟨b2, ms, tb⟩ hd ⟨e2, k2, hml, hmn, hmo, htb⟩
    rw [List.getElem?_map] at hd
    obtain ⟨c, hc, rfl⟩ := Option.map_eq_some_iff.mp hd
    have hi5 : i < 5 := by rw [← h5]; exact (List.getElem?_eq_some_iff.mp hc).1
    have e2 : b2.1 = b.1 := e2
    have k2 : BxK (n + 11 + 3 * i) b2 := k2
    have hml : ms.length + i = 5 := hml
    have hmn : ms.Nodup := hmn
    have hmo : ∀ c ∈ ms, CellOk c ∧ c ∉ tb.map (·.2.1) := hmo
    have htb : TbOk (cs.take i) tb := htb
    have hct : c ∉ tb.map (·.1) := by rw [htb.keys]; exact notin_take hcs.nd hc
    have htl : tb.length ≤ 5 := by
      have := congrArg List.length htb.keys
      rw [List.length_map, List.length_take] at this
      omega
    refine ⟨_, _, tg_name (j := 4) rfl rfl, ?_⟩
    refine sg_dputX (x_tup (PL := fun ds Γ' => ∃ (b3 : Bx) (r wy sh : Nat) (m : Str), ds = [en m, .int wy, .int sh] ∧ ms[r]? = some m ∧ wy < 2 ∧ sh < 100 ∧ Γ' = [.bx b3, .im (.list (cs.map en)), .ac ((ms.eraseIdx r).map en), .dc (dTb tb), .im (en c)] ∧ b3.1 = b.1 ∧ BxK (n + 11 + 3 * (i + 1)) b3) (xa_cons (P1 := fun d Γ' => ∃ (b3 : Bx) (r : Nat) (m : Str), d = en m ∧ ms[r]? = some m ∧ Γ' = [.bx b3, .im (.list (cs.map en)), .ac ((ms.eraseIdx r).map en), .dc (dTb tb), .im (en c)] ∧ b3.1 = b.1 ∧ BxK (n + 11 + 3 * i + 1) b3) (x_popAt ⟨_, rfl⟩ (x_take (u := ms.length) rfl k2 (by omega) ((ev_lenL (ec_ac rfl)).cast (by rw [List.length_map])) (by omega) (by omega) fun r b3 hr e3 k3 => ?_)) ?_) ?_)
    · have hrl : r < ms.length := by omega
      have hmr : ms[r]? = some ms[r] := List.getElem?_eq_getElem hrl
      exact ⟨ms.map en, r, en ms[r], rfl, rfl, by rw [List.length_map]; omega, by rw [List.getElem?_map, hmr]; rfl, b3, r, ms[r], rfl, hmr, by rw [erase_map]; rfl, e3.trans e2, k3⟩
    · rintro d Γ' ⟨b3, r, m, rfl, hm, rfl, e3, k3⟩
      refine xa_cons (P1 := fun d Γ' => ∃ (b4 : Bx) (wy : Nat), d = .int wy ∧ wy < 2 ∧ Γ' = [.bx b4, .im (.list (cs.map en)), .ac ((ms.eraseIdx r).map en), .dc (dTb tb), .im (en c)] ∧ b4.1 = b.1 ∧ BxK (n + 11 + 3 * i + 2) b4) (x_take rfl k3 (by omega) ev_int (by omega) (by omega) fun wy b4 hw e4 k4 => ⟨b4, wy, rfl, by omega, rfl, e4.trans e3, k4⟩) ?_
      rintro d Γ' ⟨b4, wy, rfl, hw, rfl, e4, k4⟩
      refine xa_cons (P1 := fun d Γ' => ∃ (b5 : Bx) (sh : Nat), d = .int sh ∧ sh < 100 ∧ Γ' = [.bx b5, .im (.list (cs.map en)), .ac ((ms.eraseIdx r).map en), .dc (dTb tb), .im (en c)] ∧ b5.1 = b.1 ∧ BxK (n + 11 + 3 * (i + 1)) b5) (x_take rfl k4 (by omega) ev_int (by omega) (by omega) fun sh b5 hs e5 k5 => ⟨b5, sh, rfl, by omega, rfl, e5.trans e4, by rw [show n + 11 + 3 * (i + 1) = n + 11 + 3 * i + 2 + 1 by omega]; exact k5⟩) ?_
      rintro d Γ' ⟨b5, sh, rfl, hs, rfl, e5, k5⟩
      exact xa_nil ⟨b5, r, wy, sh, m, rfl, hm, hw, hs, rfl, e5, k5⟩
    · rintro ds' Γ' ⟨b3, r, wy, sh, m, rfl, hm, hw, hs, rfl, e3, k3⟩
      have hrl : r < ms.length := (List.getElem?_eq_some_iff.mp hm).1
      have hmm : m ∈ ms := List.mem_of_getElem? hm
      refine ⟨by simp, dTb tb, .inr c, rfl, by rw [dTb, List.length_map]; omega, ev_var rfl, ?_, (b3, ms.eraseIdx r, tb ++ [(c, m, (wy : Int), (sh : Int))]), ⟨e3, k3, ?_, (List.eraseIdx_sublist ..).nodup hmn, fun c' hc' => ?_, ?_⟩, ?_⟩
      · rw [lk_tb, tlk_none hct]
        rfl
      · show (ms.eraseIdx r).length + (i + 1) = 5
        rw [List.length_eraseIdx_of_lt hrl]
        omega
      · have h1 := hmo c' (List.mem_of_mem_eraseIdx hc')
        refine ⟨h1.1, ?_⟩
        rw [List.map_append, List.mem_append]
        rintro (z | z)
        · exact h1.2 z
        · cases List.mem_singleton.mp z
          exact nodup_erase hmn hm hc'
      · have hp : ∀ {Q : Str × Rn → Prop}, (∀ e ∈ tb, Q e) → Q (c, m, (wy : Int), (sh : Int)) → ∀ e ∈ tb ++ [(c, m, (wy : Int), (sh : Int))], Q e := fun h1 h2 e he => by
          rcases List.mem_append.mp he with he | he
          · exact h1 e he
          · cases List.mem_singleton.mp he
            exact h2
        refine ⟨?_, ?_, hp htb.ok (hmo m hmm).1, hp htb.way ⟨Int.natCast_nonneg _, by show (wy : Int) < 2; omega⟩, hp htb.shift ⟨Int.natCast_nonneg _, by show (sh : Int) < 100; omega⟩⟩
        · rw [List.map_append, htb.keys, List.take_add_one, hc]
          rfl
        · rw [List.map_append]
          exact List.nodup_append.mpr ⟨htb.nd, by simp, fun a ha b hb z => (hmo m hmm).2 (by have e : b = m := List.mem_singleton.mp hb; rw [← e, ← z]; exact ha)⟩
      · show Wk _ [.bx b3, .im (.list (cs.map en)), .ac ((ms.eraseIdx r).map en), .dc (dTb (tb ++ [(c, m, (wy : Int), (sh : Int))])), .no]
        rw [show dTb (tb ++ [(c, m, (wy : Int), (sh : Int))]) = dTb tb ++ [(kD (.inr c), .tuple [en m, .int wy, .int sh])] by rw [dTb, List.map_append]; rfl]
        exact wk_ok
  · rintro ⟨b2, ms, tb⟩ ⟨e2, k2, hml, hmn, hmo, htb⟩
    rw [List.length_map] at htb k2
    rw [List.take_length] at htb
    exact sg_freezeD rfl (sg_ret (ev_var rfl) ⟨⟨cs, tb, rfl, rfl, htb⟩, b2, rfl, e2, k2.up (by show n + 11 + 3 * cs.length ≤ n + (11 + 15); omega)⟩)
end
end K97
set_option Elab.async false
set_option linter.all false
set_option maxRecDepth 100000
set_option maxHeartbeats 4000000
/-! K97: the box of a script's number. -/
namespace K97
open Dt (en)
open PySem L2
def CPowW (i j : Int) : Prop := 0 ≤ j ∧ (Builtin.Int.intBits i : Int) * j ≤ 2 ^ 27
theorem op_powW {X : Cx} : OpR X (binaryOp .Pow) (rI CPowW fun i j => .int (i ^ j.toNat)) := opI fun _ _ _ _ _ _ _ hc q => PyProof.Rows.pow_int hc.1 hc.2 q
abbrev rAbs : List V → Hp → VK → Prop := fun xs H Q => ∃ i, xs = [.int i] ∧ Q (.int (if i < 0 then -i else i)) H
section
variable {K : Fg} {Γ : En} {te ta tb : TE}
theorem ev_abs {i : Int} (h : EvG K Γ te (.int i)) : EvG K Γ (tCB rAbs (tCons te tNil)) (.int (if i < 0 then -i else i)) := fun F B σ H E Q q => h F B σ H E _ fun v H1 e1 r1 => by
  cases r1
  exact ⟨i, rfl, q _ H1 e1 (.int _)⟩
end
section
variable {P : Program} {w : World} {K : Fg} {mg : Str → Option Value} {base : Heap} {tk : Nat → Tok}
def R__law_box (ds es : List PyData) : Prop := ∃ (ns : List Int) (k : Nat) (x y : Int), ds = [.list (ns.map en), .int k] ∧ es = [.int x, .int y, .int 0] ∧ 0 ≤ x ∧ 0 ≤ y ∧ y < 2305843009213693951 ∧ ns.length ≤ 100000 ∧ k ≤ 1
theorem len__law_box (ds es : List PyData) (h : R__law_box ds es) : ds.length = 2 := by
  obtain ⟨ns, k, x, y, rfl, _⟩ := h
  rfl
theorem ok__law_box (T : Tx mg tk) (t : Txt1 K mg "_law_box" (topS 76) ["_law_script", "_law_k"]) : Has P w K mg base "_law_box" 1 ["_law_script", "_law_k"] (SpN K R__law_box) := by
  have sc : FnScope ["_law_script", "_law_k", "_law_name", "_law_own"] ["_law_script", "_law_k"] (defScope (topS 76)) := ⟨rfl, rfl, rfl, by decide +kernel, rfl, by decide +kernel, by decide +kernel⟩
  refine has_new t sc len__law_box (by decide) (fun f cdv A outer s H E hr => (pss_cons (ps_set (i := 2) sc.nd rfl (.inl rfl) (pe_ifExp (pt_cmpR (op_lt) (pv 1) (pe_callB (k_len K rfl) (by rfl) T.b_len (by decide +kernel) (pa_cons (pv 0) pa_nil)) (nomark _)) (pe_ix (k_ix K rfl) (pv 0) (pv 1) (fun _ _ => rfl)) (pe_op op_add (pe_op op_mul pe_int (pv 1)) pe_int)))
  (pss_cons (ps_set (i := 3) sc.nd rfl (.inl rfl) (pe_op op_mul (pe_op op_mod (pe_callB call_abs (by rfl) T.b_abs (by decide +kernel) (pa_cons (pv 2) pa_nil)) (pe_op op_powW (pe_op op_pow pe_int pe_int) pe_int)) (pe_callTy call_int1 (by rfl) T.b_int (by decide +kernel) (pa_cons (pe_cmpR (op_ge) (pe_callB call_abs (by rfl) T.b_abs (by decide +kernel) (pa_cons (pv 2) pa_nil)) (pe_op op_pow pe_int pe_int) (nomark _)) pa_nil))))
  (pss_one (ps_ret (pe_lst (pa_cons (pv 3) (pa_cons (pe_op op_mod (pe_op op_mul (pe_op op_add (pe_op op_add (pe_op op_mod (pv 2) pe_int) (pe_op op_mul (pe_op op_mul pe_int (pv 1)) (pv 1))) pe_int) pe_int) pe_int) (pa_cons pe_int pa_nil))))))))) ?_
  rintro ds es ⟨ns, k, _, _, rfl, _, _, _, _, hn, hk⟩
  show StGL K [.im (.list (ns.map en)), .im (.int k), .no, .no] _ _
  have hlen : EvG K [.im (.list (ns.map en)), .im (.int k), .no, .no] (tCB (rLen K) (tCons (tVar 0) tNil)) (.int ns.length) := (ev_lenL (ev_var rfl).c).cast (by rw [List.length_map])
  refine gl_seq (N1 := fun Γ' => ∃ nm : Int, Γ' = [.im (.list (ns.map en)), .im (.int k), .im (.int nm), .no]) ?_ ?_
  · by_cases h : k < ns.length
    · refine sg_set (d := .int ns[k]) (ev_ifE (a := true) (et_test ((ev_I0 (ev_var rfl) hlen fun H => .bl _).cast (by simp [h]))) (fun _ => ?_) fun z => nomatch z) rfl rfl ⟨_, rfl⟩
      refine ev_ixL (ds := ns.map en) (i := k) (ev_var rfl).c (ev_var rfl) ?_
      unfold L2.atI ixN
      rw [if_pos (Int.natCast_nonneg k), if_pos (by rw [List.length_map]; omega)]
      show (ns.map en)[_]? = _
      rw [Int.toNat_natCast, List.getElem?_map, List.getElem?_eq_getElem h]
      rfl
    · exact sg_set (d := .int (5 * k + 2)) (ev_ifE (a := false) (et_test ((ev_I0 (ev_var rfl) hlen fun H => .bl _).cast (by simp [h]))) (fun z => nomatch z) fun _ => ev_I0 (ev_I ev_int (ev_var rfl) (.inl (by omega)) fun H => .int _) ev_int fun H => .int _) rfl rfl ⟨_, rfl⟩
  rintro _ ⟨nm, rfl⟩
  generalize ha : (if nm < 0 then -nm else nm) = ab
  have hab : 0 ≤ ab := by rw [← ha]; split <;> omega
  have hb : ∀ {Γ : En}, Γ[2]? = some (.im (.int nm)) → EvG K Γ (tCB rAbs (tCons (tVar 2) tNil)) (.int ab) := fun h => (ev_abs (ev_var h)).cast (by rw [ha])
  refine gl_seq (N1 := fun Γ' => ∃ own : Int, 0 ≤ own ∧ Γ' = [.im (.list (ns.map en)), .im (.int k), .im (.int nm), .im (.int own)]) (sg_set (d := .int (ab % ((10 ^ 60) ^ 5) * (if decide (10 ^ 18 ≤ ab) then 1 else 0))) (ev_I (ev_I (hb rfl) (ev_I (i := 10 ^ 60) (ev_I ev_int ev_int ⟨by decide, by decide, by decide⟩ fun H => .int _) ev_int ⟨by decide, by decide +kernel⟩ fun H => .int _) (by decide +kernel) fun H => .int _) (ev_intB (ev_I0 (hb rfl) (ev_I ev_int ev_int ⟨by decide, by decide, by decide⟩ fun H => .int _) fun H => .bl _)) ?_ fun H => .int _) rfl rfl ⟨_, ?_, rfl⟩) ?_
  · refine .inr ?_
    split <;> decide
  · refine Int.mul_nonneg (Int.emod_nonneg _ (by decide +kernel)) ?_
    split <;> decide
  rintro _ ⟨own, h0, rfl⟩
  refine gl_ret ((el_lst (ea_cons (ev_var rfl) (ea_cons (ev_I (ev_I (ev_I0 (ev_I0 (ev_I (ev_var rfl) ev_int (by decide) fun H => .int _) (ev_I (ev_I ev_int (ev_var rfl) (.inl (by decide)) fun H => .int _) (ev_var rfl) ?_ fun H => .int _) fun H => .int _) ev_int fun H => .int _) ev_int (.inr (by decide)) fun H => .int _) ev_int (by decide) fun H => .int _) (ea_one ev_int)))).x ⟨ns, k, own, _, rfl, rfl, h0, ?_, ?_, hn, hk⟩)
  · exact .inr ⟨by omega, by omega⟩
  · exact Int.emod_nonneg _ (by decide)
  · have := Int.emod_lt_of_pos ((nm % 2305843009213693951 + 104729 * (k : Int) * k + 37) * 48271) (by decide : (0 : Int) < 2305843009213693921)
    omega
end
end K97
set_option Elab.async false
set_option linter.all false
set_option maxRecDepth 100000
set_option maxHeartbeats 4000000
/-! K97: walks over the keys of a dict that stands still; dict(a list of pairs). -/
namespace K97
open Dt (en)
open PySem L2
section
variable {K : Fg} {Γ Γ1 : En} {te ta tb : TE} {d : PyData} {F : Addr → Prop} {B G H H' : Hp} {σ : L2.St}
theorem RpKV.key : ∀ {vs : List (Key × V)} {ds : List (PyData × PyData)}, RpKV K H vs ds → ∀ {i : Nat} {k : Key} {v : V}, vs[i]? = some (k, v) → ∃ d, ds[i]? = some (kD k, d)
  | _, [], h, i, k, v, e => by cases h; simp at e
  | _, _ :: _, h, i, k, v, e => by
    cases h with
    | @cons k0 v0 vs d0 ds h1 h2 =>
      cases i with
      | zero =>
        cases e
        exact ⟨_, rfl⟩
      | succ i => exact RpKV.key h2 (i := i) (by simpa using e)
theorem drv_keys {p : Addr} {o : Obj} {vs : List (Key × V)} {ds : List (PyData × PyData)} (h : G p = some (.frz o (.dK vs))) (r : RpKV K G vs ds) : Drv false K G (Itk p o vs) (ds.map (·.1)) := fun M H2 e2 => by
  have hS : H2 p = some (.frz o (.dK vs)) := cut_ex _ _ (e2 _ _ h)
  have hl := r.len
  refine ⟨⟨hS, by rw [List.length_map]; omega⟩, fun i hi => ⟨hS, by rw [List.length_map] at hi; omega⟩, fun i d hd x H3 y => ?_⟩
  obtain ⟨rfl, k, v, hv, rfl⟩ := y
  obtain ⟨d', hd'⟩ := r.key (i := i) hv
  rw [List.getElem?_map, hd'] at hd
  cases hd
  refine ⟨Ex.rfl' _, ?_⟩
  cases k with
  | inl i => exact .int i
  | inr s => exact .str s
theorem it_keys {ds : List (PyData × PyData)} (h : EvG K Γ te (.dict ds)) : ItG false K Γ (iKeys te) (ds.map (·.1)) := fun F B σ H E R q => h F B σ H E _ fun v H1 e1 r1 => by
  cases r1 with
  | dic h1 h2 =>
    obtain ⟨o, h1⟩ := h1
    exact ⟨_, o, rfl, .inl ⟨_, cut_ex _ _ h1, q _ H1 e1 (drv_keys h1 h2)⟩⟩
abbrev rDicP (K : Fg) : List V → Hp → VK → Prop := fun xs H Q => ∃ (a : Addr) (ps : List Addr) (kvs : List (Key × V)), xs = [.ref a] ∧ SqL K H a (ps.map V.ref) ∧ Paired (fun p (kv : Key × V) => SqT K H p [kV kv.1, kv.2]) ps kvs ∧
    ∀ p, H p = none → Q (.ref p) (upd H p (.dK (mergeK [] kvs)))
theorem refs_of {Q : Addr → Key × V → Prop} : ∀ {vs : List V} {kvs : List (Key × V)}, Paired (fun x (kv : Key × V) => ∃ p, x = V.ref p ∧ Q p kv) vs kvs → ∃ ps : List Addr, vs = ps.map V.ref ∧ Paired Q ps kvs
  | _, _, .nil => ⟨[], rfl, .nil⟩
  | _, _, .cons h t => by
    obtain ⟨p, rfl, hp⟩ := h
    obtain ⟨ps, rfl, hq⟩ := refs_of t
    exact ⟨p :: ps, rfl, .cons hp hq⟩
def encP (x : Str × PyData) : PyData := .tuple [.str x.1, x.2]
def dP (xs : List (Str × PyData)) : List (PyData × PyData) := xs.map fun x => (.str x.1, x.2)
/-- d = dict(a list of pairs), a dict of ours -/
theorem sg_setDX {j : Nat} {N : En → Prop} {R : PyData → En → Prop} (h : EvX K Γ te fun d Γ' => ∃ xs : List (Str × PyData), d = .list (xs.map encP) ∧ (xs.map (·.1)).Nodup ∧ (∃ e, Γ'[j]? = some e ∧ e.mut = false) ∧ N (Γ'.set j (.dc (dP xs)))) : StG K Γ (tAsg (tCB (rDicP K) (tCons te tNil)) (gName j)) N R := fun F B D σ H E n r => h F B σ H E _ fun d Γ1 v H1 ⟨xs, ed, hn, ⟨e, hj, he⟩, n1⟩ E1 m1 x1 r1 => by
  subst ed
  cases r1 with
  | lst h1 h2 =>
    obtain ⟨kvs, q1, q2, q3⟩ := pairs_pd (H := H1) (key := fun x : Str × PyData => x.1) (val := fun x => x.2) cut_ex h2
    obtain ⟨ps, rfl, q4⟩ := refs_of (Q := fun p (kv : Key × V) => SqT K H1 p [kV kv.1, kv.2]) q1
    refine ⟨_, ps, kvs, rfl, Ex.l cut_ex h1, q4, fun p hp => ?_⟩
    have hmk : mergeK [] kvs = kvs := by
      rw [mergeK_nodup kvs [], List.nil_append]
      rw [List.map_nil, List.nil_append, q3]
      have e : (xs.map fun x => (Sum.inr x.1 : Key)) = (xs.map (·.1)).map Sum.inr := by rw [List.map_map] <;> rfl
      rw [e]
      exact List.Pairwise.map _ (fun a b h z => h (Sum.inr.inj z)) hn
    rw [hmk]
    have q2' : RpKV K (cut (fun a => (F a ∨ a = p) ∨ mu Γ1 σ a) (upd H1 p (.dK kvs))) kvs (dP xs) := q2.up fun a o z => by
      obtain ⟨n1, z⟩ := cut_some z
      refine cut_of (fun w => ?_) (by rw [upd_ne (ne_of_none z hp)]; exact z)
      rcases w with (w | w) | w
      · exact n1 (.inl w)
      · rw [w, hp] at z; cases z
      · exact n1 (.inr w)
    obtain ⟨E', x⟩ := E1.newM (e' := .dc (dP xs)) hj he hp (Ex.new hp) rfl (fun _ z => nomatch z) (fun ds' z => by cases z; exact ⟨kvs, upd_same, q2'⟩) (fun _ z => nomatch z)
    exact n _ _ _ n1 E' (x1.tr x)
end
end K97
set_option Elab.async false
set_option linter.all false
set_option maxRecDepth 100000
set_option maxHeartbeats 4000000
/-! K97: list(d.items()), the tuples told (turned from the layer's rule for plain tuples). -/
namespace K97
open Dt (en)
open PySem PySem.Spec PyProof.Rows L2 LiI
def obT (h : Heap) (a : Addr) : Obj := match h.get? a with
  | some o => o
  | none => { cls := .type "tuple", data := .seq #[] }
/-- the tuples tracked at their addresses -/
def putF (h : Heap) : Hp → List Addr → List (Key × V) → Hp
  | H, a :: as, p :: kvs => putF h (upd H a (.frz (obT h a) (.tup [kV p.1, p.2]))) as kvs
  | H, _, _ => H
theorem putF_off {h : Heap} {b : Addr} : ∀ (as : List Addr) (kvs : List (Key × V)) (H : Hp), b ∉ as → putF h H as kvs b = H b
  | [], _, _, _ => rfl
  | _ :: _, [], _, _ => rfl
  | a :: as, p :: kvs, H, n => by
    show putF h (upd H a (.frz (obT h a) (.tup [kV p.1, p.2]))) as kvs b = H b
    rw [putF_off as kvs _ (fun z => n (List.mem_cons_of_mem _ z)), upd_ne (fun z => n (by rw [z]; exact List.mem_cons_self))]
theorem putF_at {h : Heap} : ∀ (as : List Addr) (kvs : List (Key × V)) (H : Hp), as.length = kvs.length → as.Nodup → Paired (fun (t : Addr) (p : Key × V) => putF h H as kvs t = some (.frz (obT h t) (.tup [kV p.1, p.2]))) as kvs
  | [], [], _, _, _ => .nil
  | [], _ :: _, _, e, _ => by cases e
  | _ :: _, [], _, e, _ => by cases e
  | a :: as, p :: kvs, H, e, hn => by
    have hn' := List.nodup_cons.mp hn
    have ih := putF_at (h := h) as kvs (upd H a (.frz (obT h a) (.tup [kV p.1, p.2]))) (Nat.succ.inj e) hn'.2
    refine .cons ?_ ih
    show putF h (upd H a (.frz (obT h a) (.tup [kV p.1, p.2]))) as kvs a = some (.frz (obT h a) (.tup [kV p.1, p.2]))
    rw [putF_off as kvs _ hn'.1, upd_same]
def rItemsF : V → Hp → VK → Prop := fun x H Q => ∃ (d : Addr) (kvs : List (Key × V)), x = .ref d ∧ H d = some (.dK kvs) ∧
  ∀ (H' : Hp) (p : Addr) (ts : List Addr), (∀ b o, H b = some o → H' b = some o) → H p = none → H' p = some (.lst (ts.map V.ref)) → Paired (fun (t : Addr) (q : Key × V) => TupF H' t [kV q.1, q.2]) ts kvs → (∀ t ∈ ts, t ≠ p) → (∀ t ∈ ts, H t = none) → Q (.ref p) H'
def tListItemsF (te : TE) : TE := fun σ H Q => te σ H fun x H1 => rItemsF x H1 Q
section
variable {X : Cx} {e : Expr} {te : TE} {p apos cpos pos : Pos}
theorem paired_mem {α β : Type} {F : α → β → Prop} {G : α → Prop} : ∀ {xs : List α} {ys : List β}, Paired F xs ys → (∀ x ∈ xs, G x) → Paired (fun x y => F x y ∧ G x) xs ys
  | _, _, .nil, _ => .nil
  | _, _, .cons r t, h => .cons ⟨r, h _ List.mem_cons_self⟩ (paired_mem t fun x hx => h x (List.mem_cons_of_mem _ hx))
theorem paired_map {α β : Type} {F G : α → β → Prop} (h : ∀ a b, F a b → G a b) : ∀ {xs : List α} {ys : List β}, Paired F xs ys → Paired G xs ys
  | _, _, .nil => .nil
  | _, _, .cons r t => .cons (h _ _ r) (paired_map h t)
theorem items_told {pins : List (Addr × Obj)} {σ : L2.St} {H : Hp} {s : Shared} {h' : Heap} {tk : Nat} {kvs : List (Key × V)} {vs : List (Key × Value)} {acc : Array Value} {c : Nat} {as : List Addr} (I : Inv X pins σ H s) (hz : kvs.length ≤ sizeLine) (kv : KV kvs vs)
    (hk : ∀ b o, s.heap.get? b = some o → h'.get? b = some o) (hS : h'.get? s.heap.objs.size = some { cls := .type "list", dict := none, data := .seq acc c, slots := #[] }) (hl : as.length = vs.length) (hG : PySem.W.KdxG (mixKind X.prog X.w) vs s.heap.objs.size h' as) (hacc : acc.toList = as.map Value.ref) :
    ∃ H' : Hp, (∀ b o, H b = some o → H' b = some o) ∧ H s.heap.objs.size = none ∧ H' s.heap.objs.size = some (.lst (as.map V.ref)) ∧ Paired (fun (t : Addr) (q : Key × V) => TupF H' t [kV q.1, q.2]) as kvs ∧ (∀ t ∈ as, t ≠ s.heap.objs.size) ∧ (∀ t ∈ as, H t = none) ∧ Inv X pins σ H' { s with heap := h', toks := tk } := by
  have lk : kvs.length = vs.length := Paired.length kv
  have nS : s.heap.objs.size ∉ as := fun z => Nat.lt_irrefl _ (hG.above _ z)
  have nd : as.Nodup := List.Pairwise.imp (fun {a b} (h : a < b) => Nat.ne_of_lt h) hG.rise
  have new : ∀ t ∈ as, H t = none := fun t ht => I.hok.fresh (Nat.le_of_lt (hG.above t ht))
  have newS : H s.heap.objs.size = none := I.hok.fresh (Nat.le_refl _)
  have at' := putF_at (h := h') as kvs (upd H s.heap.objs.size (.lst (as.map V.ref))) (by omega) nd
  have off : ∀ b, b ∉ as → b ≠ s.heap.objs.size → putF h' (upd H s.heap.objs.size (.lst (as.map V.ref))) as kvs b = H b := fun b h1 h2 => by rw [putF_off as kvs _ h1, upd_ne h2]
  have low : ∀ b o, s.heap.get? b = some o → b ∉ as ∧ b ≠ s.heap.objs.size := fun b o e => ⟨fun z => absurd (Heap.lt_size e) (Nat.not_lt.mpr (Nat.le_of_lt (hG.above b z))), Nat.ne_of_lt (Heap.lt_size e)⟩
  have eS : putF h' (upd H s.heap.objs.size (.lst (as.map V.ref))) as kvs s.heap.objs.size = some (.lst (as.map V.ref)) := by rw [putF_off as kvs _ nS, upd_same]
  have isT : ∀ b, b ∈ as → ∃ (key : Value) (k : Key) (x : Value) (j : Nat), as[j]? = some b ∧ vs[j]? = some (k, x) ∧ keyIs k key = true ∧ h'.get? b = some { cls := .type "tuple", data := .seq #[key, x] } := fun b hb => by
    obtain ⟨j, pk, e1, _, _⟩ := paired_ix at' hb
    obtain ⟨key, k, x, f1, f2, f3⟩ := hG.pairs j b e1
    exact ⟨key, k, x, j, e1, f1, f2, f3⟩
  have told : Paired (fun (t : Addr) (q : Key × V) => TupF (putF h' (upd H s.heap.objs.size (.lst (as.map V.ref))) as kvs) t [kV q.1, q.2]) as kvs := by
    have : ∀ t, t ∈ as → (obT h' t).dict = none := fun t ht => by
      obtain ⟨key, k, x, j, _, _, _, f3⟩ := isT t ht
      unfold obT
      rw [f3]
    exact paired_map (fun t q h => ⟨_, h.1, h.2⟩) (paired_mem at' this)
  generalize hH : putF h' (upd H s.heap.objs.size (.lst (as.map V.ref))) as kvs = H' at *
  have kp : ∀ b u, H b = some u → H' b = some u := fun b u e => by
    rw [off b (fun z => by rw [new b z] at e; cases e) (fun z => by rw [z, newS] at e; cases e)]
    exact e
  refine ⟨H', kp, newS, eS, told, fun t ht z => nS (z ▸ ht), new, ?_⟩
  refine I.call' (ch := []) rfl ⟨fun b o q _ _ _ => hk b o q, fun b o q _ _ _ => ⟨o.slots, hk b o q⟩, fun b o q n _ => ?_, fun b o q _ => ⟨o, hk b o q⟩, fun b xs q => kp b _ q, fun b o u q => kp b _ q, fun b ps q => ⟨#[], by rw [kp b _ q]; simp⟩⟩ (fun b u q => ?_) I.bare fun b z => by simp at z
  · obtain ⟨z1, z2⟩ := low b o q
    rw [off b z1 z2]
    exact n
  · by_cases hb : b ∈ as
    · obtain ⟨key, k, x, j, e1, f1, f2, f3⟩ := isT b hb
      obtain ⟨j2, pk, e1', e2, e3⟩ := paired_ix at' hb
      rw [e3] at q
      cases q
      obtain ⟨key, k, x, f1, f2, f3⟩ := hG.pairs j2 b e1'
      obtain ⟨qv, g1, g2, g3⟩ := LiI.paired_get kv e2
      rw [f1] at g1
      cases g1
      have rk : RelV (kV pk.1) key := by
        rw [g2]
        exact relV_key (show keyIs k key = true from f2)
      have eo : obT h' b = { cls := .type "tuple", data := .seq #[key, x] } := by
        unfold obT
        rw [f3]
      rw [eo]
      exact objF (xs := [kV pk.1, pk.2]) (its := [key, x]) (by show 2 ≤ sizeLine; decide) (.cons rk (.cons g3 .nil)) f3
    · by_cases hb2 : b = s.heap.objs.size
      · rw [hb2] at q ⊢
        rw [eS] at q
        cases q
        refine ⟨by rw [List.length_map]; omega, acc.toList, c, by rw [hacc]; exact vals_refs as, ?_⟩
        rw [Array.toArray_toList]
        exact hS
      · rw [off b hb hb2] at q
        exact (I.hok b u q).stay (fun d v _ y => hk d v y) (fun d y => kp d _ y) fun d xs y => kp d _ y
/-- list(e.items()) -/
theorem pe_listItemsF (hc : X.calm = true) (he : PE X e te) (hg : Gl X "list") (hm : X.mg "list" = none) (hv : bootBuiltins "list" = some (.type "list")) (hbase : attributeBase e "items" X.env (eval e X.env) = eval e X.env := by rfl) (hline : (apos.endLine == cpos.line) = true := by rfl)
    (hs : starEach [.Call (.Attribute e "items" apos) [] [] cpos] X.env = (false, eval (.Call (.Attribute e "items" apos) [] [] cpos) X.env) :: starEach [] X.env := by rfl) :
    PE X (.Call (.Name "list" p) [.Call (.Attribute e "items" apos) [] [] cpos] [] pos) (tListItemsF te) := by
  refine ⟨fun pins s σ H Q I hq => ?_⟩
  refine wpAny_Call_Name_kw (ld_blt I hg hm hv ?_)
  refine PyProof.Rows.callWith_type1 ?_ hs rfl
  rw [hs]
  show wpAny _ _ (spliced ((false, eval (.Call (.Attribute e "items" apos) [] [] cpos) X.env) :: backTo pos (starEach [] X.env))) _ _ s
  refine Calls.spliced_cons ?_
  refine wpAny_Call_method (T := "dict") (id := "dict.items") hbase rfl hline F.plainAttrs_dict F.slot_dict_items F.type_dict_items (thn (he.run pins s σ H _ I hq) fun u s1 ⟨x, H1, I1, rx, d, kvs, ex, hd, q⟩ => ?_)
  subst ex
  obtain rfl : u = Value.ref d := rx
  obtain ⟨hz, hs0, vs, kv, hdo⟩ := I1.hok d _ hd
  obtain ⟨ep, hat⟩ := hdo.dictAt
  have lk : kvs.length = vs.length := Paired.length kv
  have I2 : Inv X pins σ H1 { s1 with heap := s1.heap.push { cls := .type "dict_items", data := .fields #[.ref d] } } := I1.kept (t' := s1.toks) fun b ob q => Heap.get?_push_of_some _ q
  refine ⟨hdo.typeIs, hdo.mapOf.noDict, ?_⟩
  show wpAny _ _ (callWith cpos (.builtin "dict.items") [.ref d] [] []) _ X.xe s1
  refine method_meetsIn F.slot_dict_items F.entry_dict_items rfl (PySem.evalArgs_none ⟨rfl, hdo.typeIs, F.args_dict_items_1 _, _, meets_dict_items (mixKind X.prog X.w) d hs0, ⟨vs, hdo⟩, ?_⟩)
  refine Calls.spliced_nil ?_
  refine PySem.W.kdx_call (knd := mixKind X.prog X.w) (kvs := vs) (ep := ep) (I1.ok.hd hc) ⟨_, Heap.get?_push_size _ rfl, rfl, rfl⟩ (hat.push _) (by omega) fun h' tk acc c as hk hS hl hG hacc => ?_
  obtain ⟨H', k1, k2, k3, k4, k5, k6, J⟩ := items_told (tk := tk) I2 hz kv hk hS hl hG hacc
  exact ⟨.ref _, H', J, rfl, q H' _ as k1 k2 k3 k4 k5 k6⟩
end
section
variable {K : Fg} {Γ : En}
theorem kV_rp {G : Hp} : ∀ k : Key, Rp K G (kV k) (kD k)
  | .inl i => .int i
  | .inr s => .str s
theorem items_rp {G G' : Hp} (e : Ex G G') : ∀ {ts : List Addr} {vs : List (Key × V)} {ds : List (PyData × PyData)}, Paired (fun (t : Addr) (q : Key × V) => TupF G' t [kV q.1, q.2]) ts vs → RpKV K G vs ds → RpAll K G' (ts.map V.ref) (ds.map fun x => .tuple [x.1, x.2])
  | _, _, [], .nil, h => by cases h; exact .nil
  | _, _, _ :: _, .nil, h => by cases h
  | _, _, _ :: _, .cons h1 t, h => by
    cases h with
    | cons r1 r2 => exact .cons (.tup h1 (.cons (kV_rp _) (.cons (r1.up e) .nil))) (items_rp e t r2)
  | _, _, [], .cons _ _, h => by cases h
theorem el_items {j : Nat} {ds : List (PyData × PyData)} (h : Γ[j]? = some (.dc ds)) : EvL K Γ (tListItemsF (tVar j)) (ds.map fun x => .tuple [x.1, x.2]) := fun F B σ H E Q q => by
  obtain ⟨p, vs, s1, s2, s3⟩ := E.dc j ds h
  refine ⟨.ref p, s1, p, vs, rfl, s2, fun H' l ts ex hl hls pr hne hnew => q l _ H' hl ex hls ?_⟩
  have e2 : Ex (cut (fun a => F a ∨ mu Γ σ a) H) (cut (fun a => (F a ∨ a = l) ∨ mu Γ σ a) H') := fun a o z => by
    obtain ⟨n1, z⟩ := cut_some z
    refine cut_of (fun w => ?_) (ex _ _ z)
    rcases w with (w | w) | w
    · exact n1 (.inl w)
    · rw [w, hl] at z; cases z
    · exact n1 (.inr w)
  refine items_rp e2 (paired_map (fun t q h => ?_) (paired_mem pr (G := fun t => ¬ ((F t ∨ t = l) ∨ mu Γ σ t)) fun t ht => ?_)) s3
  · obtain ⟨⟨o, h1, h2⟩, h3⟩ := h
    exact ⟨o, cut_of h3 h1, h2⟩
  · rintro ((w | w) | w)
    · exact E.fin t w (hnew t ht)
    · exact hne t ht w
    · exact E.muIn w (hnew t ht)
end
end K97
set_option Elab.async false
set_option linter.all false
set_option maxRecDepth 100000
set_option maxHeartbeats 4000000
/-! K97: lists added; dicts of ours, read and filled with draws. -/
namespace K97C
open PySem PySem.AutoSeq1
theorem list_add_any (l : Addr) (items : Array Value) (n : Nat) (sl : Array (Option Value)) (b : Addr) (items2 : Array Value) (n2 : Nat) (sl2 : Array (Option Value)) (hc0 : items.size + items2.size ≤ sizeLine) :
    Meets (Builtin.«list.__add__» ⟨[.ref l, .ref b], []⟩) (fun _ R s => s.heap.get? l = some { cls := .type "list", dict := none, data := .seq items n, slots := sl } ∧ s.heap.get? b = some { cls := .type "list", dict := none, data := .seq items2 n2, slots := sl2 } ∧ R (.ok (.ret (Value.ref s.heap.objs.size))) { s with heap := s.heap.push { cls := Value.type "list", data := Data.seq (items ++ items2) }, toks := s.toks }) :=
  .of_wp fun prog w A R s h => by
    obtain ⟨hp, g, d, tk, os⟩ := s
    obtain ⟨hl, hb, h⟩ := h
    have f1 := idx_int
    have f2 := sub_tuple_tuple
    have f3 := sub_list_list
    have f4 := sub_tuple_list
    have f5 := sub_list_tuple
    wp_walk using wpAny_loadPart' hl, wpAny_loadPart' hb
    exact ⟨_, rfl, h⟩
end K97C
namespace K97
open Dt (en)
open PySem PySem.Spec PyProof.Rows L2
/-- list + list, whoever holds them -/
def rCatQ (K : Fg) : R2 := fun x y H Q => ∃ l b xs zs, x = .ref l ∧ y = .ref b ∧ SqL K H l xs ∧ SqL K H b zs ∧ xs.length + zs.length ≤ sizeLine ∧ ∀ p, H p = none → Q (.ref p) (upd H p (.lst (xs ++ zs)))
theorem op_catQ {X : Cx} : OpR X (binaryOp .Add) (rCatQ X.K) := by
  intro pins s σ H x y v u Q I rx ry h
  obtain ⟨l, b, xs, zs, rfl, rfl, h1, h2, hz, q⟩ := h
  cases rx
  cases ry
  obtain ⟨its, r, ⟨o, n, e, c, d, dd⟩, _⟩ := I.list h1
  obtain ⟨its2, r2, ⟨o2, n2, e2, c2, d2, dd2⟩, _⟩ := I.list h2
  obtain ⟨oc, od, odt, osl⟩ := o
  obtain ⟨oc2, od2, odt2, osl2⟩ := o2
  have hl := r.length
  have hl2 := r2.length
  simp only at c d dd c2 d2 dd2
  subst c d dd c2 d2 dd2
  refine PySem.concat_meets ⟨_, e, rfl⟩ ⟨_, e2, rfl⟩ noFill_list_add seq_list_add F.slot_list_add F.entry_list_add (F.args_list_add_2 _ _) (K97C.list_add_any l its.toArray n osl b its2.toArray n2 osl2 (by rw [List.size_toArray, List.size_toArray]; omega)) ⟨e, e2, ?_⟩
  have ea : its.toArray ++ its2.toArray = (its ++ its2).toArray := by simp
  rw [ea]
  exact ⟨.ref _, _, I.lnew (t' := s.toks) (r.append r2) (by rw [List.length_append]; omega), rfl, q _ (I.hok.fresh (Nat.le_refl _))⟩
section
variable {X : Cx} (K : Fg) (hK : X.K = K)
include hK
theorem k_catQ : OpR X (binaryOp .Add) (rCatQ K) := hK ▸ op_catQ
theorem k_dicP (hc : X.calm = true) : CallR X (.type "dict") (rDicP K) := hK ▸ call_dictP hc
end
section
variable {K : Fg} {Γ Γ1 : En} {te ta tb tx ty : TE} {F : Addr → Prop} {B H H' : Hp} {σ : L2.St} {ds es : List PyData} {P : PyData → En → Prop} {PL : List PyData → En → Prop} {N : En → Prop} {R : PyData → En → Prop}
theorem el_catQ (ha : EvC K Γ ta (.list ds)) (hb : EvC K Γ tb (.list es)) (hz : ds.length + es.length ≤ 100000) : EvL K Γ (tOp (rCatQ K) ta tb) (ds ++ es) := fun F B σ H E Q q =>
  ha F B σ H E _ fun x H1 e1 r1 => hb F B σ H1 (E.ext e1) _ fun y H2 e2 r2 => by
    obtain ⟨p1, vs, rfl, s1, a1⟩ := (r1.up (cut_mono e2) e2).lst cut_ex
    obtain ⟨p2, ws, rfl, s2, a2⟩ := r2.lst cut_ex
    exact ⟨p1, p2, vs, ws, rfl, rfl, s1, s2, by rw [a1.len, a2.len]; exact size5 hz, newL ((E.ext e1).ext e2) (e1.tr e2) (a1.app a2) q⟩
/-- d.get(k, e), e drawn -/
theorem x_dget2 {i : Nat} {kvs : List (PyData × PyData)} {k : Key} (hi : Γ[i]? = some (.dc kvs)) (hk : EvG K Γ ty (kD k)) (h : EvX K Γ tx fun d Γ' => Γ'[i]? = some (.dc kvs) ∧ P ((lk kvs k).getD d) Γ') : EvX K Γ (tDGet2 (tVar i) ty tx) P := fun F B σ H E Q q => by
  obtain ⟨p, vs, s1, s2, s3⟩ := E.dc i kvs hi
  refine ⟨.ref p, s1, p, rfl, .inl ⟨vs, .inl s2⟩, hk F B σ H E _ fun y H2 e2 ry => h F B σ H2 (E.ext e2) _ fun d Γ3 z H3 ⟨hi3, p3⟩ E3 m3 x3 rz => ?_⟩
  obtain ⟨p', vs', t1, t2, t3⟩ := E3.dc i kvs hi3
  rw [s1] at t1
  cases t1
  refine ⟨valV vs' k, ?_, ?_⟩
  · rw [kV_of ry]
    exact .inl ⟨vs', k, .inl t2, rfl, rfl⟩
  · rcases RpKV.val k t3 with ⟨q1, q2⟩ | ⟨d', w, q1, q2, q3⟩
    · rw [q1] at p3
      rw [q2]
      exact q _ Γ3 _ H3 p3 E3 m3 ((cut_mono e2).tr x3) rz
    · rw [q1] at p3
      rw [q2]
      exact q _ Γ3 _ H3 p3 E3 m3 ((cut_mono e2).tr x3) q3
/-- d.setdefault(k, e), e drawn -/
theorem sg_dsetX {j : Nat} {kv0 : List (PyData × PyData)} {k : Key} (hj0 : Γ[j]? = some (.dc kv0)) (hk : EvG K Γ ty (kD k)) (h : EvX K Γ tx fun d Γ' => ∃ kvs : List (PyData × PyData), Γ'[j]? = some (.dc kvs) ∧ kvs.length < 100000 ∧ (lk kvs k ≠ none → N Γ') ∧ (lk kvs k = none → N (Γ'.set j (.dc (kvs ++ [(kD k, d)]))))) : StG K Γ (tDrop (tDSetd (tVar j) ty tx)) N R := fun F B D σ H E n r => by
  obtain ⟨p, vs, s1, s2, s3⟩ := E.dc j kv0 hj0
  refine ⟨.ref p, s1, p, rfl, .inl ⟨vs, .inl s2⟩, hk F B σ H E _ fun y H2 e2 ry => h F B σ H2 (E.ext e2) _ fun d Γ3 z H3 ⟨kvs, hj, hz, n1, n2⟩ E3 m3 x3 rz => ?_⟩
  obtain ⟨p', vs', t1, t2, t3⟩ := E3.dc j kvs hj
  have s1' := s1
  rw [s1] at t1
  cases t1
  refine ⟨vs', k, t2, kV_of ry, by rw [t3.len]; exact mem_lim hz, fun v hv => ?_, fun hv => ?_⟩
  · refine n Γ3 σ H3 (n1 fun z => ?_) E3 ((cut_mono e2).tr x3)
    rcases RpKV.val k t3 with ⟨q1, q2⟩ | ⟨d', w, q1, q2, q3⟩
    · rw [q2] at hv; cases hv
    · rw [q1] at z; cases z
  · have hl : lk kvs k = none := by
      rcases RpKV.val k t3 with ⟨q1, q2⟩ | ⟨d', w, q1, q2, q3⟩
      · exact q1
      · rw [q2] at hv; cases hv
    rw [putK_none hv]
    obtain ⟨E4, m4, x4⟩ := E3.write (e' := .dc (kvs ++ [(kD k, d)])) (o := .dK (vs' ++ [(k, z)])) hj s1' rfl rfl (fun _ z => nomatch z) (fun ds' z => by cases z; exact ⟨_, rfl, t3.snoc rz⟩) (fun _ z => nomatch z)
    exact n _ _ _ (n2 hl) E4 ((cut_mono e2).tr (x3.tr x4))
theorem cutD_hi (xs : List PyData) (n : Nat) : cutD xs none (some (n : Int)) = xs.take n := by
  unfold cutD
  rw [HT.sIx_none, HT.sIx_nat, List.drop_zero, Nat.sub_zero]
  rcases Nat.le_total n xs.length with w | w
  · rw [Nat.min_eq_left w]
  · rw [Nat.min_eq_right w, List.take_of_length_le (Nat.le_refl _), List.take_of_length_le w]
/-- xs[:n], n drawn -/
theorem x_slHi (ha : EvG K Γ ta (.list ds)) (hh : EvX K Γ tb fun d Γ' => ∃ n : Nat, d = .int n ∧ PL (ds.take n) Γ') : EvX K Γ (tSl (rSlL K) ta tNoPart (tPart tb)) (fun d Γ' => ∃ es, d = .list es ∧ PL es Γ') := fun F B σ H E Q q =>
  ha F B σ H E _ fun x H1 e1 r1 => hh F B σ H1 (E.ext e1) _ fun d Γ2 y H2 ⟨n, ed, pl⟩ E2 m2 x2 ry => by
    subst ed
    cases ry
    refine ⟨n, rfl, ?_⟩
    have r1 := r1.up x2
    cases r1 with
    | @lst _ xs0 _ h1 h2 =>
      refine ⟨_, _, rfl, cut_ex.l h1, fun p hp => ?_⟩
      have hc := h2.cutD (lo := none) (hi := some (n : Int))
      rw [cutD_hi] at hc
      have e3 := Ex.new (o := .lst (cutV xs0 none (some (n : Int)))) hp
      refine q _ Γ2 _ _ ⟨_, rfl, pl⟩ (E2.ext e3) m2 ((cut_mono e1).tr (x2.tr (cut_mono e3))) (.lst (.inl (.inl (cut_of (E2.fresh hp) upd_same))) (hc.up (cut_mono e3)))
end
end K97
set_option Elab.async false
set_option linter.all false
set_option maxRecDepth 100000
set_option maxHeartbeats 4000000
/-! K97: dicts from tuples of texts to ints. -/
namespace K97
open Dt (en)
open PySem PySem.Spec PyProof.Rows L2
/-- key, where its tuple stands, number -/
abbrev TdE := List Str × Addr × Int
abbrev kk (c : List Str) : List Key := c.map Sum.inr
theorem kk_inj {c d : List Str} (h : kk c = kk d) : c = d := List.map_inj_right (fun a b e => Sum.inr.inj e) |>.mp h
theorem kk_V (c : List Str) : (kk c).map kV = c.map V.str := by
  rw [List.map_map]
  rfl
abbrev TdV := List Key × Addr × Value
def TdVs : List TdE → List TdV → Prop := Paired fun x v => v.1 = kk x.1 ∧ v.2.1 = x.2.1 ∧ ∃ t, v.2.2 = Value.int x.2.2 t
def TdOk (P : Program) (w : World) (a : Addr) (xs : List TdE) (h : Heap) : Prop := xs.length ≤ sizeLine ∧ (a == sysModules) = false ∧ ∃ vs, TdVs xs vs ∧ ∃ o es ep, h.get? a = some o ∧ o.ExactDict ∧ o.data = .dict es ep ∧ es.toList = vs.map (entryOfKey (tupleKind (mixKind P w))) ∧ (vs.map (·.1)).Nodup
/-- such a dict at a -/
def TD (P : Program) (w : World) (a : Addr) (xs : List TdE) : HO := .ext (TdOk P w a xs)
def tdv (xs : List TdE) (c : List Str) : Option Int := (xs.find? fun x => decide (x.1 = c)).map (·.2.2)
def tdput (xs : List TdE) (c : List Str) (q : Addr) (m : Int) : List TdE := if (tdv xs c).isSome then xs.map (fun x => if x.1 = c then (x.1, x.2.1, m) else x) else xs ++ [(c, q, m)]
/-- the keys stand -/
def KeysAt (H : Hp) (xs : List TdE) : Prop := ∀ x ∈ xs, TupF H x.2.1 (x.1.map V.str)
theorem KeysAt.up {H H' : Hp} {xs : List TdE} (h : KeysAt H xs) (e : Ex H H') : KeysAt H' xs := fun x hx => (h x hx).up e
theorem td_at {c : List Str} : ∀ {xs : List TdE} {vs : List TdV}, TdVs xs vs → (tdv xs c = none ∧ atKey vs (kk c) = none) ∨ ∃ m q t, tdv xs c = some m ∧ atKey vs (kk c) = some (q, Value.int m t)
  | _, _, .nil => .inl ⟨rfl, rfl⟩
  | x :: xs, v :: vs, .cons h t => by
    obtain ⟨h1, h2, tk, h3⟩ := h
    by_cases e : x.1 = c
    · refine .inr ⟨x.2.2, v.2.1, tk, ?_, ?_⟩
      · simp [tdv, e]
      · have e' : v.1 = kk c := by rw [h1, e]
        unfold atKey
        rw [List.find?_cons_of_pos (by simpa using e'), Option.map_some]
        rw [← h3]
    · have e' : ¬ v.1 = kk c := fun z => e (kk_inj (h1.symm.trans z))
      have a1 : tdv (x :: xs) c = tdv xs c := by
        unfold tdv
        rw [List.find?_cons_of_neg (by simpa using e)]
      have a2 : atKey (v :: vs) (kk c) = atKey vs (kk c) := by
        unfold atKey
        rw [List.find?_cons_of_neg (by simpa using e')]
      rw [a1, a2]
      exact td_at t
theorem td_some {c : List Str} {xs : List TdE} {vs : List TdV} (h : TdVs xs vs) : (tdv xs c).isSome = (atKey vs (kk c)).isSome := by
  rcases td_at (c := c) h with ⟨a, b⟩ | ⟨m, q, t, a, b⟩ <;> rw [a, b] <;> rfl
theorem td_repl {c : List Str} {m : Int} {tk : Tok} : ∀ {xs : List TdE} {vs : List TdV}, TdVs xs vs → TdVs (xs.map fun x => if x.1 = c then (x.1, x.2.1, m) else x) (vs.map (putAt (kk c) (Value.int m tk)))
  | _, _, .nil => .nil
  | x :: xs, v :: vs, .cons h t => by
    rw [List.map_cons, List.map_cons]
    refine .cons ?_ (td_repl t)
    obtain ⟨h1, h2, h3⟩ := h
    unfold putAt
    by_cases e : x.1 = c
    · rw [if_pos e, if_pos (by rw [h1, e])]
      exact ⟨h1, h2, tk, rfl⟩
    · rw [if_neg e, if_neg fun z => e (kk_inj (h1.symm.trans z))]
      exact ⟨h1, h2, h3⟩
theorem td_put {c : List Str} {q : Addr} {m : Int} {tk : Tok} {xs : List TdE} {vs : List TdV} (h : TdVs xs vs) : TdVs (tdput xs c q m) (storedH vs (kk c) q (Value.int m tk)) := by
  unfold tdput storedH
  rw [td_some h]
  split
  · exact td_repl h
  · exact Paired.snoc h ⟨rfl, rfl, tk, rfl⟩
theorem tdput_len (xs : List TdE) (c : List Str) (q : Addr) (m : Int) : (tdput xs c q m).length ≤ xs.length + 1 := by
  unfold tdput
  split
  · rw [List.length_map]; omega
  · rw [List.length_append]; simp
theorem tdput_keys {H : Hp} {xs : List TdE} {c : List Str} {q : Addr} {m : Int} (h : KeysAt H xs) (hq : TupF H q (c.map V.str)) : KeysAt H (tdput xs c q m) := fun x hx => by
  unfold tdput at hx
  split at hx
  · obtain ⟨y, hy, e⟩ := List.mem_map.mp hx
    by_cases e2 : y.1 = c
    · rw [if_pos e2] at e
      rw [← e]
      exact h y hy
    · rw [if_neg e2] at e
      rw [← e]
      exact h y hy
  · rcases List.mem_append.mp hx with hx | hx
    · exact h x hx
    · rw [List.mem_singleton.mp hx]
      exact hq
section
variable {P : Program} {w : World} {H : Hp} {h : Heap} {a q : Addr} {xs : List TdE} {c : List Str}
/-- a told tuple of texts is a key -/
theorem key_told (ok : HOk P w H h) (e : TupF H q (c.map V.str)) : (tupleKind (mixKind P w)).is h (kk c) q := by
  obtain ⟨ob, e, _⟩ := e
  obtain ⟨_, _, its, r, o, h1, h2, n, h3⟩ := ok q _ e
  rw [← kk_V] at r
  exact ⟨o, its.toArray, n, h1, h2, h3, by simpa using items_are r⟩
theorem td_ok (ok : HOk P w H h) (e : Rd H a (TD P w a xs)) (hk : KeysAt H xs) : xs.length ≤ sizeLine ∧ (a == sysModules) = false ∧ ∃ vs, TdVs xs vs ∧ h.DictOfH (tupleKind (mixKind P w)) a vs := by
  obtain ⟨⟨z, y, vs, r, o, es, ep, h1, h2, h3, h4, h5⟩, _⟩ := (show ObjOk P w H h a (TD P w a xs) from e.ok ok)
  refine ⟨z, y, vs, r, o, es, ep, h1, h2, h3, h4, fun v hv => ?_, h5⟩
  have all : ∀ {l : List TdE} {m : List TdV}, TdVs l m → (∀ x ∈ l, TupF H x.2.1 (x.1.map V.str)) → ∀ v ∈ m, (tupleKind (mixKind P w)).is h v.1 v.2.1 := by
    intro l m q
    induction q with
    | nil => intro _ v hv; cases hv
    | cons hq t ih =>
      intro hl v hv
      rcases List.mem_cons.mp hv with rfl | hv
      · rw [hq.1, hq.2.1]
        exact key_told ok (hl _ List.mem_cons_self)
      · exact ih (fun x hx => hl x (List.mem_cons_of_mem _ hx)) v hv
  exact all r hk v hv
theorem td_obj {vs : List TdV} (hz : xs.length ≤ sizeLine) (hd : (a == sysModules) = false) (r : TdVs xs vs) (dd : h.DictOfH (tupleKind (mixKind P w)) a vs) : ObjOk P w H h a (TD P w a xs) := by
  obtain ⟨o, es, ep, h1, h2, h3, h4, _, h5⟩ := dd
  refine ⟨⟨hz, hd, vs, r, o, es, ep, h1, h2, h3, h4, h5⟩, ⟨o, h1⟩, fun h1' h2' p k => ?_⟩
  obtain ⟨z, y, vs, r, o, es, ep, g1, g⟩ := p
  exact ⟨z, y, vs, r, o, es, ep, k _ g1, g⟩
/-- such a dict's own object -/
theorem td_raw (ok : HOk P w H h) (e : Rd H a (TD P w a xs)) : (a == sysModules) = false ∧ ∃ vs es ep, TdVs xs vs ∧ h.DictRaw a es ep ∧ es.size = xs.length ∧ ∀ (i : Nat) (x : TdE), xs[i]? = some x → ∃ (en : DictEntry) (t : Tok), es[i]? = some en ∧ en.key = Value.ref x.2.1 ∧ en.val = Value.int x.2.2 t := by
  obtain ⟨⟨z, y, vs, r, o, es, ep, h1, h2, h3, h4, h5⟩, _⟩ := (show ObjOk P w H h a (TD P w a xs) from e.ok ok)
  have l1 := size_of_entries h4
  have l2 : xs.length = vs.length := Paired.length r
  refine ⟨y, vs, es, ep, r, ⟨o, h1, h2, h3⟩, by omega, fun i x hx => ?_⟩
  obtain ⟨v, hv, e1, e2, t, e3⟩ := paired_get r hx
  have q := entry_at h4 i
  rw [hv] at q
  exact ⟨_, t, q, by show Value.ref v.2.1 = _; rw [e2], by show v.2.2 = _; rw [e3]⟩
end
section
variable {X : Cx} {pins : List (Addr × Obj)} {σ : L2.St} {H : Hp} {s : Shared} {a : Addr} {xs : List TdE}
theorem td_typed (I : Inv X pins σ H s) (e : Rd H a (TD X.prog X.w a xs)) : s.TypeIs (.ref a) "dict" ∧ (∀ b, Value.ref a = .ref b → ∃ ob, s.heap.get? b = some ob ∧ ob.dict = none) := by
  obtain ⟨_, vs, es, ep, _, ⟨o, h1, h2, h3⟩, _⟩ := td_raw I.hok e
  refine ⟨⟨o, h1, h2.1⟩, fun b q => ?_⟩
  cases q
  exact ⟨o, h1, h2.2.1⟩
/-- {} -/
def tTdNew (P : Program) (w : World) : TE := fun _ H Q => ∀ p, H p = none → Q (.ref p) (upd H p (TD P w p []))
theorem pe_tdnew {pos : Pos} : PE X (.Dict [] [] pos) (tTdNew X.prog X.w) := ⟨fun pins s σ H Q I h =>
  wpAny_Dict_empty ⟨.ref s.heap.objs.size, _, I.laid (a := s.heap.objs.size) (o := TD X.prog X.w s.heap.objs.size []) (t' := s.toks) (fun _ _ q => Heap.get?_push_of_some _ q) (Nat.le_refl _) (td_obj (Nat.zero_le _) (beq_eq_false_iff_ne.mpr (Ne.symm (Nat.ne_of_lt I.big))) .nil (Heap.DictOfH.new s.heap)), rfl, h _ (I.hok.fresh (Nat.le_refl _))⟩⟩
/-- {k: v} of one pair -/
def tTdOne (P : Program) (w : World) (tk tv : TE) : TE := fun σ H Q => ∀ p, H p = none → tPairs [(tk, tv)] σ (upd H p (TD P w p [])) fun ps H2 => ∃ q c m, ps = [(.ref q, .int m)] ∧ TupF H2 q (c.map V.str) ∧ H2 p = some (TD P w p []) ∧ Q (.ref p) (upd H2 p (TD P w p [(c, q, m)]))
theorem pe_tdone {k v : Expr} {tk tv : TE} {pos : Pos} (hu : X.A.units + 1 < cLine) (hk : PE X k tk) (hv : PE X v tv) : PE X (.Dict [some k] [v] pos) (tTdOne X.prog X.w tk tv) := by
  refine ⟨fun pins s σ H Q I q => ?_⟩
  have hn := I.hok.fresh (Nat.le_refl s.heap.objs.size)
  have I1 := I.laid (a := s.heap.objs.size) (o := TD X.prog X.w s.heap.objs.size []) (h' := s.heap.push { cls := .type "dict", data := .dict #[] }) (t' := s.toks) (fun _ _ q => Heap.get?_push_of_some _ q) (Nat.le_refl _) (td_obj (Nat.zero_le _) (beq_eq_false_iff_ne.mpr (Ne.symm (Nat.ne_of_lt I.big))) .nil (Heap.DictOfH.new s.heap))
  rw [arm_eval_Dict, zip_pairTrees [some k] [v] X.env pos rfl rfl, dictDisplay_pairs (pairTrees [some k] [v] X.env pos) (by simp [pairTrees]) (by simp [pairTrees])]
  refine wpAny_bind (wpAny_standAt (wpAny_bind (wpAny_subDictH (knd := tupleKind (mixKind X.prog X.w)) (by show X.A.units < cLine; omega) (by simp [pairTrees]) (thn ((pps_cons (pos := pos) hk hv pps_nil).run pins _ σ _ _ I1 (q _ hn)) fun ws s2 hw => ?_))))
  obtain ⟨ps, H2, I2, rel, q0, c, m, rfl, hq, hp, q2⟩ := hw
  obtain ⟨hz, hd, vs0, r0, dd⟩ := td_ok I2.hok (.inl hp) (fun x hx => nomatch hx)
  cases r0
  cases rel with
  | @cons _ b _ _ h1 t1 =>
    cases t1
    obtain ⟨b1, b2⟩ := b
    obtain ⟨h1, tk2, h2⟩ := h1
    cases h1
    have h2 : b2 = Value.int m tk2 := h2
    subst h2
    refine ⟨[(kk c, q0, Value.int m tk2)], ⟨rfl, rfl, key_told I2.hok hq, trivial⟩, dd, fun h' tk' dd' hs => ?_⟩
    have he : ∃ u, h'.get? s.heap.objs.size = some u := let ⟨u, _, _, hu, _⟩ := dd'; ⟨u, hu⟩
    exact wpAny_pure ⟨.ref s.heap.objs.size, _, d_write I2 (by rw [hp]; exact True.intro) hs he (td_obj (xs := [(c, q0, m)]) (by show 1 ≤ sizeLine; decide) hd (.cons ⟨rfl, rfl, tk2, rfl⟩ .nil) dd'), rfl, q2⟩
/-- d.get(k, x) -/
def tTdGet (P : Program) (w : World) (td ty tx : TE) : TE := fun σ H Q => td σ H fun x H1 => ∃ a xs0, x = .ref a ∧ Rd H1 a (TD P w a xs0) ∧ ty σ H1 fun y H2 => tx σ H2 fun z H3 => ∃ xs q c m, Rd H3 a (TD P w a xs) ∧ KeysAt H3 xs ∧ y = .ref q ∧ TupF H3 q (c.map V.str) ∧ z = .int m ∧ Q (.int ((tdv xs c).getD m)) H3
theorem pe_tdget {o e f : Expr} {td ty tx : TE} {apos cpos : Pos} (hu : X.A.units + 1 < cLine) (ho : PE X o td) (he : PE X e ty) (hf : PE X f tx) (m : M2 X o "get" apos e f cpos) : PE X (.Call (.Attribute o "get" apos) [e, f] [] cpos) (tTdGet X.prog X.w td ty tx) := by
  refine ⟨fun pins s σ H Q I h => ?_⟩
  refine wpAny_Call_method m.base m.few m.line PySem.F.plainAttrs_dict PySem.F.slot_dict_get PySem.F.type_dict_get (thn (ho.run pins s σ H _ I h) fun u s1 ⟨x, H1, I1, rx, a, xs0, ex, d, q1⟩ => ?_)
  subst ex
  obtain rfl : u = Value.ref a := rx
  obtain ⟨t1, t2⟩ := td_typed I1 d
  refine ⟨t1, t2, ?_⟩
  rw [m.trees]
  refine Calls.callWith_builtin rfl (Calls.evalArgs_plain (Calls.spliced_cons (thn (he.run pins s1 σ H1 _ I1 q1) fun iv s2 ⟨y, H2, I2, ry, q2⟩ =>
    Calls.spliced_cons (thn (hf.run pins s2 σ H2 _ I2 q2) fun fv s3 ⟨z, H3, I3, rz, xs, q, c, mm, hd, hk, ey, hq, ez, q3⟩ => Calls.spliced_nil ?_))))
  subst ey ez
  obtain rfl : iv = Value.ref q := ry
  obtain ⟨tz, rfl⟩ := rz
  obtain ⟨hz, hs, vs, r, dd⟩ := td_ok I3.hok hd hk
  refine call_meetsIn PySem.F.slot_dict_get dd.typeIs PySem.F.entry_dict_get (PySem.F.args_dict_get_3 _ _ _) (meetsH_dict_get_default (tupleKind (mixKind X.prog X.w)) a q hs (Value.int mm tz)) ⟨tupleKind_room_in1 hu, kk c, vs, key_told I3.hok hq, dd, _, H3, I3.tok _, ?_, q3⟩
  rcases td_at (c := c) r with ⟨e1, e2⟩ | ⟨m1, q1, t1, e1, e2⟩
  · rw [e1, e2]
    exact ⟨tz, rfl⟩
  · rw [e1, e2]
    exact ⟨t1, rfl⟩
/-- d[k] = v -/
def sTdPut (P : Program) (w : World) (td ty tv : TE) : TS := fun D σ H => tv σ H fun v H1 => td σ H1 fun x H2 => ty σ H2 fun y H3 => ∃ a xs q c m, x = .ref a ∧ y = .ref q ∧ v = .int m ∧ H3 a = some (TD P w a xs) ∧ KeysAt H3 xs ∧ TupF H3 q (c.map V.str) ∧ xs.length < sizeLine ∧ D.nx σ (upd H3 a (TD P w a (tdput xs c q m)))
theorem ps_tdput {o i value : Expr} {td ty tv : TE} {pos pos' : Pos} (hu : X.A.units + 1 < cLine) (ho : PE X o td) (hi : PE X i ty) (hv : PE X value tv) (hs : swapsWith value (some (.Subscript o i pos')) pos.line X.env = pure false) : PS X (.Assign [.Subscript o i pos'] value pos) (sTdPut X.prog X.w td ty tv) := by
  refine ⟨fun pins s σ H D I h => ?_⟩
  refine wpAny_Assign_Subscript (thn (hv.run pins s σ H _ I h) fun r s1 ⟨v, H1, I1, rv, q1⟩ => thn (ho.run pins s1 σ H1 _ I1 q1) fun u s2 ⟨x, H2, I2, rx, q2⟩ => thn (hi.run pins s2 σ H2 _ I2 q2) fun iv s3 ⟨y, H3, I3, ry, a, xs, q, c, m, ex, ey, ev, hd, hk, hq, hl, q3⟩ => ?_) hs
  subst ex ey ev
  obtain rfl : u = Value.ref a := rx
  obtain rfl : iv = Value.ref q := ry
  obtain ⟨tz, rfl⟩ := rv
  obtain ⟨hz, hsm, vs, rr, dd⟩ := td_ok I3.hok (.inl hd) hk
  refine wpAny_setItem_heap (hsz := by rw [← Paired.length rr]; exact hz) (tupleKind_room_in1 hu) (key_told I3.hok hq) dd fun h' dd' hsb => ?_
  have he : ∃ u, h'.get? a = some u := let ⟨u, _, _, hu, _⟩ := dd'; ⟨u, hu⟩
  have hl2 : (tdput xs c q m).length ≤ sizeLine := by have := tdput_len xs c q m; omega
  exact ⟨σ, _, d_write I3 (by rw [hd]; exact True.intro) hsb he (td_obj hl2 hsm (td_put rr) dd'), q3⟩
/-- the pairs of such a dict that stands still, each a new tuple -/
def Itd3 (P : Program) (w : World) (d : Addr) (o : Obj) (xs : List TdE) : It :=
  ⟨fun i H => H d = some (.frz o (TD P w d xs)) ∧ i < xs.length, fun i H x H' => ∃ T c q m, xs[i]? = some (c, q, m) ∧ x = .ref T ∧ H T = none ∧ H' = upd H T (.tup [.ref q, .int m]), fun i H => H d = some (.frz o (TD P w d xs)) ∧ xs.length ≤ i⟩
theorem td_frz {d : Addr} {o : Obj} (I : Inv X pins σ H s) (h : H d = some (.frz o (TD X.prog X.w d xs))) : (d == sysModules) = false ∧ ∃ es ep, o.data = .dict es ep ∧ s.heap.DictRaw d es ep ∧ es.size = xs.length ∧ ∀ (i : Nat) (x : TdE), xs[i]? = some x → ∃ (en : DictEntry) (t : Tok), es[i]? = some en ∧ en.key = Value.ref x.2.1 ∧ en.val = Value.int x.2.2 t := by
  obtain ⟨e1, vs, es, ep, _, hr, hz, hx⟩ := td_raw I.hok (.inr ⟨o, h⟩)
  obtain ⟨ob, g1, g2, g3⟩ := id hr
  obtain ⟨g4, _⟩ := I.hok d _ h
  rw [g1] at g4
  cases g4
  exact ⟨e1, es, ep, g3, hr, hz, hx⟩
end
section
variable {P : Program} {w : World} {K : PySem.W.Frag} {d : Addr} {o : Obj} {es : Array DictEntry} {ep : Nat}
theorem turn_td {xs : List TdE} {elts : List Expr} {k9 : Nat} {tpos : Pos} (it : Addr) (hod : o.data = .dict es ep) (hsz : es.size = xs.length) :
    Turn P w K (.Tuple elts k9 tpos) (Itd3 P w d o xs) [it] it (fun i h => ∃ ok ov, IsItemIter h it d i es.size ep ok ov) where
  mem := by simp
  obj := fun i h st b hb => by
    have e : b = it := by simpa using hb
    subst e
    obtain ⟨ok, ov, e⟩ := st
    exact ⟨_, e, fun v z => nomatch z⟩
  keep := fun i h h' st k => let ⟨ok, ov, e⟩ := st; ⟨ok, ov, k it (by simp) _ e⟩
  item := by
    intro X hP hw hK hc i pins s σ H E I hf st hg
    subst hP hw hK
    obtain ⟨hd, hi⟩ := hg
    obtain ⟨_, es', ep', hdt, hr, hz, hx⟩ := td_frz I hd
    obtain ⟨rfl, rfl⟩ := dict_ep hod hdt
    have hxi : xs[i]? = some xs[i] := List.getElem?_eq_getElem hi
    generalize xs[i] = x at hxi
    obtain ⟨c, q, m⟩ := x
    obtain ⟨en, t, h1, h2, h3⟩ := hx i _ hxi
    obtain ⟨ok, ov, he⟩ := st
    have hlt : it < s.heap.objs.size := Heap.lt_size he
    have hie : i < es'.size := by omega
    have hen : es'[i] = en := by
      rw [Array.getElem?_eq_getElem hie] at h1
      exact Option.some.inj h1
    refine wpAny_pyNext_items_item_raw he hr hie fun h' ho hT hzz hk => ?_
    rw [hen, h2, h3] at ho hT
    refine ⟨_, rfl, wpAny_letOwnedTupleGo_items (s := { s with heap := h' }) ho fun h'' he' sb => ?_⟩
    have hT2 : h''.get? s.heap.objs.size = some { cls := .type "tuple", data := .seq #[Value.ref q, Value.int m t] } := (sb.2 _ (Nat.ne_of_gt hlt)).trans hT
    have new : ObjOk X.prog X.w (upd H s.heap.objs.size (.tup [.ref q, .int m])) h'' s.heap.objs.size (.tup [.ref q, .int m]) :=
      ⟨by show 2 ≤ sizeLine; decide, [Value.ref q, Value.int m t], .cons rfl (.cons ⟨t, rfl⟩ .nil), ⟨_, hT2, rfl, _, rfl⟩⟩
    have I1 : Inv X pins σ (upd H s.heap.objs.size (.tup [.ref q, .int m])) { s with heap := h'' } :=
      I.turnedNew (t' := s.toks) (ch := [it]) (fun b ob hb e => (sb.2 b (by simpa using hb)).trans (hk b ob (by simpa using hb) e)) hf (Nat.le_refl _) new
    refine ⟨.ref s.heap.objs.size, _, I1, rfl, ⟨_, c, q, m, hxi, rfl, I.hok.fresh (Nat.le_refl _), rfl⟩, ⟨_, _, he'⟩, fun b hb => ?_⟩
    have e : b = it := by simpa using hb
    rw [e, upd_ne (Nat.ne_of_lt hlt)]
    exact (hf it (by simp)).1
  done := by
    intro X hP hw hK hc i pins s σ H E I hf st hg
    subst hP hw hK
    obtain ⟨hd, hi⟩ := hg
    obtain ⟨f0, f1, f2, f3, f4, f5⟩ := hf it (by simp)
    obtain ⟨_, es', ep', hdt, hr, hz, hx⟩ := td_frz I hd
    obtain ⟨rfl, rfl⟩ := dict_ep hod hdt
    obtain ⟨ok, ov, he⟩ := st
    exact wpAny_pyNext_items_end_raw (I.ok.hd hc) he hr (by omega) fun h' eb => ⟨rfl, I.turned (t' := s.toks) (fun b ob hb e => eb b ob hb e) f0 f1 f3 f4 f5⟩
  self := fun A i s Q E st h => let ⟨_, _, e⟩ := st; PySem.W.kcp_self e h
end
section
variable {X : Cx} {tg e : Expr} {td : TE} {apos cpos p pos : Pos}
def iTd (P : Program) (w : World) (td : TE) : TI := fun σ H R => td σ H fun x H1 => ∃ d o xs, x = .ref d ∧ H1 d = some (.frz o (TD P w d xs)) ∧ R (Itd3 P w d o xs) H1
theorem pi_td {elts : List Expr} {k9 : Nat} {tpos : Pos} (he : PE X e td) (hbase : attributeBase e "items" X.env (eval e X.env) = eval e X.env := by rfl) (hline : (apos.endLine == cpos.line) = true := by rfl) :
    PI X (.Tuple elts k9 tpos) (.Call (.Attribute e "items" apos) [] [] cpos) (iTd X.prog X.w td) := by
  refine ⟨fun pins s σ H R I h => ?_⟩
  refine wpAny_Call_method (T := "dict") (id := "dict.items") hbase rfl hline F.plainAttrs_dict F.slot_dict_items F.type_dict_items (thn (he.run pins s σ H _ I h) fun u s1 ⟨x, H1, I1, rx, d, o, xs, ex, hd, q⟩ => ?_)
  subst ex
  obtain rfl : u = Value.ref d := rx
  obtain ⟨hs, es, ep, hdt, hr, hz, hx⟩ := td_frz I1 hd
  obtain ⟨t1, t2⟩ := td_typed I1 (.inr ⟨o, hd⟩)
  refine ⟨t1, t2, ?_⟩
  have I2 : Inv X pins σ H1 { s1 with heap := s1.heap.push { cls := .type "dict_items", data := .fields #[.ref d] } } := I1.kept (t' := s1.toks) fun b ob q => Heap.get?_push_of_some _ q
  have hr2 : Heap.DictRaw (s1.heap.push { cls := .type "dict_items", data := .fields #[.ref d] }) d es ep := hr.at fun o e => Heap.get?_push_of_some _ e
  have fin : wpAny (model X.prog X.w) X.A (pyIter (.ref s1.heap.objs.size)) (PIE X pins σ (.Tuple elts k9 tpos) R) X.xe { s1 with heap := s1.heap.push { cls := .type "dict_items", data := .fields #[.ref d] } } :=
    wpAny_pyIter_items_raw (d := d) ⟨_, Heap.get?_push_size _ rfl, rfl, rfl⟩ hr2 (pi_one (tk := s1.toks) I2 _ (turn_td _ hdt hz) ⟨.none, .none, Heap.get?_push_size _ rfl⟩ q)
  show wpAny _ _ (callWith cpos (.builtin "dict.items") [.ref d] [] []) _ X.xe s1
  exact method_meetsIn F.slot_dict_items F.entry_dict_items rfl (PySem.evalArgs_none ⟨rfl, t1, F.args_dict_items_1 _, _, meets_dict_items_raw d hs, ⟨es, ep, hr⟩, fin⟩)
/-- sum(d.values()) -/
def tTdSum (P : Program) (w : World) (td : TE) : TE := fun σ H Q => td σ H fun x H1 => ∃ d o xs, x = .ref d ∧ H1 d = some (.frz o (TD P w d xs)) ∧ Q (.int (xs.map (·.2.2)).sum) H1
theorem pre_sum (xs : List TdE) (f : Nat → Int) (hf : ∀ i x, xs[i]? = some x → f i = x.2.2) : ∀ n, n ≤ xs.length → preSum f n = ((xs.take n).map (·.2.2)).sum
  | 0, _ => by simp [preSum]
  | n + 1, hn => by
    have hlt : n < xs.length := hn
    rw [List.take_add_one, List.getElem?_eq_getElem hlt, List.map_append, List.sum_append, ← pre_sum xs f hf n (Nat.le_of_lt hlt)]
    show preSum f n + f n = _
    rw [hf n _ (List.getElem?_eq_getElem hlt)]
    simp
theorem pe_tdsum (hc : X.calm = true) (he : PE X e td) (hg : Gl X "sum") (hm : X.mg "sum" = none) (hbase : attributeBase e "values" X.env (eval e X.env) = eval e X.env := by rfl) (hline : (apos.endLine == cpos.line) = true := by rfl)
    (hs : starEach [.Call (.Attribute e "values" apos) [] [] cpos] X.env = (false, eval (.Call (.Attribute e "values" apos) [] [] cpos) X.env) :: starEach [] X.env := by rfl) :
    PE X (.Call (.Name "sum" p) [.Call (.Attribute e "values" apos) [] [] cpos] [] pos) (tTdSum X.prog X.w td) := by
  refine ⟨fun pins s σ H Q I hq => ?_⟩
  refine wpAny_Call_Name_kw (ld_blt I hg hm boot_sum ?_)
  refine PyProof.Rows.callWith_builtin1 ?_ hs rfl
  rw [hs]
  show wpAny _ _ (spliced ((false, eval (.Call (.Attribute e "values" apos) [] [] cpos) X.env) :: backTo pos (starEach [] X.env))) _ _ s
  refine Calls.spliced_cons ?_
  refine wpAny_Call_method (T := "dict") (id := "dict.values") hbase rfl hline F.plainAttrs_dict F.slot_dict_values F.type_dict_values (thn (he.run pins s σ H _ I hq) fun u s1 ⟨x, H1, I1, rx, d, o, xs, ex, hd, q⟩ => ?_)
  subst ex
  obtain rfl : u = Value.ref d := rx
  obtain ⟨hsm, es, ep, hdt, hr, hz, hx⟩ := td_frz I1 hd
  obtain ⟨t1, t2⟩ := td_typed I1 (.inr ⟨o, hd⟩)
  refine ⟨t1, t2, ?_⟩
  show wpAny _ _ (callWith cpos (.builtin "dict.values") [.ref d] [] []) _ X.xe s1
  refine method_meetsIn F.slot_dict_values F.entry_dict_values rfl (PySem.evalArgs_none ⟨rfl, t1, F.args_dict_values_1 _, _, meets_dict_values_raw d hsm, ⟨es, ep, hr⟩, ?_⟩)
  refine Calls.spliced_nil ?_
  have I2 : Inv X pins σ H1 { s1 with heap := s1.heap.push { cls := .type "dict_values", data := .fields #[.ref d] } } := I1.kept (t' := s1.toks) fun b ob q => Heap.get?_push_of_some _ q
  have hr2 : Heap.DictRaw (s1.heap.push { cls := .type "dict_values", data := .fields #[.ref d] }) d es ep := hr.at fun o e => Heap.get?_push_of_some _ e
  let f : Nat → Int := fun i => match xs[i]? with
    | some x => x.2.2
    | none => 0
  have hd2 : d < (s1.heap.push { cls := .type "dict_values", data := .fields #[.ref d] }).objs.size := let ⟨_, g, _⟩ := hr2; Heap.lt_size g
  refine call_sum_walkG (wpAny_pyIter_values_raw (d := d) ⟨_, Heap.get?_push_size _ rfl, rfl, rfl⟩ hr2 ?_)
  refine ⟨_, _, _, _, _, _, f, rfl, Walks.rawValues (A := X.A.in1) (by simp [I.ok.hd hc]) _ d (Nat.ne_of_lt hd2) es ep, ⟨⟨_, Heap.get?_push_size _ rfl, rfl, rfl⟩, hr2.at fun o e => Heap.get?_push_of_some _ e⟩, ?_, ?_, ?_⟩
  · intro b hb
    simp only [List.mem_cons, List.not_mem_nil, or_false] at hb
    rw [Heap.size_push]
    rcases hb with rfl | rfl
    · exact Nat.lt_succ_self _
    · exact Nat.lt_succ_of_lt hd2
  · rintro i v ⟨hi, rfl⟩
    have hxi : i < xs.length := by omega
    obtain ⟨en, t, h1, _, h3⟩ := hx i _ (List.getElem?_eq_getElem hxi)
    rw [Array.getElem?_eq_getElem hi] at h1
    rw [Option.some.inj h1, h3]
    refine ⟨t, ?_⟩
    show _ = Value.int (match xs[i]? with
      | some x => x.2.2
      | none => 0) t
    rw [List.getElem?_eq_getElem hxi]
  · intro h' tk t' hk
    have e1 : preSum f es.size = (xs.map (·.2.2)).sum := by
      have := pre_sum xs f (fun i x hx => by
        show (match xs[i]? with
          | some x => x.2.2
          | none => 0) = _
        rw [hx]) xs.length (Nat.le_refl _)
      rw [List.take_length] at this
      rw [hz]
      exact this
    rw [e1]
    refine ⟨.int (xs.map (·.2.2)).sum, H1, I1.kept (t' := tk) fun b o e => ?_, ⟨t', rfl⟩, q⟩
    have hb1 : b < s1.heap.objs.size := Heap.lt_size e
    refine hk b o (fun hb => ?_) (Heap.get?_push_of_some _ (Heap.get?_push_of_some _ e))
    have hb2 : b = (s1.heap.push { cls := .type "dict_values", data := .fields #[.ref d] }).objs.size := List.mem_singleton.mp hb
    rw [Heap.size_push] at hb2
    rw [hb2] at hb1
    exact Nat.not_lt_of_le (Nat.le_succ _) hb1
end
end K97
set_option Elab.async false
set_option linter.all false
set_option maxRecDepth 100000
set_option maxHeartbeats 4000000
/-! K97: counting by dicts keyed by tuples of texts. -/
namespace K97
open Dt (en)
open PySem L2
/-- slot j: a dict keyed by tuples; it counts as others' -/
structure Ct (P : Program) (w : World) (K : Fg) (F : Addr → Prop) (B : Hp) (j : Nat) (Γ : En) (xs : List TdE) (F' : Addr → Prop) (σ : L2.St) (H : Hp) : Prop where
  env : EnvR K F' B Γ σ H
  sl : Γ[j]? = some .no
  obj : ∃ p, (∀ a, F' a ↔ F a ∨ a = p) ∧ ¬ F p ∧ B p = none ∧ σ[j]? = some (some (.ref p)) ∧ H p = some (TD P w p xs) ∧ KeysAt (frz F' Γ σ H) xs
def StCt (P : Program) (w : World) (K : Fg) (j : Nat) (Γ : En) (I : List TdE → Prop) (ts : TS) (Γ' : En) (I' : List TdE → Prop) : Prop := ∀ (F : Addr → Prop) (B : Hp) (F' : Addr → Prop) (D : Ends) (σ : L2.St) (H : Hp) (xs : List TdE), Ct P w K F B j Γ xs F' σ H → I xs →
  (∀ F2 σ' H' xs', Ct P w K F B j Γ' xs' F2 σ' H' → I' xs' → Ex (frz F' Γ σ H) (frz F2 Γ' σ' H') → D.nx σ' H') → ts D σ H
section
variable {P : Program} {w : World} {K : Fg} {F F' : Addr → Prop} {B H H' : Hp} {j : Nat} {Γ Γ' Γ1 Γ2 : En} {xs ys : List TdE} {σ : L2.St} {ts tu : TS} {I I' I1 : List TdE → Prop} {te tk tv tm ti : TE} {d : PyData} {N : En → Prop} {R : PyData → En → Prop}
theorem Ct.ext (g : Ct P w K F B j Γ xs F' σ H) (e : Ex H H') : Ct P w K F B j Γ xs F' σ H' := by
  obtain ⟨p, h1, h2, h3, h4, h5, h6⟩ := g.obj
  exact ⟨g.env.ext e, g.sl, p, h1, h2, h3, h4, e _ _ h5, h6.up (cut_mono e)⟩
theorem Ct.wk (g : Ct P w K F B j Γ xs F' σ H) (wk : Wk Γ Γ') (hs : Γ'[j]? = some .no) : Ct P w K F B j Γ' xs F' σ H := by
  obtain ⟨p, h1, h2, h3, h4, h5, h6⟩ := g.obj
  have e : frz F' Γ' σ H = frz F' Γ σ H := by rw [frz, frz, wk.mu]
  exact ⟨g.env.wk wk, hs, p, h1, h2, h3, h4, h5, e ▸ h6⟩
theorem ct_seq (a : StCt P w K j Γ I ts Γ1 I1) (b : StCt P w K j Γ1 I1 tu Γ2 I') : StCt P w K j Γ I (tSeq ts tu) Γ2 I' := fun F B F' D σ H xs g hI n =>
  a F B F' { D with nx := tu D } σ H xs g hI fun F2 σ2 H2 ys g2 h2 x2 => b F B F2 D σ2 H2 ys g2 h2 fun F3 σ3 H3 zs g3 h3 x3 => n F3 σ3 H3 zs g3 h3 (x2.tr x3)
theorem ct_wk (a : StCt P w K j Γ I ts Γ1 I1) (wk : Wk Γ1 Γ2) (hs : Γ2[j]? = some .no) : StCt P w K j Γ I ts Γ2 I1 := fun F B F' D σ H xs g hI n =>
  a F B F' D σ H xs g hI fun F2 σ2 H2 ys g2 h2 x2 => n F2 σ2 H2 ys (g2.wk wk hs) h2 (by
    have e : frz F2 Γ2 σ2 H2 = frz F2 Γ1 σ2 H2 := by rw [frz, frz, wk.mu]
    rw [e]
    exact x2)
theorem ct_set {i : Nat} {e : Ent} (h : EvG K Γ te d) (hi : Γ[i]? = some e) (he : e.mut = false) (hij : i ≠ j) : StCt P w K j Γ I (tAsg te (gName i)) (Γ.set i (.im d)) I := fun F B F' D σ H xs g hI n =>
  h F' B σ H g.env _ fun v H1 e1 rv => by
    have g1 := g.ext e1
    have hm := mu_set (σ := σ) (x := some v) (e' := .im d) hi he rfl
    have E2 := g1.env.put (x := some v) (e' := .im d) hi he rfl fun d' z => ⟨v, rfl, by cases z; exact rv⟩
    have ef : frz F' (Γ.set i (.im d)) (σ.set i (some v)) H1 = frz F' Γ σ H1 := by rw [frz, frz, hm]
    obtain ⟨p, h1, h2, h3, h4, h5, h6⟩ := g1.obj
    refine n F' _ H1 xs ⟨E2, by rw [List.getElem?_set_ne hij]; exact g.sl, p, h1, h2, h3, by rw [List.getElem?_set_ne hij]; exact h4, h5, ef ▸ h6⟩ hI ?_
    rw [ef]
    exact cut_mono e1
theorem ct_mk {e : Ent} {p : Addr} (E : EnvR K F B Γ σ H) (hj : Γ[j]? = some e) (he : e.mut = false) (hp : H p = none) (ex : Ex H H') (hq : H' p = some (TD P w p xs)) (hk : KeysAt (cut (fun a => (F a ∨ a = p) ∨ mu Γ σ a) H') xs) :
    Ct P w K F B j (Γ.set j .no) xs (fun a => F a ∨ a = p) (σ.set j (some (.ref p))) H' ∧ Ex (frz F Γ σ H) (frz (fun a => F a ∨ a = p) (Γ.set j .no) (σ.set j (some (.ref p))) H') := by
  have hB : B p = none := by
    cases w : B p with
    | none => rfl
    | some o => rw [E.base _ _ w] at hp; cases hp
  have hjl : j < Γ.length := (List.getElem?_eq_some_iff.mp hj).1
  have hjs : j < σ.length := by rw [E.len]; exact hjl
  have E1 : EnvR K (fun a => F a ∨ a = p) B Γ σ H' := E.addF hp ex (by rw [hq]; simp)
  have E2 := E1.put (x := some (V.ref p)) hj he (e' := .no) rfl fun d' z => nomatch z
  have m2 := mu_set (σ := σ) (x := some (V.ref p)) (e' := .no) hj he rfl
  refine ⟨⟨E2, List.getElem?_set_self hjl, p, fun a => Iff.rfl, fun w => E.fin p w hp, hB, List.getElem?_set_self hjs, hq, ?_⟩, ?_⟩
  · rw [frz, m2]
    exact hk
  · rw [frz, frz, m2]
    intro a o w
    obtain ⟨n1, n2⟩ := cut_some w
    refine cut_of (fun u => ?_) (ex _ _ n2)
    rcases u with (u | u) | u
    · exact n1 (.inl u)
    · rw [u, hp] at n2; cases n2
    · exact n1 (.inr u)
/-- it stands still from here on -/
theorem Ct.freeze (g : Ct P w K F B j Γ xs F' σ H) (od : Obj) : ∃ p, σ[j]? = some (some (.ref p)) ∧ H p = some (TD P w p xs) ∧ EnvR K F B Γ σ (upd H p (.frz od (TD P w p xs))) ∧ frz F Γ σ (upd H p (.frz od (TD P w p xs))) p = some (.frz od (TD P w p xs)) ∧ KeysAt (frz F Γ σ (upd H p (.frz od (TD P w p xs)))) xs ∧ Ex (frz F' Γ σ H) (frz F Γ σ (upd H p (.frz od (TD P w p xs)))) := by
  obtain ⟨p, h1, h2, h3, h4, h5, h6⟩ := g.obj
  have pF : F' p := (h1 p).mpr (.inr rfl)
  have kp : ∀ a o, a ≠ p → H a = some o → upd H p (.frz od (TD P w p xs)) a = some o := fun a o w z => by rw [upd_ne w]; exact z
  have E1 := g.env.but (H' := upd H p (.frz od (TD P w p xs))) pF h3 kp (by rw [upd_same]; simp)
  have fF : ∀ a, F a → F' a := fun a w => (h1 a).mpr (.inl w)
  have E2 := E1.less fF
  have x1 : Ex (frz F' Γ σ H) (frz F' Γ σ (upd H p (.frz od (TD P w p xs)))) := cut_but (.inl pF) kp
  have x2 : Ex (frz F' Γ σ (upd H p (.frz od (TD P w p xs)))) (frz F Γ σ (upd H p (.frz od (TD P w p xs)))) := cut_less fun a w => w.elim (fun u => .inl (fF a u)) .inr
  exact ⟨p, h4, h5, E2, cut_of (fun u => u.elim h2 fun m => g.env.out p m pF) upd_same, h6.up (x1.tr x2), x1.tr x2⟩
/-- a loop of such statements -/
theorem ct_forR {pr : Bool} {wi : TI} {g : TG} {ds : List PyData} {D : Ends} (Iv : Nat → List TdE → Prop) (g0 : Ct P w K F B j Γ xs F' σ H) (h0 : Iv 0 xs) (hi : ∀ R : It → Hp → Prop, (∀ J H1, Ex H H1 → Drv pr K (frz F' Γ σ H1) J ds → R J H1) → wi σ H R) (hs : ∀ i d, ds[i]? = some d → ∃ Γ2 js Γ3, TgG pr K Γ g d Γ2 js ∧ j ∉ js ∧ Γ2[j]? = some .no ∧ StCt P w K j Γ2 (Iv i) ts Γ3 (Iv (i + 1)) ∧ Wk Γ3 Γ)
    (n : ∀ F2 σ' H' ys, Ct P w K F B j Γ ys F2 σ' H' → Iv ds.length ys → Ex (frz F' Γ σ H) (frz F2 Γ σ' H') → D.nx σ' H') : tFor wi g ts D σ H :=
  hi _ fun J H1 e1 dr => by
    refine ⟨fun i c σ' H' => c = ds.length - i ∧ i ≤ ds.length ∧ ∃ F2 ys, Ct P w K F B j Γ ys F2 σ' H' ∧ Iv i ys ∧ Ex (frz F' Γ σ H1) (frz F2 Γ σ' H'), ⟨ds.length, by simp, Nat.zero_le _, F', xs, g0.ext e1, h0, Ex.rfl' _⟩, ?_⟩
    rintro i c σ' H' ⟨rfl, hil, F2, ys, g2, hI, x'⟩
    obtain ⟨d1, d2, d3⟩ := dr _ H' x'
    by_cases hlt : i < ds.length
    · refine .inr ⟨d2 i hlt, fun σ'' H'' => ∃ F3 zs, Ct P w K F B j Γ zs F3 σ'' H'' ∧ Iv (i + 1) zs ∧ Ex (frz F' Γ σ H1) (frz F3 Γ σ'' H''), fun σ'' H'' ⟨F3, zs, q1, q2, q3⟩ => ⟨ds.length - (i + 1), by omega, rfl, hlt, F3, zs, q1, q2, q3⟩, fun v H3 hy => ?_⟩
      have hdi : ds[i]? = some ds[i] := List.getElem?_eq_getElem hlt
      obtain ⟨e3, ry⟩ := d3 i _ hdi v H3 hy
      obtain ⟨Γ2, js, Γ3, tg, hj, hn, st, wk⟩ := hs i _ hdi
      have g3 := g2.ext e3
      refine tg F2 B σ' H3 v g3.env ry _ fun σ2 E4 m4 _ hsame => ?_
      have ef : frz F2 Γ2 σ2 H3 = frz F2 Γ σ' H3 := by rw [frz, frz, m4]
      have g4 : Ct P w K F B j Γ2 ys F2 σ2 H3 := by
        obtain ⟨p, h1, h2, h3, h4, h5, h6⟩ := g3.obj
        exact ⟨E4, hn, p, h1, h2, h3, by rw [hsame j hj]; exact h4, h5, ef ▸ h6⟩
      have x4 : Ex (frz F' Γ σ H1) (frz F2 Γ2 σ2 H3) := by
        rw [ef]
        exact x'.tr (cut_mono e3)
      refine st F B F2 _ σ2 H3 ys g4 hI fun F5 σ5 H5 zs g5 h5 x5 => ⟨F5, zs, g5.wk wk g0.sl, h5, ?_⟩
      have e5 : frz F5 Γ σ5 H5 = frz F5 Γ3 σ5 H5 := by rw [frz, frz, wk.mu]
      rw [e5]
      exact x4.tr x5
    · have hie : i = ds.length := by omega
      subst hie
      exact .inl ⟨d1, n F2 σ' H' ys g2 hI ((cut_mono e1).tr x')⟩
theorem ct_for {pr : Bool} {wi : TI} {g : TG} {ds : List PyData} (Iv : Nat → List TdE → Prop) (hj : Γ[j]? = some .no) (hi : ItG pr K Γ wi ds) (h0 : ∀ xs, I xs → Iv 0 xs) (hs : ∀ i d, ds[i]? = some d → ∃ Γ2 js Γ3, TgG pr K Γ g d Γ2 js ∧ j ∉ js ∧ Γ2[j]? = some .no ∧ StCt P w K j Γ2 (Iv i) ts Γ3 (Iv (i + 1)) ∧ Wk Γ3 Γ) (hd : ∀ xs, Iv ds.length xs → I' xs) : StCt P w K j Γ I (tFor wi g ts) Γ I' := fun F B F' D σ H xs g0 hI n =>
  ct_forR Iv g0 (h0 xs hI) (fun R h => hi F' B σ H g0.env R h) hs fun F2 σ' H' ys g2 h2 x2 => n F2 σ' H' ys g2 (hd ys h2) x2
theorem pair_ok {x : TdE} {G : Hp} (h : TupF G x.2.1 (x.1.map V.str)) : Rp K G (.ref x.2.1) (en x.1) := by
  refine .tup h ?_
  generalize x.1 = c
  induction c with
  | nil => exact .nil
  | cons a c ih => exact .cons (.str a) ih
abbrev tdp (x : TdE) : PyData := .tuple [en x.1, .int x.2.2]
theorem drv_td {G : Hp} {p : Addr} {o : Obj} (h : G p = some (.frz o (TD P w p xs))) (hk : KeysAt G xs) : Drv true K G (Itd3 P w p o xs) (xs.map tdp) := fun M H2 e2 => by
  have hp : H2 p = some (.frz o (TD P w p xs)) := cut_ex _ _ (e2 _ _ h)
  refine ⟨⟨hp, by rw [List.length_map]; exact Nat.le_refl _⟩, fun i hi => ⟨hp, by rw [List.length_map] at hi; exact hi⟩, fun i d hd x H3 y => ?_⟩
  obtain ⟨T, c, q, m, h1, rfl, hT, rfl⟩ := y
  rw [List.getElem?_map, h1] at hd
  cases hd
  have eT := Ex.new (o := .tup [.ref q, .int m]) hT
  refine ⟨eT, T, .ref q, .int m, en c, .int m, rfl, rfl, .inl (.inl upd_same), ?_, .int m⟩
  exact ((pair_ok (K := K) (hk _ (List.mem_of_getElem? h1))).up e2).up (cut_mono eT)
/-- one turn over all that was found -/
theorem ct_turn {g : TG} (h2 : Γ[2]? = some .no) (h4 : Γ[4]? = some .no) (hs : ∀ xs, I xs → ∃ Iv : Nat → List TdE → Prop, Iv 0 [] ∧ (∀ i x, xs[i]? = some x → ∃ Γ2 js Γ3, TgG true K Γ g (tdp x) Γ2 js ∧ 4 ∉ js ∧ Γ2[4]? = some .no ∧ StCt P w K 4 Γ2 (Iv i) ts Γ3 (Iv (i + 1)) ∧ Wk Γ3 Γ) ∧ ∀ ys, Iv xs.length ys → I' ys) :
    StCt P w K 2 Γ I (tFz 2 (tSeq (tAsg (tTdNew P w) (gName 4)) (tSeq (tFor (iTd P w (tVar 2)) g ts) (tAsg (tVar 4) (gName 2))))) Γ I' := fun F B F' D σ H xs g0 hI n => by
  obtain ⟨p, q1, q2, _⟩ := g0.freeze default
  refine ⟨p, _, q1, q2, trivial, fun od => ?_⟩
  obtain ⟨p', q1', _, E, q3, q4, x0⟩ := g0.freeze od
  rw [q1] at q1'
  cases q1'
  generalize upd H p (.frz od (TD P w p xs)) = H1 at *
  intro p4 hp4
  have e1 : Ex H1 (upd H1 p4 (TD P w p4 [])) := Ex.new hp4
  obtain ⟨g4, x4⟩ := ct_mk (xs := []) E h4 rfl hp4 e1 upd_same fun x hx => nomatch hx
  have n4 : Γ.set 4 .no = Γ := by
    apply List.ext_getElem?
    intro i
    by_cases z : 4 = i
    · subst z
      rw [List.getElem?_set_self (List.getElem?_eq_some_iff.mp h4).1, h4]
    · rw [List.getElem?_set_ne z]
  rw [n4] at g4 x4
  show tFor (iTd P w (tVar 2)) g ts { D with nx := tAsg (tVar 4) (gName 2) D } (σ.set 4 (some (V.ref p4))) (upd H1 p4 (TD P w p4 []))
  have s2 : (σ.set 4 (some (V.ref p4)))[2]? = some (some (.ref p)) := by rw [List.getElem?_set_ne (by decide)]; exact q1
  generalize σ.set 4 (some (V.ref p4)) = σ1 at *
  generalize (fun a => F a ∨ a = p4) = F4 at *
  generalize upd H1 p4 (TD P w p4 []) = H4 at *
  have hf := x4 _ _ q3
  have hk := q4.up x4
  obtain ⟨Iv, i0, is, ie⟩ := hs xs hI
  refine ct_forR (P := P) (w := w) (ds := xs.map tdp) (pr := true) Iv g4 i0 (fun R h => ?_) (fun i d hd => ?_) fun F2 σ2 H2 ys g2 hy x2 => ?_
  · exact ⟨_, s2, p, od, xs, rfl, cut_ex _ _ hf, h _ H4 (Ex.rfl' _) (drv_td hf hk)⟩
  · rw [List.getElem?_map] at hd
    obtain ⟨x, hx, rfl⟩ := Option.map_eq_some_iff.mp hd
    exact is i x hx
  · rw [List.length_map] at hy
    obtain ⟨p2, z1, z2, z3, z4, z5, z6⟩ := g2.obj
    refine ⟨.ref p2, z4, ?_⟩
    have m2 := mu_set (σ := σ2) (x := some (V.ref p2)) (e' := .no) h2 rfl rfl
    have E2 := g2.env.put (x := some (V.ref p2)) (e' := .no) h2 rfl rfl fun d' z => nomatch z
    have n2 : Γ.set 2 .no = Γ := by
      apply List.ext_getElem?
      intro i
      by_cases z : 2 = i
      · subst z
        rw [List.getElem?_set_self (List.getElem?_eq_some_iff.mp h2).1, h2]
      · rw [List.getElem?_set_ne z]
    rw [n2] at m2 E2
    have ef : frz F2 Γ (σ2.set 2 (some (V.ref p2))) H2 = frz F2 Γ σ2 H2 := by rw [frz, frz, m2]
    refine n F2 _ H2 ys ⟨E2, h2, p2, z1, z2, z3, List.getElem?_set_self ?_, z5, ef ▸ z6⟩ (ie ys hy) ?_
    · rw [g2.env.len]
      exact (List.getElem?_eq_some_iff.mp h2).1
    · rw [ef]
      exact (x0.tr x4).tr x2
/-- d[k] = d.get(k, 0) + m -/
theorem ct_put {c : List Str} {m : Int} (hk : EvG K Γ tk (en c)) (hm : EvG K Γ tm (.int m)) (hI : ∀ xs q, I xs → xs.length < 1000000 ∧ I' (tdput xs c q ((tdv xs c).getD 0 + m))) :
    StCt P w K j Γ I (sTdPut P w (tVar j) tk (tOp (rI0 fun i j => V.int (i + j)) (tTdGet P w (tVar j) tk (tC (.int 0))) tm)) Γ I' := fun F B F' D σ H xs g hi n => by
  have key : ∀ {G : Hp} {v : V}, Rp K G v (en c) → ∃ q, v = .ref q ∧ TupF G q (c.map V.str) := fun {G v} r => by
    cases r with
    | tup h1 h2 =>
      have e := RpAll.strs h2
      subst e
      exact ⟨_, rfl, h1⟩
  obtain ⟨p, h1, h2, h3, h4, h5, h6⟩ := g.obj
  refine ⟨.ref p, h4, p, xs, rfl, .inl h5, ?_⟩
  refine hk F' B σ H g.env _ fun y Ha ea ry => ?_
  obtain ⟨q, rfl, hq⟩ := key ry
  have ga := g.ext ea
  refine ⟨xs, q, c, 0, .inl (ea _ _ h5), (h6.up (cut_mono ea)).up cut_ex, rfl, hq.up cut_ex, rfl, ?_⟩
  refine hm F' B σ Ha ga.env _ fun z Hb eb rz => ?_
  have gb := ga.ext eb
  cases rz
  refine ⟨_, _, rfl, rfl, ?_⟩
  refine ⟨.ref p, h4, ?_⟩
  refine hk F' B σ Hb gb.env _ fun y2 Hc ec ry2 => ?_
  obtain ⟨q2, rfl, hq2⟩ := key ry2
  have gc := gb.ext ec
  obtain ⟨p', a1, a2, a3, a4, a5, a6⟩ := gc.obj
  rw [h4] at a4
  cases a4
  obtain ⟨b1, b2⟩ := hI xs q2 hi
  refine ⟨p, xs, q2, c, _, rfl, rfl, rfl, a5, a6.up cut_ex, hq2.up cut_ex, Nat.lt_of_lt_of_le b1 (by decide), ?_⟩
  have pF : F' p := (a1 p).mpr (.inr rfl)
  have kp : ∀ a o, a ≠ p → Hc a = some o → upd Hc p (TD P w p (tdput xs c q2 ((tdv xs c).getD 0 + m))) a = some o := fun a o w z => by rw [upd_ne w]; exact z
  have xk : Ex (frz F' Γ σ Hc) (frz F' Γ σ (upd Hc p (TD P w p (tdput xs c q2 ((tdv xs c).getD 0 + m))))) := cut_but (.inl pF) kp
  exact n F' σ _ _ ⟨gc.env.but pF a3 kp (by rw [upd_same]; simp), gc.sl, p, a1, a2, a3, h4, upd_same, tdput_keys (a6.up xk) (hq2.up xk)⟩ b2 (((cut_mono ea).tr ((cut_mono eb).tr (cut_mono ec))).tr xk)
/-- all of it: a dict of one pair, the turns, the sum -/
theorem sg_count {e : Ent} (h2 : Γ[2]? = some e) (he : e.mut = false) (hk : EvG K Γ tk (en ([] : List Str))) (hv : EvG K Γ tv (.int 1)) (hl : StCt P w K 2 (Γ.set 2 .no) (fun xs => ∃ q, xs = [([], q, 1)]) ts Γ1 I) (hr : ∀ xs, I xs → R (.int (xs.map (·.2.2)).sum) Γ1) :
    StG K Γ (tSeq (tAsg (tTdOne P w tk tv) (gName 2)) (tSeq ts (tFz 2 (tRet (tTdSum P w (tVar 2)))))) N R := fun F B D σ H E n r => fun p hp => by
  have e1 : Ex H (upd H p (TD P w p [])) := Ex.new hp
  have E1 : EnvR K (fun a => F a ∨ a = p) B Γ σ (upd H p (TD P w p [])) := E.addF hp e1 (by rw [upd_same]; simp)
  refine hk _ B σ _ E1 _ fun y Ha ea ry => ?_
  refine hv _ B σ _ (E1.ext ea) _ fun z Hb eb rz => ?_
  cases rz
  cases ry with
  | @tup q _ _ t1 t2 =>
    cases t2
    have t1b := t1.up (cut_mono eb)
    have hpb : Hb p = some (TD P w p []) := eb _ _ (ea _ _ upd_same)
    refine ⟨q, [], 1, rfl, t1b.up cut_ex, hpb, ?_⟩
    have kp : ∀ a o, a ≠ p → Hb a = some o → upd Hb p (TD P w p [([], q, 1)]) a = some o := fun a o w z => by rw [upd_ne w]; exact z
    have ex : Ex H (upd Hb p (TD P w p [([], q, 1)])) := fun a o z => kp a o (ne_of_none z hp) (eb _ _ (ea _ _ (e1 _ _ z)))
    obtain ⟨g0, x0⟩ := ct_mk (P := P) (w := w) (xs := [([], q, 1)]) E h2 he hp ex upd_same fun x hx => by
      rw [List.mem_singleton] at hx
      subst hx
      exact t1b.up (cut_but (.inl (.inr rfl)) kp)
    refine hl F B _ _ _ _ _ g0 ⟨q, rfl⟩ fun F2 σ2 H2 ys g2 hy x2 => ?_
    obtain ⟨p2, q1, q2, _⟩ := g2.freeze default
    refine ⟨p2, _, q1, q2, trivial, fun od => ?_⟩
    obtain ⟨p', q1', _, E3, q3, q4, x3⟩ := g2.freeze od
    rw [q1] at q1'
    cases q1'
    exact ⟨_, q1, p2, od, ys, rfl, cut_ex _ _ q3, r _ Γ1 σ2 _ _ (hr ys hy) E3 ((x0.tr x2).tr x3) (.int _)⟩
end
section
variable {X : Cx} {e i f value : Expr} {tk tv td ty tx : TE} {apos cpos p pos pos' tpos : Pos} {elts : List Expr} {k9 : Nat} (P : Program) (w : World) (hP : X.prog = P) (hw : X.w = w)
include hP hw
theorem k_tdnew : PE X (.Dict [] [] pos) (tTdNew P w) := hP ▸ hw ▸ pe_tdnew
theorem k_tdone (hu : X.A.units + 1 < cLine) (hk : PE X e tk) (hv : PE X value tv) : PE X (.Dict [some e] [value] pos) (tTdOne P w tk tv) := hP ▸ hw ▸ pe_tdone hu hk hv
theorem k_tdget (hu : X.A.units + 1 < cLine) (ho : PE X e td) (he : PE X i ty) (hf : PE X f tx) (m : M2 X e "get" apos i f cpos) : PE X (.Call (.Attribute e "get" apos) [i, f] [] cpos) (tTdGet P w td ty tx) := hP ▸ hw ▸ pe_tdget hu ho he hf m
theorem k_tdput (hu : X.A.units + 1 < cLine) (ho : PE X e td) (hi : PE X i ty) (hv : PE X value tv) (hs : swapsWith value (some (.Subscript e i pos')) pos.line X.env = pure false) : PS X (.Assign [.Subscript e i pos'] value pos) (sTdPut P w td ty tv) := hP ▸ hw ▸ ps_tdput hu ho hi hv hs
theorem k_pitd (he : PE X e td) (hbase : attributeBase e "items" X.env (eval e X.env) = eval e X.env := by rfl) (hline : (apos.endLine == cpos.line) = true := by rfl) : PI X (.Tuple elts k9 tpos) (.Call (.Attribute e "items" apos) [] [] cpos) (iTd P w td) := hP ▸ hw ▸ pi_td he hbase hline
theorem k_tdsum (hc : X.calm = true) (he : PE X e td) (hg : Gl X "sum") (hm : X.mg "sum" = none) (hbase : attributeBase e "values" X.env (eval e X.env) = eval e X.env := by rfl) (hline : (apos.endLine == cpos.line) = true := by rfl)
    (hs : starEach [.Call (.Attribute e "values" apos) [] [] cpos] X.env = (false, eval (.Call (.Attribute e "values" apos) [] [] cpos) X.env) :: starEach [] X.env := by rfl) : PE X (.Call (.Name "sum" p) [.Call (.Attribute e "values" apos) [] [] cpos] [] pos) (tTdSum P w td) := hP ▸ hw ▸ pe_tdsum hc he hg hm hbase hline hs
end
end K97
set_option Elab.async false
set_option linter.all false
set_option maxRecDepth 100000
set_option maxHeartbeats 4000000
/-! K97: how many orders. -/
namespace K97
open Dt (en)
open PySem L2
/-- what all that was found comes to -/
def tw (L : List Lg) (l : Lg) (r : Nat) (xs : List TdE) : Int := (xs.map fun x => x.2.2 * (mCnt L l r x.1 : Int)).sum
section
variable {L : List Lg} {l : Lg} {r : Nat} {xs : List TdE} {c : List Str} {q : Addr} {m : Int}
theorem td_no (h : c ∉ xs.map (·.1)) : xs.map (fun x => if x.1 = c then (x.1, x.2.1, m) else x) = xs := by
  conv => rhs; rw [← List.map_id xs]
  refine List.map_congr_left fun x hx => ?_
  rw [if_neg fun e => h (by rw [← e]; exact List.mem_map_of_mem hx)]
  rfl
theorem tdv_none (h : tdv xs c = none) : c ∉ xs.map (·.1) := fun hc => by
  obtain ⟨x, hx, e⟩ := List.mem_map.mp hc
  unfold tdv at h
  rw [Option.map_eq_none_iff, List.find?_eq_none] at h
  exact h x hx (by simpa using e)
theorem tdput_cons {x : TdE} (e : x.1 ≠ c) : tdput (x :: xs) c q m = x :: tdput xs c q m := by
  have a1 : tdv (x :: xs) c = tdv xs c := by
    unfold tdv
    rw [List.find?_cons_of_neg (by simpa using e)]
  unfold tdput
  rw [a1]
  split
  · rw [List.map_cons, if_neg e]
  · rfl
theorem tdput_put : ∀ {xs : List TdE}, (xs.map (·.1)).Nodup → tw L l r (tdput xs c q ((tdv xs c).getD 0 + m)) = tw L l r xs + m * (mCnt L l r c : Int)
  | [], _ => by simp [tdput, tdv, tw]
  | x :: xs, h => by
    rw [List.map_cons, List.nodup_cons] at h
    by_cases e : x.1 = c
    · have a1 : tdv (x :: xs) c = some x.2.2 := by simp [tdv, e]
      unfold tdput
      rw [a1, Option.isSome_some, if_pos rfl, List.map_cons, if_pos e, td_no (by rw [← e]; exact h.1)]
      simp only [tw, List.map_cons, List.sum_cons, Option.getD_some, e, Int.add_mul]
      omega
    · have a1 : tdv (x :: xs) c = tdv xs c := by
        unfold tdv
        rw [List.find?_cons_of_neg (by simpa using e)]
      rw [a1, tdput_cons e]
      have ih := @tdput_put xs h.2
      simp only [tw, List.map_cons, List.sum_cons] at ih ⊢
      rw [ih]
      omega
theorem tdput_nd (h : (xs.map (·.1)).Nodup) : ((tdput xs c q m).map (·.1)).Nodup := by
  unfold tdput
  cases e : tdv xs c with
  | some v =>
    rw [Option.isSome_some, if_pos rfl, List.map_map]
    have : ((·.1) ∘ fun (x : TdE) => if x.1 = c then (x.1, x.2.1, m) else x) = (·.1) := by
      funext x
      show (if x.1 = c then (x.1, x.2.1, m) else x).1 = x.1
      split <;> rfl
    rw [this]
    exact h
  | none =>
    rw [if_neg (by simp), List.map_append, List.nodup_append]
    refine ⟨h, by simp, fun a ha b hb => ?_⟩
    simp only [List.map_cons, List.map_nil, List.mem_singleton] at hb
    rw [hb]
    exact fun z => tdv_none e (z ▸ ha)
theorem tdput_mem {x : TdE} (h : x ∈ tdput xs c q m) : x.1 = c ∨ ∃ y ∈ xs, x.1 = y.1 := by
  unfold tdput at h
  split at h
  · obtain ⟨y, hy, e⟩ := List.mem_map.mp h
    refine .inr ⟨y, hy, ?_⟩
    rw [← e]
    split <;> rfl
  · rcases List.mem_append.mp h with h | h
    · exact .inr ⟨x, h, rfl⟩
    · rw [List.mem_singleton.mp h]
      exact .inl rfl
theorem sum_cast (f : Str → Nat) (cs : List Str) : ((cs.map f).sum : Int) = (cs.map fun c => (f c : Int)).sum := by
  induction cs with
  | nil => rfl
  | cons c cs ih => rw [List.map_cons, List.sum_cons, List.map_cons, List.sum_cons, Int.natCast_add, ih]
/-- what stands after t turns, n more found since -/
structure Cnt (L : List Lg) (l : Lg) (t b : Nat) (r : Nat) (s : Int) (xs : List TdE) : Prop where
  sz : xs.length ≤ b
  nd : (xs.map (·.1)).Nodup
  ln : ∀ x ∈ xs, x.1.length ≤ t
  tw : tw L l r xs = s
theorem Cnt.put {t b : Nat} {s : Int} {D : List Str} {a : Str} (h : Cnt L l t b r s xs) (hD : D.length + 1 ≤ t) (q : Addr) (m : Int) : Cnt L l t (b + 1) r (s + m * (mCnt L l r (D ++ [a]) : Int)) (tdput xs (dsort (D ++ [a])) q ((tdv xs (dsort (D ++ [a]))).getD 0 + m)) := by
  refine ⟨?_, tdput_nd h.nd, fun x hx => ?_, ?_⟩
  · have := tdput_len xs (dsort (D ++ [a])) q ((tdv xs (dsort (D ++ [a]))).getD 0 + m)
    have := h.sz
    omega
  · rcases tdput_mem hx with e | ⟨y, hy, e⟩
    · rw [e, len_dsort, List.length_append]
      exact hD
    · rw [e]
      exact h.ln y hy
  · rw [tdput_put h.nd, h.tw, cnt_congr L l r (dsort (D ++ [a])) (D ++ [a]) fun x => mem_dsort]
end
section
variable {P : Program} {w : World} {K : Fg} {mg : Str → Option Value} {base : Heap} {tk : Nat → Tok}
def R_count_orders := Rel (A := List Lg × Lg) (fun a => Rd0 a.1 a.2 ∧ a.2.length ≤ 5) (fun a => [en a.1, en a.2]) fun a => .int (mCount a.1 a.2)
theorem ok_count_orders (T : Tx mg tk) (t : Txt1 K mg "count_orders" (topS 41) ["logs", "log"]) (h_available : Has P w K mg base "available" 3 ["logs", "log", "done"] (SpD K R_available)) (h_check_log : Has P w K mg base "check_log" 8 ["logs", "log"] (SpD K R_check_log)) : Has P w K mg base "count_orders" 9 ["logs", "log"] (SpD K R_count_orders) := by
  have sc : FnScope ["logs", "log", "ways", "turn", "later", "done", "many", "cell", "key"] ["logs", "log"] (defScope (topS 41)) := ⟨rfl, rfl, rfl, by decide +kernel, rfl, by decide +kernel, by decide +kernel⟩
  refine has_rel t sc (fun a => rfl) (by decide) (fun f cdv A outer s H E hr => (pss_cons (ps_expr (pe_has (h_check_log.up (by decide)) hr (by rfl) (pa_cons (pv 0) (pa_cons (pv 1) pa_nil))))
  (pss_cons (ps_if (pt_cmpR (op_gt) (pe_callB (k_len K rfl) (by rfl) T.b_len (by decide +kernel) (pa_cons (pv 1) pa_nil)) (pe_glob (v := .int 12) (by rfl) T.c_MOST_COUNTED ⟨_, rfl⟩) (nomark _))
   (pss_one ps_never)
   pss_nil)
  (pss_cons (ps_set (i := 2) sc.nd rfl (.inl rfl) (k_tdone P w rfl rfl (hu_of hr) (pe_tupF pa_nil) pe_int))
  (pss_cons (ps_for PassesOwn.never rfl (pi_range1 (by rfl) T.b_range (pa_cons (pe_callB (k_len K rfl) (by rfl) T.b_len (by decide +kernel) (pa_cons (pv 1) pa_nil)) pa_nil)) (pg_name (i := 3) sc.nd rfl (.inl rfl))
   (pss_frz (j := 2) (pss_cons (ps_set (i := 4) sc.nd rfl (.inl rfl) (k_tdnew P w rfl rfl))
  (pss_cons (ps_for PassesOwn.never rfl (k_pitd P w rfl rfl (pv 2)) (k_pgT K rfl (n := 2) rfl (pgs_cons (pg_name (i := 5) sc.nd rfl (.inl rfl)) (pgs_cons (pg_name (i := 6) sc.nd rfl (.inl rfl)) pgs_nil)))
   (pss_one (ps_for PassesOwn.never rfl (k_piT K rfl (pe_has (h_available.up (by decide)) hr (by rfl) (pa_cons (pv 0) (pa_cons (pv 1) (pa_cons (pv 5) pa_nil))))) (pg_name (i := 7) sc.nd rfl (.inl rfl))
   (pss_cons (ps_set (i := 8) sc.nd rfl (.inl rfl) (pe_callTy (k_tup K rfl) (by rfl) T.b_tuple (by decide +kernel) (pa_cons (pe_callB (k_sorted K rfl hr.units) (by rfl) T.b_sorted (by decide +kernel) (pa_cons (pe_op (k_cat K rfl) (pv 5) (pe_tupF (pa_cons (pv 7) pa_nil))) pa_nil)) pa_nil)))
  (pss_one (k_tdput P w rfl rfl (hu_of hr) (pv 4) (pv 8) (pe_op op_add (k_tdget P w rfl rfl (hu_of hr) (pv 4) (pv 8) pe_int ⟨rfl, rfl, rfl, rfl⟩) (pv 6)) rfl))))))
  (pss_one (ps_set (i := 2) sc.nd rfl (.inl rfl) (pv 4)))))))
  (pss_frz (j := 2) (pss_one (ps_ret (k_tdsum P w rfl rfl rfl (pv 2) (by rfl) T.b_sum))))))))) ?_
  intro a ha
  obtain ⟨L, l⟩ := a
  obtain ⟨ha, h5⟩ : Rd0 L l ∧ l.length ≤ 5 := ha
  have av5 : ∀ D, (mAvail L l D).length ≤ 5 := fun D => by
    have := nodup_sub (avail_up (l := l) (D := D) ha.w).nodup fun c hc => (avail_sub ha.ok ha.m hc).1
    rw [cellsOf, List.length_map] at this
    omega
  have p5 : ∀ t, t ≤ 5 → 5 ^ t ≤ 3125 := fun t ht => Nat.le_trans (Nat.pow_le_pow_right (by decide) ht) (by decide)
  refine sg_then (sg_drop (tv_call (L, l) (ea_cons (ev_var rfl) (ea_one (ev_var rfl))) ha) rfl) ?_
  refine sg_then (sg_if (a := false) (et_test ((tv_gtN (m := 12) (tv_len (ev_var rfl).c) ev_int).cast (by simp; omega))) (fun h => nomatch h) fun _ => sg_next rfl) ?_
  refine sg_count (e := .no) (P := P) (w := w) (Γ1 := [.im (en L), .im (en l), .no, .no, .no, .no, .no, .no, .no]) (I := fun xs => (xs.map (·.2.2)).sum = (mCount L l : Int)) rfl rfl (ev_tup ea_nil) ev_int ?_ fun xs hx => by
    show PyData.int _ = PyData.int _
    rw [hx]
  refine ct_for (pr := false) (ds := (List.range l.length).map fun (i : Nat) => PyData.int (i : Int)) (fun t xs => Cnt L l t (5 ^ t) (l.length - t) (mCount L l) xs) rfl (it_rng (ea_one (tv_len (ev_var rfl).c)) (by omega)) ?_ (fun t d hd => ?_) ?_
  · rintro xs ⟨q, rfl⟩
    exact ⟨by simp, by simp, by simp, by simp [tw, mCount]⟩
  · have ht : t < l.length := by
      obtain ⟨h, _⟩ := List.getElem?_eq_some_iff.mp hd
      simpa using h
    have hr : l.length - t = l.length - (t + 1) + 1 := by omega
    refine ⟨_, _, _, tg_name (j := 3) rfl rfl, by decide, rfl, ct_turn rfl rfl fun xs hx => ⟨fun k ys => Cnt L l (t + 1) (5 * k) (l.length - (t + 1)) (tw L l (l.length - t) (xs.take k)) ys, ⟨by simp, by simp, by simp, by simp [tw]⟩, fun k x hxk => ?_, fun ys hy => ?_⟩, wk_ok⟩
    · obtain ⟨D, q, m⟩ := x
      have hD : D.length ≤ t := hx.ln _ (List.mem_of_getElem? hxk)
      have hk : k < xs.length := (List.getElem?_eq_some_iff.mp hxk).1
      have hz := hx.sz
      have hp := p5 t (by omega)
      refine ⟨_, _, [.im (en L), .im (en l), .no, .im d, .no, .no, .no, .no, .no], tg_pair (e := .no) (f := .no) rfl rfl rfl rfl (by decide), by decide, rfl, ct_wk (ct_for (pr := false) (ds := (mAvail L l D).map en) (fun j ys => Cnt L l (t + 1) (5 * k + j) (l.length - (t + 1)) (tw L l (l.length - t) (xs.take k) + m * (((mAvail L l D).take j).map fun c => (mCnt L l (l.length - (t + 1)) (D ++ [c]) : Int)).sum) ys) rfl (tv_it (tv_call (L, l, D) (ea_cons (ev_var rfl) (ea_cons (ev_var rfl) (ea_one (ev_var rfl)))) ⟨ha.w, ha.ok⟩)) (fun ys hy => ?_) (fun j d hd => ?_) fun ys hy => ?_) wk_ok rfl, Wk.rfl' _⟩
      · simpa using hy
      · rw [List.getElem?_map] at hd
        obtain ⟨c, hc, rfl⟩ := Option.map_eq_some_iff.mp hd
        have hj : j < (mAvail L l D).length := (List.getElem?_eq_some_iff.mp hc).1
        have := av5 D
        refine ⟨_, _, _, tg_name (j := 7) rfl rfl, by decide, rfl, ct_seq (ct_set (d := en (dsort (D ++ [c]))) (tv_tup (tv_sortT (tv_cat (xs := D) (ys := [c]) (ev_var rfl).c (ev_tup (ea_one (ev_var rfl))).c (by simp; omega)).c (by simp; omega)).c) rfl rfl (by decide)) (ct_put (c := dsort (D ++ [c])) (m := m) (ev_var rfl) (ev_var rfl) fun ys q hy => ⟨?_, ?_⟩), wk_ok⟩
        · have := hy.sz
          omega
        · have := hy.put (a := c) (D := D) (by omega) q m
          have e : (mAvail L l D).take (j + 1) = (mAvail L l D).take j ++ [c] := by rw [List.take_add_one, hc]; rfl
          rw [e, List.map_append, List.sum_append, Int.mul_add, ← Int.add_assoc, ← Nat.add_assoc]
          simpa using this
      · rw [List.length_map, List.take_length] at hy
        have := av5 D
        refine ⟨by have := hy.sz; omega, hy.nd, hy.ln, ?_⟩
        rw [hy.tw, List.take_add_one, hxk]
        simp only [tw, Option.toList, List.map_append, List.sum_append, List.map_cons, List.map_nil, List.sum_cons, List.sum_nil, Int.add_zero]
        rw [hr]
        show _ = _ + m * (((mAvail L l D).map fun c => mCnt L l (l.length - (t + 1)) (D ++ [c])).sum : Int)
        rw [← sum_cast]
    · simp only [List.take_length, hx.tw] at hy
      exact ⟨by have := hy.sz; have := hx.sz; rw [Nat.pow_succ]; omega, hy.nd, hy.ln, hy.tw⟩
  · intro xs hx
    rw [List.length_map, List.length_range] at hx
    have := hx.tw
    rw [Nat.sub_self] at this
    rw [← this]
    simp [tw, mCnt]
end
end K97
set_option Elab.async false
set_option linter.all false
set_option maxRecDepth 100000
set_option maxHeartbeats 4000000
/-! K97: the defs of adding and of snapshots. -/
namespace K97
open Dt (en)
open PySem L2
section
variable {P : Program} {w : World} {K : Fg} {mg : Str → Option Value} {base : Heap} {tk : Nat → Tok}
def R_with_log := Rel (A := List Lg × Lg) (fun a => a.1.length < 60) (fun a => [en a.1, en a.2]) fun a => en (mWith a.1 a.2)
def R_can_add := Rel (A := List Lg × Lg) (fun a => LgsW a.1 ∧ mStuck a.1 = none ∧ LgW a.2 ∧ a.1.length < 60) (fun a => [en a.1, en a.2]) fun a => .bool (decide (0 < (mWith a.1 a.2).length) && (mStuck (mWith a.1 a.2)).isNone)
def R_cells_in := Rel (A := List Lg) LgsW (fun a => [en a]) fun a => en (mCells a)
def R_is_snapshot := Rel (A := List Lg × Lg) (fun a => LgsW a.1 ∧ Snap a.1 a.2) (fun a => [en a.1, en a.2]) fun a => .bool true
def R_check_snapshot := Rel (A := List Lg × Lg) (fun a => RdS a.1 a.2) (fun a => [en a.1, en a.2]) fun a => .none
def R_pairs_at := Rel (A := Lg × List Str) (fun a => a.1.length ≤ 100) (fun a => [en a.1, en a.2]) fun a => en (mPairsAt a.1 a.2)
def R_hit := Rel (A := List Lg × Lg) (fun a => RdS a.1 a.2) (fun a => [en a.1, en a.2]) fun a => enO (mHit a.1 a.2)
def R_is_read := Rel (A := List Lg × List Str) (fun a => LgsW a.1) (fun a => [en a.1, en a.2]) fun a => .bool (mIsRead a.1 a.2)
def R_closed_without := Rel (A := List Lg × Lg × Str) (fun a => LgsW a.1 ∧ LgW a.2.1) (fun a => [en a.1, en a.2.1, en a.2.2]) fun a => en (mCw a.1 a.2.1 a.2.2)
def R_is_certain := Rel (A := List Lg × Lg × Str) (fun a => LgsW a.1 ∧ LgW a.2.1) (fun a => [en a.1, en a.2.1, en a.2.2]) fun a => .bool (mCertain a.1 a.2.1 a.2.2)
def R_certain_reads := Rel (A := List Lg × Lg) (fun a => RdS a.1 a.2) (fun a => [en a.1, en a.2]) fun a => en (mSure a.1 a.2)
def R_reached_with := Rel (A := List Lg × Lg × Lg) (fun a => LgsW a.1 ∧ LgW a.2.1) (fun a => [en a.1, en a.2.1, en a.2.2]) fun a => en (mReached a.1 a.2.1 a.2.2)
def R_possible_reads := Rel (A := List Lg × Lg) (fun a => RdS a.1 a.2) (fun a => [en a.1, en a.2]) fun a => en (mPoss a.1 a.2)
theorem ok_with_log (T : Tx mg tk) (t : Txt1 K mg "with_log" (topS 47) ["logs", "log"]) : Has P w K mg base "with_log" 1 ["logs", "log"] (SpD K R_with_log) := by
  have sc : FnScope ["logs", "log"] ["logs", "log"] (defScope (topS 47)) := ⟨rfl, rfl, rfl, by decide +kernel, rfl, by decide +kernel, by decide +kernel⟩
  refine has_rel t sc (fun a => rfl) (by decide) (fun f cdv A outer s H E hr => (pss_one (ps_ret (pe_ifExp (pt_cmpR (k_in K rfl hr.units) (pv 1) (pv 0) (by rfl)) (pv 0) (pe_callTy (k_tup K rfl) (by rfl) T.b_tuple (by decide +kernel) (pa_cons (pe_callB (k_sorted K rfl hr.units) (by rfl) T.b_sorted (by decide +kernel) (pa_cons (pe_op (k_cat K rfl) (pv 0) (pe_tupF (pa_cons (pv 1) pa_nil))) pa_nil)) pa_nil)))))) ?_
  intro a ha
  obtain ⟨L, l⟩ := a
  have ha : L.length < 60 := ha
  refine sg_ret (ev_ifE (d := en (mWith L l)) (et_test (tv_in (ev_var rfl).c (ev_var rfl).c)) (fun h => ?_) fun h => ?_) rfl
  · have h : l ∈ L := by simpa using h
    exact (ev_var rfl).cast (by rw [mWith, if_pos h])
  · have h : l ∉ L := by simpa using h
    refine (tv_tup (tv_sortT (tv_cat (ys := [l]) (ev_var rfl).c (ev_tup (ea_one (ev_var rfl))).c (by simp only [List.length_singleton]; omega)).c (by simp only [List.length_append, List.length_singleton]; omega)).c).cast ?_
    rw [mWith, if_neg h]
theorem ok_can_add (T : Tx mg tk) (t : Txt1 K mg "can_add" (topS 48) ["logs", "log"]) (h_check_reader : Has P w K mg base "check_reader" 6 ["logs"] (SpD K R_check_reader)) (h_has_reader : Has P w K mg base "has_reader" 5 ["logs"] (SpD K R_has_reader)) (h_with_log : Has P w K mg base "with_log" 1 ["logs", "log"] (SpD K R_with_log)) : Has P w K mg base "can_add" 7 ["logs", "log"] (SpD K R_can_add) := by
  have sc : FnScope ["logs", "log"] ["logs", "log"] (defScope (topS 48)) := ⟨rfl, rfl, rfl, by decide +kernel, rfl, by decide +kernel, by decide +kernel⟩
  refine has_rel t sc (fun a => rfl) (by decide) (fun f cdv A outer s H E hr => (pss_cons (ps_expr (pe_has (h_check_reader.up (by decide)) hr (by rfl) (pa_cons (pv 0) pa_nil)))
  (pss_one (ps_ret (pe_has (h_has_reader.up (by decide)) hr (by rfl) (pa_cons (pe_has (h_with_log.up (by decide)) hr (by rfl) (pa_cons (pv 0) (pa_cons (pv 1) pa_nil))) pa_nil)))))) ?_
  intro a ha
  obtain ⟨L, l⟩ := a
  obtain ⟨h1, h2, h3, h4⟩ : LgsW L ∧ mStuck L = none ∧ LgW l ∧ L.length < 60 := ha
  refine sg_then (sg_drop (tv_call L (ea_one (ev_var rfl)) ⟨h1, h2⟩) rfl) ?_
  exact sg_ret (tv_call (mWith L l) (ea_one (tv_call (L, l) (ea_cons (ev_var rfl) (ea_one (ev_var rfl))) h4)) (mWith_w h1 h3 h4)) rfl
theorem ok_is_snapshot (T : Tx mg tk) (t : Txt1 K mg "is_snapshot" (topS 50) ["logs", "thing"]) (h_cells_in : Has P w K mg base "cells_in" 1 ["logs"] (SpD K R_cells_in)) (h_is_pair : Has P w K mg base "is_pair" 2 ["thing"] (SpD K R_is_pair)) : Has P w K mg base "is_snapshot" 3 ["logs", "thing"] (SpD K R_is_snapshot) := by
  have sc : FnScope ["logs", "thing", "pair", "one", "other", "values", "cell"] ["logs", "thing"] (defScope (topS 50)) := ⟨rfl, rfl, rfl, by decide +kernel, rfl, by decide +kernel, by decide +kernel⟩
  refine has_rel t sc (fun a => rfl) (by decide) (fun f cdv A outer s H E hr => (pss_cons (ps_if (PW.pt (pw_or (pt_not (pt_val (pe_callB (k_isi K rfl) (by rfl) T.b_isinstance (by decide +kernel) (pa_cons (pv 1) (pa_cons (pe_bltn (v := .ty "tuple") (by rfl) T.b_tuple (by decide +kernel) rfl) pa_nil))))) (pw_or1 (pt_not (pt_val (pe_callB (k_all K rfl rfl) (by rfl) T.b_all (by decide +kernel) (pa_cons (pe_lc (own := [("pair", 2)]) (by rfl) sc.nd (k_piT K rfl (pv 1)) (blkOk_by (by kernel_rfl)) (fun _ _ _ _ _ => (pg_name (i := 2) sc.nd rfl (.inl rfl))) (fun _ _ _ _ _ => pts_nil) (fun _ _ _ _ _ => (pe_has (h_is_pair.up (by decide)) hr (by rfl) (pa_cons (pv 2) pa_nil)))) pa_nil)))))))
   (pss_one (ps_ret pe_bl))
   pss_nil)
  (pss_cons (ps_if (pt_not (pt_val (pe_callB (k_all K rfl rfl) (by rfl) T.b_all (by decide +kernel) (pa_cons (pe_lc (own := [("one", 3), ("other", 4)]) (by rfl) sc.nd (k_zip K rfl (by rfl) T.b_zip (pa_cons (pv 1) (pa_cons (pe_slice (k_slT K rfl) (pv 1) (po_some pe_int) po_none) pa_nil))) (blkOk_by (by kernel_rfl)) (fun _ _ _ _ _ => (k_pgT K rfl (n := 2) rfl (pgs_cons (pg_name (i := 3) sc.nd rfl (.inl rfl)) (pgs_cons (pg_name (i := 4) sc.nd rfl (.inl rfl)) pgs_nil)))) (fun _ _ _ _ _ => pts_nil) (fun _ _ _ _ _ => (pe_cmpR (op_lt_str) (pe_ix (k_ix K rfl) (pv 3) pe_int (fun _ _ => rfl)) (pe_ix (k_ix K rfl) (pv 4) pe_int (fun _ _ => rfl)) (nomark _)))) pa_nil))))
   (pss_one (ps_ret pe_bl))
   pss_nil)
  (pss_cons (ps_set (i := 5) sc.nd rfl (.inr rfl) (pe_callTy (k_dic K rfl rfl) (by rfl) T.b_dict (by decide +kernel) (pa_cons (pv 1) pa_nil)))
  (pss_one (ps_ret (pe_callB (k_all K rfl rfl) (by rfl) T.b_all (by decide +kernel) (pa_cons (pe_lc (own := [("cell", 6)]) (by rfl) sc.nd (k_piT K rfl (pe_has (h_cells_in.up (by decide)) hr (by rfl) (pa_cons (pv 0) pa_nil))) (blkOk_by (by kernel_rfl)) (fun _ _ _ _ _ => (pg_name (i := 6) sc.nd rfl (.inl rfl))) (fun _ _ _ _ _ => pts_nil) (fun _ _ _ _ _ => (pe_cmp (pc_din (hu_of hr) (pv 6) (pv 5)) (by rfl)))) pa_nil)))))))) ?_
  intro a ha
  obtain ⟨L, s⟩ := a
  obtain ⟨h1, h2, h3⟩ : LgsW L ∧ Snap L s := ha
  have hs := h2.len
  have hc := mCells_len h1
  refine sg_then (sg_if (a := false) (et_or (a := false) (b := false) (et_not (b := true) (et_test (ev_isi (ev_var rfl) rfl))) fun _ => et_not (b := true) (et_test ((tv_all en s (f := fun _ => true) (tv_it (ev_var rfl)) (fun p _ => tg_name rfl rfl) (fun p hp => tv_call p (ea_one (ev_var rfl)) (h2.ok p hp)) (by omega)).cast (by simp)))) (fun h => nomatch h) (fun _ => sg_next rfl)) ?_
  refine sg_then (sg_if (a := false) (et_not (b := true) (et_test ((tv_all (fun p : (Str × Int) × (Str × Int) => .tuple [en p.1, en p.2]) (s.zip (s.drop 1)) (f := fun _ => true) ((it_zipT (ea_cons (ev_var rfl) (ea_one (ev_slT (ev_var rfl).c (eo_int ev_int) eo_no)))).cast ?_) (fun p _ => tg_pair rfl rfl rfl rfl) (fun p hp => (tv_ltS (tv_pr1 (ev_var rfl).c) (tv_pr1 (ev_var rfl).c)).cast ?_) ?_).cast ?_))) (fun h => nomatch h) fun _ => sg_next rfl) ?_
  · rw [cutD_1, ← List.map_drop, List.zip_map, List.map_map]
    rfl
  · rw [ups h2.up p hp]
  · rw [List.length_zip]
    omega
  · rw [List.all_eq_true.mpr]
    intro x _
    rfl
  refine sg_then (sg_set (tv_dict (ev_var rfl).c h2.up.nodup) rfl rfl rfl) ?_
  refine sg_ret ((tv_all en (mCells L) (f := fun c => (lkp s c).isSome) (tv_it (tv_call L (ea_one (ev_var rfl)) h1)) (fun c _ => tg_name rfl rfl) (fun c _ => tv_din (ev_var rfl) (ev_var rfl).c) (by omega)).cast ?_) rfl
  rw [List.all_eq_true.mpr]
  intro c hc
  obtain ⟨l, hl, hc⟩ := mem_mCells.mp hc
  exact h3 l hl c hc
theorem ok_check_snapshot (T : Tx mg tk) (t : Txt1 K mg "check_snapshot" (topS 51) ["logs", "snapshot"]) (h_check_logs : Has P w K mg base "check_logs" 7 ["logs"] (SpD K R_check_logs)) (h_is_snapshot : Has P w K mg base "is_snapshot" 3 ["logs", "thing"] (SpD K R_is_snapshot)) : Has P w K mg base "check_snapshot" 8 ["logs", "snapshot"] (SpD K R_check_snapshot) := by
  have sc : FnScope ["logs", "snapshot"] ["logs", "snapshot"] (defScope (topS 51)) := ⟨rfl, rfl, rfl, by decide +kernel, rfl, by decide +kernel, by decide +kernel⟩
  refine has_rel t sc (fun a => rfl) (by decide) (fun f cdv A outer s H E hr => (pss_cons (ps_expr (pe_has (h_check_logs.up (by decide)) hr (by rfl) (pa_cons (pv 0) pa_nil)))
  (pss_one (ps_if (pt_not (pt_val (pe_has (h_is_snapshot.up (by decide)) hr (by rfl) (pa_cons (pv 0) (pa_cons (pv 1) pa_nil)))))
   (pss_one ps_never)
   pss_nil)))) ?_
  intro a ha
  obtain ⟨L, s⟩ := a
  have ha : RdS L s := ha
  refine sg_then (sg_drop (tv_call L (ea_one (ev_var rfl)) ⟨ha.w, ha.st, ha.ne⟩) rfl) ?_
  exact sg_if (a := false) (et_not (b := true) (et_test (tv_call (L, s) (ea_cons (ev_var rfl) (ea_one (ev_var rfl))) ⟨ha.w, ha.sn⟩))) (fun h => nomatch h) fun _ => sg_next rfl
theorem ok_pairs_at (T : Tx mg tk) (t : Txt1 K mg "pairs_at" (topS 52) ["snapshot", "cells"]) : Has P w K mg base "pairs_at" 1 ["snapshot", "cells"] (SpD K R_pairs_at) := by
  have sc : FnScope ["snapshot", "cells", "pair"] ["snapshot", "cells"] (defScope (topS 52)) := ⟨rfl, rfl, rfl, by decide +kernel, rfl, by decide +kernel, by decide +kernel⟩
  refine has_rel t sc (fun a => rfl) (by decide) (fun f cdv A outer s H E hr => (pss_one (ps_ret (pe_callTy (k_tup K rfl) (by rfl) T.b_tuple (by decide +kernel) (pa_cons (pe_lc (own := [("pair", 2)]) (by rfl) sc.nd (k_piT K rfl (pv 0)) (blkOk_by (by kernel_rfl)) (fun _ _ _ _ _ => (pg_name (i := 2) sc.nd rfl (.inl rfl))) (fun _ _ _ _ _ => (pts_one (pt_cmpR (k_in K rfl hr.units) (pe_ix (k_ix K rfl) (pv 2) pe_int (fun _ _ => rfl)) (pv 1) (by rfl)))) (fun _ _ _ _ _ => (pv 2))) pa_nil))))) ?_
  intro a ha
  obtain ⟨s, cs⟩ := a
  have ha : s.length ≤ 100 := ha
  exact sg_ret (tv_tup (tv_lc en s (p := fun p => decide (p.1 ∈ cs)) (f := en) (tv_it (ev_var rfl)) (fun p _ => tg_name rfl rfl) (fun p _ => et_test (tv_in (tv_pr1 (ev_var rfl).c).c (ev_var rfl).c)) (fun p _ _ => ev_var rfl) (by omega)).c) rfl
theorem ok_hit (T : Tx mg tk) (t : Txt1 K mg "hit" (topS 53) ["logs", "snapshot"]) (h_check_snapshot : Has P w K mg base "check_snapshot" 8 ["logs", "snapshot"] (SpD K R_check_snapshot)) : Has P w K mg base "hit" 9 ["logs", "snapshot"] (SpD K R_hit) := by
  have sc : FnScope ["logs", "snapshot", "values", "log", "cell", "value"] ["logs", "snapshot"] (defScope (topS 53)) := ⟨rfl, rfl, rfl, by decide +kernel, rfl, by decide +kernel, by decide +kernel⟩
  refine has_rel t sc (fun a => rfl) (by decide) (fun f cdv A outer s H E hr => (pss_cons (ps_expr (pe_has (h_check_snapshot.up (by decide)) hr (by rfl) (pa_cons (pv 0) (pa_cons (pv 1) pa_nil))))
  (pss_cons (ps_set (i := 2) sc.nd rfl (.inr rfl) (pe_callTy (k_dic K rfl rfl) (by rfl) T.b_dict (by decide +kernel) (pa_cons (pv 1) pa_nil)))
  (pss_cons (ps_for PassesOwn.never rfl (k_piT K rfl (pv 0)) (pg_name (i := 3) sc.nd rfl (.inl rfl))
   (pss_one (ps_if (pt_val (pe_callB (k_all K rfl rfl) (by rfl) T.b_all (by decide +kernel) (pa_cons (pe_lc (own := [("cell", 4), ("value", 5)]) (by rfl) sc.nd (k_piT K rfl (pv 3)) (blkOk_by (by kernel_rfl)) (fun _ _ _ _ _ => (k_pgT K rfl (n := 2) rfl (pgs_cons (pg_name (i := 4) sc.nd rfl (.inl rfl)) (pgs_cons (pg_name (i := 5) sc.nd rfl (.inl rfl)) pgs_nil)))) (fun _ _ _ _ _ => pts_nil) (fun _ _ _ _ _ => (pe_cmpR (k_eq K rfl hr.units) (pe_dget (hu_of hr) (pv 2) (pv 4) (fun _ _ => rfl)) (pv 5) (nomark _)))) pa_nil)))
   (pss_one (ps_ret (pv 3)))
   pss_nil)))
  (pss_one (ps_ret pe_non)))))) ?_
  intro a ha
  obtain ⟨L, s⟩ := a
  have ha : RdS L s := ha
  refine sg_then (sg_drop (tv_call (L, s) (ea_cons (ev_var rfl) (ea_one (ev_var rfl))) ha) rfl) ?_
  refine sg_then (sg_set (tv_dict (ev_var rfl).c ha.sn.w.up.nodup) rfl rfl rfl) ?_
  refine sg_forP (fun _ => [.im (en L), .im (en s), .im (.dict (dDict s)), .no, .no, .no]) (fun i => ∀ l ∈ L.take i, (l.all fun p => decide (lkp s p.1 = some p.2)) = false) (tv_it (ev_var rfl)) (Wk.rfl' _) (by simp) (fun i d hd hI => ?_) fun hI => ?_
  · rw [List.getElem?_map] at hd
    obtain ⟨l, hl, rfl⟩ := Option.map_eq_some_iff.mp hd
    have hlm : l ∈ L := List.mem_of_getElem? hl
    have hll := (ha.w.ok l hlm).len
    refine ⟨_, _, tg_name (j := 3) rfl rfl, ?_⟩
    refine sg_if (et_B (tv_all en l (f := fun p => decide (lkp s p.1 = some p.2)) (tv_it (ev_var rfl)) (fun p _ => tg_pair rfl rfl rfl rfl) (fun p hp => ?_) (by omega))) (fun h => ?_) fun h => ?_
    · obtain ⟨v, hv⟩ := Option.isSome_iff_exists.mp (ha.sn.cov l hlm p.1 (List.mem_map_of_mem hp))
      exact (tv_eq (α := Int) (tv_dat (v := v) (ev_var rfl).c (ev_var rfl) hv).c (ev_var rfl).c).cast (by rw [hv]; simp)
    · refine sg_ret (ev_var rfl) ?_
      have hs : mHit L s = some l := by
        refine List.find?_eq_some_iff_append.mpr ⟨h, L.take i, L.drop (i + 1), ?_, fun x hx => ?_⟩
        · obtain ⟨hi, e⟩ := List.getElem?_eq_some_iff.mp hl
          rw [← e, ← List.drop_eq_getElem_cons hi, List.take_append_drop]
        · rw [hI x hx]
          rfl
      rw [hs]
      rfl
    · refine sg_next ⟨wk_ok, fun x hx => ?_⟩
      rw [List.take_add_one, hl] at hx
      rcases List.mem_append.mp hx with hx | hx
      · exact hI x hx
      · rw [Option.toList, List.mem_singleton] at hx
        subst hx
        exact h
  · rw [List.length_map, List.take_length] at hI
    have hs : mHit L s = none := List.find?_eq_none.mpr fun x hx => by
      rw [hI x hx]
      decide
    rw [hs]
    exact sg_ret ev_non rfl
theorem ok_is_read (T : Tx mg tk) (t : Txt1 K mg "is_read" (topS 54) ["group", "done"]) : Has P w K mg base "is_read" 1 ["group", "done"] (SpD K R_is_read) := by
  have sc : FnScope ["group", "done", "cell", "value"] ["group", "done"] (defScope (topS 54)) := ⟨rfl, rfl, rfl, by decide +kernel, rfl, by decide +kernel, by decide +kernel⟩
  refine has_rel t sc (fun a => rfl) (by decide) (fun f cdv A outer s H E hr => (pss_one (ps_ret (pe_and (pe_cmpR (k_eq K rfl hr.units) (pe_callB (k_len K rfl) (by rfl) T.b_len (by decide +kernel) (pa_cons (pv 0) pa_nil)) pe_int (nomark _)) (pe_one (pe_callB (k_all K rfl rfl) (by rfl) T.b_all (by decide +kernel) (pa_cons (pe_lc (own := [("cell", 2), ("value", 3)]) (by rfl) sc.nd (k_piT K rfl (pe_ix (k_ix K rfl) (pv 0) pe_int (fun _ _ => rfl))) (blkOk_by (by kernel_rfl)) (fun _ _ _ _ _ => (k_pgT K rfl (n := 2) rfl (pgs_cons (pg_name (i := 2) sc.nd rfl (.inl rfl)) (pgs_cons (pg_name (i := 3) sc.nd rfl (.inl rfl)) pgs_nil)))) (fun _ _ _ _ _ => pts_nil) (fun _ _ _ _ _ => (pe_cmpR (k_in K rfl hr.units) (pv 2) (pv 1) (by rfl)))) pa_nil))))))) ?_
  intro a ha
  obtain ⟨G, D⟩ := a
  have ha : LgsW G := ha
  match G, ha with
  | [], _ =>
    refine sg_ret ((ev_and (a := false) (b := false) ((tv_eq (α := Int) (ev_lenT (ev_var rfl).c).c ev_int.c).cast rfl) fun h => nomatch h).cast rfl) rfl
  | [l], ha =>
    have hl := (ha.ok l List.mem_cons_self).len
    refine sg_ret ((ev_and (a := true) (b := l.all fun p => decide (p.1 ∈ D)) ((tv_eq (α := Int) (ev_lenT (ev_var rfl).c).c ev_int.c).cast rfl) fun _ => tv_all en l (f := fun p => decide (p.1 ∈ D)) (tv_it (tv_at (xs := [l]) (x := l) (ev_var rfl).c ev_int (atI_0 l []))) (fun p _ => tg_pair rfl rfl rfl rfl) (fun p _ => tv_in (ev_var rfl).c (ev_var rfl).c) (by omega)).cast ?_) rfl
    show PyData.bool (true && l.all _) = _
    rw [Bool.true_and]
    rfl
  | l :: m :: r, _ =>
    refine sg_ret ((ev_and (a := false) (b := false) ((tv_eq (α := Int) (tv_len (xs := l :: m :: r) (ev_var rfl).c).c ev_int.c).cast ?_) fun h => nomatch h).cast rfl) rfl
    congr 1
theorem ok_is_certain (T : Tx mg tk) (t : Txt1 K mg "is_certain" (topS 56) ["logs", "snapshot", "cell"]) (h_closed_without : Has P w K mg base "closed_without" 3 ["logs", "snapshot", "avoid"] (SpD K R_closed_without)) (h_is_read : Has P w K mg base "is_read" 1 ["group", "done"] (SpD K R_is_read)) : Has P w K mg base "is_certain" 4 ["logs", "snapshot", "cell"] (SpD K R_is_certain) := by
  have sc : FnScope ["logs", "snapshot", "cell", "done", "group"] ["logs", "snapshot", "cell"] (defScope (topS 56)) := ⟨rfl, rfl, rfl, by decide +kernel, rfl, by decide +kernel, by decide +kernel⟩
  refine has_rel t sc (fun a => rfl) (by decide) (fun f cdv A outer s H E hr => (pss_cons (ps_asg (pe_has (h_closed_without.up (by decide)) hr (by rfl) (pa_cons (pv 0) (pa_cons (pv 1) (pa_cons (pv 2) pa_nil)))) (k_pgT K rfl (n := 2) rfl (pgs_cons (pg_name (i := 3) sc.nd rfl (.inl rfl)) (pgs_cons (pg_name (i := 4) sc.nd rfl (.inl rfl)) pgs_nil))))
  (pss_one (ps_ret (pe_and (pe_cmpR (k_ne K rfl hr.units) (pv 4) (pe_tupF pa_nil) (nomark _)) (pe_one (pe_not (pe_has (h_is_read.up (by decide)) hr (by rfl) (pa_cons (pv 4) (pa_cons (pv 3) pa_nil)))))))))) ?_
  intro a ha
  obtain ⟨L, s, c⟩ := a
  obtain ⟨h1, h2⟩ : LgsW L ∧ LgW s := ha
  refine sg_then (sg_asgP (tv_call (L, s, c) (ea_cons (ev_var rfl) (ea_cons (ev_var rfl) (ea_one (ev_var rfl)))) ⟨h1, h2⟩) rfl rfl rfl rfl (by decide) rfl) ?_
  refine sg_ret (ev_and (a := !decide ((mCw L s c).2 = [])) (b := !mIsRead (mCw L s c).2 (mCw L s c).1) (tv_ne (α := List Lg) (x := (mCw L s c).2) (y := []) (ev_var rfl).c (ev_tup ea_nil).c) fun _ => ev_not (tv_call ((mCw L s c).2, (mCw L s c).1) (ea_cons (ev_var rfl) (ea_one (ev_var rfl))) (h1.subl (mCw_cn h1).gs))) rfl
theorem ok_certain_reads (T : Tx mg tk) (t : Txt1 K mg "certain_reads" (topS 57) ["logs", "snapshot"]) (h_cells_in : Has P w K mg base "cells_in" 1 ["logs"] (SpD K R_cells_in)) (h_check_snapshot : Has P w K mg base "check_snapshot" 8 ["logs", "snapshot"] (SpD K R_check_snapshot)) (h_is_certain : Has P w K mg base "is_certain" 4 ["logs", "snapshot", "cell"] (SpD K R_is_certain)) : Has P w K mg base "certain_reads" 9 ["logs", "snapshot"] (SpD K R_certain_reads) := by
  have sc : FnScope ["logs", "snapshot", "cell"] ["logs", "snapshot"] (defScope (topS 57)) := ⟨rfl, rfl, rfl, by decide +kernel, rfl, by decide +kernel, by decide +kernel⟩
  refine has_rel t sc (fun a => rfl) (by decide) (fun f cdv A outer s H E hr => (pss_cons (ps_expr (pe_has (h_check_snapshot.up (by decide)) hr (by rfl) (pa_cons (pv 0) (pa_cons (pv 1) pa_nil))))
  (pss_one (ps_ret (pe_callTy (k_tup K rfl) (by rfl) T.b_tuple (by decide +kernel) (pa_cons (pe_lc (own := [("cell", 2)]) (by rfl) sc.nd (k_piT K rfl (pe_has (h_cells_in.up (by decide)) hr (by rfl) (pa_cons (pv 0) pa_nil))) (blkOk_by (by kernel_rfl)) (fun _ _ _ _ _ => (pg_name (i := 2) sc.nd rfl (.inl rfl))) (fun _ _ _ _ _ => (pts_one (pt_val (pe_has (h_is_certain.up (by decide)) hr (by rfl) (pa_cons (pv 0) (pa_cons (pv 1) (pa_cons (pv 2) pa_nil))))))) (fun _ _ _ _ _ => (pv 2))) pa_nil)))))) ?_
  intro a ha
  obtain ⟨L, s⟩ := a
  have ha : RdS L s := ha
  have hc := mCells_len ha.w
  refine sg_then (sg_drop (tv_call (L, s) (ea_cons (ev_var rfl) (ea_one (ev_var rfl))) ha) rfl) ?_
  exact sg_ret (tv_tup (tv_lc en (mCells L) (p := mCertain L s) (f := en) (tv_it (tv_call L (ea_one (ev_var rfl)) ha.w)) (fun c _ => tg_name rfl rfl) (fun c _ => et_test (tv_call (L, s, c) (ea_cons (ev_var rfl) (ea_cons (ev_var rfl) (ea_one (ev_var rfl)))) ⟨ha.w, ha.sn.w⟩)) (fun c _ _ => ev_var rfl) (by omega)).c) rfl
end
end K97
set_option Elab.async false
set_option linter.all false
set_option maxRecDepth 100000
set_option maxHeartbeats 4000000
/-! K97: the defs with loops over snapshots. -/
namespace K97
open Dt (en)
open PySem L2
section
variable {P : Program} {w : World} {K : Fg} {mg : Str → Option Value} {base : Heap} {tk : Nat → Tok}
theorem ok_closed_without (T : Tx mg tk) (t : Txt1 K mg "closed_without" (topS 55) ["logs", "snapshot", "avoid"]) (h_agreeing : Has P w K mg base "agreeing" 1 ["logs", "known"] (SpD K R_agreeing)) (h_pairs_at : Has P w K mg base "pairs_at" 1 ["snapshot", "cells"] (SpD K R_pairs_at)) (h_unread_shared : Has P w K mg base "unread_shared" 2 ["logs", "done"] (SpD K R_unread_shared)) : Has P w K mg base "closed_without" 3 ["logs", "snapshot", "avoid"] (SpD K R_closed_without) := by
  have sc : FnScope ["logs", "snapshot", "avoid", "done", "group", "more", "cell"] ["logs", "snapshot", "avoid"] (defScope (topS 55)) := ⟨rfl, rfl, rfl, by decide +kernel, rfl, by decide +kernel, by decide +kernel⟩
  refine has_rel t sc (fun a => rfl) (by decide) (fun f cdv A outer s H E hr => (pss_cons (ps_par3 (i := 3) (j := 4) (l := 5) (by rfl) sc.nd rfl rfl rfl (by decide) (by decide) (by decide) rfl rfl rfl (pa_cons (pe_tupF pa_nil) (pa_cons (pv 0) (pa_cons pe_non pa_nil))) (by rfl))
  (pss_cons (ps_while PassesOwn.never (PW.pt (pw_and (pt_cmpR (k_ne K rfl hr.units) (pv 5) (pe_tupF pa_nil) (nomark _)) (pw_and1 (pt_cmpR (k_ne K rfl hr.units) (pv 4) (pe_tupF pa_nil) (nomark _)))))
   (pss_cons (ps_set (i := 5) sc.nd rfl (.inl rfl) (pe_callTy (k_tup K rfl) (by rfl) T.b_tuple (by decide +kernel) (pa_cons (pe_lc (own := [("cell", 6)]) (by rfl) sc.nd (k_piL K rfl (pe_has (h_unread_shared.up (by decide)) hr (by rfl) (pa_cons (pv 4) (pa_cons (pv 3) pa_nil)))) (blkOk_by (by kernel_rfl)) (fun _ _ _ _ _ => (pg_name (i := 6) sc.nd rfl (.inl rfl))) (fun _ _ _ _ _ => (pts_one (pt_cmpR (k_ne K rfl hr.units) (pv 6) (pv 2) (nomark _)))) (fun _ _ _ _ _ => (pv 6))) pa_nil)))
  (pss_cons (ps_aug (i := 3) sc.nd rfl (.inl rfl) (pv 5) (k_icat K rfl))
  (pss_one (ps_set (i := 4) sc.nd rfl (.inl rfl) (pe_has (h_agreeing.up (by decide)) hr (by rfl) (pa_cons (pv 4) (pa_cons (pe_has (h_pairs_at.up (by decide)) hr (by rfl) (pa_cons (pv 1) (pa_cons (pv 5) pa_nil))) pa_nil))))))))
  (pss_one (ps_ret (pe_tupF (pa_cons (pv 3) (pa_cons (pv 4) pa_nil)))))))) ?_
  intro a ha
  obtain ⟨L, s, a⟩ := a
  obtain ⟨h1, h2⟩ : LgsW L ∧ LgW s := ha
  have hs := h2.len
  have hc := mCells_len h1
  refine sg_then (sg_par3 (d1 := en ([] : List Str)) (d2 := en L) (d3 := .none) (ea_cons (ev_tup ea_nil) (ea_cons (ev_var rfl) (ea_one ev_non))) rfl rfl rfl rfl rfl rfl (by decide) (by decide) (by decide) rfl) ?_
  refine sg_whileW (α := List Str × List Lg × Option (List Str)) (fun x => [.im (en L), .im (en s), .im (en a), .im (en x.1), .im (en x.2.1), .im (enO x.2.2), .no]) (fun x => Cn L x.1 x.2.1 ∧ (x.2.2 = some [] → (x.1, x.2.1) = mCw L s a) ∧ (x.2.2 ≠ some [] → ∃ n, (mCells L).length < n + x.1.length ∧ mCwF s a n x.1 x.2.1 = mCw L s a)) (fun x => if x.2.2 = some [] then 0 else 1 + ((mCells L).length - x.1.length)) ([], L, none) ⟨.nil, (fun h => nomatch h), fun _ => ⟨(mCells L).length + 1, by simp, rfl⟩⟩ (Wk.rfl' _) ?_
  rintro ⟨D, G, m⟩ ⟨hD, q1, q2⟩
  have hD : Cn L D G := hD
  have hDl := hD.len
  have q1 : m = some [] → (D, G) = mCw L s a := q1
  have q2 : m ≠ some [] → ∃ n, (mCells L).length < n + D.length ∧ mCwF s a n D G = mCw L s a := q2
  refine ⟨!decide (m = some []) && !decide (G = []), et_and (et_test (tv_neO (α := Str) (xs := []) (ev_var rfl).c (ev_tup ea_nil).c)) fun _ => et_test (tv_ne (α := List Lg) (x := G) (y := []) (ev_var rfl).c (ev_tup ea_nil).c), fun hb => ?_, fun hb => ?_⟩
  · rw [Bool.and_eq_true] at hb
    have hm : m ≠ some [] := by simpa using hb.1
    have hG : G ≠ [] := by simpa using hb.2
    obtain ⟨n, hn, e⟩ := q2 hm
    have hGw := h1.subl hD.gs
    have hal := mUnread_len (D := D) hGw
    generalize hM : ((mUnread G D).filter fun c => !decide (c = a)) = M at *
    have hsub : M.Sublist (mUnread G D) := by rw [← hM]; exact List.filter_sublist
    have hD' := hD.app h1 hsub (mPairsAt s M)
    have hDl' := hD'.len
    rw [List.length_append] at hDl'
    have hpl : (mPairsAt s M).length ≤ 100 := Nat.le_trans (List.length_filter_le ..) hs
    refine sg_then (sg_set (d := en M) (tv_tup ((tv_lc en (mUnread G D) (p := fun c => !decide (c = a)) (f := en) (it_lst (tv_call (G, D) (ea_cons (ev_var rfl) (ea_one (ev_var rfl))) hGw)) (fun c _ => tg_name rfl rfl) (fun c _ => et_test (tv_ne (ev_var rfl).c (ev_var rfl).c)) (fun c _ _ => ev_var rfl) (by omega)).cast (by rw [hM])).c) rfl rfl rfl) ?_
    refine sg_then (sg_augT (ds := D.map en) (es := M.map en) rfl (ev_var rfl).c (by rw [List.length_map, List.length_map]; omega) rfl) ?_
    rw [← List.map_append]
    refine sg_set (tv_call (G, mPairsAt s M) (ea_cons (ev_var rfl) (ea_one (tv_call (s, M) (ea_cons (ev_var rfl) (ea_one (ev_var rfl))) hs))) ⟨hGw, hpl⟩) rfl rfl ?_
    cases n with
    | zero => omega
    | succ n =>
      unfold mCwF at e
      rw [if_neg hG, hM] at e
      by_cases hz : M = []
      · rw [if_pos hz] at e
        subst hz
        refine ⟨(D, G, some []), by simp [hm]; omega, ⟨hD, fun _ => e, fun h => absurd rfl h⟩, ?_⟩
        show Wk [_, _, _, .im (en (D ++ [])), .im (en (mAgreeing G (mPairsAt s []))), _, _] _
        rw [List.append_nil, pairs_nil, agree_nil]
        exact wk_ok
      · rw [if_neg hz] at e
        have hz0 := List.length_pos_iff.mpr hz
        refine ⟨(D ++ M, mAgreeing G (mPairsAt s M), some M), ?_, ⟨hD', fun h => absurd (Option.some.inj h) hz, fun _ => ⟨n, ?_, e⟩⟩, ?_⟩
        · simp only [hm, if_false, Option.some.injEq, hz, List.length_append]
          omega
        · show _ < n + (D ++ M).length
          rw [List.length_append]
          omega
        · exact wk_ok
  · have hX : (D, G) = mCw L s a := by
      by_cases hm : m = some []
      · exact q1 hm
      · obtain ⟨n, hn, e⟩ := q2 hm
        have hG : G = [] := by
          simp [hm] at hb
          exact hb
        rw [← e]
        cases n with
        | zero => rfl
        | succ n =>
          unfold mCwF
          rw [if_pos hG]
    refine sg_ret (ev_tup (ea_cons (ev_var rfl) (ea_one (ev_var rfl)))) ?_
    rw [← hX]
    rfl
theorem ok_reached_with (T : Tx mg tk) (t : Txt1 K mg "reached_with" (topS 58) ["logs", "snapshot", "log"]) (h_agreeing : Has P w K mg base "agreeing" 1 ["logs", "known"] (SpD K R_agreeing)) (h_pairs_at : Has P w K mg base "pairs_at" 1 ["snapshot", "cells"] (SpD K R_pairs_at)) (h_unread_shared : Has P w K mg base "unread_shared" 2 ["logs", "done"] (SpD K R_unread_shared)) : Has P w K mg base "reached_with" 3 ["logs", "snapshot", "log"] (SpD K R_reached_with) := by
  have sc : FnScope ["logs", "snapshot", "log", "pair", "same", "done", "group", "more", "cell"] ["logs", "snapshot", "log"] (defScope (topS 58)) := ⟨rfl, rfl, rfl, by decide +kernel, rfl, by decide +kernel, by decide +kernel⟩
  refine has_rel t sc (fun a => rfl) (by decide) (fun f cdv A outer s H E hr => (pss_cons (ps_set (i := 4) sc.nd rfl (.inr rfl) (pe_lc (own := [("pair", 3)]) (by rfl) sc.nd (k_piT K rfl (pv 1)) (blkOk_by (by kernel_rfl)) (fun _ _ _ _ _ => (pg_name (i := 3) sc.nd rfl (.inl rfl))) (fun _ _ _ _ _ => (pts_one (pt_cmpR (k_in K rfl hr.units) (pv 3) (pv 2) (by rfl)))) (fun _ _ _ _ _ => (pe_ix (k_ix K rfl) (pv 3) pe_int (fun _ _ => rfl)))))
  (pss_cons (ps_par3 (i := 5) (j := 6) (l := 7) (by rfl) sc.nd rfl rfl rfl (by decide) (by decide) (by decide) rfl rfl rfl (pa_cons (pe_tupF pa_nil) (pa_cons (pv 0) (pa_cons pe_non pa_nil))) (by rfl))
  (pss_cons (ps_while PassesOwn.never (pt_cmpR (k_ne K rfl hr.units) (pv 7) (pe_tupF pa_nil) (nomark _))
   (pss_cons (ps_set (i := 7) sc.nd rfl (.inl rfl) (pe_callTy (k_tup K rfl) (by rfl) T.b_tuple (by decide +kernel) (pa_cons (pe_lc (own := [("cell", 8)]) (by rfl) sc.nd (k_piL K rfl (pe_has (h_unread_shared.up (by decide)) hr (by rfl) (pa_cons (pv 6) (pa_cons (pv 5) pa_nil)))) (blkOk_by (by kernel_rfl)) (fun _ _ _ _ _ => (pg_name (i := 8) sc.nd rfl (.inl rfl))) (fun _ _ _ _ _ => (pts_one (pt_cmpR (k_in K rfl hr.units) (pv 8) (pv 4) (by rfl)))) (fun _ _ _ _ _ => (pv 8))) pa_nil)))
  (pss_cons (ps_aug (i := 5) sc.nd rfl (.inl rfl) (pv 7) (k_icat K rfl))
  (pss_one (ps_set (i := 6) sc.nd rfl (.inl rfl) (pe_has (h_agreeing.up (by decide)) hr (by rfl) (pa_cons (pv 6) (pa_cons (pe_has (h_pairs_at.up (by decide)) hr (by rfl) (pa_cons (pv 1) (pa_cons (pv 7) pa_nil))) pa_nil))))))))
  (pss_one (ps_ret (pe_op (k_cat K rfl) (pv 5) (pe_callTy (k_tup K rfl) (by rfl) T.b_tuple (by decide +kernel) (pa_cons (pe_has (h_unread_shared.up (by decide)) hr (by rfl) (pa_cons (pv 6) (pa_cons (pv 5) pa_nil))) pa_nil))))))))) ?_
  intro a ha
  obtain ⟨L, s, l⟩ := a
  obtain ⟨h1, h2⟩ : LgsW L ∧ LgW s := ha
  have hs := h2.len
  have hc := mCells_len h1
  refine sg_then (sg_set (d := .list ((mSame s l).map en)) ((tv_lc en s (p := fun p => decide (p ∈ l)) (f := fun p => en p.1) (tv_it (ev_var rfl)) (fun p _ => tg_name rfl rfl) (fun p _ => et_test ((tv_in (α := Str × Int) (x := p) (xs := l) (ev_var rfl).c (ev_var rfl).c).cast (congrArg _ (decide_eq_decide.mpr Iff.rfl)))) (fun p _ _ => tv_pr1 (ev_var rfl).c) (by omega)).g.cast (by unfold mSame; rw [List.map_map]; rfl)) rfl rfl rfl) ?_
  refine sg_then (sg_par3 (d1 := en ([] : List Str)) (d2 := en L) (d3 := .none) (ea_cons (ev_tup ea_nil) (ea_cons (ev_var rfl) (ea_one ev_non))) rfl rfl rfl rfl rfl rfl (by decide) (by decide) (by decide) rfl) ?_
  generalize hsm : mSame s l = sm at *
  have hX0 : mReF s sm ((mCells L).length + 1) [] L = mRe L s l := by rw [← hsm]; rfl
  refine sg_whileW (α := List Str × List Lg × Option (List Str)) (fun x => [.im (en L), .im (en s), .im (en l), .no, .im (.list (sm.map en)), .im (en x.1), .im (en x.2.1), .im (enO x.2.2), .no]) (fun x => Cn L x.1 x.2.1 ∧ (x.2.2 = some [] → (x.1, x.2.1) = mRe L s l) ∧ (x.2.2 ≠ some [] → ∃ n, (mCells L).length < n + x.1.length ∧ mReF s sm n x.1 x.2.1 = mRe L s l)) (fun x => if x.2.2 = some [] then 0 else 1 + ((mCells L).length - x.1.length)) ([], L, none) ⟨.nil, (fun h => nomatch h), fun _ => ⟨(mCells L).length + 1, by simp, hX0⟩⟩ (Wk.rfl' _) ?_
  rintro ⟨D, G, m⟩ ⟨hD, q1, q2⟩
  have hD : Cn L D G := hD
  have hDl := hD.len
  have q1 : m = some [] → (D, G) = mRe L s l := q1
  have q2 : m ≠ some [] → ∃ n, (mCells L).length < n + D.length ∧ mReF s sm n D G = mRe L s l := q2
  have hGw := h1.subl hD.gs
  have hal := mUnread_len (D := D) hGw
  refine ⟨!decide (m = some []), et_test (tv_neO (α := Str) (xs := []) (ev_var rfl).c (ev_tup ea_nil).c), fun hb => ?_, fun hb => ?_⟩
  · have hm : m ≠ some [] := by simpa using hb
    obtain ⟨n, hn, e⟩ := q2 hm
    generalize hM : ((mUnread G D).filter fun c => decide (c ∈ sm)) = M at *
    have hsub : M.Sublist (mUnread G D) := by rw [← hM]; exact List.filter_sublist
    have hD' := hD.app h1 hsub (mPairsAt s M)
    have hDl' := hD'.len
    rw [List.length_append] at hDl'
    have hpl : (mPairsAt s M).length ≤ 100 := Nat.le_trans (List.length_filter_le ..) hs
    refine sg_then (sg_set (d := en M) (tv_tup ((tv_lc en (mUnread G D) (p := fun c => decide (c ∈ sm)) (f := en) (it_lst (tv_call (G, D) (ea_cons (ev_var rfl) (ea_one (ev_var rfl))) hGw)) (fun c _ => tg_name rfl rfl) (fun c _ => et_test (tv_inL (ev_var rfl).c (ev_var rfl).c)) (fun c _ _ => ev_var rfl) (by omega)).cast (by rw [hM])).c) rfl rfl rfl) ?_
    refine sg_then (sg_augT (ds := D.map en) (es := M.map en) rfl (ev_var rfl).c (by rw [List.length_map, List.length_map]; omega) rfl) ?_
    rw [← List.map_append]
    refine sg_set (tv_call (G, mPairsAt s M) (ea_cons (ev_var rfl) (ea_one (tv_call (s, M) (ea_cons (ev_var rfl) (ea_one (ev_var rfl))) hs))) ⟨hGw, hpl⟩) rfl rfl ?_
    cases n with
    | zero => omega
    | succ n =>
      unfold mReF at e
      rw [hM] at e
      by_cases hz : M = []
      · rw [if_pos hz] at e
        subst hz
        refine ⟨(D, G, some []), by simp [hm]; omega, ⟨hD, fun _ => e, fun h => absurd rfl h⟩, ?_⟩
        show Wk [_, _, _, _, _, .im (en (D ++ [])), .im (en (mAgreeing G (mPairsAt s []))), _, _] _
        rw [List.append_nil, pairs_nil, agree_nil]
        exact wk_ok
      · rw [if_neg hz] at e
        have hz0 := List.length_pos_iff.mpr hz
        refine ⟨(D ++ M, mAgreeing G (mPairsAt s M), some M), ?_, ⟨hD', fun h => absurd (Option.some.inj h) hz, fun _ => ⟨n, ?_, e⟩⟩, ?_⟩
        · simp only [hm, if_false, Option.some.injEq, hz, List.length_append]
          omega
        · show _ < n + (D ++ M).length
          rw [List.length_append]
          omega
        · exact wk_ok
  · have hm : m = some [] := by simpa using hb
    refine sg_ret (tv_cat (xs := D) (ys := mUnread G D) (ev_var rfl).c (tv_tup (tv_call (G, D) (ea_cons (ev_var rfl) (ea_one (ev_var rfl))) hGw).c).c (by omega)) ?_
    show _ = en (mReached L s l)
    unfold mReached
    rw [← q1 hm]
theorem ok_possible_reads (T : Tx mg tk) (t : Txt1 K mg "possible_reads" (topS 59) ["logs", "snapshot"]) (h_check_snapshot : Has P w K mg base "check_snapshot" 8 ["logs", "snapshot"] (SpD K R_check_snapshot)) (h_reached_with : Has P w K mg base "reached_with" 3 ["logs", "snapshot", "log"] (SpD K R_reached_with)) : Has P w K mg base "possible_reads" 9 ["logs", "snapshot"] (SpD K R_possible_reads) := by
  have sc : FnScope ["logs", "snapshot", "found", "log", "cell"] ["logs", "snapshot"] (defScope (topS 59)) := ⟨rfl, rfl, rfl, by decide +kernel, rfl, by decide +kernel, by decide +kernel⟩
  refine has_rel t sc (fun a => rfl) (by decide) (fun f cdv A outer s H E hr => (pss_cons (ps_expr (pe_has (h_check_snapshot.up (by decide)) hr (by rfl) (pa_cons (pv 0) (pa_cons (pv 1) pa_nil))))
  (pss_cons (ps_set (i := 2) sc.nd rfl (.inr rfl) (pe_lst pa_nil))
  (pss_cons (ps_for PassesOwn.never rfl (k_piT K rfl (pv 0)) (pg_name (i := 3) sc.nd rfl (.inl rfl))
   (pss_one (ps_expr (k_bm K rfl PySem.F.plainAttrs_list PySem.F.slot_list_extend PySem.F.type_list_extend mt_extend (pv 2) (pa_cons (pe_lc (own := [("cell", 4)]) (by rfl) sc.nd (k_piT K rfl (pe_has (h_reached_with.up (by decide)) hr (by rfl) (pa_cons (pv 0) (pa_cons (pv 1) (pa_cons (pv 3) pa_nil))))) (blkOk_by (by kernel_rfl)) (fun _ _ _ _ _ => (pg_name (i := 4) sc.nd rfl (.inl rfl))) (fun _ _ _ _ _ => (pts_one (pt_cmpR (k_ni K rfl hr.units) (pv 4) (pv 2) (by rfl)))) (fun _ _ _ _ _ => (pv 4))) pa_nil)))))
  (pss_one (ps_ret (pe_callTy (k_tup K rfl) (by rfl) T.b_tuple (by decide +kernel) (pa_cons (pe_callB (k_sorted K rfl hr.units) (by rfl) T.b_sorted (by decide +kernel) (pa_cons (pv 2) pa_nil)) pa_nil)))))))) ?_
  intro a ha
  obtain ⟨L, s⟩ := a
  have ha : RdS L s := ha
  have hc := mCells_len ha.w
  refine sg_then (sg_drop (tv_call (L, s) (ea_cons (ev_var rfl) (ea_one (ev_var rfl))) ha) rfl) ?_
  refine sg_then (sg_setL (i := 2) (el_lst ea_nil) rfl rfl rfl) ?_
  refine sg_forW (fun i => [.im (en L), .im (en s), .ac ((mPossF L s (L.take i)).map en), .no, .no]) (tv_it (ev_var rfl)) (Wk.rfl' _) (fun i d hd => ?_) ?_
  · rw [List.getElem?_map] at hd
    obtain ⟨l, hl, rfl⟩ := Option.map_eq_some_iff.mp hd
    have hi := (List.getElem?_eq_some_iff.mp hl).1
    have hr := mReached_ok (s := s) (l := l) ha.w
    have hrl := nodup_sub hr.1 hr.2
    have hp := poss_len (s := s) ha.w L i (Nat.le_of_lt hi)
    refine ⟨_, _, tg_name (j := 3) rfl rfl, ?_⟩
    refine sg_ext (es := ((mReached L s l).filter fun c => !decide (c ∈ mPossF L s (L.take i))).map en) rfl (tv_lc en (mReached L s l) (p := fun c => !decide (c ∈ mPossF L s (L.take i))) (f := en) (tv_it (tv_call (L, s, l) (ea_cons (ev_var rfl) (ea_cons (ev_var rfl) (ea_one (ev_var rfl)))) ⟨ha.w, ha.sn.w⟩)) (fun c _ => tg_name rfl rfl) (fun c _ => et_test (tv_niL (ev_var rfl).c (ec_ac rfl))) (fun c _ _ => ev_var rfl) (by omega)) ?_ ?_
    · have := List.length_filter_le (fun c => !decide (c ∈ mPossF L s (L.take i))) (mReached L s l)
      rw [List.length_map, List.length_map]
      omega
    · show Wk _ [_, _, .ac ((mPossF L s (L.take (i + 1))).map en), _, _]
      rw [poss_step hl, List.map_append]
      exact wk_ok
  · have hp := poss_len (s := s) ha.w L L.length (Nat.le_refl _)
    rw [List.length_map, List.take_length]
    rw [List.take_length] at hp
    exact sg_ret (tv_tup (tv_sortL (ec_ac rfl) (by show (mPossF L s L).length ≤ _; omega)).c) rfl
end
end K97
set_option Elab.async false
set_option linter.all false
set_option maxRecDepth 100000
set_option maxHeartbeats 4000000
/-! K97: the defs of evidence. -/
namespace K97
open Dt (en)
open PySem L2
section
variable {P : Program} {w : World} {K : Fg} {mg : Str → Option Value} {base : Heap} {tk : Nat → Tok}
def R_check_cells := Rel (A := List Lg × Lg × Str × Str) (fun a => Rd0 a.1 a.2.1 ∧ a.2.2.1 ∈ cellsOf a.2.1 ∧ a.2.2.2 ∈ cellsOf a.2.1 ∧ a.2.2.1 ≠ a.2.2.2) (fun a => [en a.1, en a.2.1, en a.2.2.1, en a.2.2.2]) fun a => .none
def R_evidence_of := Rel (A := List Lg × Lg × Str × Str) (fun a => Rd0 a.1 a.2.1 ∧ a.2.2.1 ∈ cellsOf a.2.1 ∧ a.2.2.2 ∈ cellsOf a.2.1 ∧ a.2.2.1 ≠ a.2.2.2 ∧ a.2.2.2 ∉ mReadW a.1 a.2.1 [a.2.2.1]) (fun a => [en a.1, en a.2.1, en a.2.2.1, en a.2.2.2]) fun a => en (mEvid a.1 a.2.1 a.2.2.1)
def R_are_cells_of := Rel (A := Lg × List Str) (fun a => LgW a.1 ∧ (∀ c ∈ a.2, c ∈ cellsOf a.1) ∧ Up a.2) (fun a => [en a.1, en a.2]) fun a => .bool true
def R_lacks := Rel (A := List Lg × (Str × Lg) × Str) (fun a => LackOk a.1 a.2.1 a.2.2) (fun a => [en a.1, en a.2.1, en a.2.2]) fun a => .bool true
def R_are_witnesses := Rel (A := List Lg × List (Str × Lg) × List Str) (fun a => WitOk a.1 a.2.1 a.2.2 ∧ a.2.2.length ≤ 10000) (fun a => [en a.1, en a.2.1, .list (a.2.2.map en)]) fun a => .bool true
def R_shows_precedence := Rel (A := List Lg × Lg × Str × Str × Evd) (fun a => Rd0 a.1 a.2.1 ∧ a.2.2.1 ∈ cellsOf a.2.1 ∧ a.2.2.2.1 ∈ cellsOf a.2.1 ∧ a.2.2.1 ≠ a.2.2.2.1 ∧ EvPre a.1 a.2.1 a.2.2.1 a.2.2.2.1 a.2.2.2.2) (fun a => [en a.1, en a.2.1, en a.2.2.1, en a.2.2.2.1, en a.2.2.2.2]) fun a => .bool true
theorem ok_begins_order (T : Tx mg tk) (t : Txt1 K mg "begins_order" (topS 39) ["logs", "log", "thing"]) (h_available : Has P w K mg base "available" 3 ["logs", "log", "done"] (SpD K R_available)) (h_is_cell : Has P w K mg base "is_cell" 1 ["thing"] (SpD K R_is_cell)) : Has P w K mg base "begins_order" 4 ["logs", "log", "thing"] (SpD K R_begins_order) := by
  have sc : FnScope ["logs", "log", "thing", "cell", "at"] ["logs", "log", "thing"] (defScope (topS 39)) := ⟨rfl, rfl, rfl, by decide +kernel, rfl, by decide +kernel, by decide +kernel⟩
  refine has_rel t sc (fun a => rfl) (by decide) (fun f cdv A outer s H E hr => (pss_cons (ps_if (PW.pt (pw_or (pt_not (pt_val (pe_callB (k_isi K rfl) (by rfl) T.b_isinstance (by decide +kernel) (pa_cons (pv 2) (pa_cons (pe_bltn (v := .ty "tuple") (by rfl) T.b_tuple (by decide +kernel) rfl) pa_nil))))) (pw_or1 (pt_not (pt_val (pe_callB (k_all K rfl rfl) (by rfl) T.b_all (by decide +kernel) (pa_cons (pe_lc (own := [("cell", 3)]) (by rfl) sc.nd (k_piT K rfl (pv 2)) (blkOk_by (by kernel_rfl)) (fun _ _ _ _ _ => (pg_name (i := 3) sc.nd rfl (.inl rfl))) (fun _ _ _ _ _ => pts_nil) (fun _ _ _ _ _ => (pe_has (h_is_cell.up (by decide)) hr (by rfl) (pa_cons (pv 3) pa_nil)))) pa_nil)))))))
   (pss_one (ps_ret pe_bl))
   pss_nil)
  (pss_one (ps_ret (pe_callB (k_all K rfl rfl) (by rfl) T.b_all (by decide +kernel) (pa_cons (pe_lc (own := [("at", 4), ("cell", 3)]) (by rfl) sc.nd (k_enumT K rfl (by rfl) T.b_enumerate (pa_cons (pv 2) pa_nil)) (blkOk_by (by kernel_rfl)) (fun _ _ _ _ _ => (k_pgT K rfl (n := 2) rfl (pgs_cons (pg_name (i := 4) sc.nd rfl (.inl rfl)) (pgs_cons (pg_name (i := 3) sc.nd rfl (.inl rfl)) pgs_nil)))) (fun _ _ _ _ _ => pts_nil) (fun _ _ _ _ _ => (pe_cmpR (k_in K rfl hr.units) (pv 3) (pe_has (h_available.up (by decide)) hr (by rfl) (pa_cons (pv 0) (pa_cons (pv 1) (pa_cons (pe_slice (k_slT K rfl) (pv 2) po_none (po_some (pv 4))) pa_nil)))) (by rfl)))) pa_nil)))))) ?_
  intro a ha
  obtain ⟨L, l⟩ := a
  refine sg_then (sg_if (a := false) (et_or (a := false) (b := false) (et_not (b := true) (et_test (ev_isi (ev_var rfl) rfl))) fun _ => et_not (b := true) (et_test ((tv_all en ([] : List Str) (f := fun _ => true) (tv_it (ev_var rfl)) (fun p _ => tg_name rfl rfl) (fun p hp => nomatch hp) (by simp)).cast rfl))) (fun h => nomatch h) (fun _ => sg_next rfl)) ?_
  exact sg_ret ((tv_all (γ := Unit) (js := []) (Γ2 := fun _ => []) (fun _ => .none) [] (f := fun _ => true) (it_enum0 (ea_one (ev_var rfl))) (fun x h => nomatch h) (fun x h => nomatch h) (by simp)).cast rfl) rfl
theorem ok_check_cells (T : Tx mg tk) (t : Txt1 K mg "check_cells" (topS 62) ["logs", "log", "first", "later"]) (h_check_log : Has P w K mg base "check_log" 8 ["logs", "log"] (SpD K R_check_log)) (h_has_cell : Has P w K mg base "has_cell" 1 ["log", "cell"] (SpD K R_has_cell)) (h_is_cell : Has P w K mg base "is_cell" 1 ["thing"] (SpD K R_is_cell)) : Has P w K mg base "check_cells" 9 ["logs", "log", "first", "later"] (SpD K R_check_cells) := by
  have sc : FnScope ["logs", "log", "first", "later", "cell"] ["logs", "log", "first", "later"] (defScope (topS 62)) := ⟨rfl, rfl, rfl, by decide +kernel, rfl, by decide +kernel, by decide +kernel⟩
  refine has_rel t sc (fun a => rfl) (by decide) (fun f cdv A outer s H E hr => (pss_cons (ps_expr (pe_has (h_check_log.up (by decide)) hr (by rfl) (pa_cons (pv 0) (pa_cons (pv 1) pa_nil))))
  (pss_cons (ps_for PassesOwn.never rfl (k_piT K rfl (pe_tupF (pa_cons (pv 2) (pa_cons (pv 3) pa_nil)))) (pg_name (i := 4) sc.nd rfl (.inl rfl))
   (pss_one (ps_if (PW.pt (pw_or (pt_not (pt_val (pe_has (h_is_cell.up (by decide)) hr (by rfl) (pa_cons (pv 4) pa_nil)))) (pw_or1 (pt_not (pt_val (pe_has (h_has_cell.up (by decide)) hr (by rfl) (pa_cons (pv 1) (pa_cons (pv 4) pa_nil))))))))
   (pss_one ps_never)
   pss_nil)))
  (pss_one (ps_if (pt_cmpR (k_eq K rfl hr.units) (pv 2) (pv 3) (nomark _))
   (pss_one ps_never)
   pss_nil))))) ?_
  intro a ha
  obtain ⟨L, l, x, y⟩ := a
  obtain ⟨h1, h2, h3, h4⟩ : Rd0 L l ∧ x ∈ cellsOf l ∧ y ∈ cellsOf l ∧ x ≠ y := ha
  have hl := h1.ok.len
  refine sg_then (sg_drop (tv_call (L, l) (ea_cons (ev_var rfl) (ea_one (ev_var rfl))) h1) rfl) ?_
  refine sg_forW (fun _ => [.im (en L), .im (en l), .im (en x), .im (en y), .no]) (tv_it (xs := [x, y]) (ev_tup (ea_cons (ev_var rfl) (ea_one (ev_var rfl))))) (Wk.rfl' _) (fun i d hd => ?_) ?_
  · rw [List.getElem?_map] at hd
    obtain ⟨c, hc, rfl⟩ := Option.map_eq_some_iff.mp hd
    have hcm : c ∈ cellsOf l := by
      rcases List.mem_cons.mp (List.mem_of_getElem? hc) with rfl | h
      · exact h2
      · cases List.mem_singleton.mp h
        exact h3
    refine ⟨_, _, tg_name (j := 4) rfl rfl, ?_⟩
    refine sg_if (a := false) (et_or (a := false) (b := false) (et_not (b := true) (et_test (tv_call c (ea_one (ev_var rfl)) (cell_ok h1.ok hcm)))) fun _ => et_not (b := true) (et_test ((tv_call (l, c) (ea_cons (ev_var rfl) (ea_one (ev_var rfl))) (by show l.length ≤ 1000; omega)).cast ?_))) (fun h => nomatch h) fun _ => sg_next wk_ok
    exact congrArg _ (decide_eq_true hcm)
  · exact sg_if (a := false) (et_test ((tv_eq (α := Str) (x := x) (y := y) (ev_var rfl).c (ev_var rfl).c).cast (by rw [decide_eq_false h4]))) (fun h => nomatch h) fun _ => sg_next rfl
theorem ok_are_cells_of (T : Tx mg tk) (t : Txt1 K mg "are_cells_of" (topS 64) ["log", "thing"]) (h_has_cell : Has P w K mg base "has_cell" 1 ["log", "cell"] (SpD K R_has_cell)) (h_is_cell : Has P w K mg base "is_cell" 1 ["thing"] (SpD K R_is_cell)) : Has P w K mg base "are_cells_of" 2 ["log", "thing"] (SpD K R_are_cells_of) := by
  have sc : FnScope ["log", "thing", "cell", "one", "other"] ["log", "thing"] (defScope (topS 64)) := ⟨rfl, rfl, rfl, by decide +kernel, rfl, by decide +kernel, by decide +kernel⟩
  refine has_rel t sc (fun a => rfl) (by decide) (fun f cdv A outer s H E hr => (pss_cons (ps_if (PW.pt (pw_or (pt_not (pt_val (pe_callB (k_isi K rfl) (by rfl) T.b_isinstance (by decide +kernel) (pa_cons (pv 1) (pa_cons (pe_bltn (v := .ty "tuple") (by rfl) T.b_tuple (by decide +kernel) rfl) pa_nil))))) (pw_or1 (pt_not (pt_val (pe_callB (k_all K rfl rfl) (by rfl) T.b_all (by decide +kernel) (pa_cons (pe_lc (own := [("cell", 2)]) (by rfl) sc.nd (k_piT K rfl (pv 1)) (blkOk_by (by kernel_rfl)) (fun _ _ _ _ _ => (pg_name (i := 2) sc.nd rfl (.inl rfl))) (fun _ _ _ _ _ => pts_nil) (fun _ _ _ _ _ => (pe_and (pe_has (h_is_cell.up (by decide)) hr (by rfl) (pa_cons (pv 2) pa_nil)) (pe_one (pe_has (h_has_cell.up (by decide)) hr (by rfl) (pa_cons (pv 0) (pa_cons (pv 2) pa_nil))))))) pa_nil)))))))
   (pss_one (ps_ret pe_bl))
   pss_nil)
  (pss_one (ps_ret (pe_callB (k_all K rfl rfl) (by rfl) T.b_all (by decide +kernel) (pa_cons (pe_lc (own := [("one", 3), ("other", 4)]) (by rfl) sc.nd (k_zip K rfl (by rfl) T.b_zip (pa_cons (pv 1) (pa_cons (pe_slice (k_slT K rfl) (pv 1) (po_some pe_int) po_none) pa_nil))) (blkOk_by (by kernel_rfl)) (fun _ _ _ _ _ => (k_pgT K rfl (n := 2) rfl (pgs_cons (pg_name (i := 3) sc.nd rfl (.inl rfl)) (pgs_cons (pg_name (i := 4) sc.nd rfl (.inl rfl)) pgs_nil)))) (fun _ _ _ _ _ => pts_nil) (fun _ _ _ _ _ => (pe_cmpR (op_lt_str) (pv 3) (pv 4) (nomark _)))) pa_nil)))))) ?_
  intro a ha
  obtain ⟨l, C⟩ := a
  obtain ⟨h1, h2, h3⟩ : LgW l ∧ (∀ c ∈ C, c ∈ cellsOf l) ∧ Up C := ha
  have hl := h1.len
  have hC := nodup_sub h3.nodup h2
  rw [cellsOf, List.length_map] at hC
  refine sg_then (sg_if (a := false) (et_or (a := false) (b := false) (et_not (b := true) (et_test (ev_isi (ev_var rfl) rfl))) fun _ => et_not (b := true) (et_test ((tv_all en C (f := fun _ => true) (tv_it (ev_var rfl)) (fun p _ => tg_name rfl rfl) (fun c hc => (ev_and (a := true) (b := true) (tv_call c (ea_one (ev_var rfl)) (cell_ok h1 (h2 c hc))) fun _ => (tv_call (l, c) (ea_cons (ev_var rfl) (ea_one (ev_var rfl))) (by show l.length ≤ 1000; omega)).cast (congrArg _ (decide_eq_true (h2 c hc)))).cast rfl) (by omega)).cast (by simp)))) (fun h => nomatch h) (fun _ => sg_next rfl)) ?_
  refine sg_ret ((tv_all (fun p : Str × Str => .tuple [en p.1, en p.2]) (C.zip (C.drop 1)) (f := fun _ => true) ((it_zipT (ea_cons (ev_var rfl) (ea_one (ev_slT (ev_var rfl).c (eo_int ev_int) eo_no)))).cast ?_) (fun p _ => tg_pair rfl rfl rfl rfl) (fun p hp => (tv_ltS (ev_var rfl) (ev_var rfl)).cast ?_) ?_).cast ?_) rfl
  · rw [cutD_1, ← List.map_drop, List.zip_map, List.map_map]
    rfl
  · rw [upz h3 p hp]
  · rw [List.length_zip]
    omega
  · rw [List.all_eq_true.mpr]
    intro x _
    rfl
theorem ok_lacks (T : Tx mg tk) (t : Txt1 K mg "lacks" (topS 65) ["group", "thing", "cell"]) (h_has_cell : Has P w K mg base "has_cell" 1 ["log", "cell"] (SpD K R_has_cell)) (h_has_log_form : Has P w K mg base "has_log_form" 3 ["thing"] (SpD K R_has_log_form)) (h_is_cell : Has P w K mg base "is_cell" 1 ["thing"] (SpD K R_is_cell)) : Has P w K mg base "lacks" 4 ["group", "thing", "cell"] (SpD K R_lacks) := by
  have sc : FnScope ["group", "thing", "cell"] ["group", "thing", "cell"] (defScope (topS 65)) := ⟨rfl, rfl, rfl, by decide +kernel, rfl, by decide +kernel, by decide +kernel⟩
  refine has_rel t sc (fun a => rfl) (by decide) (fun f cdv A outer s H E hr => (pss_cons (ps_if (PW.pt (pw_or (pt_not (pt_val (pe_callB (k_isi K rfl) (by rfl) T.b_isinstance (by decide +kernel) (pa_cons (pv 1) (pa_cons (pe_bltn (v := .ty "tuple") (by rfl) T.b_tuple (by decide +kernel) rfl) pa_nil))))) (pw_or (pt_cmpR (k_ne K rfl hr.units) (pe_callB (k_len K rfl) (by rfl) T.b_len (by decide +kernel) (pa_cons (pv 1) pa_nil)) (pe_glob (v := .int 2) (by rfl) T.c_PARTS_evidence ⟨_, rfl⟩) (nomark _)) (pw_or (pt_not (pt_val (pe_has (h_is_cell.up (by decide)) hr (by rfl) (pa_cons (pe_ix (k_ix K rfl) (pv 1) pe_int (fun _ _ => rfl)) pa_nil)))) (pw_or1 (pt_cmpR (k_ne K rfl hr.units) (pe_ix (k_ix K rfl) (pv 1) pe_int (fun _ _ => rfl)) (pv 2) (nomark _)))))))
   (pss_one (ps_ret pe_bl))
   pss_nil)
  (pss_one (ps_ret (pe_and (pe_has (h_has_log_form.up (by decide)) hr (by rfl) (pa_cons (pe_ix (k_ix K rfl) (pv 1) pe_int (fun _ _ => rfl)) pa_nil)) (pe_and (pe_cmpR (k_in K rfl hr.units) (pe_ix (k_ix K rfl) (pv 1) pe_int (fun _ _ => rfl)) (pv 0) (by rfl)) (pe_one (pe_not (pe_has (h_has_cell.up (by decide)) hr (by rfl) (pa_cons (pe_ix (k_ix K rfl) (pv 1) pe_int (fun _ _ => rfl)) (pa_cons (pv 2) pa_nil))))))))))) ?_
  intro a ha
  obtain ⟨G, ⟨x, m⟩, c⟩ := a
  obtain ⟨h1, h2, h3, h4, h5⟩ : LackOk G (x, m) c := ha
  have h1 : x = c := h1
  subst h1
  have hm : m.length ≤ 100 := h3.len
  refine sg_then (sg_if (a := false) (et_or (a := false) (b := false) (et_not (b := true) (et_test (ev_isi (ev_var rfl) rfl))) fun _ => et_or (a := false) (b := false) (et_test ((tv_ne (α := Int) (ev_lenT (ev_var rfl).c).c ev_int.c).cast rfl)) fun _ => et_or (a := false) (b := false) (et_not (b := true) (et_test (tv_call x (ea_one (tv_pr1 (p := (x, m)) (ev_var rfl).c)) h2))) fun _ => et_test ((tv_ne (α := Str) (x := x) (y := x) (tv_pr1 (p := (x, m)) (ev_var rfl).c).c (ev_var rfl).c).cast (by simp))) (fun h => nomatch h) (fun _ => sg_next rfl)) ?_
  refine sg_ret ((ev_and (a := true) (b := true) (tv_call m (ea_one (tv_pr2 (p := (x, m)) (ev_var rfl).c)) h3) fun _ => ev_and (a := true) (b := true) ((tv_in (α := Lg) (x := m) (xs := G) (tv_pr2 (p := (x, m)) (ev_var rfl).c).c (ev_var rfl).c).cast (by simp [h4])) fun _ => ev_not (a := false) ((tv_call (m, x) (ea_cons (tv_pr2 (p := (x, m)) (ev_var rfl).c) (ea_one (ev_var rfl))) (by show m.length ≤ 1000; omega)).cast (congrArg _ (decide_eq_false h5)))).cast rfl) rfl
theorem ok_are_witnesses (T : Tx mg tk) (t : Txt1 K mg "are_witnesses" (topS 66) ["group", "thing", "cells"]) (h_lacks : Has P w K mg base "lacks" 4 ["group", "thing", "cell"] (SpD K R_lacks)) : Has P w K mg base "are_witnesses" 5 ["group", "thing", "cells"] (SpD K R_are_witnesses) := by
  have sc : FnScope ["group", "thing", "cells", "pair", "cell"] ["group", "thing", "cells"] (defScope (topS 66)) := ⟨rfl, rfl, rfl, by decide +kernel, rfl, by decide +kernel, by decide +kernel⟩
  refine has_rel t sc (fun a => rfl) (by decide) (fun f cdv A outer s H E hr => (pss_cons (ps_if (PW.pt (pw_or (pt_not (pt_val (pe_callB (k_isi K rfl) (by rfl) T.b_isinstance (by decide +kernel) (pa_cons (pv 1) (pa_cons (pe_bltn (v := .ty "tuple") (by rfl) T.b_tuple (by decide +kernel) rfl) pa_nil))))) (pw_or1 (pt_cmpR (k_ne K rfl hr.units) (pe_callB (k_len K rfl) (by rfl) T.b_len (by decide +kernel) (pa_cons (pv 1) pa_nil)) (pe_callB (k_len K rfl) (by rfl) T.b_len (by decide +kernel) (pa_cons (pv 2) pa_nil)) (nomark _)))))
   (pss_one (ps_ret pe_bl))
   pss_nil)
  (pss_one (ps_ret (pe_callB (k_all K rfl rfl) (by rfl) T.b_all (by decide +kernel) (pa_cons (pe_lc (own := [("pair", 3), ("cell", 4)]) (by rfl) sc.nd (k_zipTL K rfl (by rfl) T.b_zip (pa_cons (pv 1) (pa_cons (pv 2) pa_nil))) (blkOk_by (by kernel_rfl)) (fun _ _ _ _ _ => (k_pgT K rfl (n := 2) rfl (pgs_cons (pg_name (i := 3) sc.nd rfl (.inl rfl)) (pgs_cons (pg_name (i := 4) sc.nd rfl (.inl rfl)) pgs_nil)))) (fun _ _ _ _ _ => pts_nil) (fun _ _ _ _ _ => (pe_has (h_lacks.up (by decide)) hr (by rfl) (pa_cons (pv 0) (pa_cons (pv 3) (pa_cons (pv 4) pa_nil)))))) pa_nil)))))) ?_
  intro a ha
  obtain ⟨G, ws, cs⟩ := a
  obtain ⟨⟨h1, h2⟩, h3⟩ : WitOk G ws cs ∧ cs.length ≤ 10000 := ha
  refine sg_then (sg_if (a := false) (et_or (a := false) (b := false) (et_not (b := true) (et_test (ev_isi (ev_var rfl) rfl))) fun _ => et_test ((tv_ne (α := Int) (tv_len (xs := ws) (ev_var rfl).c).c (ev_lenL (ev_var rfl).c).c).cast ?_)) (fun h => nomatch h) (fun _ => sg_next rfl)) ?_
  · rw [List.length_map, h1]
    simp
  refine sg_ret ((tv_all (fun p : (Str × Lg) × Str => .tuple [en p.1, en p.2]) (ws.zip cs) (f := fun _ => true) ((it_zipTL (ea_cons (ev_var rfl) (ea_one (ev_var rfl)))).cast ?_) (fun p _ => tg_pair rfl rfl rfl rfl) (fun p hp => tv_call (G, p.1, p.2) (ea_cons (ev_var rfl) (ea_cons (ev_var rfl) (ea_one (ev_var rfl)))) (h2 p hp)) ?_).cast ?_) rfl
  · rw [List.zip_map, List.map_map]
    rfl
  · rw [List.length_zip]
    omega
  · rw [List.all_eq_true.mpr]
    intro x _
    rfl
theorem ok_evidence_of (T : Tx mg tk) (t : Txt1 K mg "evidence_of" (topS 63) ["logs", "log", "first", "later"]) (h_check_cells : Has P w K mg base "check_cells" 9 ["logs", "log", "first", "later"] (SpD K R_check_cells)) (h_group_after : Has P w K mg base "group_after" 2 ["logs", "log", "done"] (SpD K R_group_after)) (h_has_cell : Has P w K mg base "has_cell" 1 ["log", "cell"] (SpD K R_has_cell)) (h_read_without : Has P w K mg base "read_without" 4 ["logs", "log", "avoid"] (SpD K R_read_without)) : Has P w K mg base "evidence_of" 10 ["logs", "log", "first", "later"] (SpD K R_evidence_of) := by
  have sc : FnScope ["logs", "log", "first", "later", "done", "group", "witnesses", "cell", "value", "other"] ["logs", "log", "first", "later"] (defScope (topS 63)) := ⟨rfl, rfl, rfl, by decide +kernel, rfl, by decide +kernel, by decide +kernel⟩
  refine has_rel t sc (fun a => rfl) (by decide) (fun f cdv A outer s H E hr => (pss_cons (ps_expr (pe_has (h_check_cells.up (by decide)) hr (by rfl) (pa_cons (pv 0) (pa_cons (pv 1) (pa_cons (pv 2) (pa_cons (pv 3) pa_nil))))))
  (pss_cons (ps_set (i := 4) sc.nd rfl (.inl rfl) (pe_has (h_read_without.up (by decide)) hr (by rfl) (pa_cons (pv 0) (pa_cons (pv 1) (pa_cons (pe_tupF (pa_cons (pv 2) pa_nil)) pa_nil)))))
  (pss_cons (ps_if (pt_cmpR (k_in K rfl hr.units) (pv 3) (pv 4) (by rfl))
   (pss_one (ps_ret pe_non))
   pss_nil)
  (pss_cons (ps_par (i := 5) (j := 6) (by rfl) sc.nd rfl rfl (by decide) rfl rfl (pa_cons (pe_has (h_group_after.up (by decide)) hr (by rfl) (pa_cons (pv 0) (pa_cons (pv 1) (pa_cons (pv 4) pa_nil)))) (pa_cons (pe_lst pa_nil) pa_nil)) (by rfl))
  (pss_cons (ps_for PassesOwn.never rfl (k_piT K rfl (pv 1)) (k_pgT K rfl (n := 2) rfl (pgs_cons (pg_name (i := 7) sc.nd rfl (.inr rfl)) (pgs_cons (pg_name (i := 8) sc.nd rfl (.inl rfl)) pgs_nil)))
   (pss_one (ps_if (PW.pt (pw_and (pt_cmpR (k_ni K rfl hr.units) (pv 7) (pv 4) (by rfl)) (pw_and1 (pt_cmpR (k_ne K rfl hr.units) (pv 7) (pv 2) (nomark _)))))
   (pss_one (ps_expr (k_bm K rfl PySem.F.plainAttrs_list PySem.F.slot_list_append PySem.F.type_list_append mt_append (pv 6) (pa_cons (pe_tupF (pa_cons (pv 7) (pa_cons (pe_ix (k_ix K rfl) (pe_lc (own := [("other", 9)]) (by rfl) sc.nd (k_piT K rfl (pv 5)) (blkOk_by (by kernel_rfl)) (fun _ _ _ _ _ => (pg_name (i := 9) sc.nd rfl (.inl rfl))) (fun _ _ _ _ _ => (pts_one (pt_not (pt_val (pe_has (h_has_cell.up (by decide)) hr (by rfl) (pa_cons (pv 9) (pa_cons (pv 7) pa_nil))))))) (fun _ _ _ _ _ => (pv 9))) pe_int (fun _ _ => rfl)) pa_nil))) pa_nil))))
   pss_nil)))
  (pss_one (ps_ret (pe_tupF (pa_cons (pe_callTy (k_tup K rfl) (by rfl) T.b_tuple (by decide +kernel) (pa_cons (pe_callB (k_sorted K rfl hr.units) (by rfl) T.b_sorted (by decide +kernel) (pa_cons (pv 4) pa_nil)) pa_nil)) (pa_cons (pe_callTy (k_tup K rfl) (by rfl) T.b_tuple (by decide +kernel) (pa_cons (pv 6) pa_nil)) pa_nil))))))))))) ?_
  intro a ha
  obtain ⟨L, l, x, y⟩ := a
  obtain ⟨h1, h2, h3, h4, h5⟩ : Rd0 L l ∧ x ∈ cellsOf l ∧ y ∈ cellsOf l ∧ x ≠ y ∧ y ∉ mReadW L l [x] := ha
  have hl := h1.ok.len
  have hr := (mReadW_dn (A := [x]) h1.w h1.ok h1.m).len
  refine sg_then (sg_drop (tv_call (L, l, x, y) (ea_cons (ev_var rfl) (ea_cons (ev_var rfl) (ea_cons (ev_var rfl) (ea_one (ev_var rfl))))) ⟨h1, h2, h3, h4⟩) rfl) ?_
  refine sg_then (sg_set (tv_call (L, l, [x]) (ea_cons (ev_var rfl) (ea_cons (ev_var rfl) (ea_one (ev_tup (ea_one (ev_var rfl)))))) ⟨h1.w, h1.ok, h1.m⟩) rfl rfl rfl) ?_
  refine sg_then (sg_if (a := false) (et_test ((tv_in (x := y) (xs := mReadW L l [x]) (ev_var rfl).c (ev_var rfl).c).cast (congrArg _ (decide_eq_false h5)))) (fun h => nomatch h) fun _ => sg_next rfl) ?_
  have hGw := mAfter_w (l := l) (D := mReadW L l [x]) h1.w
  refine sg_then (sg_parIL (tv_call (L, l, mReadW L l [x]) (ea_cons (ev_var rfl) (ea_cons (ev_var rfl) (ea_one (ev_var rfl)))) ⟨h1.w, h1.ok⟩) (el_lst ea_nil) rfl rfl rfl rfl (by decide) rfl) ?_
  generalize hD : mReadW L l [x] = D at *
  generalize hG : mAfter L l D = G at *
  have hlk : ∀ c, c ∉ D → c ≠ x → ∃ m ∈ G, c ∉ cellsOf m := fun c q1 q2 => by
    rw [← hG, ← hD]
    rw [← hD] at q1
    exact read_lacks h1.w h1.ok h1.m q1 q2
  refine sg_forW (fun i => [.im (en L), .im (en l), .im (en x), .im (en y), .im (en D), .im (en G), .ac ((mLeft (l.take i) D x).map fun c => en (c, mWit G c)), .no, .no, .no]) (tv_it (ev_var rfl)) (Wk.rfl' _) (fun i d hd => ?_) ?_
  · rw [List.getElem?_map] at hd
    obtain ⟨p, hp, rfl⟩ := Option.map_eq_some_iff.mp hd
    have hst := left_step (D := D) (a := x) hp
    have hll := left_len (l.take i) D x
    have hlt := len_take l i
    have hgl := hGw.len
    refine ⟨_, _, tg_pair (j := 7) (k := 8) rfl rfl rfl rfl, ?_⟩
    refine sg_if (et_and (a := !decide (p.1 ∈ D)) (b := !decide (p.1 = x)) (et_test (tv_ni (ev_var rfl).c (ev_var rfl).c)) fun _ => et_test (tv_ne (ev_var rfl).c (ev_var rfl).c)) (fun hb => ?_) fun hb => ?_
    · rw [hb, if_pos rfl] at hst
      rw [Bool.and_eq_true] at hb
      obtain ⟨r, hr'⟩ := wit_some (hlk p.1 (by simpa using hb.1) (by simpa using hb.2))
      refine sg_app (d := en (p.1, mWit G p.1)) rfl (ev_tup (ea_cons (ev_var rfl) (ea_one (tv_atL (xs := mWit G p.1 :: r) (x := mWit G p.1) ((tv_lc en G (p := fun m => !decide (p.1 ∈ cellsOf m)) (f := en) (tv_it (ev_var rfl)) (fun m _ => tg_name rfl rfl) (fun m hm => et_not (b := decide (p.1 ∈ cellsOf m)) (et_test (tv_call (m, p.1) (ea_cons (ev_var rfl) (ea_one (ev_var rfl))) (by have := (hGw.ok m hm).len; show m.length ≤ 1000; omega)))) (fun m _ _ => ev_var rfl) (by omega)).cast (by rw [hr'])).c ev_int (atI_0 _ r))))) (by rw [List.length_map]; omega) ?_
      show Wk _ [_, _, _, _, _, _, .ac ((mLeft (l.take (i + 1)) D x).map fun c => en (c, mWit G c)), _, _, _]
      rw [hst, List.map_append]
      exact wk_ok
    · rw [hb, if_neg (by decide), List.append_nil] at hst
      refine sg_next ?_
      show Wk _ [_, _, _, _, _, _, .ac ((mLeft (l.take (i + 1)) D x).map fun c => en (c, mWit G c)), _, _, _]
      rw [hst]
      exact wk_ok
  · rw [List.length_map, List.take_length]
    refine sg_ret (ev_tup (ea_cons (tv_tup (tv_sortT (ev_var rfl).c (by show D.length ≤ _; omega)).c) (ea_one (ev_tupL (ec_ac rfl))))) ?_
    show _ = en (mEvid L l x)
    unfold mEvid
    rw [hD, hG]
    show _ = PyData.tuple [en (dsort D), PyData.tuple (List.map en (List.map _ _))]
    rw [List.map_map]
    rfl
theorem ok_shows_precedence (T : Tx mg tk) (t : Txt1 K mg "shows_precedence" (topS 67) ["logs", "log", "first", "later", "thing"]) (h_are_cells_of : Has P w K mg base "are_cells_of" 2 ["log", "thing"] (SpD K R_are_cells_of)) (h_are_witnesses : Has P w K mg base "are_witnesses" 5 ["group", "thing", "cells"] (SpD K R_are_witnesses)) (h_check_cells : Has P w K mg base "check_cells" 9 ["logs", "log", "first", "later"] (SpD K R_check_cells)) (h_group_after : Has P w K mg base "group_after" 2 ["logs", "log", "done"] (SpD K R_group_after)) : Has P w K mg base "shows_precedence" 10 ["logs", "log", "first", "later", "thing"] (SpD K R_shows_precedence) := by
  have sc : FnScope ["logs", "log", "first", "later", "thing", "closed", "cell", "value", "cells"] ["logs", "log", "first", "later", "thing"] (defScope (topS 67)) := ⟨rfl, rfl, rfl, by decide +kernel, rfl, by decide +kernel, by decide +kernel⟩
  refine has_rel t sc (fun a => rfl) (by decide) (fun f cdv A outer s H E hr => (pss_cons (ps_expr (pe_has (h_check_cells.up (by decide)) hr (by rfl) (pa_cons (pv 0) (pa_cons (pv 1) (pa_cons (pv 2) (pa_cons (pv 3) pa_nil))))))
  (pss_cons (ps_if (PW.pt (pw_or (pt_not (pt_val (pe_callB (k_isi K rfl) (by rfl) T.b_isinstance (by decide +kernel) (pa_cons (pv 4) (pa_cons (pe_bltn (v := .ty "tuple") (by rfl) T.b_tuple (by decide +kernel) rfl) pa_nil))))) (pw_or (pt_cmpR (k_ne K rfl hr.units) (pe_callB (k_len K rfl) (by rfl) T.b_len (by decide +kernel) (pa_cons (pv 4) pa_nil)) (pe_glob (v := .int 2) (by rfl) T.c_PARTS_evidence ⟨_, rfl⟩) (nomark _)) (pw_or1 (pt_not (pt_val (pe_has (h_are_cells_of.up (by decide)) hr (by rfl) (pa_cons (pv 1) (pa_cons (pe_ix (k_ix K rfl) (pv 4) pe_int (fun _ _ => rfl)) pa_nil)))))))))
   (pss_one (ps_ret pe_bl))
   pss_nil)
  (pss_cons (ps_set (i := 5) sc.nd rfl (.inr rfl) (pe_ix (k_ix K rfl) (pv 4) pe_int (fun _ _ => rfl)))
  (pss_cons (ps_if (PW.pt (pw_or (pt_cmpR (k_in K rfl hr.units) (pv 2) (pv 5) (by rfl)) (pw_or1 (pt_cmpR (k_in K rfl hr.units) (pv 3) (pv 5) (by rfl)))))
   (pss_one (ps_ret pe_bl))
   pss_nil)
  (pss_cons (ps_setLc (i := 8) (own := [("cell", 6), ("value", 7)]) (by rfl) sc.nd rfl rfl (sw_true rfl rfl rfl (by decide +kernel)) (k_piT K rfl (pv 1)) (blkOk_by (by kernel_rfl)) (fun _ _ _ _ _ => (k_pgT K rfl (n := 2) rfl (pgs_cons (pg_name (i := 6) sc.nd rfl (.inl rfl)) (pgs_cons (pg_name (i := 7) sc.nd rfl (.inl rfl)) pgs_nil)))) (fun _ _ _ _ _ => (pts_one (PW.pt (pw_and (pt_cmpR (k_ni K rfl hr.units) (pv 6) (pv 5) (by rfl)) (pw_and1 (pt_cmpR (k_ne K rfl hr.units) (pv 6) (pv 2) (nomark _))))))) (fun _ _ _ _ _ => (pv 6)))
  (pss_one (ps_ret (pe_has (h_are_witnesses.up (by decide)) hr (by rfl) (pa_cons (pe_has (h_group_after.up (by decide)) hr (by rfl) (pa_cons (pv 0) (pa_cons (pv 1) (pa_cons (pv 5) pa_nil)))) (pa_cons (pe_ix (k_ix K rfl) (pv 4) pe_int (fun _ _ => rfl)) (pa_cons (pv 8) pa_nil)))))))))))) ?_
  intro a ha
  obtain ⟨L, l, x, y, C, ws⟩ := a
  obtain ⟨h1, h2, h3, h4, h5⟩ : Rd0 L l ∧ x ∈ cellsOf l ∧ y ∈ cellsOf l ∧ x ≠ y ∧ EvPre L l x y (C, ws) := ha
  have hl := h1.ok.len
  have hll := left_len l C x
  refine sg_then (sg_drop (tv_call (L, l, x, y) (ea_cons (ev_var rfl) (ea_cons (ev_var rfl) (ea_cons (ev_var rfl) (ea_one (ev_var rfl))))) ⟨h1, h2, h3, h4⟩) rfl) ?_
  refine sg_then (sg_if (a := false) (et_or (a := false) (b := false) (et_not (b := true) (et_test (ev_isi (ev_var rfl) rfl))) fun _ => et_or (a := false) (b := false) (et_test ((tv_ne (α := Int) (ev_lenT (ev_var rfl).c).c ev_int.c).cast rfl)) fun _ => et_not (b := true) (et_test (tv_call (l, C) (ea_cons (ev_var rfl) (ea_one (tv_pr1 (p := (C, ws)) (ev_var rfl).c))) ⟨h1.ok, h5.sub, h5.up⟩))) (fun h => nomatch h) (fun _ => sg_next rfl)) ?_
  refine sg_then (sg_set (tv_pr1 (p := (C, ws)) (ev_var rfl).c) rfl rfl rfl) ?_
  refine sg_then (sg_if (a := false) (et_or (a := false) (b := false) (et_test ((tv_in (x := x) (xs := C) (ev_var rfl).c (ev_var rfl).c).cast (congrArg _ (decide_eq_false h5.nf)))) fun _ => et_test ((tv_in (x := y) (xs := C) (ev_var rfl).c (ev_var rfl).c).cast (congrArg _ (decide_eq_false h5.nl)))) (fun h => nomatch h) (fun _ => sg_next rfl)) ?_
  refine sg_then (sg_set (d := .list ((mLeft l C x).map en)) ((tv_lc en l (p := fun p => !decide (p.1 ∈ C) && !decide (p.1 = x)) (f := fun p => en p.1) (tv_it (ev_var rfl)) (fun p _ => tg_pair rfl rfl rfl rfl) (fun p _ => et_and (et_test (tv_ni (ev_var rfl).c (ev_var rfl).c)) fun _ => et_test (tv_ne (ev_var rfl).c (ev_var rfl).c)) (fun p _ _ => ev_var rfl) (by omega)).g.cast (by unfold mLeft; rw [List.map_map]; rfl)) rfl rfl rfl) ?_
  exact sg_ret (tv_call (mAfter L l C, ws, mLeft l C x) (ea_cons (tv_call (L, l, C) (ea_cons (ev_var rfl) (ea_cons (ev_var rfl) (ea_one (ev_var rfl)))) ⟨h1.w, h1.ok⟩) (ea_cons (tv_pr2 (p := (C, ws)) (ev_var rfl).c) (ea_one (ev_var rfl)))) ⟨h5.wit, by show (mLeft l C x).length ≤ 10000; omega⟩) rfl
end
end K97
set_option Elab.async false
set_option linter.all false
set_option maxRecDepth 100000
set_option maxHeartbeats 4000000
/-! K97: a renaming keeps what is told of snapshots; evidence renamed. -/
namespace K97
open Dt (en)
open PySem L2
/-- a family and a snapshot of it -/
structure RS (cs : List Str) (tb : Tb) (G G' : List Lg) (s : Lg) : Prop where
  T : RnOk cs tb
  g : GR cs tb G G'
  on : OnC cs s
  w : LgsW G
  cov : ∀ l ∈ G, ∀ c ∈ cellsOf l, (lkp s c).isSome = true
section
variable {cs : List Str} {tb : Tb} {G G' L L' : List Lg} {D D' E E' A A' : List Str} {l s : Lg} {c a b : Str}
theorem RS.w' (h : RS cs tb G G' s) : LgsW G' := h.g.w' h.T h.w.len
theorem RS.snap (h : RS cs tb G G' s) : Snap G s := ⟨h.on.w, h.cov⟩
theorem RS.snap' (h : RS cs tb G G' s) : Snap G' (mNamed tb s) := ⟨named_w h.T h.on, fun l' hl' x hx => by
  obtain ⟨l, hl, rfl⟩ := (h.g.mem l').mp hl'
  obtain ⟨c, hc, rfl⟩ := named_cells.mp hx
  rw [named_some h.T h.on ((h.g.on l hl).sub c hc)]
  exact h.cov l hl c hc⟩
theorem RS.rds (h : RS cs tb G G' s) (st : mStuck G = none) (ne : G ≠ []) : RdS G s ∧ RdS G' (mNamed tb s) := ⟨⟨h.w, st, ne, h.snap⟩, ⟨h.w', (h.g.none h.T).mpr st, fun z => ne ((h.g.nil' h.T).mp z), h.snap'⟩⟩
def agr (s l : Lg) : Bool := l.all fun p => decide (lkp s p.1 = some p.2)
theorem agr_named (T : RnOk cs tb) (hs : OnC cs s) (hl : OnC cs l) : agr (mNamed tb s) (mNamed tb l) = agr s l := by
  unfold agr
  rw [Bool.eq_iff_iff, List.all_eq_true, List.all_eq_true]
  have one : ∀ p ∈ l, (lkp (mNamed tb s) (mPairR tb p).1 = some (mPairR tb p).2 ↔ lkp s p.1 = some p.2) := fun p hp => by
    have h1 := hl.sub _ (List.mem_map_of_mem (f := fun p : Str × Int => p.1) hp)
    show lkp (mNamed tb s) (mName tb p.1) = some (mVal tb p.1 p.2) ↔ _
    rw [lkp_named T hs h1]
    constructor
    · intro e
      obtain ⟨v, hv, e⟩ := Option.map_eq_some_iff.mp e
      rw [hv, T.vi _ _ _ (hs.val hv).1 (hl.w.ok p hp).2.1 e]
    · intro e
      rw [e]
      rfl
  constructor
  · intro h p hp
    exact decide_eq_true ((one p hp).mp (of_decide_eq_true (h _ (mem_named.mpr ⟨p, hp, rfl⟩))))
  · intro h p' hp'
    obtain ⟨p, hp, rfl⟩ := mem_named.mp hp'
    exact decide_eq_true ((one p hp).mpr (of_decide_eq_true (h p hp)))
theorem agr_uniq (g : Good G) (hw : LgsW G) (hl : l ∈ G) {m : Lg} (hm : m ∈ G) (h1 : agr s l = true) (h2 : agr s m = true) : l = m := Classical.byContradiction fun hne => by
  obtain ⟨c, hc, p, hp, q, hq, hd⟩ := g [l, m] (fun x hx => by
    rcases List.mem_cons.mp hx with rfl | hx
    · exact hl
    · rw [List.mem_singleton.mp hx]
      exact hm) ⟨l, List.mem_cons_self, m, by simp, hne⟩
  have all : ∀ x ∈ [l, m], lkp x c = lkp s c := fun x hx => by
    obtain ⟨v, hv⟩ := Option.isSome_iff_exists.mp (hc x hx)
    have key : ∀ x ∈ G, agr s x = true → lkp x c = some v → lkp x c = lkp s c := fun x hx ha e => by
      have h3 := (lkp_of_mem (hw.ok x hx).up.nodup).mp e
      unfold agr at ha
      rw [List.all_eq_true] at ha
      have := of_decide_eq_true (ha _ h3)
      rw [e]
      exact this.symm
    rcases List.mem_cons.mp hx with rfl | hx
    · exact key _ hl h1 hv
    · rw [List.mem_singleton] at hx
      subst hx
      exact key _ hm h2 hv
  exact hd ((all p hp).trans (all q hq).symm)
/-- the log that is hit -/
theorem RS.hit (h : RS cs tb G G' s) (st : mStuck G = none) : mHit G' (mNamed tb s) = (mHit G s).map (mNamed tb) := by
  have e0 : ∀ (G : List Lg) (s : Lg), mHit G s = G.find? (agr s) := fun _ _ => rfl
  rw [e0, e0]
  have g := (stuck_iff h.w.nd).mp st
  cases q : G.find? (agr s) with
  | none =>
    rw [List.find?_eq_none] at q
    refine List.find?_eq_none.mpr fun l' hl' => ?_
    obtain ⟨l, hl, rfl⟩ := (h.g.mem l').mp hl'
    rw [agr_named h.T h.on (h.g.on l hl)]
    exact q l hl
  | some l =>
    have hl := List.mem_of_find?_eq_some q
    have ha := List.find?_some q
    cases q' : G'.find? (agr (mNamed tb s)) with
    | none =>
      rw [List.find?_eq_none] at q'
      have := q' _ ((h.g.mem _).mpr ⟨l, hl, rfl⟩)
      rw [agr_named h.T h.on (h.g.on l hl)] at this
      exact absurd ha this
    | some m' =>
      obtain ⟨m, hm, rfl⟩ := (h.g.mem m').mp (List.mem_of_find?_eq_some q')
      have hb := List.find?_some q'
      rw [agr_named h.T h.on (h.g.on m hm)] at hb
      rw [agr_uniq g h.w hl hm ha hb]
      rfl
theorem RS.pairs (h : RS cs tb L L' s) (hD : SR cs tb D D') : PR cs tb (mPairsAt s D) (mPairsAt (mNamed tb s) D') := PR.filter h.T h.on hD
/-- cells read, logs left -/
def CR (cs : List Str) (tb : Tb) (x x' : List Str × List Lg) : Prop := SR cs tb x.1 x'.1 ∧ GR cs tb x.2 x'.2
theorem RS.cwF (h : RS cs tb L L' s) (ha : a ∈ cs) : ∀ (n : Nat) (D D' : List Str) (G G' : List Lg), SR cs tb D D' → GR cs tb G G' → CR cs tb (mCwF s a n D G) (mCwF (mNamed tb s) (mName tb a) n D' G')
  | 0, _, _, _, _, hD, hG => ⟨hD, hG⟩
  | n + 1, D, D', G, G', hD, hG => by
    have hm : SR cs tb ((mUnread G D).filter fun c => !decide (c = a)) ((mUnread G' D').filter fun c => !decide (c = mName tb a)) := (hG.unread h.T hD).filter h.T fun c hc => by
      rw [decide_eq_decide.mpr ⟨fun z => h.T.inj c hc a ha z, fun z => by rw [z]⟩]
    unfold mCwF
    by_cases e1 : G = []
    · rw [if_pos e1, if_pos ((hG.nil' h.T).mpr e1)]
      exact ⟨hD, hG⟩
    · rw [if_neg e1, if_neg fun z => e1 ((hG.nil' h.T).mp z)]
      by_cases e2 : ((mUnread G D).filter fun c => !decide (c = a)) = []
      · rw [if_pos e2, if_pos (hm.nil'.mpr e2)]
        exact ⟨hD, hG⟩
      · rw [if_neg e2, if_neg fun z => e2 (hm.nil'.mp z)]
        exact h.cwF ha n _ _ _ _ (hD.app hm) (hG.agree h.T (h.pairs hm))
theorem mCells_up (L : List Lg) : Up (mCells L) := dsort_up (dd_nodup _)
theorem RS.cells_len (h : RS cs tb L L' s) : (mCells L').length = (mCells L).length := (h.g.cells h.T).len h.T (mCells_nd L) (mCells_nd L')
theorem RS.cw (h : RS cs tb L L' s) (ha : a ∈ cs) : CR cs tb (mCw L s a) (mCw L' (mNamed tb s) (mName tb a)) := by
  unfold mCw
  rw [h.cells_len]
  exact h.cwF ha _ _ _ _ _ .nil h.g
theorem isRead_iff {G : List Lg} {D : List Str} : mIsRead G D = true ↔ G.length = 1 ∧ ∀ l ∈ G, ∀ c ∈ cellsOf l, c ∈ D := by
  unfold mIsRead
  match G with
  | [] => simp
  | [l] =>
    simp only [List.all_eq_true, decide_eq_true_eq, List.length_singleton, true_and, List.mem_singleton, forall_eq]
    constructor
    · intro h c hc
      obtain ⟨p, hp, rfl⟩ := List.mem_map.mp hc
      exact h p hp
    · intro h p hp
      exact h p.1 (List.mem_map_of_mem (f := fun p : Str × Int => p.1) hp)
  | l :: m :: r => simp
theorem isRead_named (T : RnOk cs tb) (hG : GR cs tb G G') (hD : SR cs tb D D') : mIsRead G' D' = mIsRead G D := by
  rw [Bool.eq_iff_iff, isRead_iff, isRead_iff, hG.len T]
  refine and_congr_right fun _ => ?_
  constructor
  · intro h l hl c hc
    exact (hD.has T ((hG.on l hl).sub c hc)).mp (h _ ((hG.mem _).mpr ⟨l, hl, rfl⟩) _ (named_cells.mpr ⟨c, hc, rfl⟩))
  · intro h l' hl' x hx
    obtain ⟨l, hl, rfl⟩ := (hG.mem l').mp hl'
    obtain ⟨c, hc, rfl⟩ := named_cells.mp hx
    exact (hD.has T ((hG.on l hl).sub c hc)).mpr (h l hl c hc)
theorem RS.certain (h : RS cs tb L L' s) (ha : a ∈ cs) : mCertain L' (mNamed tb s) (mName tb a) = mCertain L s a := by
  obtain ⟨h1, h2⟩ := h.cw ha
  unfold mCertain
  rw [isRead_named h.T h2 h1, decide_eq_decide.mpr (h2.nil' h.T)]
theorem sure_up (L : List Lg) (s : Lg) : Up (mSure L s) := List.Pairwise.sublist List.filter_sublist (mCells_up L)
theorem RS.sureR (h : RS cs tb L L' s) : SR cs tb (mSure L s) (mSure L' (mNamed tb s)) := (h.g.cells h.T).filter h.T fun c hc => h.certain hc
/-- certain cells -/
theorem RS.sure (h : RS cs tb L L' s) : mSet tb (mSure L s) = mSure L' (mNamed tb s) := h.sureR.eq h.T (sure_up L s).nodup (sure_up L' _)
theorem mem_same {s l : Lg} {c : Str} : c ∈ mSame s l ↔ ∃ p ∈ s, p ∈ l ∧ p.1 = c := by
  unfold mSame
  rw [List.mem_map]
  constructor
  · rintro ⟨p, h1, h2⟩
    rw [List.mem_filter, decide_eq_true_eq] at h1
    exact ⟨p, h1.1, h1.2, h2⟩
  · rintro ⟨p, h1, h2, h3⟩
    exact ⟨p, List.mem_filter.mpr ⟨h1, decide_eq_true h2⟩, h3⟩
theorem RS.same (h : RS cs tb L L' s) (hl : OnC cs l) : SR cs tb (mSame s l) (mSame (mNamed tb s) (mNamed tb l)) := by
  have cell : ∀ {m : Lg}, OnC cs m → ∀ p ∈ m, p.1 ∈ cs ∧ 0 ≤ p.2 := fun {m} hm p hp => ⟨hm.sub _ (List.mem_map_of_mem (f := fun p : Str × Int => p.1) hp), (hm.w.ok p hp).2.1⟩
  refine ⟨fun c hc => ?_, fun x => ?_⟩
  · obtain ⟨p, h1, _, rfl⟩ := mem_same.mp hc
    exact (cell h.on p h1).1
  · rw [mem_same]
    constructor
    · rintro ⟨p', h1, h2, rfl⟩
      obtain ⟨p, hp, rfl⟩ := mem_named.mp h1
      obtain ⟨q, hq, e⟩ := mem_named.mp h2
      have e := h.T.pin (cell h.on p hp).1 (cell hl q hq).1 (cell h.on p hp).2 (cell hl q hq).2 e
      exact ⟨p.1, mem_same.mpr ⟨p, hp, by rw [e]; exact hq, rfl⟩, rfl⟩
    · rintro ⟨c, hc, rfl⟩
      obtain ⟨p, h1, h2, rfl⟩ := mem_same.mp hc
      exact ⟨mPairR tb p, mem_named.mpr ⟨p, h1, rfl⟩, mem_named.mpr ⟨p, h2, rfl⟩, rfl⟩
theorem RS.reF (h : RS cs tb L L' s) (hA : SR cs tb A A') : ∀ (n : Nat) (D D' : List Str) (G G' : List Lg), SR cs tb D D' → GR cs tb G G' → CR cs tb (mReF s A n D G) (mReF (mNamed tb s) A' n D' G')
  | 0, _, _, _, _, hD, hG => ⟨hD, hG⟩
  | n + 1, D, D', G, G', hD, hG => by
    have hm : SR cs tb ((mUnread G D).filter fun c => decide (c ∈ A)) ((mUnread G' D').filter fun c => decide (c ∈ A')) := (hG.unread h.T hD).filter h.T fun c hc => hA.isIn h.T c hc
    unfold mReF
    by_cases e2 : ((mUnread G D).filter fun c => decide (c ∈ A)) = []
    · rw [if_pos e2, if_pos (hm.nil'.mpr e2)]
      exact ⟨hD, hG⟩
    · rw [if_neg e2, if_neg fun z => e2 (hm.nil'.mp z)]
      exact h.reF hA n _ _ _ _ (hD.app hm) (hG.agree h.T (h.pairs hm))
theorem RS.reached (h : RS cs tb L L' s) (hl : OnC cs l) : SR cs tb (mReached L s l) (mReached L' (mNamed tb s) (mNamed tb l)) := by
  have h0 : CR cs tb (mRe L s l) (mRe L' (mNamed tb s) (mNamed tb l)) := by
    unfold mRe
    rw [h.cells_len]
    exact h.reF (h.same hl) _ _ _ _ _ .nil h.g
  exact h0.1.app (h0.2.unread h.T h0.1)
theorem mem_possF {L : List Lg} {s : Lg} : ∀ (M : List Lg) (f : List Str) (x : Str), x ∈ M.foldl (fun f l => f ++ (mReached L s l).filter fun c => !decide (c ∈ f)) f ↔ x ∈ f ∨ ∃ l ∈ M, x ∈ mReached L s l
  | [], f, x => by simp
  | l :: M, f, x => by
    rw [List.foldl_cons, mem_possF M _ x, List.mem_append, List.mem_filter]
    simp only [Bool.not_eq_true', decide_eq_false_iff_not, List.mem_cons, exists_eq_or_imp]
    by_cases hx : x ∈ f <;> simp [hx]
theorem mem_poss {L : List Lg} {s : Lg} {x : Str} : x ∈ mPoss L s ↔ ∃ l ∈ L, x ∈ mReached L s l := by
  unfold mPoss mPossF
  rw [mem_dsort, mem_possF]
  simp
theorem poss_up (hL : LgsW L) : Up (mPoss L s) := dsort_up (by
  have := (poss_ok (s := s) hL L L.length (Nat.le_refl _)).1
  rwa [List.take_length] at this)
/-- possible cells -/
theorem RS.poss (h : RS cs tb L L' s) : mSet tb (mPoss L s) = mPoss L' (mNamed tb s) := by
  have hr : SR cs tb (mPoss L s) (mPoss L' (mNamed tb s)) := by
    refine ⟨fun c hc => ?_, fun x => ?_⟩
    · obtain ⟨l, hl, hc⟩ := mem_poss.mp hc
      exact (h.reached (h.g.on l hl)).sub c hc
    · rw [mem_poss]
      constructor
      · rintro ⟨l', hl', hx⟩
        obtain ⟨l, hl, rfl⟩ := (h.g.mem l').mp hl'
        obtain ⟨c, hc, rfl⟩ := ((h.reached (h.g.on l hl)).mem x).mp hx
        exact ⟨c, mem_poss.mpr ⟨l, hl, hc⟩, rfl⟩
      · rintro ⟨c, hc, rfl⟩
        obtain ⟨l, hl, hc⟩ := mem_poss.mp hc
        exact ⟨mNamed tb l, (h.g.mem _).mpr ⟨l, hl, rfl⟩, ((h.reached (h.g.on l hl)).mem _).mpr ⟨c, hc, rfl⟩⟩
  exact hr.eq h.T (poss_up h.w).nodup (poss_up h.w')
/-! ### evidence -/
theorem moved_wit (T : RnOk cs tb) (hG : GR cs tb G G') {X X' : List Str} (hX : SR cs tb X X') (hn : X.Nodup) (hu : Up X') {W : Str → Lg} (hW : ∀ c ∈ X, W c ∈ G ∧ c ∉ cellsOf (W c)) : WitOk G' (mMovedW tb (X.map fun c => (c, W c))) X' := by
  have fst : (mMovedW tb (X.map fun c => (c, W c))).map (·.1) = X' := by
    have e : ((X.map fun c => (c, W c)).map fun w => (mName tb w.1, mNamed tb w.2)).map (·.1) = X.map (mName tb) := by
      rw [List.map_map, List.map_map]
      rfl
    have hp : ((mMovedW tb (X.map fun c => (c, W c))).map (·.1)).Perm (X.map (mName tb)) := by
      rw [← e]
      exact (dsort_perm _).map _
    have hnd := hp.symm.nodup (set_nodup T hn hX.sub)
    have hpw : ((mMovedW tb (X.map fun c => (c, W c))).map (·.1)).Pairwise fun a b => dle a b = true := List.Pairwise.map _ (fun a b h => dle_fst h) (dsort_pw _)
    exact up_eq (up_of hnd hpw) hu fun x => hp.mem_iff.trans ((hX.pm T hn hu.nodup).mem_iff)
  generalize hM : mMovedW tb (X.map fun c => (c, W c)) = M at *
  refine ⟨by rw [← fst, List.length_map], fun x hx => ?_⟩
  have hx1 : x.1 ∈ M ∧ x.1.1 = x.2 := by
    rw [← fst] at hx
    obtain ⟨i, hi, e⟩ := List.getElem_of_mem hx
    rw [List.getElem_zip] at e
    rw [← e]
    exact ⟨List.getElem_mem _, by simp⟩
  obtain ⟨h1, h2⟩ := hx1
  rw [← hM] at h1
  unfold mMovedW at h1
  rw [mem_dsort, List.map_map, List.mem_map] at h1
  obtain ⟨c, hc, e⟩ := h1
  obtain ⟨g1, g2⟩ := hW c hc
  have hcc := hX.sub c hc
  have e1 : x.1.1 = mName tb c := by rw [← e]; rfl
  have e2 : x.1.2 = mNamed tb (W c) := by rw [← e]; rfl
  refine ⟨h2, ?_, ?_, ?_, ?_⟩
  · rw [← h2, e1]
    exact T.nm c hcc
  · rw [e2]
    exact named_w T (hG.on _ g1)
  · rw [e2]
    exact (hG.mem _).mpr ⟨_, g1, rfl⟩
  · rw [← h2, e1, e2, named_has T (hG.on _ g1) hcc]
    exact g2
theorem wit_ok {G : List Lg} {c : Str} (h : ∃ m ∈ G, c ∉ cellsOf m) : mWit G c ∈ G ∧ c ∉ cellsOf (mWit G c) := by
  obtain ⟨r, e⟩ := wit_some h
  have : mWit G c ∈ G.filter fun m => !decide (c ∈ cellsOf m) := by rw [e]; exact List.mem_cons_self
  rw [List.mem_filter] at this
  simpa using this
theorem mRw_avoid {L : List Lg} {l : Lg} {A : List Str} : ∀ (n : Nat) (D : List Str), (∀ c ∈ D, c ∉ A) → ∀ c ∈ mRw L l A n D, c ∉ A
  | 0, _, h => h
  | n + 1, D, h => by
    unfold mRw
    split
    · exact h
    · refine mRw_avoid n _ fun c hc => ?_
      rcases List.mem_append.mp hc with hc | hc
      · exact h c hc
      · unfold mMore at hc
        rw [List.mem_filter] at hc
        simpa using hc.2
theorem left_nodup (hl : LgW l) : (mLeft l D a).Nodup := by
  unfold mLeft
  exact (List.Sublist.map (fun p : Str × Int => p.1) List.filter_sublist).nodup hl.up.nodup
theorem left_up (hl : LgW l) : Up (mLeft l D a) := by
  unfold mLeft
  exact List.Pairwise.sublist (List.Sublist.map (fun p : Str × Int => p.1) List.filter_sublist) hl.up
theorem RG.left (h : RG cs tb G G' l) (hD : SR cs tb D D') (ha : a ∈ cs) : SR cs tb (mLeft l D a) (mLeft (mNamed tb l) D' (mName tb a)) := by
  refine ⟨fun c hc => h.on.sub c (mem_left.mp hc).1, fun x => ?_⟩
  rw [mem_left]
  constructor
  · rintro ⟨h1, h2, h3⟩
    obtain ⟨c, hc, rfl⟩ := named_cells.mp h1
    have hcc := h.on.sub c hc
    exact ⟨c, mem_left.mpr ⟨hc, fun z => h2 ((hD.has h.T hcc).mpr z), fun z => h3 (by rw [z])⟩, rfl⟩
  · rintro ⟨c, hc, rfl⟩
    obtain ⟨h1, h2, h3⟩ := mem_left.mp hc
    have hcc := h.on.sub c h1
    exact ⟨named_cells.mpr ⟨c, h1, rfl⟩, fun z => h2 ((hD.has h.T hcc).mp z), fun z => h3 (h.T.inj c hcc a ha z)⟩
/-- evidence of precedence, renamed -/
theorem RG.evid (h : RG cs tb G G' l) (hp : (a, b) ∈ mPrec G l) : EvPre G' (mNamed tb l) (mName tb a) (mName tb b) (mMoved tb (mEvid G l a)) := by
  obtain ⟨h1, h2, h3, h4⟩ := mem_prec.mp hp
  have h1 : a ∈ cellsOf l := h1
  have h2 : b ∈ cellsOf l := h2
  have h4 : b ∉ mReadW G l [a] := h4
  have ha := h.on.sub a h1
  have hb := h.on.sub b h2
  have hdn := mReadW_dn (A := [a]) h.w (h.w.ok l h.m) h.m
  have hsub : ∀ c ∈ dsort (mReadW G l [a]), c ∈ cs := fun c hc => h.on.sub c (hdn.sub c (mem_dsort.mp hc))
  have hS : SR cs tb (mReadW G l [a]) (mSet tb (dsort (mReadW G l [a]))) := (SR.set hsub).perm (fun x => mem_dsort.symm) fun x => Iff.rfl
  have hav := mRw_avoid (L := G) (l := l) (A := [a]) (l.length + 1) [] fun c h => nomatch h
  refine ⟨fun x hx => ?_, set_up h.T (dsort_nodup hdn.nd) hsub, fun z => ?_, fun z => ?_, ?_⟩
  · obtain ⟨c, hc, rfl⟩ := (hS.mem x).mp hx
    exact named_cells.mpr ⟨c, hdn.sub c hc, rfl⟩
  · exact hav a ((hS.has h.T ha).mp z) List.mem_cons_self
  · exact h4 ((hS.has h.T hb).mp z)
  · refine moved_wit h.T (h.g.after h.T h.on hS) (h.left hS ha) (left_nodup h.on.w) (left_up (named_w h.T h.on)) fun c hc => ?_
    obtain ⟨g1, g2, g3⟩ := mem_left.mp hc
    exact wit_ok (read_lacks h.w (h.w.ok l h.m) h.m g2 g3)
theorem mCwF_avoid {s : Lg} : ∀ (n : Nat) (D : List Str) (G : List Lg), a ∉ D → a ∉ (mCwF s a n D G).1
  | 0, _, _, h => h
  | n + 1, D, G, h => by
    unfold mCwF
    split
    · exact h
    · split
      · exact h
      · refine mCwF_avoid n _ _ fun hc => ?_
        rcases List.mem_append.mp hc with hc | hc
        · exact h hc
        · rw [List.mem_filter] at hc
          simp at hc
theorem out_up : Up (mOut L D a) := List.Pairwise.sublist List.filter_sublist (mCells_up L)
theorem RS.out (h : RS cs tb L L' s) (hD : SR cs tb D D') (ha : a ∈ cs) : SR cs tb (mOut L D a) (mOut L' D' (mName tb a)) := (h.g.cells h.T).filter h.T fun c hc => by
  rw [hD.notIn h.T c hc, decide_eq_decide.mpr ⟨fun z => h.T.inj c hc a ha z, fun z => by rw [z]⟩]
/-- the logs that are left agree with the snapshot on what was read -/
theorem cwF_group {s : Lg} (hs : LgW s) (hc : ∀ l ∈ L, ∀ c ∈ cellsOf l, (lkp s c).isSome = true) : ∀ (n : Nat) (D : List Str) (G : List Lg), (∀ l, l ∈ G ↔ l ∈ L ∧ ∀ p ∈ mPairsAt s D, lkp l p.1 = some p.2) → ∀ l, l ∈ (mCwF s a n D G).2 ↔ l ∈ L ∧ ∀ p ∈ mPairsAt s (mCwF s a n D G).1, lkp l p.1 = some p.2
  | 0, _, _, h => h
  | n + 1, D, G, h => by
    unfold mCwF
    split
    · exact h
    · split
      · exact h
      · refine cwF_group hs hc n _ _ fun l => ?_
        rw [mem_mAgreeing, h]
        unfold mPairsAt
        constructor
        · rintro ⟨⟨h1, h2⟩, h3⟩
          refine ⟨h1, fun p hp => ?_⟩
          rw [List.mem_filter, decide_eq_true_eq] at hp
          rcases List.mem_append.mp hp.2 with q | q
          · exact h2 p (List.mem_filter.mpr ⟨hp.1, decide_eq_true q⟩)
          · exact h3 p (List.mem_filter.mpr ⟨hp.1, decide_eq_true q⟩)
        · rintro ⟨h1, h2⟩
          have go : ∀ {E : List Str}, (∀ c ∈ E, c ∈ D ++ (mUnread G D).filter fun c => !decide (c = a)) → ∀ p ∈ s.filter fun p => decide (p.1 ∈ E), lkp l p.1 = some p.2 := fun hE p hp => by
            rw [List.mem_filter, decide_eq_true_eq] at hp
            exact h2 p (List.mem_filter.mpr ⟨hp.1, decide_eq_true (hE _ hp.2)⟩)
          exact ⟨⟨h1, go fun c hc => List.mem_append.mpr (.inl hc)⟩, go fun c hc => List.mem_append.mpr (.inr hc)⟩
theorem cw_group (h : RS cs tb L L' s) : ∀ l, l ∈ (mCw L s a).2 ↔ l ∈ mAgreeing L (mPairsAt s (mCw L s a).1) := fun l => by
  rw [mem_mAgreeing]
  exact cwF_group h.on.w h.cov _ [] L (fun l => by simp [mPairsAt]) l
/-- evidence of a certain cell, renamed -/
theorem RS.evid (h : RS cs tb L L' s) (hc : a ∈ mSure L s) (g : Good L) : EvCer L' (mNamed tb s) (mName tb a) (mMoved tb (mEvidC L s a)) := by
  unfold mSure at hc
  rw [List.mem_filter] at hc
  obtain ⟨h1, h2⟩ := hc
  have hcn := mCw_cn (s := s) (a := a) h.w
  have ha : a ∈ cs := (h.g.cells h.T).sub a h1
  unfold mCertain at h2
  rw [Bool.and_eq_true, Bool.not_eq_true', Bool.not_eq_true', decide_eq_false_iff_not] at h2
  obtain ⟨hne, hrd⟩ := h2
  have hcell : ∀ c ∈ (mCw L s a).1, c ∈ cs := fun c hc => (h.g.cells h.T).sub c (hcn.sub c hc)
  have hsub : ∀ c ∈ dsort (mCw L s a).1, c ∈ cs := fun c hc => hcell c (mem_dsort.mp hc)
  have hS : SR cs tb (mCw L s a).1 (mSet tb (dsort (mCw L s a).1)) := (SR.set hsub).perm (fun x => mem_dsort.symm) fun x => Iff.rfl
  have hG : GR cs tb (mAgreeing L (mPairsAt s (mCw L s a).1)) (mAgreeing L' (mPairsAt (mNamed tb s) (mSet tb (dsort (mCw L s a).1)))) := h.g.agree h.T (h.pairs hS)
  have hgrp := cw_group (a := a) h
  refine ⟨fun x hx => ?_, set_up h.T (dsort_nodup hcn.nd) hsub, fun z => ?_, ?_, ?_⟩
  · obtain ⟨c, hc, rfl⟩ := (hS.mem x).mp hx
    exact ((h.g.cells h.T).mem _).mpr ⟨c, hcn.sub c hc, rfl⟩
  · exact mCwF_avoid _ [] L (fun h => nomatch h) ((hS.has h.T ha).mp z)
  · have hm : ∃ m ∈ (mCw L s a).2, ∃ c ∈ cellsOf m, c ∉ (mCw L s a).1 := Classical.byContradiction fun z => by
      have hall : ∀ m ∈ (mCw L s a).2, ∀ c ∈ cellsOf m, c ∈ (mCw L s a).1 := fun m hm c hc => Classical.byContradiction fun y => z ⟨m, hm, c, hc, y⟩
      have : mIsRead (mCw L s a).2 (mCw L s a).1 = true := isRead_iff.mpr ⟨?_, hall⟩
      · rw [hrd] at this
        cases this
      · obtain ⟨m, r, e⟩ := List.exists_cons_of_ne_nil hne
        have hnd := hcn.gs.nodup h.w.nd
        cases hr : r with
        | nil => rw [e, hr]; rfl
        | cons m2 r2 =>
          have hm : m ∈ (mCw L s a).2 := by rw [e]; exact List.mem_cons_self
          have hm2 : m2 ∈ (mCw L s a).2 := by rw [e, hr]; exact List.mem_cons_of_mem _ List.mem_cons_self
          have hneq : m ≠ m2 := by
            rw [e, hr] at hnd
            intro z
            exact (List.nodup_cons.mp hnd).1 (by rw [z]; exact List.mem_cons_self)
          have agree : ∀ m ∈ (mCw L s a).2, agr s m = true := fun m hm => by
            unfold agr
            rw [List.all_eq_true]
            intro p hp
            have hpc : p.1 ∈ cellsOf m := List.mem_map_of_mem (f := fun p : Str × Int => p.1) hp
            have hmL := hcn.gs.subset hm
            obtain ⟨v, hv⟩ := Option.isSome_iff_exists.mp (h.cov m hmL _ hpc)
            have := ((mem_mAgreeing.mp ((hgrp m).mp hm)).2) (p.1, v) (List.mem_filter.mpr ⟨(lkp_of_mem h.on.w.up.nodup).mp hv, decide_eq_true (hall m hm _ hpc)⟩)
            have h5 : lkp m p.1 = some p.2 := (lkp_of_mem (h.w.ok m hmL).up.nodup).mpr hp
            have this : lkp m p.1 = some v := this
            rw [h5] at this
            exact decide_eq_true (hv.trans this.symm)
          exact absurd (agr_uniq g h.w (hcn.gs.subset hm) (hcn.gs.subset hm2) (agree m hm) (agree m2 hm2)) hneq
    obtain ⟨m, hm, c, hc, hcD⟩ := hm
    have hmL := hcn.gs.subset hm
    have hcc := (h.g.on m hmL).sub c hc
    exact ⟨mNamed tb m, (hG.mem _).mpr ⟨m, (hgrp m).mp hm, rfl⟩, mName tb c, named_cells.mpr ⟨c, hc, rfl⟩, fun z => hcD ((hS.has h.T hcc).mp z)⟩
  · refine moved_wit h.T hG (h.out hS ha) (out_up.nodup) out_up fun c hc => ?_
    obtain ⟨g1, g2, g3⟩ := mem_out.mp hc
    obtain ⟨m, hm, hcm⟩ := cw_lacks h.w hne g2 g3
    obtain ⟨w1, w2⟩ := wit_ok ⟨m, hm, hcm⟩
    exact ⟨(hgrp _).mp w1, w2⟩
end
end K97
set_option Elab.async false
set_option linter.all false
set_option maxRecDepth 100000
set_option maxHeartbeats 4000000
/-! K97: a drawn renaming is one. -/
namespace K97
open Dt (en)
open PySem L2
theorem map_nodup_inj {α β : Type} {f : α → β} : ∀ {xs : List α}, (xs.map f).Nodup → ∀ {a b : α}, a ∈ xs → b ∈ xs → f a = f b → a = b
  | [], _, _, _, h, _, _ => nomatch h
  | x :: xs, hn, a, b, ha, hb, e => by
    rw [List.map_cons, List.nodup_cons] at hn
    rcases List.mem_cons.mp ha with ha' | ha'
    · rcases List.mem_cons.mp hb with hb' | hb'
      · rw [ha', hb']
      · subst ha'
        exact absurd (List.mem_map.mpr ⟨b, hb', e.symm⟩) hn.1
    · rcases List.mem_cons.mp hb with hb' | hb'
      · subst hb'
        exact absurd (List.mem_map.mpr ⟨a, ha', e⟩) hn.1
      · exact map_nodup_inj hn.2 ha' hb' e
theorem tlk_mem {tb : Tb} {c : Str} {x : Rn} (h : tlk tb c = some x) : (c, x) ∈ tb := by
  unfold tlk at h
  obtain ⟨p, hp, e⟩ := Option.map_eq_some_iff.mp h
  have h1 := List.mem_of_find?_eq_some hp
  have h2 := List.find?_some (p := fun p : Str × Rn => decide (p.1 = c)) hp
  have h2 := of_decide_eq_true h2
  rw [← h2, ← e]
  exact h1
theorem TbOk.inT {cs : List Str} {tb : Tb} (h : TbOk cs tb) {c : Str} (hc : c ∈ cs) : ∃ x, tlk tb c = some x ∧ (c, x) ∈ tb := by
  rw [← h.keys] at hc
  obtain ⟨p, hp, e⟩ := List.mem_map.mp hc
  cases q : tlk tb c with
  | some x => exact ⟨x, rfl, tlk_mem q⟩
  | none =>
    unfold tlk at q
    rw [Option.map_eq_none_iff, List.find?_eq_none] at q
    exact absurd (decide_eq_true e) (q p hp)
theorem TbOk.rn {cs : List Str} {tb : Tb} (h : TbOk cs tb) : RnOk cs tb := by
  refine ⟨fun c hc => ?_, fun c hc d hd e => ?_, fun c v w hv hw e => ?_, fun c v h1 h2 => ?_, fun c hc => ?_⟩
  · obtain ⟨x, h1, h2⟩ := h.inT hc
    rw [mName_of h1]
    exact h.ok _ h2
  · obtain ⟨x, h1, h2⟩ := h.inT hc
    obtain ⟨y, h3, h4⟩ := h.inT hd
    rw [mName_of h1, mName_of h3] at e
    exact congrArg (fun z : Str × Rn => z.1) (map_nodup_inj h.nd h2 h4 e)
  · unfold mVal at e
    cases q : tlk tb c with
    | none =>
      rw [q] at e
      exact e
    | some x =>
      rw [q] at e
      have e : mValR x v = mValR x w := e
      unfold mValR at e
      by_cases a1 : 99 < v <;> by_cases a2 : 99 < w <;> by_cases a3 : x.2.1 = 0 <;> simp only [a1, a2, a3, if_true, if_false] at e <;> omega
  · unfold mVal
    cases q : tlk tb c with
    | none => exact ⟨h1, h2⟩
    | some x =>
      show 0 ≤ mValR x v ∧ mValR x v ≤ 1000000000
      unfold mValR
      split
      · exact ⟨h1, h2⟩
      · split
        · omega
        · omega
  · obtain ⟨x, h1, _⟩ := h.inT hc
    exact ⟨x, h1⟩
end K97
set_option Elab.async false
set_option linter.all false
set_option maxRecDepth 100000
set_option maxHeartbeats 4000000
/-! K97: the law's look at one log. -/
namespace K97
open Dt (en)
open PySem L2
theorem rd_in {L : List Lg} {l : Lg} {x : List Str} : ∀ (n : Nat) (f : List (List Str)) (D : List Str), x ∈ mRd L l n f D → x ∈ f ∨ ∃ D', x = mAvail L l D'
  | 0, f, D, h => .inl h
  | n + 1, f, D, h => by
    unfold mRd at h
    split at h
    · rcases rd_in n _ _ h with h | h
      · rcases List.mem_append.mp h with h | h
        · exact .inl h
        · exact .inr ⟨D, List.mem_singleton.mp h⟩
      · exact .inr h
    · exact .inl h
theorem rd_len {L : List Lg} {l : Lg} : ∀ (n : Nat) (f : List (List Str)) (D : List Str), (mRd L l n f D).length ≤ f.length + n
  | 0, f, D => Nat.le_refl _
  | n + 1, f, D => by
    unfold mRd
    split
    · have := rd_len (L := L) (l := l) n (f ++ [mAvail L l D]) (D ++ mAvail L l D)
      rw [List.length_append, List.length_singleton] at this
      omega
    · omega
section
variable {P : Program} {w : World} {K : Fg} {mg : Str → Option Value} {base : Heap} {tk : Nat → Tok}
def Pre__law_log_right (ds : List PyData) : Prop := ∃ (cs : List Str) (tb : Tb) (L L' : List Lg) (l : Lg), ds = [en L, en L', en l, .dict (dTb tb)] ∧ RG cs tb L L' l ∧ mStuck L = none ∧ l.length ≤ 5
def R__law_log_right (_ : List PyData) (d : PyData) : Prop := d = .bool true
def c__law_log_right (_ : List PyData) : Nat := 2
theorem len__law_log_right (ds : List PyData) (h : Pre__law_log_right ds) : ds.length + 1 = 5 := by
  obtain ⟨cs, tb, L, L', l, rfl, _⟩ := h
  rfl
theorem ok__law_log_right (T : Tx mg tk) (t : Txt1 K mg "_law_log_right" (topS 92) ["_law_box_here", "_law_family", "_law_others", "_law_entry", "_law_table"]) (h__law_moved : Has P w K mg base "_law_moved" 3 ["_law_table", "_law_shown"] (SpD K R__law_moved)) (h__law_named : Has P w K mg base "_law_named" 2 ["_law_table", "_law_entry"] (SpD K R__law_named)) (h__law_of : Has P w K mg base "_law_of" 2 ["_law_box_here", "_law_some"] (SpX K Pre__law_of R__law_of c__law_of)) (h__law_set : Has P w K mg base "_law_set" 1 ["_law_table", "_law_cells_here"] (SpD K R__law_set)) (h_closure : Has P w K mg base "closure" 9 ["logs", "log", "avoid"] (SpD K R_closure)) (h_count_orders : Has P w K mg base "count_orders" 9 ["logs", "log"] (SpD K R_count_orders)) (h_evidence_of : Has P w K mg base "evidence_of" 10 ["logs", "log", "first", "later"] (SpD K R_evidence_of)) (h_next_cells : Has P w K mg base "next_cells" 9 ["logs", "log", "done"] (SpD K R_next_cells)) (h_precedence : Has P w K mg base "precedence" 9 ["logs", "log"] (SpD K R_precedence)) (h_rounds : Has P w K mg base "rounds" 9 ["logs", "log"] (SpD K R_rounds)) (h_shows_precedence : Has P w K mg base "shows_precedence" 10 ["logs", "log", "first", "later", "thing"] (SpD K R_shows_precedence)) : Has P w K mg base "_law_log_right" 11 ["_law_box_here", "_law_family", "_law_others", "_law_entry", "_law_table"] (SpX K Pre__law_log_right R__law_log_right c__law_log_right) := by
  have sc : FnScope ["_law_box_here", "_law_family", "_law_others", "_law_entry", "_law_table", "_law_spot", "_law_value", "_law_mine", "_law_cells_here", "_law_some", "_law_once", "_law_shunned", "_law_pairs", "_law_a", "_law_b", "_law_shown"] ["_law_box_here", "_law_family", "_law_others", "_law_entry", "_law_table"] (defScope (topS 92)) := ⟨rfl, rfl, rfl, by decide +kernel, rfl, by decide +kernel, by decide +kernel⟩
  refine has_box t sc len__law_log_right (by decide) (fun f cdv A outer s H E hr => (pss_cons (ps_asg (pe_tupF (pa_cons (pe_has (h__law_named.up (by decide)) hr (by rfl) (pa_cons (pv 4) (pa_cons (pv 3) pa_nil))) (pa_cons (pe_lc (own := [("_law_spot", 5), ("_law_value", 6)]) (by rfl) sc.nd (k_piT K rfl (pv 3)) (blkOk_by (by kernel_rfl)) (fun _ _ _ _ _ => (k_pgT K rfl (n := 2) rfl (pgs_cons (pg_name (i := 5) sc.nd rfl (.inl rfl)) (pgs_cons (pg_name (i := 6) sc.nd rfl (.inl rfl)) pgs_nil)))) (fun _ _ _ _ _ => pts_nil) (fun _ _ _ _ _ => (pv 5))) pa_nil))) (k_pgT K rfl (n := 2) rfl (pgs_cons (pg_name (i := 7) sc.nd rfl (.inl rfl)) (pgs_cons (pg_name (i := 8) sc.nd rfl (.inr rfl)) pgs_nil))))
  (pss_cons (ps_if (pt_cmpR (k_ne K rfl hr.units) (pe_has (h_count_orders.up (by decide)) hr (by rfl) (pa_cons (pv 1) (pa_cons (pv 3) pa_nil))) (pe_has (h_count_orders.up (by decide)) hr (by rfl) (pa_cons (pv 2) (pa_cons (pv 7) pa_nil))) (nomark _))
   (pss_one (ps_ret pe_bl))
   pss_nil)
  (pss_cons (ps_if (pt_cmpR (k_ne K rfl hr.units) (pe_has (h__law_set.up (by decide)) hr (by rfl) (pa_cons (pv 4) (pa_cons (pe_has (h_next_cells.up (by decide)) hr (by rfl) (pa_cons (pv 1) (pa_cons (pv 3) (pa_cons (pe_tupF pa_nil) pa_nil)))) pa_nil))) (pe_has (h_next_cells.up (by decide)) hr (by rfl) (pa_cons (pv 2) (pa_cons (pv 7) (pa_cons (pe_tupF pa_nil) pa_nil)))) (nomark _))
   (pss_one (ps_ret pe_bl))
   pss_nil)
  (pss_cons (ps_if (pt_cmpR (k_ne K rfl hr.units) (pe_callTy (k_tup K rfl) (by rfl) T.b_tuple (by decide +kernel) (pa_cons (pe_lc (own := [("_law_some", 9)]) (by rfl) sc.nd (k_piT K rfl (pe_has (h_rounds.up (by decide)) hr (by rfl) (pa_cons (pv 1) (pa_cons (pv 3) pa_nil)))) (blkOk_by (by kernel_rfl)) (fun _ _ _ _ _ => (pg_name (i := 9) sc.nd rfl (.inl rfl))) (fun _ _ _ _ _ => pts_nil) (fun _ _ _ _ _ => (pe_has (h__law_set.up (by decide)) hr (by rfl) (pa_cons (pv 4) (pa_cons (pv 9) pa_nil))))) pa_nil)) (pe_has (h_rounds.up (by decide)) hr (by rfl) (pa_cons (pv 2) (pa_cons (pv 7) pa_nil))) (nomark _))
   (pss_one (ps_ret pe_bl))
   pss_nil)
  (pss_cons (ps_set (i := 11) sc.nd rfl (.inl rfl) (pe_callTy (k_tup K rfl) (by rfl) T.b_tuple (by decide +kernel) (pa_cons (pe_lc (own := [("_law_once", 10)]) (by rfl) sc.nd (pi_range1 (by rfl) T.b_range (pa_cons (pe_op op_mul pe_int (pe_callTy call_int1 (by rfl) T.b_int (by decide +kernel) (pa_cons (pe_cmpR (k_ne K rfl hr.units) (pv 8) (pe_lst pa_nil) (nomark _)) pa_nil))) pa_nil)) (blkOk_by (by kernel_rfl)) (fun _ _ _ _ _ => (pg_name (i := 10) sc.nd rfl (.inl rfl))) (fun _ _ _ _ _ => pts_nil) (fun _ _ _ _ _ => (pe_has (h__law_of.up (by decide)) hr (by rfl) (pa_cons (pv 0) (pa_cons (pv 8) pa_nil))))) pa_nil)))
  (pss_cons (ps_if (pt_cmpR (k_ne K rfl hr.units) (pe_has (h__law_set.up (by decide)) hr (by rfl) (pa_cons (pv 4) (pa_cons (pe_has (h_closure.up (by decide)) hr (by rfl) (pa_cons (pv 1) (pa_cons (pv 3) (pa_cons (pv 11) pa_nil)))) pa_nil))) (pe_has (h_closure.up (by decide)) hr (by rfl) (pa_cons (pv 2) (pa_cons (pv 7) (pa_cons (pe_has (h__law_set.up (by decide)) hr (by rfl) (pa_cons (pv 4) (pa_cons (pv 11) pa_nil))) pa_nil)))) (nomark _))
   (pss_one (ps_ret pe_bl))
   pss_nil)
  (pss_cons (ps_set (i := 12) sc.nd rfl (.inl rfl) (pe_has (h_precedence.up (by decide)) hr (by rfl) (pa_cons (pv 1) (pa_cons (pv 3) pa_nil))))
  (pss_cons (ps_if (pt_cmpR (k_ne K rfl hr.units) (pe_callTy (k_tup K rfl) (by rfl) T.b_tuple (by decide +kernel) (pa_cons (pe_callB (k_sorted K rfl hr.units) (by rfl) T.b_sorted (by decide +kernel) (pa_cons (pe_lc (own := [("_law_a", 13), ("_law_b", 14)]) (by rfl) sc.nd (k_piT K rfl (pv 12)) (blkOk_by (by kernel_rfl)) (fun _ _ _ _ _ => (k_pgT K rfl (n := 2) rfl (pgs_cons (pg_name (i := 13) sc.nd rfl (.inl rfl)) (pgs_cons (pg_name (i := 14) sc.nd rfl (.inl rfl)) pgs_nil)))) (fun _ _ _ _ _ => pts_nil) (fun _ _ _ _ _ => (pe_tupF (pa_cons (pe_ix (k_ix K rfl) (pe_dget (hu_of hr) (pv 4) (pv 13) (fun _ _ => rfl)) pe_int (fun _ _ => rfl)) (pa_cons (pe_ix (k_ix K rfl) (pe_dget (hu_of hr) (pv 4) (pv 14) (fun _ _ => rfl)) pe_int (fun _ _ => rfl)) pa_nil))))) pa_nil)) pa_nil)) (pe_has (h_precedence.up (by decide)) hr (by rfl) (pa_cons (pv 2) (pa_cons (pv 7) pa_nil))) (nomark _))
   (pss_one (ps_ret pe_bl))
   pss_nil)
  (pss_cons (ps_for PassesOwn.never rfl (k_piT K rfl (pv 12)) (k_pgT K rfl (n := 2) rfl (pgs_cons (pg_name (i := 13) sc.nd rfl (.inl rfl)) (pgs_cons (pg_name (i := 14) sc.nd rfl (.inl rfl)) pgs_nil)))
   (pss_cons (ps_set (i := 15) sc.nd rfl (.inl rfl) (pe_has (h__law_moved.up (by decide)) hr (by rfl) (pa_cons (pv 4) (pa_cons (pe_has (h_evidence_of.up (by decide)) hr (by rfl) (pa_cons (pv 1) (pa_cons (pv 3) (pa_cons (pv 13) (pa_cons (pv 14) pa_nil))))) pa_nil))))
  (pss_one (ps_if (pt_cmpR (op_notBl) (pe_has (h_shows_precedence.up (by decide)) hr (by rfl) (pa_cons (pv 2) (pa_cons (pv 7) (pa_cons (pe_ix (k_ix K rfl) (pe_dget (hu_of hr) (pv 4) (pv 13) (fun _ _ => rfl)) pe_int (fun _ _ => rfl)) (pa_cons (pe_ix (k_ix K rfl) (pe_dget (hu_of hr) (pv 4) (pv 14) (fun _ _ => rfl)) pe_int (fun _ _ => rfl)) (pa_cons (pv 15) pa_nil)))))) pe_bl (nomark _))
   (pss_one (ps_ret pe_bl))
   pss_nil))))
  (pss_one (ps_ret pe_bl)))))))))))) ?_
  rintro ds b n ⟨cs, tb, L, L', l, rfl, h, st, h5⟩ hb hn
  have hn : n + 2 ≤ 1000000000 := hn
  obtain ⟨r1, r2⟩ := h.rd st
  have inC : ∀ c ∈ cellsOf l, InTb tb c := fun c hc => h.T.inT c (h.on.sub c hc)
  have n5 : (mNamed tb l).length ≤ 5 := by rw [named_len]; exact h5
  have avS : ∀ D, (∀ c ∈ mAvail L l D, InTb tb c) ∧ (mAvail L l D).length ≤ 10000 := fun D => ⟨fun c hc => inC c (avail_sub r1.ok r1.m hc).1, Nat.le_trans (avail_len h.w) (by decide)⟩
  have rwD : ∀ A, Dn l (mReadW L l A) := fun A => mReadW_dn h.w r1.ok r1.m
  show StG K [.bx b, .im (en L), .im (en L'), .im (en l), .im (.dict (dTb tb)), .no, .no, .no, .no, .no, .no, .no, .no, .no, .no, .no] _ _ _
  refine sg_then (sg_asgP (i := 7) (j := 8) (d1 := en (mNamed tb l)) (d2 := .list ((cellsOf l).map en)) (ev_tup (ea_cons (tv_call (tb, l) (ea_cons (ev_var rfl) (ea_one (ev_var rfl))) ⟨inC, by show l.length ≤ 1000; omega⟩) (ea_one ((tv_lm en l (f := fun p => en p.1) (tv_it (ev_var rfl)) (fun p _ => tg_pair (e := .no) (f := .no) rfl rfl rfl rfl (by decide)) (fun p _ => ev_var rfl) (by omega)).g.cast (by rw [cellsOf, List.map_map]; rfl))))) rfl rfl rfl rfl (by decide) rfl) ?_
  refine sg_then (sg_if (a := false) (et_test ((tv_ne (α := Int) (x := (mCount L l : Int)) (y := (mCount L' (mNamed tb l) : Int)) (tv_call (L, l) (ea_cons (ev_var rfl) (ea_one (ev_var rfl))) ⟨r1, h5⟩).c (tv_call (L', mNamed tb l) (ea_cons (ev_var rfl) (ea_one (ev_var rfl))) ⟨r2, n5⟩).c).cast (by rw [h.count]; simp))) (fun z => nomatch z) fun _ => sg_next rfl) ?_
  refine sg_then (sg_if (a := false) (et_test ((tv_ne (α := List Str) (x := mSet tb (mAvail L l [])) (y := mAvail L' (mNamed tb l) []) (tv_call (tb, mAvail L l []) (ea_cons (ev_var rfl) (ea_one (tv_call (L, l) (ea_cons (ev_var rfl) (ea_cons (ev_var rfl) (ea_one (ev_tup ea_nil)))) r1))) (avS [])).c (tv_call (L', mNamed tb l) (ea_cons (ev_var rfl) (ea_cons (ev_var rfl) (ea_one (ev_tup ea_nil)))) r2).c).cast (by rw [h.next]; simp))) (fun z => nomatch z) fun _ => sg_next rfl) ?_
  have rdl : (mRounds L l).length ≤ 6 := by
    have := rd_len (L := L) (l := l) (l.length + 1) [] []
    simp only [List.length_nil] at this
    show (mRd L l (l.length + 1) [] []).length ≤ 6
    omega
  refine sg_then (sg_if (a := false) (et_test ((tv_ne (α := List (List Str)) (x := (mRounds L l).map (mSet tb)) (y := mRounds L' (mNamed tb l)) ((tv_tup ((tv_lm en (mRounds L l) (f := fun D => en (mSet tb D)) (tv_it (tv_call (L, l) (ea_cons (ev_var rfl) (ea_one (ev_var rfl))) r1)) (fun D _ => tg_name rfl rfl) (fun D hD => tv_call (tb, D) (ea_cons (ev_var rfl) (ea_one (ev_var rfl))) ?_) (by omega)).cast (by rw [List.map_map]; rfl)).c).c) (tv_call (L', mNamed tb l) (ea_cons (ev_var rfl) (ea_one (ev_var rfl))) r2).c).cast (by rw [h.rounds]; simp))) (fun z => nomatch z) fun _ => sg_next rfl) ?_
  · rcases rd_in _ _ _ hD with hD | ⟨D', rfl⟩
    · cases hD
    · exact avS D'
  refine sg_seq (N1 := fun Γ' => ∃ (b1 : Bx) (A : List Str), Γ' = [.bx b1, .im (en L), .im (en L'), .im (en l), .im (.dict (dTb tb)), .no, .no, .im (en (mNamed tb l)), .im (.list ((cellsOf l).map en)), .no, .no, .im (en A), .no, .no, .no, .no] ∧ b1.1 = b.1 ∧ BxK (n + 2) b1 ∧ (∀ c ∈ A, c ∈ cellsOf l) ∧ A.length ≤ 2) (sg_setX (x_cb (P1 := fun d Γ' => ∃ (b1 : Bx) (A : List Str), d = .list (A.map en) ∧ Γ' = [.bx b1, .im (en L), .im (en L'), .im (en l), .im (.dict (dTb tb)), .no, .no, .im (en (mNamed tb l)), .im (.list ((cellsOf l).map en)), .no, .no, .no, .no, .no, .no, .no] ∧ b1.1 = b.1 ∧ BxK (n + 2) b1 ∧ (∀ c ∈ A, c ∈ cellsOf l) ∧ A.length ≤ 2) (EvLX.g (PL := fun es Γ' => ∃ (b1 : Bx) (A : List Str), es = A.map en ∧ Γ' = [.bx b1, .im (en L), .im (en L'), .im (en l), .im (.dict (dTb tb)), .no, .no, .im (en (mNamed tb l)), .im (.list ((cellsOf l).map en)), .no, .no, .no, .no, .no, .no, .no] ∧ b1.1 = b.1 ∧ BxK (n + 2) b1 ∧ (∀ c ∈ A, c ∈ cellsOf l) ∧ A.length ≤ 2) (el_lcX (ItG.x (pr := false) (ds := (List.range (2 * (if !(cellsOf l).isEmpty then 1 else 0))).map fun (i : Nat) => PyData.int (i : Int)) ?_ ⟨fun m acc Γ' => ∃ (b1 : Bx) (A : List Str), acc = A.map en ∧ Γ' = [.bx b1, .im (en L), .im (en L'), .im (en l), .im (.dict (dTb tb)), .no, .no, .im (en (mNamed tb l)), .im (.list ((cellsOf l).map en)), .no, .no, .no, .no, .no, .no, .no] ∧ b1.1 = b.1 ∧ BxK (n + m) b1 ∧ (∀ c ∈ A, c ∈ cellsOf l) ∧ A.length = m, ⟨nm_cons rfl rfl nm_nil, rfl, ?_, ⟨b, [], rfl, rfl, rfl, hb, (fun c hc => nomatch hc), rfl⟩, ?_, ?_⟩⟩)) fun es Γ' hh => ?_) ?_)) ?_
  · refine it_rng (ea_one ((ev_I ev_int (ev_intB (tv_neNil (xs := cellsOf l) (ev_var rfl).c)) (.inl ⟨by decide, by decide⟩) fun H => .int _).cast ?_)) (by split <;> omega)
    split <;> rfl
  · rw [List.length_map, List.length_range]
    split <;> omega
  · rintro m x acc _ hm ⟨b1, A, rfl, rfl, e1, k1, hA, hAl⟩
    have hm2 := (List.getElem?_eq_some_iff.mp hm).1
    rw [List.length_map, List.length_range] at hm2
    have hne : cellsOf l ≠ [] := fun z => by
      rw [z] at hm2
      simp at hm2
    have hm3 : m < 2 := by
      split at hm2 <;> omega
    refine ⟨by rw [List.length_map]; omega, _, _, tg_name (j := 10) rfl rfl, by decide, et_yes.x ⟨fun _ => ?_, fun z => nomatch z⟩⟩
    refine x_of (s := .list ((cellsOf l).map en)) rfl k1 (by omega) (ev_var rfl) (by show (cellsOf l).map en ≠ []; exact fun z => hne (List.map_eq_nil_iff.mp z)) (by show ((cellsOf l).map en).length ≤ 1000; rw [List.length_map, cellsOf, List.length_map]; omega) fun d b2 hd e2 k2 => ?_
    have hd : d ∈ (cellsOf l).map en := hd
    obtain ⟨c, hc, rfl⟩ := List.mem_map.mp hd
    refine ⟨nm_cons rfl rfl nm_nil, b2, A ++ [c], by rw [List.map_append]; rfl, rfl, e2.trans e1, k2, fun x hx => ?_, by rw [List.length_append, List.length_singleton, hAl]⟩
    rcases List.mem_append.mp hx with hx | hx
    · exact hA x hx
    · rw [List.mem_singleton.mp hx]
      exact hc
  · rintro acc _ ⟨b1, A, rfl, rfl, e1, k1, hA, hAl⟩
    rw [List.length_map, List.length_range] at k1 hAl
    refine ⟨fun v hv => by rw [List.mem_singleton.mp hv]; rfl, b1, A, rfl, rfl, e1, k1.up (by split <;> omega), hA, by rw [hAl]; split <;> omega⟩
  · obtain ⟨b1, A, rfl, rfl, q⟩ := hh
    exact ⟨b1, A, rfl, rfl, q⟩
  · rintro d _ ⟨b1, A, rfl, rfl, e1, k1, hA, hAl⟩
    exact ⟨.tuple (A.map en), ⟨⟨_, rfl, rfl⟩, b1, A, rfl, e1, k1, hA, hAl⟩, tv_tup (ev_var rfl).c⟩
  rintro _ ⟨b1, A, rfl, e1, k1, hA, hAl⟩
  have hAc : ∀ c ∈ A, c ∈ cs := fun c hc => h.on.sub c (hA c hc)
  have hAs : (∀ c ∈ A, InTb tb c) ∧ A.length ≤ 10000 := ⟨fun c hc => inC c (hA c hc), by omega⟩
  have rwS : ∀ A, (∀ c ∈ dsort (mReadW L l A), InTb tb c) ∧ (dsort (mReadW L l A)).length ≤ 10000 := fun A => ⟨fun c hc => inC c ((rwD A).sub c (mem_dsort.mp hc)), by rw [len_dsort]; have := (rwD A).len; omega⟩
  refine sg_then (sg_if (a := false) (et_test ((tv_ne (α := List Str) (x := mSet tb (dsort (mReadW L l A))) (y := dsort (mReadW L' (mNamed tb l) (mSet tb A))) (tv_call (tb, dsort (mReadW L l A)) (ea_cons (ev_var rfl) (ea_one (tv_call (L, l, A) (ea_cons (ev_var rfl) (ea_cons (ev_var rfl) (ea_one (ev_var rfl)))) r1))) (rwS A)).c (tv_call (L', mNamed tb l, mSet tb A) (ea_cons (ev_var rfl) (ea_cons (ev_var rfl) (ea_one (tv_call (tb, A) (ea_cons (ev_var rfl) (ea_one (ev_var rfl))) hAs)))) r2).c).cast (by rw [h.clos hAc]; simp))) (fun z => nomatch z) fun _ => sg_next rfl) ?_
  refine sg_then (sg_set (d := en (mPrec L l)) (tv_call (L, l) (ea_cons (ev_var rfl) (ea_one (ev_var rfl))) r1) rfl rfl rfl) ?_
  have pl : (mPrec L l).length ≤ 500 := Nat.le_trans (flat_len fun x _ => mPrecF_len r1.ok) (by omega)
  have prc : ∀ p ∈ mPrec L l, p.1 ∈ cellsOf l ∧ p.2 ∈ cellsOf l := fun p hp => ⟨(mem_prec.mp hp).1, (mem_prec.mp hp).2.1⟩
  refine sg_then (sg_if (a := false) (et_test ((tv_ne (α := List (Str × Str)) (x := dsort ((mPrec L l).map fun p => (mName tb p.1, mName tb p.2))) (y := mPrec L' (mNamed tb l)) (tv_tup (tv_sortL (xs := (mPrec L l).map fun p => (mName tb p.1, mName tb p.2)) ((tv_lm en (mPrec L l) (f := fun p => en (mName tb p.1, mName tb p.2)) (tv_it (ev_var rfl)) (fun p _ => tg_pair (e := .no) (f := .no) rfl rfl rfl rfl (by decide)) (fun p hp => ev_tup (ea_cons (tv_tbname (ev_var rfl).c (ev_var rfl) (inC _ (prc p hp).1)) (ea_one (tv_tbname (ev_var rfl).c (ev_var rfl) (inC _ (prc p hp).2))))) (by omega)).cast (by rw [List.map_map]; rfl)).c (by rw [List.length_map]; omega)).c).c (tv_call (L', mNamed tb l) (ea_cons (ev_var rfl) (ea_one (ev_var rfl))) r2).c).cast (by rw [h.prec]; simp))) (fun z => nomatch z) fun _ => sg_next rfl) ?_
  refine sg_forW (fun _ => [.bx b1, .im (en L), .im (en L'), .im (en l), .im (.dict (dTb tb)), .no, .no, .im (en (mNamed tb l)), .im (.list ((cellsOf l).map en)), .no, .no, .im (en A), .im (en (mPrec L l)), .no, .no, .no]) (tv_it (ev_var rfl)) (Wk.rfl' _) (fun i d hd => ?_) ?_
  · rw [List.getElem?_map] at hd
    obtain ⟨⟨a, c⟩, hci, rfl⟩ := Option.map_eq_some_iff.mp hd
    have hp : (a, c) ∈ mPrec L l := List.mem_of_getElem? hci
    obtain ⟨g1, g2, g3, g4⟩ := mem_prec.mp hp
    have g1 : a ∈ cellsOf l := g1
    have g2 : c ∈ cellsOf l := g2
    have g3 : c ≠ a := g3
    have g4 : c ∉ mReadW L l [a] := g4
    have ev := h.evid hp
    have hd := rwD [a]
    refine ⟨_, _, tg_pair (e := .no) (f := .no) (d1 := en a) (d2 := en c) rfl rfl rfl rfl (by decide), ?_⟩
    refine sg_then (sg_set (d := en (mMoved tb (mEvid L l a))) (tv_call (tb, mEvid L l a) (ea_cons (ev_var rfl) (ea_one (tv_call (L, l, a, c) (ea_cons (ev_var rfl) (ea_cons (ev_var rfl) (ea_cons (ev_var rfl) (ea_one (ev_var rfl))))) ⟨r1, g1, g2, Ne.symm g3, g4⟩))) ⟨(rwS [a]).1, (rwS [a]).2, ?_, fun x hx => ?_⟩) rfl rfl rfl) ?_
    · show ((mLeft l (mReadW L l [a]) a).map fun d => (d, mWit (mAfter L l (mReadW L l [a])) d)).length ≤ 10000
      rw [List.length_map, mLeft, List.length_map]
      exact Nat.le_trans (List.length_filter_le ..) (by omega)
    · obtain ⟨d, hd, rfl⟩ := List.mem_map.mp hx
      obtain ⟨q1, q2, q3⟩ := mem_left.mp hd
      obtain ⟨w1, _⟩ := wit_ok (read_lacks h.w r1.ok r1.m q2 q3)
      have wm := ((mem_mAfter r1.ok).mp w1).1
      exact ⟨inC d q1, fun c hc => h.T.inT c ((h.g.on _ wm).sub c hc), by have := (h.g.on _ wm).w.len; show (mWit _ d).length ≤ 1000; omega⟩
    refine sg_if (a := false) (et_test ((ev_notB (a := true) (b := true) (tv_call (L', mNamed tb l, mName tb a, mName tb c, mMoved tb (mEvid L l a)) (ea_cons (ev_var rfl) (ea_cons (ev_var rfl) (ea_cons (tv_tbname (ev_var rfl).c (ev_var rfl) (inC a g1)) (ea_cons (tv_tbname (ev_var rfl).c (ev_var rfl) (inC c g2)) (ea_one (ev_var rfl)))))) ⟨r2, named_cells.mpr ⟨a, g1, rfl⟩, named_cells.mpr ⟨c, g2, rfl⟩, fun z => g3 (h.T.inj c (h.on.sub c g2) a (h.on.sub a g1) z.symm), ev⟩) ev_bl).cast rfl)) (fun z => nomatch z) fun _ => sg_next wk_ok
  · exact sg_ret ev_bl ⟨rfl, b1, rfl, e1, k1⟩
end
end K97
set_option Elab.async false
set_option linter.all false
set_option maxRecDepth 100000
set_option maxHeartbeats 4000000
/-! K97: a drawn snapshot. -/
namespace K97
open Dt (en)
open PySem L2
section
variable {P : Program} {w : World} {K : Fg} {mg : Str → Option Value} {base : Heap} {tk : Nat → Tok}
def Pre__law_snapshot (ds : List PyData) : Prop := ∃ (cs : List Str) (L : List Lg), ds = [en L] ∧ Five cs ∧ Over cs L ∧ L ≠ [] ∧ L.length ≤ 10
def R__law_snapshot (ds : List PyData) (d : PyData) : Prop := ∃ (L : List Lg) (s : Lg), ds = [en L] ∧ d = en s ∧ LgW s ∧ ∀ l ∈ L, ∀ c ∈ cellsOf l, (lkp s c).isSome = true
def c__law_snapshot (_ : List PyData) : Nat := 20
theorem len__law_snapshot (ds : List PyData) (h : Pre__law_snapshot ds) : ds.length + 1 = 2 := by
  obtain ⟨cs, L, rfl, _⟩ := h
  rfl
structure SnK (L : List Lg) (ks : List Str) : Prop where
  keys : (gv L.flatten).map (·.1) = ks.map Sum.inr
  nd : ks.Nodup
  len : ks.length ≤ 5
  mem : ∀ c, c ∈ ks ↔ ∃ l ∈ L, c ∈ cellsOf l
  ok : ∀ c ∈ ks, CellOk c
  val : ∀ c ∈ ks, ∃ vs : List Int, vs ≠ [] ∧ vs.length ≤ 60 ∧ (∀ v ∈ vs, 0 ≤ v ∧ v ≤ 1000000000) ∧ lk (grD (gv L.flatten)) (.inr c) = some (.list (vs.map .int))
theorem snK {cs : List Str} {L : List Lg} (hcs : Five cs) (h : Over cs L) (hl : L.length ≤ 10) : ∃ ks, SnK L ks := by
  obtain ⟨hn, hm⟩ := gfold_keys (fun p : Str × Int => (Sum.inr p.1 : Key)) (fun p => PyData.int p.2) L.flatten
  have cells : ∀ c, c ∈ L.flatten.map (·.1) ↔ ∃ l ∈ L, c ∈ cellsOf l := fun c => by
    rw [List.mem_map]
    constructor
    · rintro ⟨p, hp, rfl⟩
      obtain ⟨l, h1, h2⟩ := List.mem_flatten.mp hp
      exact ⟨l, h1, List.mem_map_of_mem (f := fun p : Str × Int => p.1) h2⟩
    · rintro ⟨l, h1, h2⟩
      obtain ⟨p, hp, e⟩ := List.mem_map.mp h2
      exact ⟨p, List.mem_flatten.mpr ⟨l, h1, hp⟩, e⟩
  have hk : ∀ k, k ∈ (gv L.flatten).map (·.1) ↔ ∃ p ∈ L.flatten, k = Sum.inr p.1 := fun k => by
    refine (hm k).trans ?_
    rw [List.mem_map]
    constructor
    · rintro ⟨p, h1, h2⟩
      exact ⟨p, h1, h2.symm⟩
    · rintro ⟨p, h1, h2⟩
      exact ⟨p, h1, h2.symm⟩
  let un : Key → Str := fun k => match k with
    | .inr c => c
    | .inl _ => ⟨#[]⟩
  have e1 : (gv L.flatten).map (·.1) = (((gv L.flatten).map (·.1)).map un).map Sum.inr := by
    rw [List.map_map]
    conv => lhs; rw [← List.map_id ((gv L.flatten).map (·.1))]
    refine List.map_congr_left fun k hk' => ?_
    obtain ⟨p, _, rfl⟩ := (hk k).mp hk'
    rfl
  generalize hks : ((gv L.flatten).map (·.1)).map un = ks at e1
  have hn' : ((gv L.flatten).map (·.1)).Nodup := hn
  have kmem : ∀ c, c ∈ ks ↔ ∃ l ∈ L, c ∈ cellsOf l := fun c => by
    rw [← cells]
    constructor
    · intro hc
      have : (Sum.inr c : Key) ∈ (gv L.flatten).map (·.1) := by rw [e1]; exact List.mem_map_of_mem hc
      obtain ⟨p, hp, e⟩ := (hk _).mp this
      rw [Sum.inr.inj e]
      exact List.mem_map_of_mem (f := fun p : Str × Int => p.1) hp
    · intro hc
      obtain ⟨p, hp, e⟩ := List.mem_map.mp hc
      have : (Sum.inr c : Key) ∈ (gv L.flatten).map (·.1) := (hk _).mpr ⟨p, hp, by rw [← e]⟩
      rw [e1] at this
      obtain ⟨d, hd, e⟩ := List.mem_map.mp this
      rw [← Sum.inr.inj e]
      exact hd
  have nd : ks.Nodup := by
    rw [e1] at hn'
    exact List.Pairwise.imp (fun h e => h (by rw [e])) (List.pairwise_map.mp hn')
  have sub : ∀ c ∈ ks, c ∈ cs := fun c hc => by
    obtain ⟨l, h1, h2⟩ := (kmem c).mp hc
    exact h.sub l h1 c h2
  have five : ∀ l ∈ L, l.length ≤ 5 := fun l h1 => by
    have h2 := nodup_sub (h.w.ok l h1).up.nodup (h.sub l h1)
    rw [List.length_map] at h2
    exact Nat.le_trans h2 hcs.len
  have flen : L.flatten.length ≤ L.length * 5 := by
    clear hm hk e1 hks kmem nd sub cells hn' hn
    induction L with
    | nil => simp
    | cons l L ih =>
      have h1 := five l List.mem_cons_self
      have h2 := ih ⟨h.w.subl (List.sublist_cons_self _ _), fun m hm => h.sub m (List.mem_cons_of_mem _ hm)⟩ (by rw [List.length_cons] at hl; omega) fun m hm => five m (List.mem_cons_of_mem _ hm)
      rw [List.flatten_cons, List.length_append, List.length_cons, Nat.succ_mul]
      omega
  refine ⟨ks, e1, nd, Nat.le_trans (nodup_sub nd sub) hcs.len, kmem, fun c hc => hcs.ok c (sub c hc), fun c hc => ?_⟩
  obtain ⟨l, h1, h2⟩ := (kmem c).mp hc
  obtain ⟨p, hp, e⟩ := List.mem_map.mp h2
  have hpf : p ∈ L.flatten := List.mem_flatten.mpr ⟨l, h1, hp⟩
  refine ⟨(L.flatten.filter fun p => decide ((Sum.inr p.1 : Key) = .inr c)).map (·.2), fun z => ?_, ?_, fun v hv => ?_, ?_⟩
  · have : p ∈ L.flatten.filter fun p => decide ((Sum.inr p.1 : Key) = .inr c) := List.mem_filter.mpr ⟨hpf, by simp [e]⟩
    rw [List.map_eq_nil_iff.mp z] at this
    cases this
  · rw [List.length_map]
    have := List.length_filter_le (fun p : Str × Int => decide ((Sum.inr p.1 : Key) = .inr c)) L.flatten
    omega
  · obtain ⟨q, hq, rfl⟩ := List.mem_map.mp hv
    obtain ⟨m, hm1, hm2⟩ := List.mem_flatten.mp (List.mem_filter.mp hq).1
    exact ((h.w.ok m hm1).ok q hm2).2
  · rw [lk_gr]
    have := gfold_lk (fun p : Str × Int => (Sum.inr p.1 : Key)) (fun p => PyData.int p.2) (.inr c) L.flatten
    rw [show gv L.flatten = gfold (fun p : Str × Int => (Sum.inr p.1 : Key)) (fun p => PyData.int p.2) L.flatten from rfl, this, if_pos (List.mem_map.mpr ⟨p, hpf, by rw [← e]⟩), List.map_map]
    rfl
theorem elts_list (ds : List PyData) : elts (.list ds) = ds := rfl
theorem keys_en {L : List Lg} {ks : List Str} (h : SnK L ks) : (grD (gv L.flatten)).map (·.1) = ks.map en := by
  have e : (grD (gv L.flatten)).map (·.1) = ((gv L.flatten).map (·.1)).map kD := by
    rw [grD, List.map_map, List.map_map]
    rfl
  rw [e, h.keys, List.map_map]
  rfl
theorem dP_int (xs : List (Str × Int)) : dP (xs.map fun p => (p.1, PyData.int p.2)) = dDict xs := by
  rw [dP, List.map_map]
  rfl
theorem encP_int (xs : List (Str × Int)) : (xs.map fun p => (p.1, PyData.int p.2)).map encP = xs.map en := by
  rw [List.map_map]
  rfl
theorem fst_int (xs : List (Str × Int)) : (xs.map fun p => (p.1, PyData.int p.2)).map (·.1) = xs.map (·.1) := by
  rw [List.map_map]
  rfl
theorem items_en (xs : List (Str × Int)) : (dDict xs).map (fun x => PyData.tuple [x.1, x.2]) = xs.map en := by
  rw [dDict, List.map_map]
  rfl
theorem ok__law_snapshot (T : Tx mg tk) (t : Txt1 K mg "_law_snapshot" (topS 85) ["_law_box_here", "_law_family"]) (h__law_of : Has P w K mg base "_law_of" 2 ["_law_box_here", "_law_some"] (SpX K Pre__law_of R__law_of c__law_of)) (h__law_take : Has P w K mg base "_law_take" 1 ["_law_box_here", "_law_upon"] (SpX K Pre__law_take R__law_take c__law_take)) (h__law_values_of : Has P w K mg base "_law_values_of" 1 ["_law_family"] (SpD K R__law_values_of)) : Has P w K mg base "_law_snapshot" 3 ["_law_box_here", "_law_family"] (SpX K Pre__law_snapshot R__law_snapshot c__law_snapshot) := by
  have sc : FnScope ["_law_box_here", "_law_family", "_law_some", "_law_spot", "_law_base", "_law_name"] ["_law_box_here", "_law_family"] (defScope (topS 85)) := ⟨rfl, rfl, rfl, by decide +kernel, rfl, by decide +kernel, by decide +kernel⟩
  refine has_box t sc len__law_snapshot (by decide) (fun f cdv A outer s H E hr => (pss_cons (ps_set (i := 2) sc.nd rfl (.inr rfl) (pe_has (h__law_values_of.up (by decide)) hr (by rfl) (pa_cons (pv 1) pa_nil)))
  (pss_cons (ps_if (pt_cmpR (op_gt) (pe_has (h__law_take.up (by decide)) hr (by rfl) (pa_cons (pv 0) (pa_cons pe_int pa_nil))) pe_int (nomark _))
   (pss_one (ps_set (i := 2) sc.nd rfl (.inr rfl) (pe_callTy (k_dicP K rfl rfl) (by rfl) T.b_dict (by decide +kernel) (pa_cons (pe_lc (own := [("_law_spot", 3)]) (by rfl) sc.nd (pi_keys (pv 2)) (blkOk_by (by kernel_rfl)) (fun _ _ _ _ _ => (pg_name (i := 3) sc.nd rfl (.inl rfl))) (fun _ _ _ _ _ => pts_nil) (fun _ _ _ _ _ => (pe_tupF (pa_cons (pv 3) (pa_cons (pe_has (h__law_of.up (by decide)) hr (by rfl) (pa_cons (pv 0) (pa_cons (pe_op (k_catQ K rfl) (pe_op (k_catQ K rfl) (pe_dget (hu_of hr) (pv 2) (pv 3) (fun _ _ => rfl)) (pe_dget (hu_of hr) (pv 2) (pv 3) (fun _ _ => rfl))) (pe_lst (pa_cons pe_int (pa_cons (pe_op op_pow pe_int pe_int) pa_nil)))) pa_nil))) pa_nil))))) pa_nil))))
   (pss_cons (ps_set (i := 4) sc.nd rfl (.inr rfl) (pe_callTy (k_dicP K rfl rfl) (by rfl) T.b_dict (by decide +kernel) (pa_cons (pe_callTy (k_lst K rfl) (by rfl) T.b_list (by decide +kernel) (pa_cons (pe_has (h__law_of.up (by decide)) hr (by rfl) (pa_cons (pv 0) (pa_cons (pv 1) pa_nil))) pa_nil)) pa_nil)))
  (pss_one (ps_set (i := 2) sc.nd rfl (.inr rfl) (pe_callTy (k_dicP K rfl rfl) (by rfl) T.b_dict (by decide +kernel) (pa_cons (pe_lc (own := [("_law_spot", 3)]) (by rfl) sc.nd (pi_keys (pv 2)) (blkOk_by (by kernel_rfl)) (fun _ _ _ _ _ => (pg_name (i := 3) sc.nd rfl (.inl rfl))) (fun _ _ _ _ _ => pts_nil) (fun _ _ _ _ _ => (pe_tupF (pa_cons (pv 3) (pa_cons (pe_dget2 (hu_of hr) (pv 4) (pv 3) (pe_has (h__law_of.up (by decide)) hr (by rfl) (pa_cons (pv 0) (pa_cons (pe_dget (hu_of hr) (pv 2) (pv 3) (fun _ _ => rfl)) pa_nil))) ⟨rfl, rfl, rfl, rfl⟩) pa_nil))))) pa_nil))))))
  (pss_cons (ps_for PassesOwn.never rfl (k_piL K rfl (pe_slice (k_slL K rfl) (pe_lst (pa_cons pe_str (pa_cons pe_str pa_nil))) po_none (po_some (pe_has (h__law_take.up (by decide)) hr (by rfl) (pa_cons (pv 0) (pa_cons pe_int pa_nil)))))) (pg_name (i := 5) sc.nd rfl (.inl rfl))
   (pss_one (ps_expr (pe_dsetd (pv 2) (pv 5) (pe_has (h__law_take.up (by decide)) hr (by rfl) (pa_cons (pv 0) (pa_cons pe_int pa_nil))) ⟨rfl, rfl, rfl, rfl⟩))))
  (pss_one (ps_ret (pe_callTy (k_tup K rfl) (by rfl) T.b_tuple (by decide +kernel) (pa_cons (pe_callB (k_sorted K rfl hr.units) (by rfl) T.b_sorted (by decide +kernel) (pa_cons (pe_listItemsF rfl (pv 2) (by rfl) T.b_list (by decide +kernel)) pa_nil)) pa_nil)))))))) ?_
  rintro ds b n ⟨cs, L, rfl, hcs, hov, hne, hL⟩ hb hn
  have hn : n + 20 ≤ 1000000000 := hn
  obtain ⟨ks, hks⟩ := snK hcs hov hL
  have hk5 := hks.len
  generalize hM : gv L.flatten = M at *
  have ten9 : ∀ {Γ : En}, EvG K Γ (tOp (rI CPow fun i j => .int (i ^ j.toNat)) (tC (.int 10)) (tC (.int 9))) (.int 1000000000) := ev_I ev_int ev_int ⟨by decide, by decide, by decide⟩ fun H => .int _
  show StG K [.bx b, .im (en L), .no, .no, .no, .no] _ _ _
  refine sg_then (sg_set (d := .dict (grD M)) (by rw [← hM]; exact tv_call L (ea_one (ev_var rfl)) hov.w) rfl rfl rfl) ?_
  refine sg_seq (N1 := fun Γ' => ∃ (b1 : Bx) (xs : List (Str × Int)) (e4 : Ent), Γ' = [.bx b1, .im (en L), .dc (dDict xs), .no, e4, .no] ∧ b1.1 = b.1 ∧ BxK (n + 10) b1 ∧ xs.map (·.1) = ks ∧ ∀ p ∈ xs, 0 ≤ p.2 ∧ p.2 ≤ 1000000000) (sg_ifX (xt_test (x_op (P1 := fun d Γ' => ∃ (b1 : Bx) (r : Nat), d = .int r ∧ Γ' = [.bx b1, .im (en L), .im (.dict (grD M)), .no, .no, .no] ∧ b1.1 = b.1 ∧ BxK (n + 1) b1) (x_take (u := 3) rfl hb (by omega) ev_int (by omega) (by omega) fun r b1 hr e1 k1 => ⟨b1, r, rfl, rfl, e1, k1⟩) ?_))) ?_
  · rintro d1 Γ1 ⟨b1, r, rfl, rfl, e1, k1⟩
    refine ev_int.x ⟨.bool (decide ((r : Int) > 0)), ⟨decide ((r : Int) > 0), rfl, fun hr => ?_, fun hr => ?_⟩, ev_I0 (ev_var rfl) (ev_var rfl) fun H => .bl _⟩
    · -- a value that some log has, or another
      refine sg_setDX (EvLX.g (PL := fun ds' Γ' => ∃ (b3 : Bx) (xs : List (Str × Int)), ds' = xs.map en ∧ Γ' = [.bx b3, .im (en L), .im (.dict (grD M)), .no, .no, .no] ∧ b3.1 = b.1 ∧ BxK (n + 1 + 5) b3 ∧ xs.map (·.1) = ks ∧ ∀ p ∈ xs, 0 ≤ p.2 ∧ p.2 ≤ 1000000000) (el_lcX ((it_keys (ev_var rfl)).x ⟨fun m acc Γ' => ∃ (b3 : Bx) (xs : List (Str × Int)), acc = xs.map en ∧ Γ' = [.bx b3, .im (en L), .im (.dict (grD M)), .no, .no, .no] ∧ b3.1 = b.1 ∧ BxK (n + 1 + m) b3 ∧ xs.map (·.1) = ks.take m ∧ ∀ p ∈ xs, 0 ≤ p.2 ∧ p.2 ≤ 1000000000, ⟨nm_cons rfl rfl nm_nil, rfl, by rw [← hM, keys_en hks, List.length_map]; omega, ⟨b1, [], rfl, rfl, e1, k1, by simp, fun p h => nomatch h⟩, ?_, ?_⟩⟩)) ?_)
      · rintro m x acc _ hm ⟨b3, xs, rfl, rfl, e3, k3, hxs, hok⟩
        rw [← hM, keys_en hks, List.getElem?_map] at hm
        obtain ⟨c, hc, rfl⟩ := Option.map_eq_some_iff.mp hm
        have hml : m < ks.length := (List.getElem?_eq_some_iff.mp hc).1
        obtain ⟨vs, hv0, hvl, hvok, hvlk⟩ := hks.val c (List.mem_of_getElem? hc)
        rw [hM] at hvlk
        have hlen : xs.length = m := by
          have := congrArg List.length hxs
          rw [List.length_map, List.length_take] at this
          omega
        have htk : ks.take (m + 1) = ks.take m ++ [c] := by rw [List.take_add_one, hc]; rfl
        refine ⟨by rw [List.length_map]; omega, _, _, tg_name (j := 3) rfl rfl, by decide, et_yes.x ⟨fun _ => ?_, fun h => nomatch h⟩⟩
        refine x_tup (xa_g (PL := fun ds' Γ' => ∃ (b5 : Bx) (v : Int), ds' = [en c, .int v] ∧ (0 ≤ v ∧ v ≤ 1000000000) ∧ Γ' = [.bx b5, .im (en L), .im (.dict (grD M)), .im (en c), .no, .no] ∧ b5.1 = b.1 ∧ BxK (n + 1 + m + 1) b5) (ev_var rfl) (xa_cons (P1 := fun d' Γ' => ∃ (b5 : Bx) (v : Int), d' = .int v ∧ (0 ≤ v ∧ v ≤ 1000000000) ∧ Γ' = [.bx b5, .im (en L), .im (.dict (grD M)), .im (en c), .no, .no] ∧ b5.1 = b.1 ∧ BxK (n + 1 + m + 1) b5) (x_of (s := .list (vs.map .int ++ vs.map .int ++ [.int 5, .int 1000000000])) rfl k3 (by omega) (el_catQ (el_catQ (ev_dget (k := .inr c) (ev_var rfl).c (ev_var rfl) hvlk).c (ev_dget (k := .inr c) (ev_var rfl).c (ev_var rfl) hvlk).c (by rw [List.length_map]; omega)).c (el_lst (ea_cons ev_int (ea_one ten9))).c (by rw [List.length_append, List.length_map]; simp only [List.length_cons, List.length_nil]; omega)).g (by rw [elts_list]; simp) (by rw [elts_list, List.length_append, List.length_append, List.length_map]; simp only [List.length_cons, List.length_nil]; omega) fun d b5 hd e5 k5 => ?_) ?_)) ?_
        · rw [elts_list, List.mem_append, List.mem_append] at hd
          have hd : ∃ v : Int, d = .int v ∧ 0 ≤ v ∧ v ≤ 1000000000 := by
            rcases hd with (hd | hd) | hd
            · obtain ⟨v, hv, rfl⟩ := List.mem_map.mp hd
              exact ⟨v, rfl, hvok v hv⟩
            · obtain ⟨v, hv, rfl⟩ := List.mem_map.mp hd
              exact ⟨v, rfl, hvok v hv⟩
            · simp only [List.mem_cons, List.not_mem_nil, or_false] at hd
              rcases hd with rfl | rfl
              · exact ⟨5, rfl, by decide, by decide⟩
              · exact ⟨1000000000, rfl, by decide, by decide⟩
          obtain ⟨v, rfl, h1, h2⟩ := hd
          exact ⟨b5, v, rfl, ⟨h1, h2⟩, rfl, e5.trans e3, k5⟩
        · rintro d Γ' ⟨b5, v, rfl, hv, rfl, e5, k5⟩
          exact xa_nil ⟨b5, v, rfl, hv, rfl, e5, k5⟩
        · rintro ds' Γ' ⟨b5, v, rfl, hv, rfl, e5, k5⟩
          refine ⟨by simp, nm_cons rfl rfl nm_nil, b5, xs ++ [(c, v)], ?_, rfl, e5, k5, ?_, ?_⟩
          · rw [List.map_append]
            rfl
          · rw [List.map_append, hxs, htk]
            rfl
          · intro p hp
            rcases List.mem_append.mp hp with hp | hp
            · exact hok p hp
            · rw [List.mem_singleton.mp hp]
              exact hv
      · rintro acc _ ⟨b3, xs, rfl, rfl, e3, k3, hxs, hok⟩
        rw [← hM, keys_en hks, List.length_map] at k3 hxs
        rw [List.take_length] at hxs
        refine ⟨fun v hv => ?_, b3, xs, rfl, rfl, e3, k3.up (by omega), hxs, hok⟩
        rw [List.mem_singleton.mp hv]
        rfl
      · rintro ds' Γ' ⟨b3, xs, rfl, rfl, e3, k3, hxs, hok⟩
        refine ⟨xs.map fun p => (p.1, PyData.int p.2), by rw [encP_int], by rw [fst_int, hxs]; exact hks.nd, ⟨_, rfl, rfl⟩, b3, xs, .no, ?_, e3, k3.up (by omega), hxs, hok⟩
        rw [dP_int]
        rfl
    · -- mostly a log's own values
      refine sg_seq (N1 := fun Γ' => ∃ (b2 : Bx) (l : Lg), Γ' = [.bx b2, .im (en L), .im (.dict (grD M)), .no, .dc (dDict l), .no] ∧ b2.1 = b.1 ∧ BxK (n + 2) b2 ∧ l ∈ L) (sg_setDX (x_cb (P1 := fun d Γ' => ∃ (b2 : Bx) (l : Lg), d = en l ∧ l ∈ L ∧ Γ' = [.bx b2, .im (en L), .im (.dict (grD M)), .no, .no, .no] ∧ b2.1 = b.1 ∧ BxK (n + 2) b2) (x_of (s := en L) rfl k1 (by omega) (ev_var rfl) ?_ ?_ fun d b2 hd e2 k2 => ?_) ?_)) ?_
      · show L.map en ≠ []
        exact fun z => hne (List.map_eq_nil_iff.mp z)
      · show (L.map en).length ≤ 1000
        rw [List.length_map]
        omega
      · have hd : d ∈ L.map en := hd
        obtain ⟨l, hl, rfl⟩ := List.mem_map.mp hd
        exact ⟨b2, l, rfl, hl, rfl, e2.trans e1, k2⟩
      · rintro d Γ' ⟨b2, l, rfl, hl, rfl, e2, k2⟩
        refine ⟨.list (l.map en), ⟨l.map fun p => (p.1, PyData.int p.2), by rw [encP_int], by rw [fst_int]; exact (hov.w.ok l hl).up.nodup, ⟨_, rfl, rfl⟩, b2, l, ?_, e2, k2, hl⟩, (el_lstT (ev_var rfl).c).g⟩
        rw [dP_int]
        rfl
      rintro _ ⟨b2, l, rfl, e2, k2, hl⟩
      have hlw := hov.w.ok l hl
      refine sg_setDX (EvLX.g (PL := fun ds' Γ' => ∃ (b3 : Bx) (xs : List (Str × Int)), ds' = xs.map en ∧ Γ' = [.bx b3, .im (en L), .im (.dict (grD M)), .no, .dc (dDict l), .no] ∧ b3.1 = b.1 ∧ BxK (n + 2 + 5) b3 ∧ xs.map (·.1) = ks ∧ ∀ p ∈ xs, 0 ≤ p.2 ∧ p.2 ≤ 1000000000) (el_lcX ((it_keys (ev_var rfl)).x ⟨fun m acc Γ' => ∃ (b3 : Bx) (xs : List (Str × Int)), acc = xs.map en ∧ Γ' = [.bx b3, .im (en L), .im (.dict (grD M)), .no, .dc (dDict l), .no] ∧ b3.1 = b.1 ∧ BxK (n + 2 + m) b3 ∧ xs.map (·.1) = ks.take m ∧ ∀ p ∈ xs, 0 ≤ p.2 ∧ p.2 ≤ 1000000000, ⟨nm_cons rfl rfl nm_nil, rfl, by rw [← hM, keys_en hks, List.length_map]; omega, ⟨b2, [], rfl, rfl, e2, k2, by simp, fun p h => nomatch h⟩, ?_, ?_⟩⟩)) ?_)
      · rintro m x acc _ hm ⟨b3, xs, rfl, rfl, e3, k3, hxs, hok⟩
        rw [← hM, keys_en hks, List.getElem?_map] at hm
        obtain ⟨c, hc, rfl⟩ := Option.map_eq_some_iff.mp hm
        have hml : m < ks.length := (List.getElem?_eq_some_iff.mp hc).1
        obtain ⟨vs, hv0, hvl, hvok, hvlk⟩ := hks.val c (List.mem_of_getElem? hc)
        rw [hM] at hvlk
        have hlen : xs.length = m := by
          have := congrArg List.length hxs
          rw [List.length_map, List.length_take] at this
          omega
        have htk : ks.take (m + 1) = ks.take m ++ [c] := by rw [List.take_add_one, hc]; rfl
        refine ⟨by rw [List.length_map]; omega, _, _, tg_name (j := 3) rfl rfl, by decide, et_yes.x ⟨fun _ => ?_, fun h => nomatch h⟩⟩
        refine x_tup (xa_g (PL := fun ds' Γ' => ∃ (b5 : Bx) (v : Int), ds' = [en c, .int v] ∧ (0 ≤ v ∧ v ≤ 1000000000) ∧ Γ' = [.bx b5, .im (en L), .im (.dict (grD M)), .im (en c), .dc (dDict l), .no] ∧ b5.1 = b.1 ∧ BxK (n + 2 + m + 1) b5) (ev_var rfl) (xa_cons (P1 := fun d' Γ' => ∃ (b5 : Bx) (v : Int), d' = .int v ∧ (0 ≤ v ∧ v ≤ 1000000000) ∧ Γ' = [.bx b5, .im (en L), .im (.dict (grD M)), .im (en c), .dc (dDict l), .no] ∧ b5.1 = b.1 ∧ BxK (n + 2 + m + 1) b5) (x_dget2 (k := .inr c) rfl (ev_var rfl) (x_of (s := .list (vs.map .int)) rfl k3 (by omega) (ev_dget (k := .inr c) (ev_var rfl).c (ev_var rfl) hvlk) (by rw [elts_list]; exact fun z => hv0 (List.map_eq_nil_iff.mp z)) (by rw [elts_list, List.length_map]; omega) fun d b5 hd e5 k5 => ⟨rfl, ?_⟩)) ?_)) ?_
        · rw [elts_list] at hd
          obtain ⟨v, hv, rfl⟩ := List.mem_map.mp hd
          rw [lk_log]
          cases q : lkp l c with
          | none => exact ⟨b5, v, rfl, hvok v hv, rfl, e5.trans e3, k5⟩
          | some u =>
            have hu := hlw.ok _ ((lkp_of_mem hlw.up.nodup).mp q)
            exact ⟨b5, u, rfl, hu.2, rfl, e5.trans e3, k5⟩
        · rintro d Γ' ⟨b5, v, rfl, hv, rfl, e5, k5⟩
          exact xa_nil ⟨b5, v, rfl, hv, rfl, e5, k5⟩
        · rintro ds' Γ' ⟨b5, v, rfl, hv, rfl, e5, k5⟩
          refine ⟨by simp, nm_cons rfl rfl nm_nil, b5, xs ++ [(c, v)], ?_, rfl, e5, k5, ?_, ?_⟩
          · rw [List.map_append]
            rfl
          · rw [List.map_append, hxs, htk]
            rfl
          · intro p hp
            rcases List.mem_append.mp hp with hp | hp
            · exact hok p hp
            · rw [List.mem_singleton.mp hp]
              exact hv
      · rintro acc _ ⟨b3, xs, rfl, rfl, e3, k3, hxs, hok⟩
        rw [← hM, keys_en hks, List.length_map] at k3 hxs
        rw [List.take_length] at hxs
        refine ⟨fun v hv => ?_, b3, xs, rfl, rfl, e3, k3.up (by omega), hxs, hok⟩
        rw [List.mem_singleton.mp hv]
        rfl
      · rintro ds' Γ' ⟨b3, xs, rfl, rfl, e3, k3, hxs, hok⟩
        refine ⟨xs.map fun p => (p.1, PyData.int p.2), by rw [encP_int], by rw [fst_int, hxs]; exact hks.nd, ⟨_, rfl, rfl⟩, b3, xs, .dc (dDict l), ?_, e3, k3.up (by omega), hxs, hok⟩
        rw [dP_int]
        rfl
  rintro _ ⟨b1, xs0, e4, rfl, e1, k1, hxs, hxok⟩
  have hok0 : ∀ p ∈ xs0, PairOk p := fun p hp => ⟨hks.ok _ (by rw [← hxs]; exact List.mem_map_of_mem (f := fun p : Str × Int => p.1) hp), hxok p hp⟩
  have hl0 : xs0.length ≤ 5 := by
    have := congrArg List.length hxs
    rw [List.length_map] at this
    omega
  refine sg_forXQ (α := Bx × List (Str × Int)) (ix_lst (x_slHi (ds := [.str "b", .str "qqqqqqqq"]) (el_lst (ea_cons ev_str (ea_one ev_str))).g (x_take (u := 3) rfl k1 (by omega) ev_int (by omega) (by omega) fun r b2 hr e2 k2 => ⟨r, rfl, fun a => [.bx a.1, .im (en L), .dc (dDict a.2), .no, e4, .no], fun i a => a.1.1 = b.1 ∧ BxK (n + 11 + i) a.1 ∧ (a.2.map (·.1)).Nodup ∧ (∀ p ∈ a.2, PairOk p) ∧ (∀ c ∈ ks, c ∈ a.2.map (·.1)) ∧ a.2.length ≤ 5 + i, (b2, xs0), Wk.rfl' _, ⟨e2.trans e1, k2, by rw [hxs]; exact hks.nd, hok0, fun c hc => by rw [hxs]; exact hc, hl0⟩, ?_, ?_⟩)))
  · rintro i d ⟨b3, xs⟩ hd ⟨e3, k3, hnd, hok, hcv, hlen⟩
    have hi2 : i < 2 := by
      have := (List.getElem?_eq_some_iff.mp hd).1
      rw [List.length_take] at this
      simp only [List.length_cons, List.length_nil] at this
      omega
    have hnm : ∃ nm : Str, d = .str nm ∧ CellOk nm := by
      have := List.mem_of_mem_take (List.mem_of_getElem? hd)
      simp only [List.mem_cons, List.not_mem_nil, or_false] at this
      rcases this with rfl | rfl
      · exact ⟨"b", rfl, by decide, by decide, by decide⟩
      · exact ⟨"qqqqqqqq", rfl, by decide, by decide, by decide⟩
    obtain ⟨nm, rfl, hnmok⟩ := hnm
    have e3 : b3.1 = b.1 := e3
    have k3 : BxK (n + 11 + i) b3 := k3
    have hlen : xs.length ≤ 5 + i := hlen
    refine ⟨_, _, tg_name (j := 5) rfl rfl, ?_⟩
    refine sg_dsetX (k := .inr nm) rfl (ev_var rfl) (x_take (u := 4) rfl k3 (by omega) ev_int (by omega) (by omega) fun r b4 hr e4' k4 => ⟨dDict xs, rfl, by rw [List.length_map]; omega, fun hp => ?_, fun hp => ?_⟩)
    · exact ⟨(b4, xs), ⟨e4'.trans e3, k4, hnd, hok, hcv, by show xs.length ≤ 5 + (i + 1); omega⟩, wk_ok⟩
    · have hnot : nm ∉ xs.map (·.1) := fun z => by
        rw [lk_log, Option.map_eq_none_iff] at hp
        have := lkp_mem.mpr z
        rw [hp] at this
        cases this
      refine ⟨(b4, xs ++ [(nm, (r : Int))]), ⟨e4'.trans e3, k4, ?_, ?_, fun c hc => ?_, ?_⟩, ?_⟩
      · show ((xs ++ [(nm, (r : Int))]).map (·.1)).Nodup
        rw [List.map_append]
        exact List.nodup_append.mpr ⟨hnd, by simp, fun a ha c hc z => hnot (by
          have hc : c = nm := List.mem_singleton.mp hc
          rw [← hc, ← z]
          exact ha)⟩
      · intro p hp
        rcases List.mem_append.mp hp with hp | hp
        · exact hok p hp
        · rw [List.mem_singleton.mp hp]
          exact ⟨hnmok, Int.natCast_nonneg r, by show (r : Int) ≤ _; omega⟩
      · show c ∈ (xs ++ [(nm, (r : Int))]).map (·.1)
        rw [List.map_append]
        exact List.mem_append.mpr (.inl (hcv c hc))
      · show (xs ++ [(nm, (r : Int))]).length ≤ 5 + (i + 1)
        rw [List.length_append, List.length_singleton]
        omega
      · show Wk _ [.bx b4, .im (en L), .dc (dDict (xs ++ [(nm, (r : Int))])), .no, e4, .no]
        rw [show dDict (xs ++ [(nm, (r : Int))]) = dDict xs ++ [(kD (.inr nm), .int r)] by rw [dDict, List.map_append]; rfl]
        exact wk_ok
  · rintro ⟨b3, xs⟩ ⟨e3, k3, hnd, hok, hcv, hlen⟩
    have hlt : ([PyData.str "b", PyData.str "qqqqqqqq"].take r).length ≤ 2 := by rw [List.length_take]; simp only [List.length_cons, List.length_nil]; omega
    have hlen : xs.length ≤ 5 + ([PyData.str "b", PyData.str "qqqqqqqq"].take r).length := hlen
    have hnd : (xs.map (·.1)).Nodup := hnd
    have k3 : BxK (n + 11 + ([PyData.str "b", PyData.str "qqqqqqqq"].take r).length) b3 := k3
    have hw : LgW (dsort xs) := lgW_sort hnd hok (by omega)
    refine sg_ret (tv_tup (tv_sortL (xs := xs) (((el_items (j := 2) (ds := dDict xs) rfl).cast (items_en xs)).c) (by omega)).c) ⟨⟨L, dsort xs, rfl, rfl, hw, fun l hl c hc => ?_⟩, b3, rfl, e3, k3.up (by show n + 11 + _ ≤ n + 20; omega)⟩
    have h1 := hcv c ((hks.mem c).mpr ⟨l, hl, hc⟩)
    exact lkp_mem.mpr (mem_cells_sort.mpr h1)
end
end K97
set_option Elab.async false
set_option linter.all false
set_option maxRecDepth 100000
set_option maxHeartbeats 4000000
/-! K97: the defs of avoiding. -/
namespace K97
open Dt (en)
open PySem L2
section
variable {P : Program} {w : World} {K : Fg} {mg : Str → Option Value} {base : Heap} {tk : Nat → Tok}
def R_check_place := Rel (A := List Lg × Lg × Str) (fun a => RdS a.1 a.2.1 ∧ a.2.2 ∈ mCells a.1) (fun a => [en a.1, en a.2.1, en a.2.2]) fun a => .none
def R_cells_outside := Rel (A := List Lg × List Str × Str) (fun a => LgsW a.1) (fun a => [en a.1, en a.2.1, en a.2.2]) fun a => .list ((mOut a.1 a.2.1 a.2.2).map en)
def R_evidence_certain := Rel (A := List Lg × Lg × Str) (fun a => RdS a.1 a.2.1 ∧ a.2.2 ∈ mCells a.1 ∧ mCertain a.1 a.2.1 a.2.2 = true) (fun a => [en a.1, en a.2.1, en a.2.2]) fun a => en (mEvidC a.1 a.2.1 a.2.2)
def R_is_closed_form := Rel (A := List Lg × List Str × Str) (fun a => LgsW a.1 ∧ (∀ c ∈ a.2.1, c ∈ mCells a.1) ∧ Up a.2.1 ∧ a.2.2 ∉ a.2.1) (fun a => [en a.1, en a.2.1, en a.2.2]) fun a => .bool true
def R_shows_certain := Rel (A := List Lg × Lg × Str × Evd) (fun a => RdS a.1 a.2.1 ∧ a.2.2.1 ∈ mCells a.1 ∧ EvCer a.1 a.2.1 a.2.2.1 a.2.2.2) (fun a => [en a.1, en a.2.1, en a.2.2.1, en a.2.2.2]) fun a => .bool true
theorem ok_check_place (T : Tx mg tk) (t : Txt1 K mg "check_place" (topS 70) ["logs", "snapshot", "cell"]) (h_cells_in : Has P w K mg base "cells_in" 1 ["logs"] (SpD K R_cells_in)) (h_check_snapshot : Has P w K mg base "check_snapshot" 8 ["logs", "snapshot"] (SpD K R_check_snapshot)) (h_is_cell : Has P w K mg base "is_cell" 1 ["thing"] (SpD K R_is_cell)) : Has P w K mg base "check_place" 9 ["logs", "snapshot", "cell"] (SpD K R_check_place) := by
  have sc : FnScope ["logs", "snapshot", "cell"] ["logs", "snapshot", "cell"] (defScope (topS 70)) := ⟨rfl, rfl, rfl, by decide +kernel, rfl, by decide +kernel, by decide +kernel⟩
  refine has_rel t sc (fun a => rfl) (by decide) (fun f cdv A outer s H E hr => (pss_cons (ps_expr (pe_has (h_check_snapshot.up (by decide)) hr (by rfl) (pa_cons (pv 0) (pa_cons (pv 1) pa_nil))))
  (pss_one (ps_if (PW.pt (pw_or (pt_not (pt_val (pe_has (h_is_cell.up (by decide)) hr (by rfl) (pa_cons (pv 2) pa_nil)))) (pw_or1 (pt_cmpR (k_ni K rfl hr.units) (pv 2) (pe_has (h_cells_in.up (by decide)) hr (by rfl) (pa_cons (pv 0) pa_nil)) (by rfl)))))
   (pss_one ps_never)
   pss_nil)))) ?_
  intro a ha
  obtain ⟨L, s, c⟩ := a
  obtain ⟨h1, h2⟩ : RdS L s ∧ c ∈ mCells L := ha
  refine sg_then (sg_drop (tv_call (L, s) (ea_cons (ev_var rfl) (ea_one (ev_var rfl))) h1) rfl) ?_
  exact sg_if (a := false) (et_or (a := false) (b := false) (et_not (b := true) (et_test (tv_call c (ea_one (ev_var rfl)) (cells_ok h1.w h2)))) fun _ => et_test ((tv_ni (x := c) (xs := mCells L) (ev_var rfl).c (tv_call L (ea_one (ev_var rfl)) h1.w).c).cast (by simp [h2]))) (fun h => nomatch h) fun _ => sg_next rfl
theorem ok_cells_outside (T : Tx mg tk) (t : Txt1 K mg "cells_outside" (topS 71) ["logs", "closed", "cell"]) (h_cells_in : Has P w K mg base "cells_in" 1 ["logs"] (SpD K R_cells_in)) : Has P w K mg base "cells_outside" 2 ["logs", "closed", "cell"] (SpD K R_cells_outside) := by
  have sc : FnScope ["logs", "closed", "cell", "other"] ["logs", "closed", "cell"] (defScope (topS 71)) := ⟨rfl, rfl, rfl, by decide +kernel, rfl, by decide +kernel, by decide +kernel⟩
  refine has_rel t sc (fun a => rfl) (by decide) (fun f cdv A outer s H E hr => (pss_one (ps_ret (pe_lc (own := [("other", 3)]) (by rfl) sc.nd (k_piT K rfl (pe_has (h_cells_in.up (by decide)) hr (by rfl) (pa_cons (pv 0) pa_nil))) (blkOk_by (by kernel_rfl)) (fun _ _ _ _ _ => (pg_name (i := 3) sc.nd rfl (.inl rfl))) (fun _ _ _ _ _ => (pts_one (PW.pt (pw_and (pt_cmpR (k_ni K rfl hr.units) (pv 3) (pv 1) (by rfl)) (pw_and1 (pt_cmpR (k_ne K rfl hr.units) (pv 3) (pv 2) (nomark _))))))) (fun _ _ _ _ _ => (pv 3)))))) ?_
  intro a ha
  obtain ⟨L, C, c⟩ := a
  have h1 : LgsW L := ha
  have hc := mCells_len h1
  exact sg_ret (tv_lc en (mCells L) (p := fun x => !decide (x ∈ C) && !decide (x = c)) (f := en) (tv_it (tv_call L (ea_one (ev_var rfl)) h1)) (fun p _ => tg_name rfl rfl) (fun p _ => et_and (et_test (tv_ni (ev_var rfl).c (ev_var rfl).c)) fun _ => et_test (tv_ne (ev_var rfl).c (ev_var rfl).c)) (fun p _ _ => ev_var rfl) (by omega)).g rfl
theorem ok_is_closed_form (T : Tx mg tk) (t : Txt1 K mg "is_closed_form" (topS 73) ["logs", "thing", "cell"]) (h_cells_in : Has P w K mg base "cells_in" 1 ["logs"] (SpD K R_cells_in)) (h_is_cell : Has P w K mg base "is_cell" 1 ["thing"] (SpD K R_is_cell)) : Has P w K mg base "is_closed_form" 2 ["logs", "thing", "cell"] (SpD K R_is_closed_form) := by
  have sc : FnScope ["logs", "thing", "cell", "known", "other", "one"] ["logs", "thing", "cell"] (defScope (topS 73)) := ⟨rfl, rfl, rfl, by decide +kernel, rfl, by decide +kernel, by decide +kernel⟩
  refine has_rel t sc (fun a => rfl) (by decide) (fun f cdv A outer s H E hr => (pss_cons (ps_set (i := 3) sc.nd rfl (.inr rfl) (pe_has (h_cells_in.up (by decide)) hr (by rfl) (pa_cons (pv 0) pa_nil)))
  (pss_cons (ps_if (PW.pt (pw_or (pt_not (pt_val (pe_callB (k_isi K rfl) (by rfl) T.b_isinstance (by decide +kernel) (pa_cons (pv 1) (pa_cons (pe_bltn (v := .ty "tuple") (by rfl) T.b_tuple (by decide +kernel) rfl) pa_nil))))) (pw_or1 (pt_not (pt_val (pe_callB (k_all K rfl rfl) (by rfl) T.b_all (by decide +kernel) (pa_cons (pe_lc (own := [("other", 4)]) (by rfl) sc.nd (k_piT K rfl (pv 1)) (blkOk_by (by kernel_rfl)) (fun _ _ _ _ _ => (pg_name (i := 4) sc.nd rfl (.inl rfl))) (fun _ _ _ _ _ => pts_nil) (fun _ _ _ _ _ => (pe_and (pe_has (h_is_cell.up (by decide)) hr (by rfl) (pa_cons (pv 4) pa_nil)) (pe_one (pe_cmpR (k_in K rfl hr.units) (pv 4) (pv 3) (by rfl)))))) pa_nil)))))))
   (pss_one (ps_ret pe_bl))
   pss_nil)
  (pss_one (ps_ret (pe_and (pe_cmpR (k_ni K rfl hr.units) (pv 2) (pv 1) (by rfl)) (pe_one (pe_callB (k_all K rfl rfl) (by rfl) T.b_all (by decide +kernel) (pa_cons (pe_lc (own := [("one", 5), ("other", 4)]) (by rfl) sc.nd (k_zip K rfl (by rfl) T.b_zip (pa_cons (pv 1) (pa_cons (pe_slice (k_slT K rfl) (pv 1) (po_some pe_int) po_none) pa_nil))) (blkOk_by (by kernel_rfl)) (fun _ _ _ _ _ => (k_pgT K rfl (n := 2) rfl (pgs_cons (pg_name (i := 5) sc.nd rfl (.inl rfl)) (pgs_cons (pg_name (i := 4) sc.nd rfl (.inl rfl)) pgs_nil)))) (fun _ _ _ _ _ => pts_nil) (fun _ _ _ _ _ => (pe_cmpR (op_lt_str) (pv 5) (pv 4) (nomark _)))) pa_nil))))))))) ?_
  intro a ha
  obtain ⟨L, C, c⟩ := a
  obtain ⟨h1, h2, h3, h4⟩ : LgsW L ∧ (∀ c ∈ C, c ∈ mCells L) ∧ Up C ∧ c ∉ C := ha
  have hc := mCells_len h1
  have hC := nodup_sub h3.nodup h2
  refine sg_then (sg_set (tv_call L (ea_one (ev_var rfl)) h1) rfl rfl rfl) ?_
  refine sg_then (sg_if (a := false) (et_or (a := false) (b := false) (et_not (b := true) (et_test (ev_isi (ev_var rfl) rfl))) fun _ => et_not (b := true) (et_test ((tv_all en C (f := fun _ => true) (tv_it (ev_var rfl)) (fun p _ => tg_name rfl rfl) (fun x hx => (ev_and (a := true) (b := true) (tv_call x (ea_one (ev_var rfl)) (cells_ok h1 (h2 x hx))) fun _ => (tv_in (x := x) (xs := mCells L) (ev_var rfl).c (ev_var rfl).c).cast (congrArg _ (decide_eq_true (h2 x hx)))).cast rfl) (by omega)).cast (by simp)))) (fun h => nomatch h) (fun _ => sg_next rfl)) ?_
  refine sg_ret ((ev_and (a := true) (b := true) ((tv_ni (x := c) (xs := C) (ev_var rfl).c (ev_var rfl).c).cast (by simp [h4])) fun _ => (tv_all (fun p : Str × Str => .tuple [en p.1, en p.2]) (C.zip (C.drop 1)) (f := fun _ => true) ((it_zipT (ea_cons (ev_var rfl) (ea_one (ev_slT (ev_var rfl).c (eo_int ev_int) eo_no)))).cast ?_) (fun p _ => tg_pair rfl rfl rfl rfl) (fun p hp => (tv_ltS (ev_var rfl) (ev_var rfl)).cast ?_) ?_).cast ?_).cast rfl) rfl
  · rw [cutD_1, ← List.map_drop, List.zip_map, List.map_map]
    rfl
  · rw [upz h3 p hp]
  · rw [List.length_zip]
    omega
  · rw [List.all_eq_true.mpr]
    intro x _
    rfl
theorem ok_evidence_certain (T : Tx mg tk) (t : Txt1 K mg "evidence_certain" (topS 72) ["logs", "snapshot", "cell"]) (h_cells_outside : Has P w K mg base "cells_outside" 2 ["logs", "closed", "cell"] (SpD K R_cells_outside)) (h_check_place : Has P w K mg base "check_place" 9 ["logs", "snapshot", "cell"] (SpD K R_check_place)) (h_closed_without : Has P w K mg base "closed_without" 3 ["logs", "snapshot", "avoid"] (SpD K R_closed_without)) (h_has_cell : Has P w K mg base "has_cell" 1 ["log", "cell"] (SpD K R_has_cell)) (h_is_read : Has P w K mg base "is_read" 1 ["group", "done"] (SpD K R_is_read)) : Has P w K mg base "evidence_certain" 10 ["logs", "snapshot", "cell"] (SpD K R_evidence_certain) := by
  have sc : FnScope ["logs", "snapshot", "cell", "done", "group", "witnesses", "other", "log"] ["logs", "snapshot", "cell"] (defScope (topS 72)) := ⟨rfl, rfl, rfl, by decide +kernel, rfl, by decide +kernel, by decide +kernel⟩
  refine has_rel t sc (fun a => rfl) (by decide) (fun f cdv A outer s H E hr => (pss_cons (ps_expr (pe_has (h_check_place.up (by decide)) hr (by rfl) (pa_cons (pv 0) (pa_cons (pv 1) (pa_cons (pv 2) pa_nil)))))
  (pss_cons (ps_asg (pe_has (h_closed_without.up (by decide)) hr (by rfl) (pa_cons (pv 0) (pa_cons (pv 1) (pa_cons (pv 2) pa_nil)))) (k_pgT K rfl (n := 2) rfl (pgs_cons (pg_name (i := 3) sc.nd rfl (.inl rfl)) (pgs_cons (pg_name (i := 4) sc.nd rfl (.inl rfl)) pgs_nil))))
  (pss_cons (ps_if (PW.pt (pw_or (pt_cmpR (k_eq K rfl hr.units) (pv 4) (pe_tupF pa_nil) (nomark _)) (pw_or1 (pt_val (pe_has (h_is_read.up (by decide)) hr (by rfl) (pa_cons (pv 4) (pa_cons (pv 3) pa_nil)))))))
   (pss_one (ps_ret pe_non))
   pss_nil)
  (pss_cons (ps_set (i := 5) sc.nd rfl (.inl rfl) (pe_lst pa_nil))
  (pss_cons (ps_for PassesOwn.never rfl (k_piL K rfl (pe_has (h_cells_outside.up (by decide)) hr (by rfl) (pa_cons (pv 0) (pa_cons (pv 3) (pa_cons (pv 2) pa_nil))))) (pg_name (i := 6) sc.nd rfl (.inr rfl))
   (pss_one (ps_expr (k_bm K rfl PySem.F.plainAttrs_list PySem.F.slot_list_append PySem.F.type_list_append mt_append (pv 5) (pa_cons (pe_tupF (pa_cons (pv 6) (pa_cons (pe_ix (k_ix K rfl) (pe_lc (own := [("log", 7)]) (by rfl) sc.nd (k_piT K rfl (pv 4)) (blkOk_by (by kernel_rfl)) (fun _ _ _ _ _ => (pg_name (i := 7) sc.nd rfl (.inl rfl))) (fun _ _ _ _ _ => (pts_one (pt_not (pt_val (pe_has (h_has_cell.up (by decide)) hr (by rfl) (pa_cons (pv 7) (pa_cons (pv 6) pa_nil))))))) (fun _ _ _ _ _ => (pv 7))) pe_int (fun _ _ => rfl)) pa_nil))) pa_nil)))))
  (pss_one (ps_ret (pe_tupF (pa_cons (pe_callTy (k_tup K rfl) (by rfl) T.b_tuple (by decide +kernel) (pa_cons (pe_callB (k_sorted K rfl hr.units) (by rfl) T.b_sorted (by decide +kernel) (pa_cons (pv 3) pa_nil)) pa_nil)) (pa_cons (pe_callTy (k_tup K rfl) (by rfl) T.b_tuple (by decide +kernel) (pa_cons (pv 5) pa_nil)) pa_nil))))))))))) ?_
  intro a ha
  obtain ⟨L, s, c⟩ := a
  obtain ⟨h1, h2, h3⟩ : RdS L s ∧ c ∈ mCells L ∧ mCertain L s c = true := ha
  have hcn := mCw_cn (s := s) (a := c) h1.w
  have hGw := h1.w.subl hcn.gs
  have hcl := mCells_len h1.w
  have hDl := hcn.len
  have hlk : (mCw L s c).2 ≠ [] → ∀ x, x ∉ (mCw L s c).1 → x ≠ c → ∃ m ∈ (mCw L s c).2, x ∉ cellsOf m := fun q0 x q1 q2 => cw_lacks h1.w q0 q1 q2
  refine sg_then (sg_drop (tv_call (L, s, c) (ea_cons (ev_var rfl) (ea_cons (ev_var rfl) (ea_one (ev_var rfl)))) ⟨h1, h2⟩) rfl) ?_
  refine sg_then (sg_asgP (tv_call (L, s, c) (ea_cons (ev_var rfl) (ea_cons (ev_var rfl) (ea_one (ev_var rfl)))) ⟨h1.w, h1.sn.w⟩) rfl rfl rfl rfl (by decide) rfl) ?_
  have hE : mEvidC L s c = (dsort (mCw L s c).1, (mOut L (mCw L s c).1 c).map fun x => (x, mWit (mCw L s c).2 x)) := rfl
  show StG K [.im (en L), .im (en s), .im (en c), .im (en (mCw L s c).1), .im (en (mCw L s c).2), .no, .no, .no] _ _ _
  unfold mCertain at h3
  generalize (mCw L s c).1 = D at *
  generalize (mCw L s c).2 = G at *
  rw [Bool.and_eq_true] at h3
  have hG : G ≠ [] := by simpa using h3.1
  have hr : mIsRead G D = false := by simpa using h3.2
  have hlk := hlk hG
  have hgl := hGw.len
  refine sg_then (sg_if (a := false) (et_or (a := false) (b := false) (et_test ((tv_eq (α := List Lg) (x := G) (y := []) (ev_var rfl).c (ev_tup ea_nil).c).cast (by simp [hG]))) fun _ => et_test ((tv_call (G, D) (ea_cons (ev_var rfl) (ea_one (ev_var rfl))) hGw).cast (by show PyData.bool (mIsRead G D) = _; rw [hr]))) (fun h => nomatch h) (fun _ => sg_next rfl)) ?_
  refine sg_then (sg_setL (el_lst ea_nil) rfl rfl rfl) ?_
  have hol : (mOut L D c).length ≤ 10000 := Nat.le_trans (List.length_filter_le ..) hcl
  refine sg_forW (fun i => [.im (en L), .im (en s), .im (en c), .im (en D), .im (en G), .ac (((mOut L D c).take i).map fun x => en (x, mWit G x)), .no, .no]) (it_lst (tv_call (L, D, c) (ea_cons (ev_var rfl) (ea_cons (ev_var rfl) (ea_one (ev_var rfl)))) h1.w)) (Wk.rfl' _) (fun i d hd => ?_) ?_
  · rw [List.getElem?_map] at hd
    obtain ⟨x, hx, rfl⟩ := Option.map_eq_some_iff.mp hd
    have hxm := mem_out.mp (List.mem_of_getElem? hx)
    have hlt := len_take (mOut L D c) i
    refine ⟨_, _, tg_name (j := 6) rfl rfl, ?_⟩
    obtain ⟨r, hr'⟩ := wit_some (hlk x hxm.2.1 hxm.2.2)
    refine sg_app (d := en (x, mWit G x)) rfl (ev_tup (ea_cons (ev_var rfl) (ea_one (tv_atL (xs := mWit G x :: r) (x := mWit G x) ((tv_lc en G (p := fun m => !decide (x ∈ cellsOf m)) (f := en) (tv_it (ev_var rfl)) (fun m _ => tg_name rfl rfl) (fun m hm => et_not (b := decide (x ∈ cellsOf m)) (et_test (tv_call (m, x) (ea_cons (ev_var rfl) (ea_one (ev_var rfl))) (by have := (hGw.ok m hm).len; show m.length ≤ 1000; omega)))) (fun m _ _ => ev_var rfl) (by omega)).cast (by rw [hr'])).c ev_int (atI_0 _ r))))) (by rw [List.length_map]; omega) ?_
    show Wk _ [_, _, _, _, _, .ac (((mOut L D c).take (i + 1)).map fun x => en (x, mWit G x)), _, _]
    rw [List.take_add_one, hx, List.map_append]
    exact wk_ok
  · rw [List.length_map, List.take_length]
    refine sg_ret (ev_tup (ea_cons (tv_tup (tv_sortT (ev_var rfl).c (by show D.length ≤ _; omega)).c) (ea_one (ev_tupL (ec_ac rfl))))) ?_
    show _ = en (mEvidC L s c)
    rw [hE]
    show _ = PyData.tuple [en (dsort D), PyData.tuple (List.map en (List.map _ _))]
    rw [List.map_map]
    rfl
theorem ok_shows_certain (T : Tx mg tk) (t : Txt1 K mg "shows_certain" (topS 74) ["logs", "snapshot", "cell", "thing"]) (h_agreeing : Has P w K mg base "agreeing" 1 ["logs", "known"] (SpD K R_agreeing)) (h_are_witnesses : Has P w K mg base "are_witnesses" 5 ["group", "thing", "cells"] (SpD K R_are_witnesses)) (h_cells_outside : Has P w K mg base "cells_outside" 2 ["logs", "closed", "cell"] (SpD K R_cells_outside)) (h_check_place : Has P w K mg base "check_place" 9 ["logs", "snapshot", "cell"] (SpD K R_check_place)) (h_is_closed_form : Has P w K mg base "is_closed_form" 2 ["logs", "thing", "cell"] (SpD K R_is_closed_form)) (h_pairs_at : Has P w K mg base "pairs_at" 1 ["snapshot", "cells"] (SpD K R_pairs_at)) : Has P w K mg base "shows_certain" 10 ["logs", "snapshot", "cell", "thing"] (SpD K R_shows_certain) := by
  have sc : FnScope ["logs", "snapshot", "cell", "thing", "closed", "group", "log", "other", "value"] ["logs", "snapshot", "cell", "thing"] (defScope (topS 74)) := ⟨rfl, rfl, rfl, by decide +kernel, rfl, by decide +kernel, by decide +kernel⟩
  refine has_rel t sc (fun a => rfl) (by decide) (fun f cdv A outer s H E hr => (pss_cons (ps_expr (pe_has (h_check_place.up (by decide)) hr (by rfl) (pa_cons (pv 0) (pa_cons (pv 1) (pa_cons (pv 2) pa_nil)))))
  (pss_cons (ps_if (PW.pt (pw_or (pt_not (pt_val (pe_callB (k_isi K rfl) (by rfl) T.b_isinstance (by decide +kernel) (pa_cons (pv 3) (pa_cons (pe_bltn (v := .ty "tuple") (by rfl) T.b_tuple (by decide +kernel) rfl) pa_nil))))) (pw_or (pt_cmpR (k_ne K rfl hr.units) (pe_callB (k_len K rfl) (by rfl) T.b_len (by decide +kernel) (pa_cons (pv 3) pa_nil)) (pe_glob (v := .int 2) (by rfl) T.c_PARTS_avoiding ⟨_, rfl⟩) (nomark _)) (pw_or1 (pt_not (pt_val (pe_has (h_is_closed_form.up (by decide)) hr (by rfl) (pa_cons (pv 0) (pa_cons (pe_ix (k_ix K rfl) (pv 3) pe_int (fun _ _ => rfl)) (pa_cons (pv 2) pa_nil))))))))))
   (pss_one (ps_ret pe_bl))
   pss_nil)
  (pss_cons (ps_set (i := 4) sc.nd rfl (.inr rfl) (pe_ix (k_ix K rfl) (pv 3) pe_int (fun _ _ => rfl)))
  (pss_cons (ps_set (i := 5) sc.nd rfl (.inl rfl) (pe_has (h_agreeing.up (by decide)) hr (by rfl) (pa_cons (pv 0) (pa_cons (pe_has (h_pairs_at.up (by decide)) hr (by rfl) (pa_cons (pv 1) (pa_cons (pv 4) pa_nil))) pa_nil))))
  (pss_cons (ps_if (pt_not (pt_val (pe_callB (k_any K rfl rfl) (by rfl) T.b_any (by decide +kernel) (pa_cons (pe_lc2 (vs1 := [7, 8]) (own := [("log", 6), ("other", 7), ("value", 8)]) (by rfl) sc.nd (k_piT K rfl (pv 5)) (blkOk_by (by kernel_rfl)) (by decide) (fun _ _ _ _ _ => (pg_name (i := 6) sc.nd rfl (.inl rfl))) (fun _ _ _ _ _ => pts_nil) (fun _ _ _ _ _ => (k_piT K rfl (pv 6))) (fun _ _ _ _ _ => (k_pgT K rfl (n := 2) rfl (pgs_cons (pg_name (i := 7) sc.nd rfl (.inl rfl)) (pgs_cons (pg_name (i := 8) sc.nd rfl (.inl rfl)) pgs_nil)))) (fun _ _ _ _ _ => pts_nil) (fun _ _ _ _ _ => (pe_cmpR (k_ni K rfl hr.units) (pv 7) (pv 4) (by rfl)))) pa_nil))))
   (pss_one (ps_ret pe_bl))
   pss_nil)
  (pss_one (ps_ret (pe_has (h_are_witnesses.up (by decide)) hr (by rfl) (pa_cons (pv 5) (pa_cons (pe_ix (k_ix K rfl) (pv 3) pe_int (fun _ _ => rfl)) (pa_cons (pe_has (h_cells_outside.up (by decide)) hr (by rfl) (pa_cons (pv 0) (pa_cons (pv 4) (pa_cons (pv 2) pa_nil)))) pa_nil)))))))))))) ?_
  intro a ha
  obtain ⟨L, s, c, C, ws⟩ := a
  obtain ⟨h1, h2, h3⟩ : RdS L s ∧ c ∈ mCells L ∧ EvCer L s c (C, ws) := ha
  have hGw := mAgreeing_w (k := mPairsAt s C) h1.w
  have hcl := mCells_len h1.w
  have hsl := h1.sn.w.len
  have hpl : (mPairsAt s C).length ≤ 100 := Nat.le_trans (List.length_filter_le ..) hsl
  have hol : (mOut L C c).length ≤ 10000 := Nat.le_trans (List.length_filter_le ..) hcl
  refine sg_then (sg_drop (tv_call (L, s, c) (ea_cons (ev_var rfl) (ea_cons (ev_var rfl) (ea_one (ev_var rfl)))) ⟨h1, h2⟩) rfl) ?_
  refine sg_then (sg_if (a := false) (et_or (a := false) (b := false) (et_not (b := true) (et_test (ev_isi (ev_var rfl) rfl))) fun _ => et_or (a := false) (b := false) (et_test ((tv_ne (α := Int) (ev_lenT (ev_var rfl).c).c ev_int.c).cast rfl)) fun _ => et_not (b := true) (et_test (tv_call (L, C, c) (ea_cons (ev_var rfl) (ea_cons (tv_pr1 (p := (C, ws)) (ev_var rfl).c) (ea_one (ev_var rfl)))) ⟨h1.w, h3.sub, h3.up, h3.na⟩))) (fun h => nomatch h) (fun _ => sg_next rfl)) ?_
  refine sg_then (sg_set (tv_pr1 (p := (C, ws)) (ev_var rfl).c) rfl rfl rfl) ?_
  refine sg_then (sg_set (tv_call (L, mPairsAt s C) (ea_cons (ev_var rfl) (ea_one (tv_call (s, C) (ea_cons (ev_var rfl) (ea_one (ev_var rfl))) hsl))) ⟨h1.w, hpl⟩) rfl rfl rfl) ?_
  have hm := h3.more
  have hw := h3.wit
  have hm : ∃ m ∈ mAgreeing L (mPairsAt s C), ∃ c ∈ cellsOf m, c ∉ C := hm
  have hw : WitOk (mAgreeing L (mPairsAt s C)) ws (mOut L C c) := hw
  generalize hG : mAgreeing L (mPairsAt s C) = G at *
  refine sg_then (sg_if (a := false) (et_not (b := true) (et_B ((tv_any2 (enc := en) (enc1 := en) G (fun l => l) (f := fun p => !decide (p.1 ∈ C)) (tv_it (ev_var rfl)) (fun l _ => tg_name rfl rfl) (fun l _ => tv_it (ev_var rfl)) (fun l _ p _ => tg_pair rfl rfl rfl rfl) (fun l _ p _ => tv_ni (ev_var rfl).c (ev_var rfl).c) (by have := hGw.len; omega) (fun l hl => (hGw.ok l hl).len) fun l _ => nm_cons rfl rfl (nm_cons rfl rfl nm_nil)).cast ?_))) (fun h => nomatch h) (fun _ => sg_next rfl)) ?_
  · obtain ⟨m, hmG, x, hx, hxC⟩ := hm
    obtain ⟨p, hp, rfl⟩ := List.mem_map.mp hx
    rw [List.any_eq_true.mpr]
    exact ⟨p, List.mem_flatMap.mpr ⟨m, hmG, hp⟩, by simp [hxC]⟩
  exact sg_ret (tv_call (G, ws, mOut L C c) (ea_cons (ev_var rfl) (ea_cons (tv_pr2 (p := (C, ws)) (ev_var rfl).c) (ea_one (tv_call (L, C, c) (ea_cons (ev_var rfl) (ea_cons (ev_var rfl) (ea_one (ev_var rfl)))) h1.w)))) ⟨hw, hol⟩) rfl
end
end K97
set_option Elab.async false
set_option linter.all false
set_option maxRecDepth 100000
set_option maxHeartbeats 4000000
/-! K97: splitting cells. -/
namespace K97
open Dt (en)
open PySem L2
section
variable {P : Program} {w : World} {K : Fg} {mg : Str → Option Value} {base : Heap} {tk : Nat → Tok}
theorem ok_splitting_cells (T : Tx mg tk) (t : Txt1 K mg "splitting_cells" (topS 25) ["logs"]) (h_shared_cells : Has P w K mg base "shared_cells" 1 ["logs"] (SpD K R_shared_cells)) : Has P w K mg base "splitting_cells" 2 ["logs"] (SpD K R_splitting_cells) := by
  have sc : FnScope ["logs", "log", "maps", "cell", "one"] ["logs"] (defScope (topS 25)) := ⟨rfl, rfl, rfl, by decide +kernel, rfl, by decide +kernel, by decide +kernel⟩
  refine has_rel t sc (fun a => rfl) (by decide) (fun f cdv A outer s H E hr => (pss_cons (ps_set (i := 2) sc.nd rfl (.inr rfl) (pe_lc (own := [("log", 1)]) (by rfl) sc.nd (k_piT K rfl (pv 0)) (blkOk_by (by kernel_rfl)) (fun _ _ _ _ _ => (pg_name (i := 1) sc.nd rfl (.inl rfl))) (fun _ _ _ _ _ => pts_nil) (fun _ _ _ _ _ => (pe_callTy (k_dic K rfl rfl) (by rfl) T.b_dict (by decide +kernel) (pa_cons (pv 1) pa_nil)))))
  (pss_one (ps_ret (pe_callTy (k_tup K rfl) (by rfl) T.b_tuple (by decide +kernel) (pa_cons (pe_lc (own := [("cell", 3)]) (by rfl) sc.nd (k_piT K rfl (pe_has (h_shared_cells.up (by decide)) hr (by rfl) (pa_cons (pv 0) pa_nil))) (blkOk_by (by kernel_rfl)) (fun _ _ _ _ _ => (pg_name (i := 3) sc.nd rfl (.inr rfl))) (fun _ _ _ _ _ => (pts_one (pt_cmpR (op_gt) (pe_lenSetInts K rfl (by rfl) T.b_len (by rfl) T.b_set (pe_lc (own := [("one", 4)]) (by rfl) sc.nd (k_piL K rfl (pv 2)) (blkOk_by (by kernel_rfl)) (fun _ _ _ _ _ => (pg_name (i := 4) sc.nd rfl (.inl rfl))) (fun _ _ _ _ _ => pts_nil) (fun _ _ _ _ _ => (pe_dget (hu_of hr) (pv 4) (pv 3) (fun _ _ => rfl))))) pe_int (nomark _)))) (fun _ _ _ _ _ => (pv 3))) pa_nil)))))) ?_
  intro a ha
  have hl := ha.len
  have hsl := mShared_len ha
  refine sg_then (sg_set (d := .list (a.map fun m => .dict (dDict m))) (tv_lm en a (tv_it (ev_var rfl)) (fun m _ => tg_name rfl rfl) (fun m hm => tv_dict (ev_var rfl).c (ha.ok m hm).up.nodup) (by omega)).g rfl rfl rfl) ?_
  refine sg_ret (tv_tup (tv_lc en (mShared a) (p := fun c => decide (1 < (dd (a.map (val c))).length)) (f := en) (tv_it (tv_call a (ea_one (ev_var rfl)) ha)) (fun c _ => tg_name rfl rfl) (fun c hc => et_test (tv_gtN (m := 1) (tv_lenSet (ns := a.map (val c)) ((tv_lm (fun m => .dict (dDict m)) a (f := fun m => en (val c m)) (it_lst (ev_var rfl)) (fun m _ => tg_name rfl rfl) (fun m hm => tv_dat (v := val c m) (ev_var rfl).c (ev_var rfl) ?_) (by omega)).cast (by rw [List.map_map]; rfl)).c (by rw [List.length_map]; omega)) ev_int)) (fun c _ _ => ev_var rfl) (by omega)).c) rfl
  obtain ⟨v, hv⟩ := Option.isSome_iff_exists.mp ((mem_mShared.mp hc).2 m hm)
  rw [hv]
  simp [val, hv]
theorem ok_cells_in (T : Tx mg tk) (t : Txt1 K mg "cells_in" (topS 19) ["logs"]) : Has P w K mg base "cells_in" 1 ["logs"] (SpD K R_cells_in) := by
  have sc : FnScope ["logs", "log", "cell", "value"] ["logs"] (defScope (topS 19)) := ⟨rfl, rfl, rfl, by decide +kernel, rfl, by decide +kernel, by decide +kernel⟩
  refine has_rel t sc (fun a => rfl) (by decide) (fun f cdv A outer s H E hr => (pss_one (ps_ret (pe_callTy (k_tup K rfl) (by rfl) T.b_tuple (by decide +kernel) (pa_cons (pe_callB (k_sortTx w rfl rfl hr.units) (by rfl) T.b_sorted (by decide +kernel) (pa_cons (k_sc2 w rfl (vs1 := [2, 3]) (own := [("log", 1), ("cell", 2), ("value", 3)]) (by rfl) sc.nd (k_piT K rfl (pv 0)) (blkOk_by (by kernel_rfl)) (by decide) (fun _ _ _ _ _ => (pg_name (i := 1) sc.nd rfl (.inl rfl))) (fun _ _ _ _ _ => pts_nil) (fun _ _ _ _ _ => (k_piT K rfl (pv 1))) (fun _ _ _ _ _ => (k_pgT K rfl (n := 2) rfl (pgs_cons (pg_name (i := 2) sc.nd rfl (.inl rfl)) (pgs_cons (pg_name (i := 3) sc.nd rfl (.inl rfl)) pgs_nil)))) (fun _ _ _ _ _ => pts_nil) (fun _ _ _ _ _ => (pv 2))) pa_nil)) pa_nil))))) ?_
  intro a ha
  refine sg_ret ((tv_tup ((el_sortSet (w := w) (enc := en) (enc1 := en) a (fun l => l) (f := fun p => p.1) (dd (a.flatMap cellsOf)) (tv_it (ev_var rfl)) (fun l _ => tg_name rfl rfl) (fun l _ => tv_it (ev_var rfl)) (fun l _ p _ => tg_pair rfl rfl rfl rfl) (fun l _ p _ => ev_var rfl) ha.len (fun l hl => (ha.ok l hl).lenS) (fun l _ => nm_cons rfl rfl (nm_cons rfl rfl nm_nil)) (dd_nodup _) fun k => ?_)).c)) rfl
  rw [mem_dd, List.map_flatMap]
  rfl
end
end K97
set_option Elab.async false
set_option linter.all false
set_option maxRecDepth 100000
set_option maxHeartbeats 4000000
/-! K97: parts. -/
namespace K97
open Dt (en)
open PySem L2
section
variable {P : Program} {w : World} {K : Fg} {mg : Str → Option Value} {base : Heap} {tk : Nat → Tok}
theorem inls (ks : List Key) (h : ∀ k ∈ ks, ∃ i, k = .inl i) : ∃ is : List Int, ks = is.map Sum.inl := by
  induction ks with
  | nil => exact ⟨[], rfl⟩
  | cons k ks ih =>
    obtain ⟨i, rfl⟩ := h k List.mem_cons_self
    obtain ⟨is, rfl⟩ := ih fun k hk => h k (List.mem_cons_of_mem _ hk)
    exact ⟨i :: is, rfl⟩
theorem ok_parts_by (T : Tx mg tk) (t : Txt1 K mg "parts_by" (topS 24) ["logs", "cell"]) : Has P w K mg base "parts_by" 1 ["logs", "cell"] (SpD K R_parts_by) := by
  have sc : FnScope ["logs", "cell", "parts", "log", "value"] ["logs", "cell"] (defScope (topS 24)) := ⟨rfl, rfl, rfl, by decide +kernel, rfl, by decide +kernel, by decide +kernel⟩
  refine has_rel t sc (fun a => rfl) (by decide) (fun f cdv A outer s H E hr => (pss_cons (ps_set (i := 2) sc.nd rfl (.inr rfl) pe_dnewK)
  (pss_cons (ps_for PassesOwn.never rfl (k_piT K rfl (pv 0)) (pg_name (i := 3) sc.nd rfl (.inl rfl))
   (pss_one (ps_expr (k_bm K rfl PySem.F.plainAttrs_list PySem.F.slot_list_append PySem.F.type_list_append mt_append (pe_dsetd (pv 2) (pe_dget (hu_of hr) (pe_callTy (k_dic K rfl rfl) (by rfl) T.b_dict (by decide +kernel) (pa_cons (pv 3) pa_nil)) (pv 1) (fun _ _ => rfl)) (pe_lst pa_nil) ⟨rfl, rfl, rfl, rfl⟩) (pa_cons (pv 3) pa_nil)))))
  (pss_frz (j := 2) (pss_one (ps_ret (pe_lc (own := [("value", 4)]) (by rfl) sc.nd (k_piL K rfl (pe_callB (cr_sortDI rfl) (by rfl) T.b_sorted (by decide +kernel) (pa_cons (pv 2) pa_nil))) (blkOk_by (by kernel_rfl)) (fun _ _ _ _ _ => (pg_name (i := 4) sc.nd rfl (.inl rfl))) (fun _ _ _ _ _ => pts_nil) (fun _ _ _ _ _ => (pe_tupF (pa_cons (pv 4) (pa_cons (pe_callTy (k_tup K rfl) (by rfl) T.b_tuple (by decide +kernel) (pa_cons (pe_dget (hu_of hr) (pv 2) (pv 4) (fun _ _ => rfl)) pa_nil)) pa_nil))))))))))) ?_
  intro a ha
  obtain ⟨L, c⟩ := a
  obtain ⟨h1, h2⟩ : LgsW L ∧ c ∈ mShared L := ha
  have hl := h1.len
  have hs := (mem_mShared.mp h2).2
  refine sg_group (j := 2) (Γ1 := [.im (en L), .im (en c), .no, .no, .no]) (m := gfold (fun l => .inl (val c l)) en (L.take (L.map en).length)) rfl rfl (gr_for (fun i => gfold (fun l => .inl (val c l)) en (L.take i)) (tv_it (ev_var rfl)) (fun i d hd => ?_)) ?_
  · rw [List.getElem?_map] at hd
    obtain ⟨l, hli, rfl⟩ := Option.map_eq_some_iff.mp hd
    have hlm : l ∈ L := List.mem_of_getElem? hli
    obtain ⟨v, hv⟩ := Option.isSome_iff_exists.mp (hs l hlm)
    have hval : val c l = v := by simp [val, hv]
    have hg := gfold_len (fun l => .inl (val c l)) en (L.take i)
    have hlt := len_take L i
    refine ⟨_, _, [.im (en L), .im (en c), .no, .im (en l), .no], tg_name (j := 3) rfl rfl, by decide, rfl, ?_, wk_ok⟩
    rw [gfold_step _ _ hli, hval]
    exact gr_app (tv_dat (tv_dict (ev_var rfl).c (h1.ok l hlm).up.nodup).c (ev_var rfl) hv) (ev_var rfl) (by omega) fun x hx => by have := hg.2 x hx; omega
  · rw [List.length_map, List.take_length]
    obtain ⟨k1, k2⟩ := gfold_keys (fun l => .inl (val c l)) en L
    have hg := gfold_len (fun l => .inl (val c l)) en L
    obtain ⟨ks, hks⟩ := inls _ fun k hk => by
      obtain ⟨l, _, e⟩ := List.mem_map.mp ((k2 k).mp hk)
      exact ⟨_, e.symm⟩
    have hkl : ks.length ≤ 60 := by
      have := congrArg List.length hks
      rw [List.length_map, List.length_map] at this
      omega
    have hkn : ks.Nodup := by
      rw [hks] at k1
      exact List.Pairwise.of_map _ (fun a b h z => h (congrArg _ z)) k1
    have hmv : dsort ks = mVals L c := dsort_of_mem hkn (dd_nodup _) fun v => by
      rw [mem_dd, List.mem_map]
      have := k2 (.inl v)
      rw [hks] at this
      simp only [List.mem_map, Sum.inl.injEq, exists_eq_right] at this
      exact this
    have hvl : (mVals L c).length ≤ 60 := by rw [← hmv, len_dsort]; exact hkl
    refine sg_ret ((tv_lm en (mVals L c) (f := fun v => en (v, L.filter fun l => decide (val c l = v))) (it_lst (((el_sortDI (ev_var rfl).c hks (by omega)).cast (by rw [hmv])).g)) (fun v _ => tg_name rfl rfl) (fun v hv => ev_tup (ea_cons (ev_var rfl) (ea_one (ev_tupL (ev_dget (k := .inl v) (ev_var rfl).c (ev_var rfl) ?_).c)))) (by omega)).g.cast ?_) rfl
    · obtain ⟨l, hl, e⟩ := mem_mVals.mp hv
      have hm : (Sum.inl v : Key) ∈ L.map (fun l => (Sum.inl (val c l) : Key)) := List.mem_map.mpr ⟨l, hl, by rw [e]⟩
      rw [lk_gr, gfold_lk, if_pos hm]
      simp only [Sum.inl.injEq]
      rfl
    · show _ = PyData.list (List.map en (List.map _ _))
      rw [List.map_map]
      rfl
end
end K97
set_option Elab.async false
set_option linter.all false
set_option maxRecDepth 100000
set_option maxHeartbeats 4000000
/-! K97: sets of unlike nested tuples (turned from the hand layer's sets of tuples of ints). -/
namespace K97T
open PySem PySem.Spec PyProof.Rows L2
abbrev NI (h : Heap) (k : NestedKey) (a : Addr) : Prop := NestedIs h k (.ref a) ∧ k.depth ≤ 8
theorem ni_stay {h h' : Heap} {k : NestedKey} {a : Addr} (x : NI h k a) (hk : ∀ b o vs n, h.get? b = some o → o.data = .seq vs n → h'.get? b = some o) : NI h' k a := ⟨NestedIs.at hk _ _ x.1, x.2⟩
theorem ni_keep {h h' : Heap} {k : NestedKey} {a : Addr} (x : NI h k a) (hk : ∀ b o, h.get? b = some o → h'.get? b = some o) : NI h' k a := ni_stay x fun b o _ _ e _ => hk b o e
theorem ni_set {h h' : Heap} {k : NestedKey} {a b : Addr} {o : Obj} {es : Array (Int × Value)} {ep : Nat} {t : SetTable} (x : NI h k b) (ho : h.get? a = some o) (hd : o.data = .set es ep t) (hs : Heap.SameBut a h h') : NI h' k b := ni_stay x fun c oc vs n e d => (hs.2 c fun z => by
  subst z
  rw [ho] at e
  cases e
  rw [hd] at d
  cases d).trans e
section
variable {P : Program} {w : World}
/-- of no class statement, n levels down -/
def NoCls (P : Program) (w : World) (n : Nat) (s : Shared) (v : Value) : Prop := ∀ (A : Around) (E : Value → Shared → Prop) (Q : Bool → Shared → Prop), Q false s → wpAny (model P w) A (ofAClassStatement n v) Q E s
theorem NoCls.flat {n : Nat} {s : Shared} {v : Value} (h : ∀ n, ofAClassStatement n v = pure false) : NoCls P w n s v := fun A E Q q => by
  rw [h]
  exact wpAny_pure q
theorem NoCls.tuple {n : Nat} {s : Shared} {a : Addr} {o : Obj} {vs : Array Value} {m : Nat} (ho : s.heap.get? a = some o) (hc : o.cls = .type "tuple") (hd : o.data = .seq vs m) (hq : ∀ v ∈ vs.toList, NoCls P w n s v) : NoCls P w (n + 1) s (.ref a) := fun A E Q q => by
  have hT : s.TypeIs (.ref a) "tuple" := ⟨o, ho, hc⟩
  unfold ofAClassStatement
  refine wpAny_bind (wpAny_typeOf hT ?_)
  dsimp only
  have e : (("tuple" : String) == "tuple") = true := by decide
  simp only [e, if_true, Bool.not_true, Bool.false_eq_true, if_false]
  try refine wpAny_bind (wpAny_pure ?_)
  try simp only [Bool.not_true, Bool.false_eq_true, if_false]
  show wpAny _ _ (seqItems? (.ref a) >>= _) _ _ s
  refine wpAny_bind (wpAny_seqItems ho hd ?_)
  dsimp only
  refine wpAny_bind ?_
  show wpAny _ _ (forIn vs _ _) _ _ s
  rw [← Array.forIn_toList]
  refine wpAny_forIn_list _ (fun rest r s' => r.1 = none ∧ s' = s ∧ ∀ v ∈ rest, NoCls P w n s v) _ ?_ ?_ _ _ ⟨rfl, rfl, hq⟩
  · rintro v rest r s' ⟨hr, rfl, hall⟩
    refine wpAny_bind (hall v List.mem_cons_self _ _ _ ?_)
    simp only [Bool.false_eq_true, if_false]
    exact wpAny_pure ⟨rfl, rfl, fun u hu => hall u (List.mem_cons_of_mem _ hu)⟩
  · rintro ⟨r1, r2⟩ s' ⟨hr, rfl, _⟩
    simp only at hr
    subst hr
    exact wpAny_pure q
mutual
theorem cls_key : ∀ (k : NestedKey) (v : Value) (n : Nat) (s : Shared), NestedIs s.heap k v → k.depth ≤ n → NoCls P w n s v
  | .none, _, n, s, x, _ => by cases x; exact .flat fun n => by cases n <;> rfl
  | .num i, _, n, s, x, _ => by cases x <;> exact .flat fun n => by cases n <;> rfl
  | .text y, _, n, s, x, _ => by cases x; exact .flat fun n => by cases n <;> rfl
  | .tup ks, _, n, s, x, hn => by
    cases x with
    | tup hg hc hd hk =>
      simp only [NestedKey.depth] at hn
      cases n with
      | zero => omega
      | succ n => exact .tuple hg hc hd (cls_keys ks _ n s hk (by omega))
theorem cls_keys : ∀ (ks : List NestedKey) (vs : List Value) (n : Nat) (s : Shared), NestedAll s.heap ks vs → NestedKey.depthAll ks ≤ n → ∀ v ∈ vs, NoCls P w n s v
  | [], _, n, s, x, _, v, hv => by cases x; cases hv
  | k :: ks, _, n, s, x, hn, v, hv => by
    cases x with
    | cons x1 x2 =>
      simp only [NestedKey.depthAll] at hn
      rcases List.mem_cons.mp hv with e | hv
      · rw [e]; exact cls_key k _ n s x1 (by omega)
      · exact cls_keys ks _ n s x2 (by omega) v hv
end
/-- whether the hash is known by the value: one or the other -/
def HashQ (P : Program) (w : World) (n : Nat) (s : Shared) (v : Value) : Prop := ∀ (A : Around) (E : Value → Shared → Prop) (Q : Bool → Shared → Prop), (∀ b, Q b s) → wpAny (model P w) A (hashByValue n v) Q E s
theorem HashQ.flat {n : Nat} {s : Shared} {v : Value} {b : Bool} (h : ∀ n, hashByValue n v = pure b) : HashQ P w n s v := fun A E Q q => by
  rw [h]
  exact wpAny_pure (q b)
theorem HashQ.tuple {n : Nat} {s : Shared} {a : Addr} {o : Obj} {vs : Array Value} {m : Nat} (ho : s.heap.get? a = some o) (hc : o.cls = .type "tuple") (hd : o.data = .seq vs m) (hq : ∀ v ∈ vs.toList, HashQ P w n s v) : HashQ P w (n + 1) s (.ref a) := fun A E Q q => by
  have hT : s.TypeIs (.ref a) "tuple" := ⟨o, ho, hc⟩
  unfold hashByValue
  refine wpAny_bind (wpAny_specialOf hT F.slot_tuple_hash.lookup ?_)
  show wpAny _ _ (seqItems? (.ref a) >>= _) _ _ s
  refine wpAny_bind (wpAny_seqItems ho hd ?_)
  refine wpAny_bind ?_
  show wpAny _ _ (forIn vs _ _) _ _ s
  rw [← Array.forIn_toList]
  refine wpAny_forIn_list _ (fun rest r s' => r.1 = none ∧ s' = s ∧ ∀ v ∈ rest, HashQ P w n s v) _ ?_ ?_ _ _ ⟨rfl, rfl, hq⟩
  · rintro v rest r s' ⟨hr, rfl, hall⟩
    refine wpAny_bind (hall v List.mem_cons_self _ _ _ fun b => ?_)
    cases b with
    | true =>
      simp only [Bool.not_true, Bool.false_eq_true, if_false]
      exact wpAny_pure ⟨rfl, rfl, fun u hu => hall u (List.mem_cons_of_mem _ hu)⟩
    | false =>
      simp only [Bool.not_false, if_true]
      exact wpAny_pure (wpAny_pure (q false))
  · rintro ⟨r1, r2⟩ s' ⟨hr, rfl, _⟩
    simp only at hr
    subst hr
    exact wpAny_pure (q true)
mutual
theorem hash_key : ∀ (k : NestedKey) (v : Value) (n : Nat) (s : Shared), NestedIs s.heap k v → k.depth ≤ n → HashQ P w n s v
  | .none, _, n, s, x, _ => by cases x; exact .flat (b := true) fun n => by cases n <;> rfl
  | .num i, _, n, s, x, _ => by cases x <;> exact .flat (b := true) fun n => by cases n <;> rfl
  | .text y, _, n, s, x, _ => by cases x; exact .flat (b := false) fun n => by cases n <;> rfl
  | .tup ks, _, n, s, x, hn => by
    cases x with
    | tup hg hc hd hk =>
      simp only [NestedKey.depth] at hn
      cases n with
      | zero => omega
      | succ n => exact .tuple hg hc hd (hash_keys ks _ n s hk (by omega))
theorem hash_keys : ∀ (ks : List NestedKey) (vs : List Value) (n : Nat) (s : Shared), NestedAll s.heap ks vs → NestedKey.depthAll ks ≤ n → ∀ v ∈ vs, HashQ P w n s v
  | [], _, n, s, x, _, v, hv => by cases x; cases hv
  | k :: ks, _, n, s, x, hn, v, hv => by
    cases x with
    | cons x1 x2 =>
      simp only [NestedKey.depthAll] at hn
      rcases List.mem_cons.mp hv with e | hv
      · rw [e]; exact hash_key k _ n s x1 (by omega)
      · exact hash_keys ks _ n s x2 (by omega) v hv
end
end
section
variable {P : Program} {w : World} {A : Around} {E : Value → Shared → Prop} {s : Shared}
/-- a search among nested tuples shows nothing -/
theorem seen_key {k : NestedKey} {b : Addr} {Q : Bool → Shared → Prop} (hk : NI s.heap k b) {ys : List Value} (hy : ∀ y ∈ ys, ∃ k' c, y = Value.ref c ∧ NI s.heap k' c) (h : Q false s) : wpAny (model P w) A (searchCouldBeSeen (.ref b) ys) Q E s := by
  unfold searchCouldBeSeen
  refine wpAny_bind ?_
  refine wpAny_forIn_list _ (fun rest r s' => r.1 = none ∧ s' = s ∧ ∀ y ∈ rest, ∃ k' c, y = Value.ref c ∧ NI s.heap k' c) _ ?_ ?_ _ _ ⟨rfl, rfl, hy⟩
  · rintro v rest r s' ⟨hr, rfl, hall⟩
    obtain ⟨k', c, rfl, hc⟩ := hall v List.mem_cons_self
    have rest' : ∀ y ∈ rest, ∃ k' c, y = Value.ref c ∧ NI s'.heap k' c := fun u hu => hall u (List.mem_cons_of_mem _ hu)
    dsimp only
    by_cases hv : (b == c || (carriedByValue (.ref b) && carriedByValue (.ref c))) = true
    · refine wp_if_pos hv ?_
      exact wpAny_pure ⟨rfl, rfl, rest'⟩
    · refine wp_if_neg hv ?_
      refine wpAny_bind (quiet_key k _ 8 s' hk.1 hk.2 _ _ _ ?_)
      simp only [Bool.not_true, Bool.false_eq_true, if_false]
      refine wpAny_bind (quiet_key k' _ 8 s' hc.1 hc.2 _ _ _ ?_)
      simp only [Bool.not_true, Bool.false_eq_true, if_false]
      refine wpAny_bind (cls_key k _ 8 s' hk.1 hk.2 _ _ _ ?_)
      simp only [Bool.false_eq_true, if_false]
      refine wpAny_bind (cls_key k' _ 8 s' hc.1 hc.2 _ _ _ ?_)
      simp only [Bool.false_eq_true, if_false]
      exact wpAny_pure ⟨rfl, rfl, rest'⟩
  · rintro ⟨r1, r2⟩ s' ⟨hr, rfl, _⟩
    simp only at hr
    subst hr
    exact wpAny_pure h
/-! ### the set -/
abbrev Itm := Addr × NestedKey
abbrev hsh (w : World) (p : Itm) : Int := p.2.hash w
def rowsN (w : World) (L : List Itm) : List (Int × Value) := L.map fun p => (hsh w p, Value.ref p.1)
structure SetN (w : World) (h : Heap) (a : Addr) (L : List Itm) (es : Array (Int × Value)) (ep : Nat) (t : SetTable) : Prop where
  ob : ∃ o, h.get? a = some o ∧ o.ExactSet ∧ o.data = .set es ep t
  rows : es.toList = rowsN w L
  tab : TabOk t (L.map (hsh w))
  nd : (L.map (·.2)).Nodup
  tup : ∀ p ∈ L, NI h p.2 p.1
  led : w.params.followText "set-order" = true ∨ t.led = true
  room : L.length * 5 < t.mask * 3
variable {a : Addr} {L : List Itm} {es : Array (Int × Value)} {ep : Nat} {t : SetTable}
theorem rows_size (h : es.toList = rowsN w L) : es.size = L.length := by
  have := congrArg List.length h
  unfold rowsN at this
  rw [Array.length_toList, List.length_map] at this
  exact this
theorem fits_of {hs : List Int} (T : TabOk t hs) (he : es.size = hs.length) (hm : hs.length ≤ t.mask) : t.fits es.size = true := by
  have h1 := T.sz
  unfold SetTable.fits SetTable.fill
  rw [T.dm, Bool.and_eq_true, beq_iff_eq, decide_eq_true_eq]
  show t.place.size = es.size ∧ t.place.size + 0 ≤ t.mask
  omega
theorem SetN.size (R : SetN w s.heap a L es ep t) : es.size = L.length := rows_size R.rows
theorem SetN.fits (R : SetN w s.heap a L es ep t) : t.fits es.size = true := fits_of R.tab (by rw [List.length_map]; exact R.size) (by
  rw [List.length_map]
  have := R.room
  omega)
theorem SetN.entry (R : SetN w s.heap a L es ep t) {i : Nat} {p : Itm} (h : L[i]? = some p) : es[i]? = some (hsh w p, Value.ref p.1) := by
  rw [← Array.getElem?_toList, R.rows]
  unfold rowsN
  rw [List.getElem?_map, h] <;> rfl
theorem SetN.gw (R : SetN w s.heap a L es ep t) : ¬ t.gaveWay = true := by
  unfold SetTable.gaveWay
  rw [mask_odd R.tab.mok]
  decide
theorem nth_dummy (m : Nat) : ∀ (n : Nat) (p : SetTable.Probe), p.dummy = none → (nth m p n).dummy = none
  | 0, _, h => h
  | n + 1, p, h => nth_dummy m n (adv m p) (by
    unfold adv
    split <;> exact h)
abbrev stp (m : Nat) (h : Int) (c : Nat) : SetTable.Probe := nth m (runAt m (SetTable.bits h % (m + 1)) (SetTable.bits h)) c
/-- the search for what is not there, from the c-th step on -/
theorem search_new (R : SetN w s.heap a L es ep t) {x : Addr} {k : NestedKey} (hx : NI s.heap k x) (hu : A.units + 8 < cLine) (hn : k ∉ L.map (·.2)) {K : Nat} (hKf : K < 10 * SetTable.turns t.mask) (hK : way t.mask (k.hash w) K ∉ t.place.toList) (hKb : ∀ c, c < K → way t.mask (k.hash w) c ∈ t.place.toList) {Q : SetFound → Shared → Prop} (hout : Q (.free (way t.mask (k.hash w) K) false) s) :
    ∀ (f c : Nat) (stand : Option SetTable.Probe), stand.getD (t.probeStart (k.hash w)) = stp t.mask (k.hash w) c → c ≤ K → K - c < f → wpAny (model P w) A (setSearchFrom a (.ref x) (k.hash w) true f stand) Q E s
  | 0, c, stand, _, _, hf => absurd hf (Nat.not_lt_zero _)
  | f + 1, c, stand, hst, hc, hf => by
    obtain ⟨o, ho, hex, hd⟩ := R.ob
    rw [setSearchFrom_succ]
    refine wpAny_bind (wpAny_setState_of ho hd R.fits ?_)
    dsimp only
    refine wp_if_neg R.gw ?_
    try refine wpAny_bind (wpAny_pure ?_)
    have sh : ∀ q, nth t.mask (stp t.mask (k.hash w) c) q = stp t.mask (k.hash w) (c + q) := fun q => (nth_add t.mask c _ q).symm
    have e1 : ∀ q, (nth t.mask (stp t.mask (k.hash w) c) q).j = way t.mask (k.hash w) (c + q) := fun q => congrArg SetTable.Probe.j (sh q)
    have spec := go_spec t R.tab.ris R.tab.dm (fun i => (es[i]?.map (·.1)).getD 0) (k.hash w) (10 * SetTable.turns t.mask) (K - c) _ (nth_dummy t.mask c _ rfl) (by omega)
      (fun q hq => by rw [e1]; exact hKb (c + q) (by omega)) (by rw [e1, show c + (K - c) = K by omega]; exact hK)
    rcases spec with ⟨q, i, hq, hi, hh, hno, hpr⟩ | ⟨hno, hpr⟩
    · have hpr' : t.probe (fun i => (es[i]?.map (·.1)).getD 0) (k.hash w) (stand.getD (t.probeStart (k.hash w))) = some (.candidate (way t.mask (k.hash w) (c + q)) i (stp t.mask (k.hash w) (c + (q + 1)))) := by
        rw [hst, ← e1, ← sh]
        exact hpr
      rw [hpr']
      dsimp only
      rw [e1] at hi
      have hil : i < L.length := by
        have h1 : i < t.place.toList.length := (List.getElem?_eq_some_iff.mp hi).1
        have h2 := R.tab.sz
        rw [List.length_map] at h2
        rw [Array.length_toList] at h1
        omega
      have hp : L[i]? = some L[i] := List.getElem?_eq_getElem hil
      generalize hpe : L[i] = p at hp
      have hmem : p ∈ L := List.mem_of_getElem? hp
      have hpt := R.tup p hmem
      have hkk : p.2 ≠ k := fun z => hn (List.mem_map.mpr ⟨p, hmem, z⟩)
      have rest : wpAny (model P w) A (searchRest a (.ref x) (k.hash w) true f es t (way t.mask (k.hash w) (c + q)) i (stp t.mask (k.hash w) (c + (q + 1)))) Q E s := by
        unfold searchRest
        rw [R.entry hp]
        dsimp only
        refine wpAny_bind (wpAny_holding ((nestedKind P w).eqBool (by exact hu) hpt hx ?_))
        refine wpAny_bind (wpAny_setState_of ho hd R.fits ?_)
        dsimp only
        refine wp_if_neg (by simp [hkk]) ?_
        try refine wpAny_bind (wpAny_pure ?_)
        rw [sameMem]
        dsimp only
        have hsl : t.slot (way t.mask (k.hash w) (c + q)) = .live i := slot_live R.tab.ris hi
        simp only [if_true, hsl, R.entry hp]
        refine wpAny_bind (wpAny_isSame_ref_self (wpAny_bind (wpAny_pure ?_)))
        simp only [if_true]
        refine wp_if_neg (by simp [hkk]) ?_
        exact search_new R hx hu hn hKf hK hKb hout f (c + (q + 1)) _ rfl (by omega) (by omega)
      by_cases hl : t.led = true
      · refine wp_if_neg (by simp [hl]) ?_
        try refine wpAny_bind (wpAny_pure ?_)
        exact rest
      · refine wp_if_pos (by simp [hl]) ?_
        refine wpAny_bind (seen_key hx (fun y hy => ?_) ?_)
        · obtain ⟨e, he, ee⟩ := List.mem_map.mp hy
          have he1 : e ∈ es ∧ e.1 = k.hash w := by simpa using he
          have he2 : e ∈ es.toList := by simpa using he1.1
          rw [R.rows] at he2
          obtain ⟨p2, hp2, e2⟩ := List.mem_map.mp he2
          refine ⟨p2.2, p2.1, ?_, R.tup p2 hp2⟩
          rw [← ee, ← e2]
        · refine wp_if_neg (by decide) ?_
          try refine wpAny_bind (wpAny_pure ?_)
          exact rest
    · have hpr' : t.probe (fun i => (es[i]?.map (·.1)).getD 0) (k.hash w) (stand.getD (t.probeStart (k.hash w))) = some (.empty (way t.mask (k.hash w) K) none) := by
        have e2 : way t.mask (k.hash w) K = (nth t.mask (stp t.mask (k.hash w) c) (K - c)).j := by
          rw [e1, show c + (K - c) = K by omega]
        rw [hst, e2]
        exact hpr
      rw [hpr']
      dsimp only
      exact wpAny_pure hout
theorem rowsN_put (L : List Itm) (p : Nat) (x : Itm) : rowsN w (L.take p ++ x :: L.drop p) = (rowsN w L).take p ++ (hsh w x, Value.ref x.1) :: (rowsN w L).drop p := by
  unfold rowsN
  rw [List.map_append, List.map_cons, List.map_take, List.map_drop]
/-- the rows in another order -/
theorem orderN (L : List Itm) (es : Array (Int × Value)) (order : Array Nat) (hr : es.toList = rowsN w L) (hp : order.toList.Perm (List.range L.length)) :
    ∃ L2, (order.filterMap (es[·]?)).toList = rowsN w L2 ∧ L2.Perm L ∧ L2.map (hsh w) = order.toList.map fun i => (es.map (·.1)).getD i 0 := by
  have hsz : es.size = L.length := rows_size hr
  have ent : ∀ i (h : i < L.length), es[i]? = some (hsh w L[i], Value.ref (L[i]).1) := fun i h => by
    rw [← Array.getElem?_toList, hr]
    unfold rowsN
    rw [List.getElem?_map, List.getElem?_eq_getElem h] <;> rfl
  have key : ∀ l : List Nat, (∀ i ∈ l, i < L.length) → l.filterMap (fun i => es[i]?) = rowsN w (l.filterMap fun i => L[i]?) ∧ (l.filterMap fun i => L[i]?).map (hsh w) = l.map fun i => (es.map (·.1)).getD i 0 := by
    intro l
    induction l with
    | nil => intro _; exact ⟨rfl, rfl⟩
    | cons i l ih =>
      intro hl
      have hi := hl i List.mem_cons_self
      obtain ⟨e1, e3⟩ := ih fun j hj => hl j (List.mem_cons_of_mem _ hj)
      have e5 : (es.map (·.1))[i]? = some (hsh w L[i]) := by rw [Array.getElem?_map, ent i hi] <;> rfl
      rw [List.filterMap_cons_some (ent i hi), List.filterMap_cons_some (List.getElem?_eq_getElem hi), e1, List.map_cons, List.map_cons, e3]
      refine ⟨rfl, ?_⟩
      simp [Array.getD_eq_getD_getElem?, e5]
  obtain ⟨e1, e3⟩ := key order.toList fun i hi => List.mem_range.mp (hp.mem_iff.mp hi)
  refine ⟨_, by first | (rw [Array.toList_filterMap]; exact e1) | simpa using e1, ?_, e3⟩
  have h1 : (order.toList.filterMap fun i => L[i]?).Perm ((List.range L.length).filterMap fun i => L[i]?) := hp.filterMap _
  have h2 : ∀ n, n ≤ L.length → (List.range n).filterMap (fun i => L[i]?) = L.take n := by
    intro n
    induction n with
    | zero => intro _; rfl
    | succ n ih =>
      intro hn
      have hlt : n < L.length := hn
      rw [List.range_succ, List.filterMap_append, ih (Nat.le_of_lt hlt), List.take_succ, List.getElem?_eq_getElem hlt]
      rw [List.filterMap_cons_some (List.getElem?_eq_getElem hlt)] <;> rfl
  rw [h2 L.length (Nat.le_refl _), List.take_length] at h1
  exact h1
/-- the table laid anew, of 32 places -/
theorem relayN {o : Obj} (ho : s.heap.get? a = some o) (hex : o.ExactSet) (hd : o.data = .set es ep t) (hrows : es.toList = rowsN w L) (T0 : TabOk t (L.map (hsh w))) (hfl : L.length ≤ t.mask) (nd : (L.map (·.2)).Nodup) (tup : ∀ p ∈ L, NI s.heap p.2 p.1) (ld : w.params.followText "set-order" = true ∨ t.led = true) (few : L.length < 18) {Q : Unit → Shared → Prop}
    (hQ : ∀ h' L' es' ep' t', Heap.SameBut a s.heap h' → SetN w h' a L' es' ep' t' → L'.Perm L → Q () { s with heap := h' }) : wpAny (model P w) A (setRelay a (SetTable.grown 5)) Q E s := by
  have hsl : es.size = L.length := rows_size hrows
  have hfits : t.fits es.size = true := fits_of T0 (by rw [List.length_map]; exact hsl) (by rw [List.length_map]; exact hfl)
  obtain ⟨t', order, e, hp, T, em, el, ep', ed⟩ := relaid_ok t (hs := es.map (·.1)) (wanted := SetTable.grown 5) (M := 31) (by rw [size_20]) (.inr (.inl rfl)) (by rw [Array.size_map, hsl]; omega)
  rw [Array.size_map, hsl] at hp
  obtain ⟨L2, r1, r2, r3⟩ := orderN L es order hrows hp
  rw [← r3] at T
  have hs2 : (order.filterMap (es[·]?)).size = es.size := by rw [rows_size r1, r2.length_eq, hsl]
  rw [setRelay_eq]
  refine wpAny_bind (wpAny_setState_of ho hd hfits ?_)
  dsimp only
  refine wp_if_neg (by rw [size_20, sizeLine_eq]; omega) ?_
  try refine wpAny_bind (wpAny_pure ?_)
  rw [e]
  dsimp only
  refine wpAny_bind ?_
  refine wp_if_neg (by rw [hs2]; simp) ?_
  try refine wpAny_bind (wpAny_pure ?_)
  refine wpAny_pure ?_
  dsimp only
  refine wpAny_storeSet_of ho hd ?_ (by rw [hs2, hsl, sizeLine_eq]; omega)
  have sb : Heap.SameBut a s.heap (s.heap.update a (Obj.putSet (order.filterMap (es[·]?)) t')) := Heap.SameBut.update ..
  refine hQ _ L2 (order.filterMap (es[·]?)) (ep + 1) t' sb ?_ r2
  refine ⟨⟨_, store_at ho hd, ⟨hex.1, hex.2.1, hex.2.2⟩, rfl⟩, r1, T, (r2.map (·.2)).nodup_iff.mpr nd, fun p hpm => ni_set (tup p (r2.mem_iff.mp hpm)) ho hd sb, by rw [el]; exact ld, ?_⟩
  rw [r2.length_eq, em]
  omega
/-- what is new is added -/
theorem add_new (R : SetN w s.heap a L es ep t) {x : Addr} {k : NestedKey} (hx : NI s.heap k x) (hu : A.units + 8 < cLine) (hn : k ∉ L.map (·.2)) (few : L.length < 17) {Q : Bool → Shared → Prop}
    (hQ : ∀ b h' L' es' ep' t', Heap.SameBut a s.heap h' → SetN w h' a L' es' ep' t' → L'.Perm ((x, k) :: L) → Q b { s with heap := h' }) : wpAny (model P w) A (setAddHashed a (.ref x) (k.hash w)) Q E s := by
  obtain ⟨o, ho, hex, hd⟩ := R.ob
  have hsl := R.size
  have hroom := R.room
  obtain ⟨K, hKf, hK, hKb⟩ := R.tab.first (by rw [List.length_map]; omega) (k.hash w)
  have hbig : K < 100000 := by
    have : 10 * SetTable.turns t.mask ≤ 1420 := by
      unfold SetTable.turns
      rcases R.tab.mok with e | e | e <;> omega
    omega
  unfold setAddHashed
  refine wpAny_holding ?_
  rw [show (100000 : Nat) = 99999 + 1 from rfl, setAddHashedIn_succ]
  refine wpAny_bind (wpAny_setState_of ho hd R.fits ?_)
  dsimp only
  refine wp_if_neg (by simp [byScan, Value.scannable]) ?_
  try refine wpAny_bind (wpAny_pure ?_)
  refine wpAny_bind ?_
  unfold setSearch
  refine search_new R hx hu hn hKf hK hKb ?_ 100000 0 none rfl (Nat.zero_le _) (by omega)
  dsimp only
  refine wpAny_bind (wpAny_setState_of ho hd R.fits ?_)
  dsimp only
  obtain ⟨q1, q2, q3, q4, q5, q6, q7, q8, q9⟩ := R.tab.put hK hKb
  generalize hpt : t.put (way t.mask (k.hash w) K) = pt at q1 q3 q4 q5 q6 q7 q8 q9 ⊢
  obtain ⟨t1, p⟩ := pt
  dsimp only at q1 q3 q4 q5 q6 q7 q8 q9 ⊢
  subst q1
  have hin : (SetTable.insertAt es (SetTable.below t.place (way t.mask (k.hash w) K)) (k.hash w, Value.ref x)).toList = rowsN w (L.take (SetTable.below t.place (way t.mask (k.hash w) K)) ++ (x, k) :: L.drop (SetTable.below t.place (way t.mask (k.hash w) K))) := by
    rw [SetTable.toList_insertAt, rowsN_put, R.rows]
  generalize hpp : SetTable.below t.place (way t.mask (k.hash w) K) = p at q2 q3 hin ⊢
  have pm := put_perm L p (x, k)
  have hlen : (L.take p ++ (x, k) :: L.drop p).length = L.length + 1 := pm.length_eq
  have hhs : (L.take p ++ (x, k) :: L.drop p).map (hsh w) = (L.map (hsh w)).take p ++ k.hash w :: (L.map (hsh w)).drop p := by
    rw [List.map_append, List.map_cons, List.map_take, List.map_drop]
  rw [← hhs] at q3
  have nd1 : ((L.take p ++ (x, k) :: L.drop p).map (·.2)).Nodup := by
    refine (pm.map (·.2)).nodup_iff.mpr ?_
    rw [List.map_cons]
    exact List.nodup_cons.mpr ⟨hn, R.nd⟩
  have hes : (SetTable.insertAt es p (k.hash w, Value.ref x)).size = L.length + 1 := by rw [rows_size hin, hlen]
  generalize SetTable.insertAt es p (k.hash w, Value.ref x) = es1 at hin hes ⊢
  generalize L.take p ++ (x, k) :: L.drop p = L1 at pm hlen q3 nd1 hin
  have fin : ∀ t2 : SetTable, TabOk t2 (L1.map (hsh w)) → t2.mask = t.mask → t2.led = t.led → t2.tooFull = t1.tooFull → wpAny (model P w) A (do
      storeSet a es1 t2
      if !false && t2.tooFull then setRelay a (SetTable.grown (es.size + 1))
      return true) Q E s := fun t2 T2 m2 l2 f2 => by
    refine wpAny_bind (wpAny_storeSet_of ho hd ?_ (by rw [hes, sizeLine_eq]; omega))
    have sb : Heap.SameBut a s.heap (s.heap.update a (Obj.putSet es1 t2)) := Heap.SameBut.update ..
    have ho1 := store_at (es' := es1) (t' := t2) ho hd
    generalize s.heap.update a (Obj.putSet es1 t2) = h1 at sb ho1 ⊢
    have tup1 : ∀ p ∈ L1, NI h1 p.2 p.1 := fun p hp => by
      rcases List.mem_cons.mp (pm.mem_iff.mp hp) with e | hp
      · rw [e]; exact ni_set hx ho hd sb
      · exact ni_set (R.tup p hp) ho hd sb
    have ld1 : w.params.followText "set-order" = true ∨ t2.led = true := by rw [l2]; exact R.led
    have full : t1.tooFull = decide ((L.length + 1) * 5 ≥ t1.mask * 3) := by
      unfold SetTable.tooFull
      rw [q9, List.length_map]
    by_cases hf : t2.tooFull = true
    · first
        | (refine wpAny_bind ?_; refine wp_if_pos (by simp [hf]) ?_)
        | (refine wp_if_pos (by simp [hf]) ?_; refine wpAny_bind ?_)
      rw [f2, full, decide_eq_true_eq, q4] at hf
      have h4 : t.mask = 7 ∧ L.length = 4 := by
        rcases R.tab.mok with e | e | e
        · rw [e] at hf hroom; exact ⟨e, by omega⟩
        · exfalso; rw [e] at hf; omega
        · exfalso; rw [e] at hf; omega
      rw [hsl, h4.2]
      refine relayN (s := { s with heap := h1 }) ho1 ⟨hex.1, hex.2.1, hex.2.2⟩ rfl hin T2 (by rw [hlen, m2]; omega) nd1 tup1 ld1 (by rw [hlen]; omega) ?_
      intro h2 L2 es2 ep2 t3 sb2 R2 pm2
      exact wpAny_pure (hQ true h2 L2 es2 ep2 t3 (sb.trans sb2) R2 (pm2.trans pm))
    · first
        | refine wp_if_neg (by simp [hf]) ?_
        | (refine wpAny_bind ?_; refine wp_if_neg (by simp [hf]) ?_; refine wpAny_pure ?_)
      rw [f2, full, decide_eq_true_eq, q4] at hf
      exact wpAny_pure (hQ true h1 L1 es1 (ep + 1) t2 sb ⟨⟨_, ho1, ⟨hex.1, hex.2.1, hex.2.2⟩, rfl⟩, hin, T2, nd1, tup1, ld1, by rw [hlen, m2]; omega⟩ pm)
  have both : ∀ b : Bool, wpAny (model P w) A (do
      storeSet a es1 (if b = true then t1 else { t1 with plain := false })
      if !false && (if b = true then t1 else { t1 with plain := false }).tooFull then setRelay a (SetTable.grown (es.size + 1))
      return true) Q E s := fun b => by
    cases b with
    | true => exact fin t1 q3 q4 q5 rfl
    | false => exact fin { t1 with plain := false } ⟨q3.ris, q3.dm, q3.sz, q3.mok, q3.bd, q3.reach⟩ q4 q5 rfl
  by_cases hpl : t1.plain = true
  · first
      | (refine wpAny_bind ?_; refine wp_if_pos hpl ?_; exact hash_key k _ 8 s hx.1 hx.2 _ _ _ both)
      | exact wp_if_pos hpl (wpAny_bind (hash_key k _ 8 s hx.1 hx.2 _ _ _ both))
  · first
      | (refine wpAny_bind ?_; refine wp_if_neg hpl ?_; exact wpAny_pure (both true))
      | exact wp_if_neg hpl (wpAny_bind (wpAny_pure (both true)))
end
end K97T
set_option Elab.async false
set_option linter.all false
set_option maxRecDepth 100000
set_option maxHeartbeats 4000000
/-! K97: len(set(a tuple of unlike nested tuples)). -/
namespace K97T
open PySem PySem.Spec PyProof.Rows L2
section
variable {P : Program} {w : World} {A : Around} {E : Value → Shared → Prop} {s : Shared}
theorem SetN.keep {h h' : Heap} {a : Addr} {L : List Itm} {es : Array (Int × Value)} {ep : Nat} {t : SetTable} (R : SetN w h a L es ep t) (ha : ∀ o, h.get? a = some o → h'.get? a = some o) (ht : ∀ p ∈ L, NI h' p.2 p.1) : SetN w h' a L es ep t := by
  obtain ⟨o, ho, r⟩ := R.ob
  exact ⟨⟨o, ha o ho, r⟩, R.rows, R.tab, R.nd, ht, R.led, R.room⟩
abbrev newSet (w : World) : Obj := { cls := .type "set", dict := none, data := .set #[] 0 (.fresh 0 0 (!w.params.followText "set-order")) }
theorem setN_new {h : Heap} {a : Addr} (ho : h.get? a = some (newSet w)) : SetN w h a [] #[] 0 (.fresh 0 0 (!w.params.followText "set-order")) where
  ob := ⟨_, ho, ⟨rfl, rfl, rfl⟩, rfl⟩
  rows := rfl
  tab := ⟨List.Pairwise.nil, rfl, rfl, .inl rfl, fun x hx => (by cases hx), fun i h j hi => (by simp at hi)⟩
  nd := List.nodup_nil
  tup := fun p hp => (by cases hp)
  led := by
    show _ ∨ (!w.params.followText "set-order") = true
    cases w.params.followText "set-order"
    · exact .inr rfl
    · exact .inl rfl
  room := by
    show 0 * 5 < 7 * 3
    decide
/-- set.update's loop over unlike items -/
theorem updateN {I : Addr} {fp wr : List Addr} {G : Array GenState → Array GenState → Prop} {n : Nat} {Pv : Nat → Value → Prop} {St : Nat → Shared → Prop} {R : Result → Shared → Prop}
    (W : WalksS P w A.in1 I fp wr G n Pv St) (S : Addr) (hSf : S ∉ fp) (ks : List Itm) (hn : n = ks.length) (hfew : ks.length < 18) (hnd : (ks.map (·.2)).Nodup) (hval : ∀ i v, Pv i v → ∃ p, ks[i]? = some p ∧ v = .ref p.1)
    (h0 : Heap) (hk : ∀ p ∈ ks, NI h0 p.2 p.1) (hS0 : h0.get? S = none) (hw0 : ∀ b ∈ wr, h0.get? b = none) (hu : A.in1.units + 8 < cLine) :
    ∀ (k i : Nat) (s : Shared), n - i = k → i ≤ n → St i s → (∀ b o, h0.get? b = some o → s.heap.get? b = some o) → (∃ L es ep t, SetN w s.heap S L es ep t ∧ L.Perm (ks.take i)) →
      (∀ s' L es ep t, Moved (S :: wr) G s s' → SetN w s'.heap S L es ep t → L.Perm ks → (∀ b o, h0.get? b = some o → s'.heap.get? b = some o) → R (.ok (.ret .none)) s') →
      codeAny (model P w) A (.builtin "set.update.loop" ⟨[.ref S, .ref I], []⟩) R s := by
  have hSw : S ∉ wr := fun h => hSf (W.sub _ h)
  have hsub : ∀ b ∈ wr, b ∈ S :: wr := fun b hb => List.mem_cons_of_mem _ hb
  have keepM : ∀ {s s' : Shared}, Moved wr G s s' → (∀ b o, h0.get? b = some o → s.heap.get? b = some o) → ∀ b o, h0.get? b = some o → s'.heap.get? b = some o := fun hm hkp b o e =>
    hm.heap b o (fun hb => by rw [hw0 b hb] at e; cases e) (hkp b o e)
  have inKs : ∀ {L : List Itm} {i : Nat}, L.Perm (ks.take i) → ∀ p ∈ L, p ∈ ks := fun g p hp => List.mem_of_mem_take (g.mem_iff.mp hp)
  intro k
  induction k with
  | zero =>
    intro i s hk' hi hst hkp ⟨L, es, ep, t, hS, g⟩ hR
    have hin : i = n := by omega
    subst hin
    refine codeAny_builtin F.entry_set_update_loop ?_
    rw [Around.under_plainId F.plain_set_update_loop _]
    show wpAny _ A.in1 (pyNext (.ref I) >>= _) _ _ s
    refine wpAny_bind (W.done s _ _ hst fun s' hm => ?_)
    show wpAny _ A.in1 (ret Value.none) _ _ s'
    have hkp' := keepM hm hkp
    refine wpAny_pure (hR s' L es ep t (hm.mono hsub) (hS.keep (fun o e => hm.heap S o hSw e) fun p hp => ni_keep (hk p (inKs g p hp)) hkp') ?_ hkp')
    rw [hn, List.take_length] at g
    exact g
  | succ k ih =>
    intro i s hk' hi hst hkp ⟨L, es, ep, t, hS, g⟩ hR
    have hlt : i < n := by omega
    refine codeAny_builtin F.entry_set_update_loop ?_
    rw [Around.under_plainId F.plain_set_update_loop _]
    show wpAny _ A.in1 (pyNext (.ref I) >>= _) _ _ s
    refine wpAny_bind (W.item i s _ _ hlt hst fun v s' hP hst' hm => ?_)
    obtain ⟨p, hp, rfl⟩ := hval i v hP
    have hkp' := keepM hm hkp
    have hS' : SetN w s'.heap S L es ep t := hS.keep (fun o e => hm.heap S o hSw e) fun q hq => ni_keep (hk q (inKs g q hq)) hkp'
    have hx : NI s'.heap p.2 p.1 := ni_keep (hk p (List.mem_of_getElem? hp)) hkp'
    have htk : ks.take (i + 1) = ks.take i ++ [p] := by rw [List.take_add_one, hp]; rfl
    have hnew : p.2 ∉ L.map (·.2) := fun z => by
      rw [(g.map (·.2)).mem_iff, List.map_take] at z
      exact K97.notin_take hnd (by rw [List.getElem?_map, hp]; rfl) z
    have hlen := g.length_eq
    rw [List.length_take] at hlen
    show wpAny _ A.in1 (holding [Value.ref p.1] (setAdd S (.ref p.1)) >>= _) _ _ s'
    refine wpAny_bind (wpAny_holding ?_)
    unfold setAdd
    refine wpAny_holding ?_
    refine wpAny_bind ((nestedKind P w).pyHash (by exact hu) hx ?_)
    refine add_new (s := { s' with toks := s'.toks + p.2.draws }) hS' hx hu hnew (by omega) fun b h' L' es' ep' t' hsb hS2 pm => ?_
    have g' : L'.Perm (ks.take (i + 1)) := by
      rw [htk]
      exact pm.trans ((g.cons p).trans (List.perm_append_singleton p (ks.take i)).symm)
    have hkp2 : ∀ b o, h0.get? b = some o → h'.get? b = some o := fun b o e => (hsb.2 b (fun z => by rw [z, hS0] at e; cases e)).trans (hkp' b o e)
    refine wpAny_pure ⟨plainId_quiet F.plain_set_update_loop _, ih (i + 1) _ (by omega) hlt (W.frame _ s' _ _ hst' (Nat.le_add_right _ _) fun b hb o e => ?_) hkp2 ⟨L', es', ep', t', hS2, g'⟩ fun s'' L2 es2 ep2 t2 hm'' hS'' g'' hkp'' => ?_⟩
    · rw [hsb.2 b (fun h : b = S => hSf (by rw [← h]; exact hb))]; exact e
    · refine hR s'' L2 es2 ep2 t2 (Moved.trans W.gtrans ((hm.mono hsub).then_heap (Nat.le_add_right _ _) fun b o hb e => ?_) hm'') hS'' g'' hkp''
      rw [hsb.2 b (fun h : b = S => hb (by rw [h]; exact List.mem_cons_self))]; exact e
set_option maxHeartbeats 8000000 in
/-- set(a tuple of unlike items) -/
theorem call_setN {l : Addr} {items : Array Value} (ks : List Itm) {Q : Value → Shared → Prop} (hh : A.handled = none) (hl : s.heap.IsTuple l items) (hit : items.toList = ks.map fun p => Value.ref p.1)
    (hk : ∀ p ∈ ks, NI s.heap p.2 p.1) (hnd : (ks.map (·.2)).Nodup) (hfew : ks.length < 18) (hu : A.units + 16 < cLine)
    (h : ∀ (h' : Heap) (tk : Nat) L es ep t, SetN w h' s.heap.objs.size L es ep t → L.Perm ks → (∀ b o, s.heap.get? b = some o → h'.get? b = some o) → Q (.ref s.heap.objs.size) { s with heap := h', toks := tk }) :
    wpAny (model P w) A (call (.type "set") [.ref l]) Q E s := by
  have hisz : items.size = ks.length := by
    have q := congrArg List.length hit
    rw [Array.length_toList, List.length_map] at q
    exact q
  obtain ⟨c, tl, hmro⟩ := F.called_set.mro
  have hmade := F.called_set.made
  have hsub := F.called_set.sub
  refine wpAny_call (codeAny_of_tree ?_)
  show wpAny _ _ (callAny (.type "set") _) _ _ _
  refine wpAny_pure ⟨Code.quiet_builtin _ (by decide +kernel), codeAny_builtin F.entry_type_call ?_⟩
  rw [Around.under_plain (weight_type_call_type "set" [.ref l] []) rfl]
  have h1 := F.called_set.notType
  have h2 := F.called_set.canCreate
  have hct := F.typeCall_set_1 (.ref l)
  repeat (any_goals (first | assumption | wp_step))

  refine codeAny_mono (code_set_led1 (.ref l) (E := E) (Q₁ := fun obj s₁ => obj = .ref s.heap.objs.size ∧ s₁ = { s with heap := s.heap.push (newSet w) }) ⟨rfl, rfl⟩) fun r s₁ hr => ?_
  cases r with
  | error e => exact hr
  | ok fl =>
    cases fl with
    | ret obj =>
      obtain ⟨rfl, rfl⟩ := hr
      have hS : (s.heap.push (newSet w)).get? s.heap.objs.size = some (newSet w) := Heap.get?_push_size _ rfl
      have hT : Shared.TypeIs { s with heap := s.heap.push (newSet w) } (.ref s.heap.objs.size) "set" := ⟨_, hS, rfl⟩
      have hli := F.called_set.init.lookup
      have hbi := F.called_set.init.bind (.ref s.heap.objs.size)
      repeat (any_goals (first | assumption | wp_step))

      refine codeAny_mono (codeAny_call_builtin (R := wants (fun r s₂ => r = .none ∧ ∃ h' tk L es ep t, s₂ = { s with heap := h', toks := tk } ∧ SetN w h' s.heap.objs.size L es ep t ∧ L.Perm ks ∧
          (∀ b o, s.heap.get? b = some o → h'.get? b = some o)) E) F.called_set.init.plain F.entry_set_init (check_set_init_1 hT ?_)) fun r₂ s₂ hr₂ => ?_
      · obtain ⟨ol, hol, hcl, nl, hdl⟩ := hl
        obtain ⟨ocls, odict, odata, oslots⟩ := ol
        simp only at hcl hdl
        subst hcl; subst hdl
        have hol' : (s.heap.push (newSet w)).get? l = some { cls := .type "tuple", dict := odict, data := .seq items nl, slots := oslots } := Heap.get?_push_of_some _ hol
        have hsls := F.sub_tuple_set
        have hslf := F.sub_tuple_frozenset
        have hne : (Value.type "tuple" == Value.type "dict") = false := by decide
        have hl1 : (s.heap.push (newSet w)).IsTuple l items := ⟨_, hol', rfl, nl, rfl⟩
        unfold Builtin.«set.__init__» noKeywords Builtin.Frozenset.updateFrom
        generalize hPI : pyIter = PI
        wp_walk
        subst hPI

        refine wpAny_pyIter_tuple hl1 ?_
        refine wpAny_bind (wpAny_runValue ?_)
        have hlS : l < s.heap.objs.size := Heap.lt_size hol
        have hh3 : A.in1.in1.in1.handled = none := by simp [hh]
        have hz1 : (s.heap.push (newSet w)).objs.size = s.heap.objs.size + 1 := Heap.size_push ..
        have hneI : l ≠ (s.heap.push (newSet w)).objs.size := by
          rw [Heap.size_push]; exact Nat.ne_of_lt (Nat.lt_succ_of_lt hlS)
        have hSf : s.heap.objs.size ∉ [(s.heap.push (newSet w)).objs.size, l] := by
          rw [Heap.size_push]; simp only [List.mem_cons, List.mem_singleton, List.not_mem_nil, or_false, not_or]
          exact ⟨Nat.ne_of_lt (Nat.lt_succ_self _), Nat.ne_of_gt hlS⟩
        have hval : ∀ (i : Nat) (v : Value), items[i]? = some v → ∃ p, ks[i]? = some p ∧ v = .ref p.1 := fun i v hv => by
          have q : items.toList[i]? = some v := by rw [Array.getElem?_toList]; exact hv
          rw [hit, List.getElem?_map] at q
          cases hq : ks[i]? with
          | none => rw [hq] at q; cases q
          | some p =>
            rw [hq] at q
            exact ⟨p, rfl, (Option.some.inj q).symm⟩
        have none_of : ∀ b, s.heap.objs.size ≤ b → s.heap.get? b = none := fun b hb => by
          cases q : s.heap.get? b with
          | none => rfl
          | some o => exact absurd (Nat.lt_of_lt_of_le (Heap.lt_size q) hb) (Nat.lt_irrefl _)
        refine updateN ((Walks.tuple hh3 _ l hneI items).toS) s.heap.objs.size
          hSf ks hisz hfew hnd hval s.heap hk (none_of _ (Nat.le_refl _)) (fun b hb => none_of b (by
            rw [List.mem_singleton.mp hb, Heap.size_push]
            exact Nat.le_succ _)) ?hu (items.size - 0) 0 _ (by omega) (Nat.zero_le _)
          ⟨⟨_, Heap.get?_push_size _ rfl, rfl, rfl⟩, (hl1.push _)⟩ (fun b o e => Heap.get?_push_of_some _ (Heap.get?_push_of_some _ e)) ?hS0 ?hR
        case hu =>
          show A.units + 1 + 1 + 1 + 8 < cLine
          omega
        case hS0 =>
          have hget : ((s.heap.push (newSet w)).push { cls := .type "tuple_iterator", data := .fields #[.ref l, .int 0 0] }).get? s.heap.objs.size = some (newSet w) := Heap.get?_push_of_some _ hS
          exact ⟨[], #[], 0, _, setN_new hget, by simp⟩
        case hR =>
          intro s' L es ep t hm hS' g' hkp
          obtain ⟨h', g2, d', tk', os'⟩ := s'
          have eg : g2 = s.gens := hm.gens
          have ed : d' = s.drawn := hm.drawn
          have eo : os' = s.os := hm.os
          subst eg; subst ed; subst eo
          show wpAny _ _ _ _ _ _
          refine wpAny_pure ?_
          show wpAny _ _ (ret Value.none) _ _ _
          exact wpAny_pure ⟨rfl, h', tk', L, es, ep, t, rfl, hS', g', hkp⟩

      · cases r₂ with
        | error e => exact hr₂
        | ok fl₂ =>
          cases fl₂ with
          | ret r =>
            obtain ⟨rfl, h', tk, L, es, ep, t, rfl, hS', g', hk'⟩ := hr₂
            repeat (any_goals (first | assumption | wp_step))
            exact h _ _ _ _ _ _ hS' g' hk'
          | _ => exact hr₂.elim
    | _ => exact hr.elim
end
end K97T
set_option Elab.async false
set_option linter.all false
set_option maxRecDepth 100000
set_option maxHeartbeats 4000000
/-! K97: len(set(logs)). -/
namespace K97
open Dt (en)
open PySem PySem.Spec PyProof.Rows L2 K97T
def nkP (p : Str × Int) : NestedKey := .tup [.text p.1, .num p.2]
def nkL (l : Lg) : NestedKey := .tup (l.map nkP)
theorem nkP_inj {p q : Str × Int} (h : nkP p = nkP q) : p = q := by
  unfold nkP at h
  simp only [NestedKey.tup.injEq, List.cons.injEq, NestedKey.text.injEq, NestedKey.num.injEq, and_true] at h
  exact Prod.ext h.1 h.2
theorem nkL_inj {l m : Lg} (h : nkL l = nkL m) : l = m := by
  unfold nkL at h
  rw [NestedKey.tup.injEq] at h
  exact List.map_inj_right (fun a b e => nkP_inj e) |>.mp h
theorem depth_all : ∀ l : Lg, NestedKey.depthAll (l.map nkP) ≤ 1
  | [] => by simp [NestedKey.depthAll]
  | p :: l => by
    have := depth_all l
    simp only [List.map_cons, NestedKey.depthAll, nkP, NestedKey.depth]
    omega
theorem nkL_depth (l : Lg) : (nkL l).depth ≤ 8 := by
  have := depth_all l
  simp only [nkL, NestedKey.depth]
  omega
section
variable {X : Cx} {pins : List (Addr × Obj)} {σ : L2.St} {H G : Hp} {s : Shared}
theorem rp_pair (I : Inv X pins σ H s) (e : Ex G H) {v : V} {u : Value} {p : Str × Int} (r : Rp X.K G v (en p)) (ru : RelV v u) : NestedIs s.heap (nkP p) u := by
  have r : Rp X.K G v (.tuple [.str p.1, .int p.2]) := r
  cases r with
  | @tup a xs _ h1 h2 =>
    obtain ⟨its, rv, ⟨o, g1, g2, n, g3⟩, _⟩ := I.tuple (TupF.sq (K := X.K) (h1.up e))
    cases ru
    cases h2 with
    | cons r1 h2 =>
      cases h2 with
      | cons r2 h2 =>
        cases h2
        cases r1
        cases r2
        cases rv with
        | cons t1 rv =>
          cases rv with
          | cons t2 rv =>
            cases rv
            obtain ⟨k1, rfl⟩ := t1
            obtain ⟨k2, rfl⟩ := t2
            exact .tup g1 g2 g3 (.cons (.text _ _) (.cons (.int _ _) .nil))
theorem rp_pairs (I : Inv X pins σ H s) (e : Ex G H) : ∀ {l : Lg} {vs : List V} {us : List Value}, RpAll X.K G vs (l.map en) → Vals vs us → NestedAll s.heap (l.map nkP) us
  | [], _, _, r, rv => by
    cases r
    cases rv
    exact .nil
  | p :: l, _, _, r, rv => by
    have r : RpAll X.K G _ (en p :: l.map en) := r
    cases r with
    | cons r1 r2 =>
      cases rv with
      | cons t1 t2 => exact .cons (rp_pair I e r1 t1) (rp_pairs I e r2 t2)
theorem rp_log (I : Inv X pins σ H s) (e : Ex G H) {v : V} {l : Lg} (r : Rp X.K G v (en l)) : ∃ a, v = .ref a ∧ NI s.heap (nkL l) a := by
  have r : Rp X.K G v (.tuple (l.map en)) := r
  cases r with
  | @tup a xs _ h1 h2 =>
    obtain ⟨its, rv, ⟨o, g1, g2, n, g3⟩, _⟩ := I.tuple (TupF.sq (K := X.K) (h1.up e))
    exact ⟨a, rfl, .tup g1 g2 g3 (by simpa using rp_pairs I e h2 rv), nkL_depth l⟩
theorem rp_logs (I : Inv X pins σ H s) (e : Ex G H) : ∀ {L : List Lg} {vs : List V}, RpAll X.K G vs (L.map en) → ∃ ks : List Itm, vs = ks.map (fun p => V.ref p.1) ∧ ks.map (·.2) = L.map nkL ∧ ∀ p ∈ ks, NI s.heap p.2 p.1
  | [], _, r => by
    cases r
    exact ⟨[], rfl, rfl, fun p h => nomatch h⟩
  | l :: L, _, r => by
    have r : RpAll X.K G _ (en l :: L.map en) := r
    cases r with
    | cons r1 r2 =>
      obtain ⟨a, rfl, h1⟩ := rp_log I e r1
      obtain ⟨ks, rfl, h2, h3⟩ := rp_logs I e r2
      refine ⟨(a, nkL l) :: ks, rfl, by rw [List.map_cons, List.map_cons, h2], fun p hp => ?_⟩
      rcases List.mem_cons.mp hp with rfl | hp
      · exact h1
      · exact h3 p hp
end
theorem vals_refsN : ∀ {ks : List Itm} {us : List Value}, Vals (ks.map fun p => V.ref p.1) us → us = ks.map fun p => Value.ref p.1
  | [], _, h => by cases h; rfl
  | k :: ks, _, h => by
    have h : Vals (V.ref k.1 :: ks.map fun p => V.ref p.1) _ := h
    cases h with
    | cons h1 h2 =>
      cases h1
      rw [vals_refsN h2, List.map_cons]
def tLenSetL (K : Fg) (ta : TE) : TE := fun σ H Q => ta σ H fun x H1 => ∃ (p : Addr) (vs : List V) (L : List Lg), x = .ref p ∧ TupF H1 p vs ∧ RpAll K H1 vs (L.map en) ∧ L.Nodup ∧ L.length < 18 ∧ Q (.int (L.length : Nat)) H1
theorem pe_lenSetL {X : Cx} {a : Expr} {ta : TE} {p p2 q pos : Pos} (hu : X.A.units + 64 < cLine) (hg : Gl X "len") (hm : X.mg "len" = none) (hg2 : Gl X "set") (hm2 : X.mg "set" = none) (ha : PE X a ta) (hc : X.calm = true := by rfl)
    (na : starEach [a] X.env = (false, eval a X.env) :: starEach [] X.env := by rfl) : PE X (.Call (.Name "len" p) [.Call (.Name "set" p2) [a] [] q] [] pos) (tLenSetL X.K ta) := by
  refine ⟨fun pins s σ H Q I h => ?_⟩
  refine Call_ (ld_blt I hg hm boot_len ?_)
  refine callWith_builtin1 (args_cons ?_ rfl) rfl rfl
  refine Call_ (ld_blt I hg2 hm2 boot_set ?_)
  refine callWith_type1 (args_cons (thn (ha.run pins s σ H _ I h) fun v s1 ⟨x, H1, I1, r1, q1⟩ => args_nil ?_) na) na rfl
  obtain ⟨l, vs, L, rfl, hq, hr, hnd, hl, q1⟩ := q1
  cases r1
  obtain ⟨its, r, pl, hz⟩ := I1.tuple (TupF.sq (K := X.K) hq)
  obtain ⟨ks, rfl, e1, e2⟩ := rp_logs I1 (Ex.rfl' _) hr
  have hk : ks.length = L.length := by
    have := congrArg List.length e1
    rwa [List.length_map, List.length_map] at this
  have e3 := vals_refsN r
  obtain ⟨o, g1, g2, n, g3⟩ := pl
  refine call_setN ks (I1.ok.hd hc) ⟨o, g1, g2, n, g3⟩ (by simpa using e3) e2 (by rw [e1]; exact nodup_map_on hnd fun a _ b _ h => nkL_inj h) (by omega) (by omega) fun h' tk L' es ep t hS pm hk' => ?_
  refine args_nil ?_
  obtain ⟨o2, ho, hex, hd⟩ := hS.ob
  have hn : es.size = L.length := by rw [rows_size hS.rows, pm.length_eq, hk]
  have hf := fits_of (es := es) hS.tab (by rw [List.length_map]; exact rows_size hS.rows) (by
    rw [List.length_map]
    have := hS.room
    omega)
  have I2 : Inv X pins σ H1 { s1 with heap := h', toks := tk } := I1.kept hk'
  exact call_len_set ho hex hd hf (by rw [hn]; omega) ⟨.int (L.length : Nat), H1, I2.tok _, ⟨_, by rw [hn]⟩, q1⟩
theorem tv_lenSetL {K : Fg} {Γ : En} {te : TE} {L : List Lg} (h : EvC K Γ te (en L)) (hn : L.Nodup) (hl : L.length < 18) : EvG K Γ (tLenSetL K te) (.int L.length) := fun F B σ H E Q q => h F B σ H E _ fun v H1 e1 r1 => by
  obtain ⟨p, vs, rfl, h1, h2⟩ := RpC.tup r1
  exact ⟨p, vs, L, rfl, h1.up cut_ex, h2.up cut_ex, hn, hl, q _ H1 e1 (.int _)⟩
section
variable {X : Cx} (K : Fg) (hK : X.K = K)
include hK
theorem pe_lenSetD (hu : X.A.units + 64 < cLine) {a : Expr} {ta : TE} {p p2 q pos : Pos} (hg : Gl X "len") (hm : X.mg "len" = none) (hg2 : Gl X "set") (hm2 : X.mg "set" = none) (ha : PE X a ta) (hc : X.calm = true := by rfl)
    (na : starEach [a] X.env = (false, eval a X.env) :: starEach [] X.env := by rfl) : PE X (.Call (.Name "len" p) [.Call (.Name "set" p2) [a] [] q] [] pos) (tLenSetL K ta) := hK ▸ pe_lenSetL hu hg hm hg2 hm2 ha hc na
end
end K97
set_option Elab.async false
set_option linter.all false
set_option maxRecDepth 100000
set_option maxHeartbeats 4000000
/-! K97: the law's look at snapshots. -/
namespace K97
open Dt (en)
open PySem L2
theorem eqv_O {α : Type} [Dt α] (o : Option α) : PyData.eqv (enO o) (enO o) = true := by
  cases o with
  | none => rfl
  | some x => exact (Dt.ev x x).mpr rfl
theorem plain_O {α : Type} [Dt α] (o : Option α) : (enO o).plain = true := by
  cases o with
  | none => rfl
  | some x => exact Dt.pl x
theorem depth_O (o : Option Lg) : (enO o).depth ≤ 60 := by
  cases o with
  | none => simp [enO, PyData.depth]
  | some x => exact Nat.le_trans (Dt.dp x) (by decide)
section
variable {P : Program} {w : World} {K : Fg} {mg : Str → Option Value} {base : Heap} {tk : Nat → Tok}
abbrev SnA := List Str × Tb × List Lg × List Lg × Lg
def R__law_snapshot_right := Rel (A := SnA) (fun a => RS a.1 a.2.1 a.2.2.1 a.2.2.2.1 a.2.2.2.2 ∧ mStuck a.2.2.1 = none ∧ a.2.2.1 ≠ []) (fun a => [en a.2.2.1, en a.2.2.2.1, en a.2.2.2.2, .dict (dTb a.2.1)]) fun _ => .bool true
theorem ok__law_snapshot_right (T : Tx mg tk) (t : Txt1 K mg "_law_snapshot_right" (topS 93) ["_law_family", "_law_others", "_law_values_here", "_law_table"]) (h__law_moved : Has P w K mg base "_law_moved" 3 ["_law_table", "_law_shown"] (SpD K R__law_moved)) (h__law_named : Has P w K mg base "_law_named" 2 ["_law_table", "_law_entry"] (SpD K R__law_named)) (h__law_set : Has P w K mg base "_law_set" 1 ["_law_table", "_law_cells_here"] (SpD K R__law_set)) (h_certain_reads : Has P w K mg base "certain_reads" 9 ["logs", "snapshot"] (SpD K R_certain_reads)) (h_evidence_certain : Has P w K mg base "evidence_certain" 10 ["logs", "snapshot", "cell"] (SpD K R_evidence_certain)) (h_hit : Has P w K mg base "hit" 9 ["logs", "snapshot"] (SpD K R_hit)) (h_possible_reads : Has P w K mg base "possible_reads" 9 ["logs", "snapshot"] (SpD K R_possible_reads)) (h_shows_certain : Has P w K mg base "shows_certain" 10 ["logs", "snapshot", "cell", "thing"] (SpD K R_shows_certain)) : Has P w K mg base "_law_snapshot_right" 11 ["_law_family", "_law_others", "_law_values_here", "_law_table"] (SpD K R__law_snapshot_right) := by
  have sc : FnScope ["_law_family", "_law_others", "_law_values_here", "_law_table", "_law_mine", "_law_told", "_law_sure", "_law_spot", "_law_shown"] ["_law_family", "_law_others", "_law_values_here", "_law_table"] (defScope (topS 93)) := ⟨rfl, rfl, rfl, by decide +kernel, rfl, by decide +kernel, by decide +kernel⟩
  refine has_rel t sc (fun a => rfl) (by decide) (fun f cdv A outer s H E hr => (pss_cons (ps_set (i := 4) sc.nd rfl (.inl rfl) (pe_has (h__law_named.up (by decide)) hr (by rfl) (pa_cons (pv 3) (pa_cons (pv 2) pa_nil))))
  (pss_cons (ps_par (i := 5) (j := 6) (by rfl) sc.nd rfl rfl (by decide) rfl rfl (pa_cons (pe_has (h_hit.up (by decide)) hr (by rfl) (pa_cons (pv 0) (pa_cons (pv 2) pa_nil))) (pa_cons (pe_has (h_certain_reads.up (by decide)) hr (by rfl) (pa_cons (pv 0) (pa_cons (pv 2) pa_nil))) pa_nil)) (by rfl))
  (pss_cons (ps_if (pt_cmpR (k_ne K rfl hr.units) (pe_has (h_hit.up (by decide)) hr (by rfl) (pa_cons (pv 1) (pa_cons (pv 4) pa_nil))) (pe_ifExp (pt_cmpR (op_isN1) (pv 5) pe_non (nomark _)) pe_non (pe_has (h__law_named.up (by decide)) hr (by rfl) (pa_cons (pv 3) (pa_cons (pv 5) pa_nil)))) (nomark _))
   (pss_one (ps_ret pe_bl))
   pss_nil)
  (pss_cons (ps_if (pt_cmpR (k_ne K rfl hr.units) (pe_has (h__law_set.up (by decide)) hr (by rfl) (pa_cons (pv 3) (pa_cons (pv 6) pa_nil))) (pe_has (h_certain_reads.up (by decide)) hr (by rfl) (pa_cons (pv 1) (pa_cons (pv 4) pa_nil))) (nomark _))
   (pss_one (ps_ret pe_bl))
   pss_nil)
  (pss_cons (ps_for PassesOwn.never rfl (k_piT K rfl (pv 6)) (pg_name (i := 7) sc.nd rfl (.inl rfl))
   (pss_cons (ps_set (i := 8) sc.nd rfl (.inl rfl) (pe_has (h__law_moved.up (by decide)) hr (by rfl) (pa_cons (pv 3) (pa_cons (pe_has (h_evidence_certain.up (by decide)) hr (by rfl) (pa_cons (pv 0) (pa_cons (pv 2) (pa_cons (pv 7) pa_nil)))) pa_nil))))
  (pss_one (ps_if (pt_cmpR (op_notBl) (pe_has (h_shows_certain.up (by decide)) hr (by rfl) (pa_cons (pv 1) (pa_cons (pv 4) (pa_cons (pe_ix (k_ix K rfl) (pe_dget (hu_of hr) (pv 3) (pv 7) (fun _ _ => rfl)) pe_int (fun _ _ => rfl)) (pa_cons (pv 8) pa_nil))))) pe_bl (nomark _))
   (pss_one (ps_ret pe_bl))
   pss_nil))))
  (pss_one (ps_ret (pe_cmpR (k_eq K rfl hr.units) (pe_has (h__law_set.up (by decide)) hr (by rfl) (pa_cons (pv 3) (pa_cons (pe_has (h_possible_reads.up (by decide)) hr (by rfl) (pa_cons (pv 0) (pa_cons (pv 2) pa_nil))) pa_nil))) (pe_has (h_possible_reads.up (by decide)) hr (by rfl) (pa_cons (pv 1) (pa_cons (pv 4) pa_nil))) (nomark _)))))))))) ?_
  intro a ha
  obtain ⟨cs, tb, L, L', s⟩ := a
  obtain ⟨h, st, ne⟩ : RS cs tb L L' s ∧ mStuck L = none ∧ L ≠ [] := ha
  obtain ⟨r1, r2⟩ := h.rds st ne
  have inC : ∀ {m : Lg}, OnC cs m → (∀ c ∈ cellsOf m, InTb tb c) ∧ m.length ≤ 1000 := fun {m} hm => ⟨fun c hc => h.T.inT c (hm.sub c hc), by have := hm.w.len; omega⟩
  have cl := mCells_len h.w
  have sub : ∀ c ∈ mCells L, c ∈ cs := (h.g.cells h.T).sub
  show StG K [.im (en L), .im (en L'), .im (en s), .im (.dict (dTb tb)), .no, .no, .no, .no, .no] _ _ _
  refine sg_then (sg_set (d := en (mNamed tb s)) (tv_call (tb, s) (ea_cons (ev_var rfl) (ea_one (ev_var rfl))) (inC h.on)) rfl rfl rfl) ?_
  refine sg_then (sg_par (d1 := enO (mHit L s)) (d2 := en (mSure L s)) (ea_cons (tv_call (L, s) (ea_cons (ev_var rfl) (ea_one (ev_var rfl))) r1) (ea_one (tv_call (L, s) (ea_cons (ev_var rfl) (ea_one (ev_var rfl))) r1))) rfl rfl rfl rfl (by decide) rfl) ?_
  refine sg_then (sg_if (a := false) (et_test ((ev_ne (d := enO (mHit L' (mNamed tb s))) (e := enO ((mHit L s).map (mNamed tb))) (tv_call (L', mNamed tb s) (ea_cons (ev_var rfl) (ea_one (ev_var rfl))) r2).c (ev_ifE (a := (mHit L s).isNone) (et_test (tv_isO (ev_var rfl).c)) (fun hb => ?_) fun hb => ?_).c (plain_O _) (plain_O _) (depth_O _)).cast ?_)) (fun z => nomatch z) fun _ => sg_next rfl) ?_
  · cases q : mHit L s with
    | none => exact ev_non
    | some l => rw [q] at hb; cases hb
  · cases q : mHit L s with
    | none => rw [q] at hb; cases hb
    | some l =>
      have hl := List.mem_of_find?_eq_some q
      have hv : EvG K [.im (en L), .im (en L'), .im (en s), .im (.dict (dTb tb)), .im (en (mNamed tb s)), .im (enO (some l)), .im (en (mSure L s)), .no, .no] (tVar 5) (en l) := ev_var rfl
      exact tv_call (tb, l) (ea_cons (ev_var rfl) (ea_one hv)) (inC (h.g.on l hl))
  · rw [h.hit st, eqv_O]
    rfl
  refine sg_then (sg_if (a := false) (et_test ((tv_ne (α := List Str) (x := mSet tb (mSure L s)) (y := mSure L' (mNamed tb s)) (tv_call (tb, mSure L s) (ea_cons (ev_var rfl) (ea_one (ev_var rfl))) ⟨fun c hc => h.T.inT c (h.sureR.sub c hc), ?_⟩).c (tv_call (L', mNamed tb s) (ea_cons (ev_var rfl) (ea_one (ev_var rfl))) r2).c).cast (by rw [h.sure]; simp))) (fun z => nomatch z) fun _ => sg_next rfl) ?_
  · exact Nat.le_trans (List.length_filter_le ..) cl
  refine sg_forW (fun _ => [.im (en L), .im (en L'), .im (en s), .im (.dict (dTb tb)), .im (en (mNamed tb s)), .im (enO (mHit L s)), .im (en (mSure L s)), .no, .no]) (tv_it (ev_var rfl)) (Wk.rfl' _) (fun i d hd => ?_) ?_
  · rw [List.getElem?_map] at hd
    obtain ⟨c, hci, rfl⟩ := Option.map_eq_some_iff.mp hd
    have hc : c ∈ mSure L s := List.mem_of_getElem? hci
    have hcc : c ∈ mCells L ∧ mCertain L s c = true := List.mem_filter.mp hc
    have hcs := sub c hcc.1
    have hcn := mCw_cn (s := s) (a := c) h.w
    have ev := h.evid hc ((stuck_iff h.w.nd).mp st)
    refine ⟨_, _, tg_name (j := 7) rfl rfl, ?_⟩
    refine sg_then (sg_set (d := en (mMoved tb (mEvidC L s c))) (tv_call (tb, mEvidC L s c) (ea_cons (ev_var rfl) (ea_one (tv_call (L, s, c) (ea_cons (ev_var rfl) (ea_cons (ev_var rfl) (ea_one (ev_var rfl)))) ⟨r1, hcc.1, hcc.2⟩))) ⟨fun d hd => ?_, ?_, ?_, fun x hx => ?_⟩) rfl rfl rfl) ?_
    · exact h.T.inT d (sub d (hcn.sub d (mem_dsort.mp hd)))
    · show (dsort (mCw L s c).1).length ≤ 10000
      rw [len_dsort]
      exact Nat.le_trans hcn.len cl
    · show ((mOut L (mCw L s c).1 c).map fun d => (d, mWit (mCw L s c).2 d)).length ≤ 10000
      rw [List.length_map]
      exact Nat.le_trans (List.length_filter_le ..) cl
    · obtain ⟨d, hd, rfl⟩ := List.mem_map.mp hx
      obtain ⟨g1, g2, g3⟩ := mem_out.mp hd
      have hne : (mCw L s c).2 ≠ [] := fun z => by
        have := hcc.2
        unfold mCertain at this
        rw [z] at this
        simp at this
      obtain ⟨w1, _⟩ := wit_ok (cw_lacks h.w hne g2 g3)
      exact ⟨h.T.inT d (sub d g1), inC (h.g.on _ (hcn.gs.subset w1))⟩
    refine sg_if (a := false) (et_test ((ev_notB (a := true) (b := true) (tv_call (L', mNamed tb s, mName tb c, mMoved tb (mEvidC L s c)) (ea_cons (ev_var rfl) (ea_cons (ev_var rfl) (ea_cons (tv_tbname (ev_var rfl).c (ev_var rfl) (h.T.inT c hcs)) (ea_one (ev_var rfl))))) ⟨r2, ((h.g.cells h.T).mem _).mpr ⟨c, hcc.1, rfl⟩, ev⟩) ev_bl).cast rfl)) (fun z => nomatch z) fun _ => sg_next wk_ok
  · refine sg_ret ((tv_eq (α := List Str) (x := mSet tb (mPoss L s)) (y := mPoss L' (mNamed tb s)) (tv_call (tb, mPoss L s) (ea_cons (ev_var rfl) (ea_one (tv_call (L, s) (ea_cons (ev_var rfl) (ea_one (ev_var rfl))) r1))) ⟨fun c hc => ?_, ?_⟩).c (tv_call (L', mNamed tb s) (ea_cons (ev_var rfl) (ea_one (ev_var rfl))) r2).c).cast (by rw [h.poss]; simp)) rfl
    · obtain ⟨l, hl, hc⟩ := mem_poss.mp hc
      exact h.T.inT c ((h.reached (h.g.on l hl)).sub c hc)
    · show (dsort (mPossF L s L)).length ≤ 10000
      rw [len_dsort]
      have := poss_len (s := s) h.w L L.length (Nat.le_refl _)
      rwa [List.take_length] at this
end
end K97
set_option Elab.async false
set_option linter.all false
set_option maxRecDepth 100000
set_option maxHeartbeats 4000000
/-! K97: the law. -/
namespace K97
open Dt (en)
open PySem L2
section
variable {K : Fg} {F : Addr → Prop} {B : Hp} {Γ : En} {σ : L2.St} {H : Hp} {ts tu : TS} {te ta tb : TE} {N : En → Prop} {R : PyData → En → Prop} {PL PL' : List PyData → En → Prop}
theorem EvLX.mono (h : EvLX K Γ te PL) (hp : ∀ ds Γ', PL ds Γ' → PL' ds Γ') : EvLX K Γ te PL' := fun F B σ H E Q q => h F B σ H E Q fun ds Γ' p vs H' p1 => q ds Γ' p vs H' (hp _ _ p1)
/-- what changes is forgotten -/
theorem EnvR.forget {j : Nat} {e : Ent} (E : EnvR K F B Γ σ H) (h : Γ[j]? = some e) : EnvR K F B (Γ.set j .no) σ H ∧ Ex (frz F Γ σ H) (frz F (Γ.set j .no) σ H) := by
  have hj : j < Γ.length := (List.getElem?_eq_some_iff.mp h).1
  have back : ∀ {i : Nat} {f : Ent}, (Γ.set j .no)[i]? = some f → f ≠ .no → Γ[i]? = some f := fun {i f} h1 h2 => by
    by_cases w : j = i
    · subst w
      rw [List.getElem?_set_self hj] at h1
      exact absurd (Option.some.inj h1).symm h2
    · rw [List.getElem?_set_ne w] at h1
      exact h1
  have mn : ∀ {f : Ent}, f.mut = true → f ≠ .no := fun h z => by rw [z] at h; cases h
  have sub : ∀ a, mu (Γ.set j .no) σ a → mu Γ σ a := fun a ⟨i, f, h1, h2, h3⟩ => ⟨i, f, back h1 (mn h2), h2, h3⟩
  have ex : Ex (frz F Γ σ H) (frz F (Γ.set j .no) σ H) := cut_less fun a w => w.elim .inl fun w => .inr (sub a w)
  refine ⟨⟨by rw [List.length_set]; exact E.len, E.base, fun a w => E.low a (sub a w), fun a w => E.out a (sub a w), E.fin, fun i d q => ?_, fun i d q => ?_, fun i d q => ?_, fun i n q => E.bx i n (back q fun z => nomatch z), fun i k f g a h1 h2 h3 h4 h5 h6 => E.inj i k f g a (back h1 (mn h3)) (back h2 (mn h4)) h3 h4 h5 h6⟩, ex⟩
  · obtain ⟨v, h1, h2⟩ := E.im i d (back q fun z => nomatch z)
    exact ⟨v, h1, h2.up ex⟩
  · obtain ⟨p, vs, h1, h2, h3⟩ := E.ac i d (back q fun z => nomatch z)
    exact ⟨p, vs, h1, h2, h3.up ex⟩
  · obtain ⟨p, vs, h1, h2, h3⟩ := E.dc i d (back q fun z => nomatch z)
    exact ⟨p, vs, h1, h2, h3.up ex⟩
theorem sg_forget {j : Nat} (h : StG K Γ ts (fun Γ' => (∃ e, Γ'[j]? = some e) ∧ N (Γ'.set j .no)) R) : StG K Γ ts N R := fun F B D σ H E n r => h F B D σ H E (fun Γ' σ' H' ⟨⟨e, he⟩, hn⟩ E' x' => by
  obtain ⟨E2, x2⟩ := E'.forget he
  exact n _ σ' H' hn E2 (x'.tr x2)) r
/-- a list of three numbers of ours is the box -/
theorem sg_boxed {j : Nat} {x y z : Int} (h : Γ[j]? = some (.ac [.int x, .int y, .int z])) (g : ∀ p, StG K (Γ.set j (.bx (p, x, y, z))) ts N R) : StG K Γ ts N R := fun F B D σ H E n r => by
  obtain ⟨p, vs, s1, s2, s3⟩ := E.ac j _ h
  have hv : vs = [.int x, .int y, .int z] := by
    cases s3 with
    | cons a s3 =>
      cases s3 with
      | cons b s3 =>
        cases s3 with
        | cons c s3 =>
          cases s3
          cases a
          cases b
          cases c
          rfl
  subst hv
  have hu : upd H p (.lst [.int x, .int y, .int z]) = H := by
    funext a
    by_cases w : a = p
    · rw [w, upd_same, s2]
    · rw [upd_ne w]
  obtain ⟨E1, m1, x1⟩ := E.write (e' := .bx (p, x, y, z)) (o := .lst [.int x, .int y, .int z]) h s1 rfl rfl (fun _ z => nomatch z) (fun _ z => nomatch z) (fun n' z => by cases z; exact ⟨_, rfl, rfl, rfl⟩)
  rw [hu] at E1 x1
  exact g p F B D σ H E1 (fun Γ2 σ2 H2 a1 a2 a3 => n Γ2 σ2 H2 a1 a2 (x1.tr a3)) fun d Γ2 σ2 v H2 a1 a2 a3 => r d Γ2 σ2 v H2 a1 a2 (x1.tr a3)
abbrev rMax2 : List V → Hp → VK → Prop := fun xs H Q => ∃ i j, xs = [.int i, .int j] ∧ Q (.int (if j > i then j else i)) H
theorem ev_max2 {i j : Int} (ha : EvG K Γ ta (.int i)) (hb : EvG K Γ tb (.int j)) : EvG K Γ (tCB rMax2 (tCons ta (tCons tb tNil))) (.int (if j > i then j else i)) := fun F B σ H E Q q => ea_cons ha (ea_one hb) F B σ H E _ fun vs H1 e1 r1 => by
  cases r1 with
  | cons q1 r1 =>
    cases r1 with
    | cons q2 r1 =>
      cases r1
      cases q1
      cases q2
      exact ⟨i, j, rfl, q _ H1 e1 (.int _)⟩
theorem ev_neB {x y : Bool} (ha : EvC K Γ ta (.bool x)) (hb : EvC K Γ tb (.bool y)) (e : y = x) : EvG K Γ (tOp (rEqP K true) ta tb) (.bool false) := (ev_ne ha hb rfl rfl (by simp [PyData.depth])).cast (by
  subst e
  cases y <;> rfl)
end
/-- a def by its function object -/
theorem fn_rel {P : Program} {w : World} {K : Fg} {mg : Str → Option Value} {base : Heap} {x : Str} {st : Stmt} {f : Addr} {fd : FuncData} {k : Nat} {N ps : List Str} {t : TS} {A : Type} {pre : A → Prop} {args : A → List PyData} {res : A → PyData} (Fu : Fun K x x st f fd) (S : FnScope N ps (defScope st)) (hl : ∀ a, (args a).length = ps.length) (hN : ps.length ≤ N.length)
    (ph : ∀ (f : Addr) (cdv : Value) (A : Around) (outer : List Env) (s : Shared) (H : Hp) (E : XK), Room k (A.deeper (PyProof.Rows.envOfC x (defScope st) s.heap.objs.size f cdv)) → PSs (cxF P w K mg base N x st f cdv A outer s H E) (defBody st) t)
    (sem : ∀ a, pre a → StG K (ims N (args a)) t (fun _ => res a = .none) (fun d' _ => d' = res a)) : FnOk P w K mg base CX0 (k + 1) f fd ps (SpD K (Rel pre args res)) := by
  have hl2 : ∀ ds d, Rel pre args res ds d → ds.length = ps.length := fun ds d ⟨a, _, h, _⟩ => by rw [h]; exact hl a
  refine Fu.ok S (fun vs H Q E h => ?_) fun cdv A outer s H vs Q E hr h => ?_
  · obtain ⟨F, ds, d, _, r, hR, _⟩ := h
    rw [r.len]; exact hl2 ds d hR
  · obtain ⟨F, ds, d, hF, r, hR, q⟩ := h
    obtain ⟨a, h1, h2, h3⟩ := id hR
    subst h2 h3
    refine ⟨t, ph f cdv A outer s H E hr, sem a h1 F H _ (L2.start N vs) H (envR_start hF r (by rw [hl2 _ _ hR]; exact hN)) (fun Γ' σ' H' n E' x' => ?_) fun d' Γ' σ' v H' hd E' x' rv => ?_⟩
    · rw [n] at q
      exact q _ H' E'.base .non
    · rw [← hd] at q
      exact q v H' E'.base (rv.up (cut_less fun a z => .inl z))
theorem lgW_filter {l : Lg} (h : LgW l) (p : Str × Int → Bool) : LgW (l.filter p) := ⟨fun q hq => h.ok q (List.mem_filter.mp hq).1, List.Pairwise.sublist (List.Sublist.map (fun p : Str × Int => p.1) List.filter_sublist) h.up, Nat.le_trans (List.length_filter_le ..) h.lenS⟩
section
variable {P : Program} {w : World} {K : Fg} {mg : Str → Option Value} {base : Heap} {tk : Nat → Tok}
def R_law := Rel (A := List Int) (fun ns => ns.length ≤ 100000) (fun ns => [.list (ns.map en)]) fun _ => .bool true
theorem ok_law (T : Tx mg tk) {f : Addr} {fd : FuncData} (t : Fun K "law" "law" (topS 94) f fd) (h__law_box : Has P w K mg base "_law_box" 1 ["_law_script", "_law_k"] (SpN K R__law_box)) (h__law_cells : Has P w K mg base "_law_cells" 3 ["_law_box_here", "_law_count"] (SpXL K Pre__law_cells R__law_cells c__law_cells)) (h__law_log_right : Has P w K mg base "_law_log_right" 11 ["_law_box_here", "_law_family", "_law_others", "_law_entry", "_law_table"] (SpX K Pre__law_log_right R__law_log_right c__law_log_right)) (h__law_logs : Has P w K mg base "_law_logs" 11 ["_law_box_here", "_law_cells_here", "_law_budget"] (SpX K Pre__law_logs R__law_logs c__law_logs)) (h__law_loose : Has P w K mg base "_law_loose" 2 ["_law_box_here", "_law_cells_here", "_law_count"] (SpX K Pre__law_loose R__law_loose c__law_loose)) (h__law_named : Has P w K mg base "_law_named" 2 ["_law_table", "_law_entry"] (SpD K R__law_named)) (h__law_of : Has P w K mg base "_law_of" 2 ["_law_box_here", "_law_some"] (SpX K Pre__law_of R__law_of c__law_of)) (h__law_renaming : Has P w K mg base "_law_renaming" 4 ["_law_box_here", "_law_cells_here"] (SpX K Pre__law_renaming R__law_renaming c__law_renaming)) (h__law_snapshot : Has P w K mg base "_law_snapshot" 3 ["_law_box_here", "_law_family"] (SpX K Pre__law_snapshot R__law_snapshot c__law_snapshot)) (h__law_snapshot_right : Has P w K mg base "_law_snapshot_right" 11 ["_law_family", "_law_others", "_law_values_here", "_law_table"] (SpD K R__law_snapshot_right)) (h_can_add : Has P w K mg base "can_add" 7 ["logs", "log"] (SpD K R_can_add)) (h_has_reader : Has P w K mg base "has_reader" 5 ["logs"] (SpD K R_has_reader)) (h_is_stuck : Has P w K mg base "is_stuck" 3 ["logs"] (SpD K R_is_stuck)) : FnOk P w K mg base CX0 12 f fd ["_law_script"] (SpD K R_law) := by
  have sc : FnScope ["_law_script", "_law_k", "_law_box_here", "_law_cells_here", "_law_family", "_law_table", "_law_entry", "_law_others", "_law_turn", "_law_pair_here", "_law_values_here", "_law_more"] ["_law_script"] (defScope (topS 94)) := ⟨rfl, rfl, rfl, by decide +kernel, rfl, by decide +kernel, by decide +kernel⟩
  refine fn_rel t sc (fun a => rfl) (by decide) (fun f cdv A outer s H E hr => (pss_cons (ps_for PassesOwn.never rfl (pi_range1 (by rfl) T.b_range (pa_cons (pe_callB (call_max2 (by rfl)) (by rfl) T.b_max (by decide +kernel) (pa_cons pe_int (pa_cons (pe_callB (call_min2 (by rfl)) (by rfl) T.b_min (by decide +kernel) (pa_cons pe_int (pa_cons (pe_callB (k_len K rfl) (by rfl) T.b_len (by decide +kernel) (pa_cons (pv 0) pa_nil)) pa_nil))) pa_nil))) pa_nil)) (pg_name (i := 1) sc.nd rfl (.inl rfl))
   (pss_cons (ps_set (i := 2) sc.nd rfl (.inl rfl) (pe_has (h__law_box.up (by decide)) hr (by rfl) (pa_cons (pv 0) (pa_cons (pv 1) pa_nil))))
  (pss_cons (ps_set (i := 3) sc.nd rfl (.inr rfl) (pe_has (h__law_cells.up (by decide)) hr (by rfl) (pa_cons (pv 2) (pa_cons pe_int pa_nil))))
  (pss_cons (ps_set (i := 4) sc.nd rfl (.inl rfl) (pe_has (h__law_logs.up (by decide)) hr (by rfl) (pa_cons (pv 2) (pa_cons (pv 3) (pa_cons pe_int pa_nil)))))
  (pss_cons (ps_set (i := 5) sc.nd rfl (.inr rfl) (pe_has (h__law_renaming.up (by decide)) hr (by rfl) (pa_cons (pv 2) (pa_cons (pv 3) pa_nil))))
  (pss_cons (ps_set (i := 7) sc.nd rfl (.inl rfl) (pe_callTy (k_tup K rfl) (by rfl) T.b_tuple (by decide +kernel) (pa_cons (pe_callB (k_sorted K rfl hr.units) (by rfl) T.b_sorted (by decide +kernel) (pa_cons (pe_lc (own := [("_law_entry", 6)]) (by rfl) sc.nd (k_piT K rfl (pv 4)) (blkOk_by (by kernel_rfl)) (fun _ _ _ _ _ => (pg_name (i := 6) sc.nd rfl (.inl rfl))) (fun _ _ _ _ _ => pts_nil) (fun _ _ _ _ _ => (pe_has (h__law_named.up (by decide)) hr (by rfl) (pa_cons (pv 5) (pa_cons (pv 6) pa_nil))))) pa_nil)) pa_nil)))
  (pss_cons (ps_if (PW.pt (pw_or (pt_cmpR (k_ne K rfl hr.units) (pe_lenSetD K rfl hr.units (by rfl) T.b_len (by rfl) T.b_set (pv 7)) (pe_callB (k_len K rfl) (by rfl) T.b_len (by decide +kernel) (pa_cons (pv 4) pa_nil)) (nomark _)) (pw_or1 (pt_cmpR (k_ne K rfl hr.units) (pe_has (h_is_stuck.up (by decide)) hr (by rfl) (pa_cons (pv 4) pa_nil)) (pe_has (h_is_stuck.up (by decide)) hr (by rfl) (pa_cons (pv 7) pa_nil)) (nomark _)))))
   (pss_one (ps_ret pe_bl))
   pss_nil)
  (pss_cons (ps_if (pt_cmpR (k_ne K rfl hr.units) (pe_has (h_has_reader.up (by decide)) hr (by rfl) (pa_cons (pv 4) pa_nil)) (pe_has (h_has_reader.up (by decide)) hr (by rfl) (pa_cons (pv 7) pa_nil)) (nomark _))
   (pss_one (ps_ret pe_bl))
   pss_nil)
  (pss_one (ps_for PassesOwn.never rfl (pi_range1 (by rfl) T.b_range (pa_cons (pe_op op_mul pe_int (pe_callTy call_int1 (by rfl) T.b_int (by decide +kernel) (pa_cons (pe_has (h_has_reader.up (by decide)) hr (by rfl) (pa_cons (pv 4) pa_nil)) pa_nil))) pa_nil)) (pg_name (i := 8) sc.nd rfl (.inl rfl))
   (pss_cons (ps_set (i := 6) sc.nd rfl (.inl rfl) (pe_has (h__law_of.up (by decide)) hr (by rfl) (pa_cons (pv 2) (pa_cons (pv 4) pa_nil))))
  (pss_cons (ps_if (pt_not (pt_val (pe_has (h__law_log_right.up (by decide)) hr (by rfl) (pa_cons (pv 2) (pa_cons (pv 4) (pa_cons (pv 7) (pa_cons (pv 6) (pa_cons (pv 5) pa_nil))))))))
   (pss_one (ps_ret pe_bl))
   pss_nil)
  (pss_cons (ps_set (i := 10) sc.nd rfl (.inl rfl) (pe_callTy (k_tup K rfl) (by rfl) T.b_tuple (by decide +kernel) (pa_cons (pe_lc (own := [("_law_pair_here", 9)]) (by rfl) sc.nd (k_piT K rfl (pe_has (h__law_snapshot.up (by decide)) hr (by rfl) (pa_cons (pv 2) (pa_cons (pv 4) pa_nil)))) (blkOk_by (by kernel_rfl)) (fun _ _ _ _ _ => (pg_name (i := 9) sc.nd rfl (.inl rfl))) (fun _ _ _ _ _ => (pts_one (pt_cmpR (k_in K rfl hr.units) (pe_ix (k_ix K rfl) (pv 9) pe_int (fun _ _ => rfl)) (pv 3) (by rfl)))) (fun _ _ _ _ _ => (pv 9))) pa_nil)))
  (pss_cons (ps_if (pt_not (pt_val (pe_has (h__law_snapshot_right.up (by decide)) hr (by rfl) (pa_cons (pv 4) (pa_cons (pv 7) (pa_cons (pv 10) (pa_cons (pv 5) pa_nil)))))))
   (pss_one (ps_ret pe_bl))
   pss_nil)
  (pss_cons (ps_set (i := 11) sc.nd rfl (.inl rfl) (pe_ix (k_ix K rfl) (pe_has (h__law_loose.up (by decide)) hr (by rfl) (pa_cons (pv 2) (pa_cons (pv 3) (pa_cons pe_int pa_nil)))) pe_int (fun _ _ => rfl)))
  (pss_one (ps_if (pt_cmpR (k_ne K rfl hr.units) (pe_has (h_can_add.up (by decide)) hr (by rfl) (pa_cons (pv 4) (pa_cons (pv 11) pa_nil))) (pe_has (h_can_add.up (by decide)) hr (by rfl) (pa_cons (pv 7) (pa_cons (pe_has (h__law_named.up (by decide)) hr (by rfl) (pa_cons (pv 5) (pa_cons (pv 11) pa_nil))) pa_nil))) (nomark _))
   (pss_one (ps_ret pe_bl))
   pss_nil)))))))))))))))))
  (pss_one (ps_ret pe_bl)))) ?_
  intro a ha
  have hns : a.length ≤ 100000 := ha
  refine sg_forW (fun _ => [.im (.list (a.map en)), .no, .no, .no, .no, .no, .no, .no, .no, .no, .no, .no]) (it_rng (n := max 1 (min 2 a.length)) (ea_one ((ev_max2 ev_int (ev_min2 ev_int (ev_lenL (ev_var rfl).c))).cast ?_)) (by omega)) (Wk.rfl' _) (fun i d hd => ?_) (sg_ret ev_bl rfl)
  · rw [List.length_map]
    congr 1
    split <;> split at * <;> omega
  have hi : i ≤ 1 := by
    have := (List.getElem?_eq_some_iff.mp hd).1
    rw [List.length_map, List.length_range] at this
    omega
  have hdi : d = .int i := by
    rw [List.getElem?_map] at hd
    obtain ⟨k, hk, rfl⟩ := Option.map_eq_some_iff.mp hd
    have := List.getElem?_eq_some_iff.mp hk
    obtain ⟨h1, h2⟩ := this
    rw [List.getElem_range] at h2
    rw [h2]
  subst hdi
  refine ⟨_, _, tg_name (j := 1) rfl rfl, sg_forget (j := 2) ?_⟩
  -- the box
  refine sg_seq (N1 := fun Γ' => ∃ x y : Int, (0 ≤ x ∧ 0 ≤ y ∧ y < 2305843009213693951) ∧ Γ' = [.im (.list (a.map en)), .im (.int i), .ac [.int x, .int y, .int 0], .no, .no, .no, .no, .no, .no, .no, .no, .no]) (sg_setLX (EvLX.mono (el_callN (ds := [.list (a.map en), .int i]) (ea_cons (ev_var rfl) (ea_one (ev_var rfl))) ⟨[.int 0, .int 0, .int 0], a, i, 0, 0, rfl, rfl, by decide, by decide, by decide, hns, hi⟩) fun es Γ' hh => ?_)) ?_
  · obtain ⟨⟨ns, k, x, y, _, rfl, h1, h2, h3, _⟩, rfl⟩ := hh
    exact ⟨⟨.no, rfl, rfl⟩, x, y, ⟨h1, h2, h3⟩, rfl⟩
  rintro _ ⟨x, y, ⟨hx, hy, hy2⟩, rfl⟩
  refine sg_boxed (j := 2) rfl fun p => ?_
  have k0 : BxK 0 (p, x, y, 0) := ⟨hx, hy, hy2, Int.le_refl _, Int.le_refl _⟩
  -- the cells
  refine sg_seq (N1 := fun Γ' => ∃ (b : Bx) (cs : List Str), Γ' = [.im (.list (a.map en)), .im (.int i), .bx b, .ac (cs.map en), .no, .no, .no, .no, .no, .no, .no, .no] ∧ BxK 11 b ∧ cs.length = 5 ∧ cs.Nodup ∧ ∀ c ∈ cs, CellOk c) (sg_setLX (x_callBL (i := 2) rfl ((ea_one ev_int).x ⟨rfl, (p, x, y, 0), 0, rfl, rfl, k0, by decide, fun es b' hh e1 k1 => ?_⟩))) ?_
  · obtain ⟨cs, rfl, h1, h2, h3⟩ := hh
    exact ⟨⟨.no, rfl, rfl⟩, b', cs, rfl, k1, h1, h2, h3⟩
  rintro _ ⟨b1, cs, rfl, k1, hc5, hcn, hco⟩
  refine sg_freeze (j := 3) rfl ?_
  have five : Five cs := ⟨Nat.le_of_eq hc5, hcn, hco⟩
  -- the logs
  refine sg_seq (N1 := fun Γ' => ∃ (b : Bx) (L : List Lg), Γ' = [.im (.list (a.map en)), .im (.int i), .bx b, .im (.list (cs.map en)), .im (en L), .no, .no, .no, .no, .no, .no, .no] ∧ BxK 2011 b ∧ Over cs L ∧ L ≠ [] ∧ L.length ≤ 8) (sg_setX (x_callB (i := 2) rfl ((ea_cons (ev_var rfl) (ea_one ev_int)).x ⟨⟨cs, 8, rfl, five, by decide, by decide⟩, b1, 11, rfl, rfl, k1, (by show 11 + 2000 ≤ 1000000000; decide), fun d b' hh e1 k2 => ?_⟩))) ?_
  · obtain ⟨cs', m, L, eq, rfl, h1, h2, h3⟩ := hh
    have e1 := (List.cons.inj eq).1
    have e2 := (List.cons.inj (List.cons.inj eq).2).1
    obtain rfl : cs = cs' := str_map_inj (PyData.list.inj e1)
    have e2 : (8 : Int) = (m : Int) := PyData.int.inj e2
    exact ⟨⟨.no, rfl, rfl⟩, b', L, rfl, k2, h1, h2, by omega⟩
  rintro _ ⟨b2, L, rfl, k2, ov, ne, hL⟩
  -- the renaming
  refine sg_seq (N1 := fun Γ' => ∃ (b : Bx) (tb : Tb), Γ' = [.im (.list (a.map en)), .im (.int i), .bx b, .im (.list (cs.map en)), .im (en L), .im (.dict (dTb tb)), .no, .no, .no, .no, .no, .no] ∧ BxK 2037 b ∧ TbOk cs tb) (sg_setX (x_callB (i := 2) rfl ((ea_one (ev_var rfl)).x ⟨⟨cs, rfl, five, hc5⟩, b2, 2011, rfl, rfl, k2, (by show 2011 + 26 ≤ 1000000000; decide), fun d b' hh e1 k3 => ?_⟩))) ?_
  · obtain ⟨cs', tb, eq, rfl, h1⟩ := hh
    obtain rfl : cs = cs' := str_map_inj (PyData.list.inj (List.cons.inj eq).1)
    exact ⟨⟨.no, rfl, rfl⟩, b', tb, rfl, k3, h1⟩
  rintro _ ⟨b3, tb, rfl, k3, htb⟩
  have T := htb.rn
  have on : ∀ l ∈ L, OnC cs l := fun l hl => ⟨ov.w.ok l hl, ov.sub l hl⟩
  have g := GR.mk' T on ov.w.nd
  have gw := g.w' T ov.w.len
  have gl := g.len T
  have inC : ∀ {l : Lg}, OnC cs l → (∀ c ∈ cellsOf l, InTb tb c) ∧ l.length ≤ 1000 := fun {l} hl => ⟨fun c hc => T.inT c (hl.sub c hc), by have := hl.w.len; omega⟩
  have l5 : ∀ l ∈ L, l.length ≤ 5 := fun l hl => by
    have h2 := nodup_sub (ov.w.ok l hl).up.nodup (ov.sub l hl)
    rw [List.length_map] at h2
    omega
  -- the family renamed
  refine sg_then (sg_set (i := 7) (d := en (dsort (L.map (mNamed tb)))) (tv_tup (tv_sortL (xs := L.map (mNamed tb)) ((tv_lm en L (f := fun l => en (mNamed tb l)) (tv_it (ev_var rfl)) (fun l _ => tg_name rfl rfl) (fun l hl => tv_call (tb, l) (ea_cons (ev_var rfl) (ea_one (ev_var rfl))) (inC (on l hl))) (by omega)).cast (by rw [List.map_map]; rfl)).c (by rw [List.length_map]; omega)).c) rfl rfl rfl) ?_
  generalize hL' : dsort (L.map (mNamed tb)) = L' at *
  refine sg_then (sg_if (a := false) (et_or (a := false) (b := false) (et_test ((tv_ne (α := Int) (x := (L'.length : Int)) (y := (L.length : Int)) (tv_lenSetL (ev_var rfl).c g.nd' (by omega)).c (tv_len (ev_var rfl).c).c).cast (by rw [gl]; simp))) fun _ => et_test (ev_neB (tv_call L (ea_one (ev_var rfl)) ov.w).c (tv_call L' (ea_one (ev_var rfl)) gw).c (g.stuck T))) (fun z => nomatch z) fun _ => sg_next rfl) ?_
  refine sg_then (sg_if (a := false) (et_test (ev_neB (tv_call L (ea_one (ev_var rfl)) ov.w).c (tv_call L' (ea_one (ev_var rfl)) gw).c (g.reader T))) (fun z => nomatch z) fun _ => sg_next rfl) ?_
  -- the turns
  refine sg_forXQ (α := Bx) (ItG.x (pr := false) (ds := (List.range (3 * (if (decide (0 < L.length) && (mStuck L).isNone) then 1 else 0))).map fun (i : Nat) => PyData.int (i : Int)) ?_ ⟨fun b => [.im (.list (a.map en)), .im (.int i), .bx b, .im (.list (cs.map en)), .im (en L), .im (.dict (dTb tb)), .no, .im (en L'), .no, .no, .no, .no], fun m b => BxK (2037 + 123 * m) b, b3, wk_ok, k3, ?_, ?_⟩)
  · refine it_rng (ea_one ((ev_I ev_int (ev_intB (tv_call L (ea_one (ev_var rfl)) ov.w)) (.inl ⟨by decide, by decide⟩) fun H => .int _).cast ?_)) (by split <;> omega)
    split <;> rfl
  · rintro m d b hd k4
    have hm2 := (List.getElem?_eq_some_iff.mp hd).1
    rw [List.length_map, List.length_range] at hm2
    have hst : mStuck L = none ∧ m < 3 := by
      split at hm2
      · rename_i hb
        rw [Bool.and_eq_true] at hb
        exact ⟨Option.isNone_iff_eq_none.mp hb.2, by omega⟩
      · omega
    obtain ⟨hst, hm3⟩ := hst
    have k4 : BxK (2037 + 123 * m) b := k4
    refine ⟨_, _, tg_name (j := 8) rfl rfl, ?_⟩
    -- the entry
    refine sg_seq (N1 := fun Γ' => ∃ (b' : Bx) (l : Lg), Γ' = [.im (.list (a.map en)), .im (.int i), .bx b', .im (.list (cs.map en)), .im (en L), .im (.dict (dTb tb)), .im (en l), .im (en L'), .im d, .no, .no, .no] ∧ BxK (2037 + 123 * m + 1) b' ∧ l ∈ L) (sg_setX (x_of (s := en L) (i := 2) rfl k4 (by omega) (ev_var rfl) (by show L.map en ≠ []; exact fun z => ne (List.map_eq_nil_iff.mp z)) (by show (L.map en).length ≤ 1000; rw [List.length_map]; omega) fun d' b' hd' e1 k5 => ?_)) ?_
    · have hd' : d' ∈ L.map en := hd'
      obtain ⟨l, hl, rfl⟩ := List.mem_map.mp hd'
      exact ⟨⟨.no, rfl, rfl⟩, b', l, rfl, k5, hl⟩
    rintro _ ⟨b4, l, rfl, k5, hl⟩
    have rg : RG cs tb L L' l := ⟨T, g, hl, ov.w⟩
    refine sg_seq (N1 := fun Γ' => ∃ b' : Bx, Γ' = [.im (.list (a.map en)), .im (.int i), .bx b', .im (.list (cs.map en)), .im (en L), .im (.dict (dTb tb)), .im (en l), .im (en L'), .im d, .no, .no, .no] ∧ BxK (2037 + 123 * m + 3) b') (sg_ifX (xt_not (xt_test (x_callB (i := 2) rfl ((ea_cons (ev_var rfl) (ea_cons (ev_var rfl) (ea_cons (ev_var rfl) (ea_one (ev_var rfl))))).x ⟨⟨cs, tb, L, L', l, rfl, rg, hst, l5 l hl⟩, b4, 2037 + 123 * m + 1, rfl, rfl, k5, (by show 2037 + 123 * m + 1 + 2 ≤ _; omega), fun d' b' hh e1 k6 => ⟨true, hh, And.intro (fun z => nomatch z) fun _ => sg_next ⟨b', rfl, k6⟩⟩⟩))))) ?_
    rintro _ ⟨b5, rfl, k6⟩
    -- the snapshot
    refine sg_seq (N1 := fun Γ' => ∃ (b' : Bx) (s : Lg), Γ' = [.im (.list (a.map en)), .im (.int i), .bx b', .im (.list (cs.map en)), .im (en L), .im (.dict (dTb tb)), .im (en l), .im (en L'), .im d, .no, .im (en s), .no] ∧ BxK (2037 + 123 * m + 23) b' ∧ RS cs tb L L' s) (sg_setX (x_cb (P1 := fun d' Γ' => ∃ (b' : Bx) (s : Lg), d' = .list (s.map en) ∧ Γ' = [.im (.list (a.map en)), .im (.int i), .bx b', .im (.list (cs.map en)), .im (en L), .im (.dict (dTb tb)), .im (en l), .im (en L'), .im d, .no, .no, .no] ∧ BxK (2037 + 123 * m + 23) b' ∧ RS cs tb L L' s) (EvLX.g (PL := fun es Γ' => ∃ (b' : Bx) (s : Lg), es = s.map en ∧ Γ' = [.im (.list (a.map en)), .im (.int i), .bx b', .im (.list (cs.map en)), .im (en L), .im (.dict (dTb tb)), .im (en l), .im (en L'), .im d, .no, .no, .no] ∧ BxK (2037 + 123 * m + 23) b' ∧ RS cs tb L L' s) (el_lcX (ix_tup (x_callB (i := 2) rfl ((ea_one (ev_var rfl)).x ⟨⟨cs, L, rfl, five, ov, ne, by omega⟩, b5, 2037 + 123 * m + 3, rfl, rfl, k6, (by show 2037 + 123 * m + 3 + 20 ≤ _; omega), fun d' b' hh e1 k7 => ?_⟩)))) fun es Γ' hh => ?_) ?_)) ?_
    · obtain ⟨L2, s0, eq, rfl, hw, hcov⟩ := hh
      obtain rfl : L = L2 := en_inj (List.cons.inj eq).1
      have hz := hw.len
      refine ⟨_, rfl, fun k acc Γ' => acc = ((s0.take k).filter fun p => decide (p.1 ∈ cs)).map en ∧ Γ' = [.im (.list (a.map en)), .im (.int i), .bx b', .im (.list (cs.map en)), .im (en L), .im (.dict (dTb tb)), .im (en l), .im (en L'), .im d, .no, .no, .no], ⟨nm_cons rfl rfl nm_nil, rfl, by rw [List.length_map]; omega, ⟨rfl, rfl⟩, ?_, ?_⟩⟩
      · rintro k x acc _ hk ⟨rfl, rfl⟩
        rw [List.getElem?_map] at hk
        obtain ⟨q, hq, rfl⟩ := Option.map_eq_some_iff.mp hk
        have htk : s0.take (k + 1) = s0.take k ++ [q] := by rw [List.take_add_one, hq]; rfl
        refine ⟨?_, _, _, tg_name (j := 9) rfl rfl, by decide, (et_test (tv_inL (x := q.1) (xs := cs) (tv_pr1 (ev_var rfl).c).c (ev_var rfl).c)).x ⟨fun hb => (ev_var rfl).x ⟨nm_cons rfl rfl nm_nil, ?_, rfl⟩, fun hb => ⟨nm_cons rfl rfl nm_nil, ?_, rfl⟩⟩⟩
        · rw [List.length_map]
          have h1 := List.length_filter_le (fun p : Str × Int => decide (p.1 ∈ cs)) (s0.take k)
          have h2 : (s0.take k).length ≤ k := List.length_take_le ..
          omega
        · rw [htk, List.filter_append, List.filter_cons, if_pos hb, List.map_append]
          rfl
        · rw [htk, List.filter_append, List.filter_cons, if_neg (by rw [hb]; exact Bool.false_ne_true), List.filter_nil, List.append_nil]
      · rintro acc _ ⟨rfl, rfl⟩
        refine ⟨fun v hv => by rw [List.mem_singleton.mp hv]; rfl, b', s0.filter fun p => decide (p.1 ∈ cs), by rw [List.length_map, List.take_length], rfl, k7, T, g, ⟨lgW_filter hw _, fun c hc => ?_⟩, ov.w, fun l2 h2 c hc => ?_⟩
        · obtain ⟨q, hq, rfl⟩ := List.mem_map.mp hc
          exact of_decide_eq_true (List.mem_filter.mp hq).2
        · have h3 := lkp_mem.mp (hcov l2 h2 c hc)
          obtain ⟨q, hq, rfl⟩ := List.mem_map.mp h3
          exact lkp_mem.mpr (List.mem_map_of_mem (f := fun p : Str × Int => p.1) (List.mem_filter.mpr ⟨hq, decide_eq_true (ov.sub l2 h2 _ hc)⟩))
    · obtain ⟨b', s, rfl, rfl, q⟩ := hh
      exact ⟨b', s, rfl, rfl, q⟩
    · rintro d' _ ⟨b', s, rfl, rfl, k7, hs⟩
      exact ⟨.tuple (s.map en), ⟨⟨.no, rfl, rfl⟩, b', s, rfl, k7, hs⟩, tv_tup (ev_var rfl).c⟩
    rintro _ ⟨b6, s, rfl, k7, hs⟩
    refine sg_then (sg_if (a := false) (et_not (b := true) (et_test (tv_call (cs, tb, L, L', s) (ea_cons (ev_var rfl) (ea_cons (ev_var rfl) (ea_cons (ev_var rfl) (ea_one (ev_var rfl))))) ⟨hs, hst, ne⟩))) (fun z => nomatch z) fun _ => sg_next rfl) ?_
    -- one log more
    refine sg_seq (N1 := fun Γ' => ∃ (b' : Bx) (l2 : Lg), Γ' = [.im (.list (a.map en)), .im (.int i), .bx b', .im (.list (cs.map en)), .im (en L), .im (.dict (dTb tb)), .im (en l), .im (en L'), .im d, .no, .im (en s), .im (en l2)] ∧ BxK (2037 + 123 * m + 123) b' ∧ OnC cs l2) (sg_setX (x_op (P1 := fun d' Γ' => ∃ (b' : Bx) (l2 : Lg), d' = en [l2] ∧ Γ' = [.im (.list (a.map en)), .im (.int i), .bx b', .im (.list (cs.map en)), .im (en L), .im (.dict (dTb tb)), .im (en l), .im (en L'), .im d, .no, .im (en s), .no] ∧ BxK (2037 + 123 * m + 123) b' ∧ OnC cs l2) (x_callB (i := 2) rfl ((ea_cons (ev_var rfl) (ea_one ev_int)).x ⟨⟨cs, 1, rfl, five, by decide⟩, b6, 2037 + 123 * m + 23, rfl, rfl, k7, (by show 2037 + 123 * m + 23 + 100 ≤ _; omega), fun d' b' hh e1 k8 => ?_⟩)) fun d1 Γ1 hh => ?_)) ?_
    · obtain ⟨cs', k, M, eq, rfl, ho, hk, hne⟩ := hh
      have e1 := (List.cons.inj eq).1
      have e2 := (List.cons.inj (List.cons.inj eq).2).1
      obtain rfl : cs = cs' := str_map_inj (PyData.list.inj e1)
      have e2 : (1 : Int) = (k : Int) := PyData.int.inj e2
      have hne := hne (by omega)
      cases M with
      | nil => exact absurd rfl hne
      | cons l2 M =>
        cases M with
        | cons l3 M =>
          simp only [List.length_cons] at hk
          omega
        | nil => exact ⟨b', l2, rfl, rfl, k8, ho.w.ok l2 List.mem_cons_self, ho.sub l2 List.mem_cons_self⟩
    · obtain ⟨b', l2, rfl, rfl, k8, h2⟩ := hh
      exact ev_int.x ⟨en l2, ⟨⟨.no, rfl, rfl⟩, b', l2, rfl, k8, h2⟩, ev_ixT (ds := [en l2]) (ev_var rfl).c (ev_var rfl) rfl⟩
    rintro _ ⟨b7, l2, rfl, k8, h2⟩
    refine sg_if (a := false) (et_test (ev_neB (tv_call (L, l2) (ea_cons (ev_var rfl) (ea_one (ev_var rfl))) ⟨ov.w, hst, h2.w, by show L.length < 60; omega⟩).c (tv_call (L', mNamed tb l2) (ea_cons (ev_var rfl) (ea_one (tv_call (tb, l2) (ea_cons (ev_var rfl) (ea_one (ev_var rfl))) (inC h2)))) ⟨gw, (g.none T).mpr hst, named_w T h2, by show L'.length < 60; omega⟩).c ((g.with' T h2).reader T))) (fun z => nomatch z) fun _ => sg_next ⟨b7, k8.up (by omega), wk_ok⟩
  · rintro b k4
    exact sg_next ⟨⟨_, rfl⟩, wk_ok⟩
end
end K97
set_option Elab.async false
set_option linter.all false
set_option maxRecDepth 100000
set_option maxHeartbeats 4000000
/-! K97: the facts of the head, each def's promise in turn. -/
namespace K97
open Dt (en)
open PySem PySem.Spec PyProof.Rows L2
section
variable {P : Program} {w : World} {K : Fg} {h : Heap} {mg : Str → Option Value}
theorem fun_txt (X : K.In h) (G : h.Ns mainGlobals mg) {x : Str} {i : Nat} {f : Addr} {fd : FuncData} (F : FunD K x x (defArgs (topS i)) (defBody (topS i)) (defScope (topS i)) [] [] f fd) : Fun K x x (topS i) f fd := by
  obtain ⟨oc, od, dV, kV, doc, pm, an, cdv, ct, osl, rfl, lk, hcd, hD, hK⟩ := F.ex
  rcases hD with ⟨_, rfl⟩ | ⟨e, _⟩
  · exact ⟨⟨oc, od, kV, doc, pm, an, cdv, ct, osl, rfl, lk, hcd⟩, F.kp⟩
  · exact absurd rfl e
theorem mk_txt (X : K.In h) (G : h.Ns mainGlobals mg) {x : Str} {i : Nat} {ps : List Str} (g : (He.Fa.glo x).ok K = true) (D : ∃ fd, FunD K x x (defArgs (topS i)) (defBody (topS i)) (defScope (topS i)) [] [] (He.ga K x) fd)
    (hb : ∀ (kV doc pm : Value) (an : Option Addr) (cdv ct : Value) (us : List Value), us.length = ps.length → bindArgs (PySem.W.fnOf x x (defArgs (topS i)) (defBody (topS i)) (defScope (topS i)) .none kV doc pm an cdv ct) ⟨us, []⟩ = pure (ps.zip us)) : Txt1 K mg x (topS i) ps := by
  obtain ⟨fd, F⟩ := D
  have Fu := fun_txt X G F
  exact ⟨_, fd, He.glo_ok X G g, Fu, Fu.binds hb⟩
theorem mk_tx (X : K.In h) (G : h.Ns mainGlobals mg) (c : He.SaysD hFa hFn K) : ∃ tk, Tx mg tk := by
  obtain ⟨t0, e0⟩ := He.int_ok X G (c.fact 19 (f := .int "MOST_LETTERS" 8) rfl)
  obtain ⟨t1, e1⟩ := He.int_ok X G (c.fact 20 (f := .int "MOST_VALUE" 1000000000) rfl)
  obtain ⟨t2, e2⟩ := He.int_ok X G (c.fact 21 (f := .int "PAIR" 2) rfl)
  obtain ⟨t3, e3⟩ := He.int_ok X G (c.fact 22 (f := .int "MOST_COUNTED" 12) rfl)
  obtain ⟨t4, e4⟩ := He.int_ok X G (c.fact 23 (f := .int "PARTS_evidence" 2) rfl)
  obtain ⟨t5, e5⟩ := He.int_ok X G (c.fact 24 (f := .int "PARTS_avoiding" 2) rfl)
  obtain ⟨t6, e6⟩ := He.str_ok X G (c.fact 25 (f := .str "LETTERS" "abcdefghijklmnopqrstuvwxyz") rfl)
  refine ⟨fun i => match i with
    | 0 => t0
    | 1 => t1
    | 2 => t6
    | 3 => t2
    | 4 => t3
    | 5 => t4
    | _ => t5, ?_⟩
  exact ⟨He.free_ok X G (c.fact 0 (f := .free "len") rfl), He.free_ok X G (c.fact 1 (f := .free "all") rfl), He.free_ok X G (c.fact 2 (f := .free "any") rfl), He.free_ok X G (c.fact 3 (f := .free "sorted") rfl), He.free_ok X G (c.fact 4 (f := .free "tuple") rfl), He.free_ok X G (c.fact 5 (f := .free "list") rfl), He.free_ok X G (c.fact 6 (f := .free "dict") rfl), He.free_ok X G (c.fact 7 (f := .free "set") rfl), He.free_ok X G (c.fact 8 (f := .free "zip") rfl), He.free_ok X G (c.fact 9 (f := .free "enumerate") rfl), He.free_ok X G (c.fact 10 (f := .free "isinstance") rfl), He.free_ok X G (c.fact 11 (f := .free "range") rfl), He.free_ok X G (c.fact 12 (f := .free "sum") rfl), He.free_ok X G (c.fact 13 (f := .free "min") rfl), He.free_ok X G (c.fact 14 (f := .free "max") rfl), He.free_ok X G (c.fact 15 (f := .free "abs") rfl), He.free_ok X G (c.fact 16 (f := .free "int") rfl), He.free_ok X G (c.fact 17 (f := .free "str") rfl), He.free_ok X G (c.fact 18 (f := .free "bool") rfl), e0, e1, e6, e2, e3, e4, e5⟩
theorem txt__law_box (X : K.In h) (G : h.Ns mainGlobals mg) (c : He.SaysD hFa hFn K) : Txt1 K mg "_law_box" (topS 76) ["_law_script", "_law_k"] := mk_txt X G (c.fact 78 (f := .glo "_law_box") rfl) (c.def_ 52 (d := dD "_law_box" 76) rfl) fun _ _ _ _ _ _ us hl => match us, hl with | [_, _], _ => rfl
theorem txt__law_take (X : K.In h) (G : h.Ns mainGlobals mg) (c : He.SaysD hFa hFn K) : Txt1 K mg "_law_take" (topS 77) ["_law_box_here", "_law_upon"] := mk_txt X G (c.fact 79 (f := .glo "_law_take") rfl) (c.def_ 53 (d := dD "_law_take" 77) rfl) fun _ _ _ _ _ _ us hl => match us, hl with | [_, _], _ => rfl
theorem txt__law_of (X : K.In h) (G : h.Ns mainGlobals mg) (c : He.SaysD hFa hFn K) : Txt1 K mg "_law_of" (topS 78) ["_law_box_here", "_law_some"] := mk_txt X G (c.fact 80 (f := .glo "_law_of") rfl) (c.def_ 54 (d := dD "_law_of" 78) rfl) fun _ _ _ _ _ _ us hl => match us, hl with | [_, _], _ => rfl
theorem txt__law_cells (X : K.In h) (G : h.Ns mainGlobals mg) (c : He.SaysD hFa hFn K) : Txt1 K mg "_law_cells" (topS 79) ["_law_box_here", "_law_count"] := mk_txt X G (c.fact 81 (f := .glo "_law_cells") rfl) (c.def_ 55 (d := dD "_law_cells" 79) rfl) fun _ _ _ _ _ _ us hl => match us, hl with | [_, _], _ => rfl
theorem txt__law_pair (X : K.In h) (G : h.Ns mainGlobals mg) (c : He.SaysD hFa hFn K) : Txt1 K mg "_law_pair" (topS 88) ["_law_table", "_law_spot", "_law_value"] := mk_txt X G (c.fact 90 (f := .glo "_law_pair") rfl) (c.def_ 64 (d := dD "_law_pair" 88) rfl) fun _ _ _ _ _ _ us hl => match us, hl with | [_, _, _], _ => rfl
theorem txt__law_named (X : K.In h) (G : h.Ns mainGlobals mg) (c : He.SaysD hFa hFn K) : Txt1 K mg "_law_named" (topS 89) ["_law_table", "_law_entry"] := mk_txt X G (c.fact 91 (f := .glo "_law_named") rfl) (c.def_ 65 (d := dD "_law_named" 89) rfl) fun _ _ _ _ _ _ us hl => match us, hl with | [_, _], _ => rfl
theorem txt__law_set (X : K.In h) (G : h.Ns mainGlobals mg) (c : He.SaysD hFa hFn K) : Txt1 K mg "_law_set" (topS 90) ["_law_table", "_law_cells_here"] := mk_txt X G (c.fact 92 (f := .glo "_law_set") rfl) (c.def_ 66 (d := dD "_law_set" 90) rfl) fun _ _ _ _ _ _ us hl => match us, hl with | [_, _], _ => rfl
theorem txt__law_moved (X : K.In h) (G : h.Ns mainGlobals mg) (c : He.SaysD hFa hFn K) : Txt1 K mg "_law_moved" (topS 91) ["_law_table", "_law_shown"] := mk_txt X G (c.fact 93 (f := .glo "_law_moved") rfl) (c.def_ 67 (d := dD "_law_moved" 91) rfl) fun _ _ _ _ _ _ us hl => match us, hl with | [_, _], _ => rfl
theorem txt_parts_by (X : K.In h) (G : h.Ns mainGlobals mg) (c : He.SaysD hFa hFn K) : Txt1 K mg "parts_by" (topS 24) ["logs", "cell"] := mk_txt X G (c.fact 35 (f := .glo "parts_by") rfl) (c.def_ 9 (d := dD "parts_by" 24) rfl) fun _ _ _ _ _ _ us hl => match us, hl with | [_, _], _ => rfl
theorem txt_shared_cells (X : K.In h) (G : h.Ns mainGlobals mg) (c : He.SaysD hFa hFn K) : Txt1 K mg "shared_cells" (topS 20) ["logs"] := mk_txt X G (c.fact 32 (f := .glo "shared_cells") rfl) (c.def_ 6 (d := dD "shared_cells" 20) rfl) fun _ _ _ _ _ _ us hl => match us, hl with | [_], _ => rfl
theorem txt_splitting_cells (X : K.In h) (G : h.Ns mainGlobals mg) (c : He.SaysD hFa hFn K) : Txt1 K mg "splitting_cells" (topS 25) ["logs"] := mk_txt X G (c.fact 36 (f := .glo "splitting_cells") rfl) (c.def_ 10 (d := dD "splitting_cells" 25) rfl) fun _ _ _ _ _ _ us hl => match us, hl with | [_], _ => rfl
theorem txt_blocks (X : K.In h) (G : h.Ns mainGlobals mg) (c : He.SaysD hFa hFn K) : Txt1 K mg "blocks" (topS 27) ["logs"] := mk_txt X G (c.fact 38 (f := .glo "blocks") rfl) (c.def_ 12 (d := dD "blocks" 27) rfl) fun _ _ _ _ _ _ us hl => match us, hl with | [_], _ => rfl
theorem txt_stuck_block (X : K.In h) (G : h.Ns mainGlobals mg) (c : He.SaysD hFa hFn K) : Txt1 K mg "stuck_block" (topS 29) ["logs"] := mk_txt X G (c.fact 40 (f := .glo "stuck_block") rfl) (c.def_ 14 (d := dD "stuck_block" 29) rfl) fun _ _ _ _ _ _ us hl => match us, hl with | [_], _ => rfl
theorem txt_without (X : K.In h) (G : h.Ns mainGlobals mg) (c : He.SaysD hFa hFn K) : Txt1 K mg "without" (topS 30) ["logs", "at"] := mk_txt X G (c.fact 41 (f := .glo "without") rfl) (c.def_ 15 (d := dD "without" 30) rfl) fun _ _ _ _ _ _ us hl => match us, hl with | [_, _], _ => rfl
theorem txt_single_group (X : K.In h) (G : h.Ns mainGlobals mg) (c : He.SaysD hFa hFn K) : Txt1 K mg "single_group" (topS 31) ["logs"] := mk_txt X G (c.fact 42 (f := .glo "single_group") rfl) (c.def_ 16 (d := dD "single_group" 31) rfl) fun _ _ _ _ _ _ us hl => match us, hl with | [_], _ => rfl
theorem txt_check_reader (X : K.In h) (G : h.Ns mainGlobals mg) (c : He.SaysD hFa hFn K) : Txt1 K mg "check_reader" (topS 32) ["logs"] := mk_txt X G (c.fact 43 (f := .glo "check_reader") rfl) (c.def_ 17 (d := dD "check_reader" 32) rfl) fun _ _ _ _ _ _ us hl => match us, hl with | [_], _ => rfl
theorem txt_check_logs (X : K.In h) (G : h.Ns mainGlobals mg) (c : He.SaysD hFa hFn K) : Txt1 K mg "check_logs" (topS 33) ["logs"] := mk_txt X G (c.fact 44 (f := .glo "check_logs") rfl) (c.def_ 18 (d := dD "check_logs" 33) rfl) fun _ _ _ _ _ _ us hl => match us, hl with | [_], _ => rfl
theorem txt_is_cell (X : K.In h) (G : h.Ns mainGlobals mg) (c : He.SaysD hFa hFn K) : Txt1 K mg "is_cell" (topS 14) ["thing"] := mk_txt X G (c.fact 26 (f := .glo "is_cell") rfl) (c.def_ 0 (d := dD "is_cell" 14) rfl) fun _ _ _ _ _ _ us hl => match us, hl with | [_], _ => rfl
theorem txt_is_value (X : K.In h) (G : h.Ns mainGlobals mg) (c : He.SaysD hFa hFn K) : Txt1 K mg "is_value" (topS 15) ["thing"] := mk_txt X G (c.fact 27 (f := .glo "is_value") rfl) (c.def_ 1 (d := dD "is_value" 15) rfl) fun _ _ _ _ _ _ us hl => match us, hl with | [_], _ => rfl
theorem txt_is_pair (X : K.In h) (G : h.Ns mainGlobals mg) (c : He.SaysD hFa hFn K) : Txt1 K mg "is_pair" (topS 16) ["thing"] := mk_txt X G (c.fact 28 (f := .glo "is_pair") rfl) (c.def_ 2 (d := dD "is_pair" 16) rfl) fun _ _ _ _ _ _ us hl => match us, hl with | [_], _ => rfl
theorem txt_has_log_form (X : K.In h) (G : h.Ns mainGlobals mg) (c : He.SaysD hFa hFn K) : Txt1 K mg "has_log_form" (topS 17) ["thing"] := mk_txt X G (c.fact 29 (f := .glo "has_log_form") rfl) (c.def_ 3 (d := dD "has_log_form" 17) rfl) fun _ _ _ _ _ _ us hl => match us, hl with | [_], _ => rfl
theorem txt_check_log (X : K.In h) (G : h.Ns mainGlobals mg) (c : He.SaysD hFa hFn K) : Txt1 K mg "check_log" (topS 36) ["logs", "log"] := mk_txt X G (c.fact 45 (f := .glo "check_log") rfl) (c.def_ 19 (d := dD "check_log" 36) rfl) fun _ _ _ _ _ _ us hl => match us, hl with | [_, _], _ => rfl
theorem txt_agreeing (X : K.In h) (G : h.Ns mainGlobals mg) (c : He.SaysD hFa hFn K) : Txt1 K mg "agreeing" (topS 21) ["logs", "known"] := mk_txt X G (c.fact 33 (f := .glo "agreeing") rfl) (c.def_ 7 (d := dD "agreeing" 21) rfl) fun _ _ _ _ _ _ us hl => match us, hl with | [_, _], _ => rfl
theorem txt_group_after (X : K.In h) (G : h.Ns mainGlobals mg) (c : He.SaysD hFa hFn K) : Txt1 K mg "group_after" (topS 37) ["logs", "log", "done"] := mk_txt X G (c.fact 46 (f := .glo "group_after") rfl) (c.def_ 20 (d := dD "group_after" 37) rfl) fun _ _ _ _ _ _ us hl => match us, hl with | [_, _, _], _ => rfl
theorem txt_unread_shared (X : K.In h) (G : h.Ns mainGlobals mg) (c : He.SaysD hFa hFn K) : Txt1 K mg "unread_shared" (topS 23) ["logs", "done"] := mk_txt X G (c.fact 34 (f := .glo "unread_shared") rfl) (c.def_ 8 (d := dD "unread_shared" 23) rfl) fun _ _ _ _ _ _ us hl => match us, hl with | [_, _], _ => rfl
theorem txt_available (X : K.In h) (G : h.Ns mainGlobals mg) (c : He.SaysD hFa hFn K) : Txt1 K mg "available" (topS 38) ["logs", "log", "done"] := mk_txt X G (c.fact 47 (f := .glo "available") rfl) (c.def_ 21 (d := dD "available" 38) rfl) fun _ _ _ _ _ _ us hl => match us, hl with | [_, _, _], _ => rfl
theorem txt_read_without (X : K.In h) (G : h.Ns mainGlobals mg) (c : He.SaysD hFa hFn K) : Txt1 K mg "read_without" (topS 42) ["logs", "log", "avoid"] := mk_txt X G (c.fact 51 (f := .glo "read_without") rfl) (c.def_ 25 (d := dD "read_without" 42) rfl) fun _ _ _ _ _ _ us hl => match us, hl with | [_, _, _], _ => rfl
theorem txt_closure (X : K.In h) (G : h.Ns mainGlobals mg) (c : He.SaysD hFa hFn K) : Txt1 K mg "closure" (topS 43) ["logs", "log", "avoid"] := mk_txt X G (c.fact 52 (f := .glo "closure") rfl) (c.def_ 26 (d := dD "closure" 43) rfl) fun _ _ _ _ _ _ us hl => match us, hl with | [_, _, _], _ => rfl
theorem txt_count_orders (X : K.In h) (G : h.Ns mainGlobals mg) (c : He.SaysD hFa hFn K) : Txt1 K mg "count_orders" (topS 41) ["logs", "log"] := mk_txt X G (c.fact 50 (f := .glo "count_orders") rfl) (c.def_ 24 (d := dD "count_orders" 41) rfl) fun _ _ _ _ _ _ us hl => match us, hl with | [_, _], _ => rfl
theorem txt_has_cell (X : K.In h) (G : h.Ns mainGlobals mg) (c : He.SaysD hFa hFn K) : Txt1 K mg "has_cell" (topS 18) ["log", "cell"] := mk_txt X G (c.fact 30 (f := .glo "has_cell") rfl) (c.def_ 4 (d := dD "has_cell" 18) rfl) fun _ _ _ _ _ _ us hl => match us, hl with | [_, _], _ => rfl
theorem txt_check_cells (X : K.In h) (G : h.Ns mainGlobals mg) (c : He.SaysD hFa hFn K) : Txt1 K mg "check_cells" (topS 62) ["logs", "log", "first", "later"] := mk_txt X G (c.fact 67 (f := .glo "check_cells") rfl) (c.def_ 41 (d := dD "check_cells" 62) rfl) fun _ _ _ _ _ _ us hl => match us, hl with | [_, _, _, _], _ => rfl
theorem txt_evidence_of (X : K.In h) (G : h.Ns mainGlobals mg) (c : He.SaysD hFa hFn K) : Txt1 K mg "evidence_of" (topS 63) ["logs", "log", "first", "later"] := mk_txt X G (c.fact 68 (f := .glo "evidence_of") rfl) (c.def_ 42 (d := dD "evidence_of" 63) rfl) fun _ _ _ _ _ _ us hl => match us, hl with | [_, _, _, _], _ => rfl
theorem txt_begins_order (X : K.In h) (G : h.Ns mainGlobals mg) (c : He.SaysD hFa hFn K) : Txt1 K mg "begins_order" (topS 39) ["logs", "log", "thing"] := mk_txt X G (c.fact 48 (f := .glo "begins_order") rfl) (c.def_ 22 (d := dD "begins_order" 39) rfl) fun _ _ _ _ _ _ us hl => match us, hl with | [_, _, _], _ => rfl
theorem txt_next_cells (X : K.In h) (G : h.Ns mainGlobals mg) (c : He.SaysD hFa hFn K) : Txt1 K mg "next_cells" (topS 40) ["logs", "log", "done"] := mk_txt X G (c.fact 49 (f := .glo "next_cells") rfl) (c.def_ 23 (d := dD "next_cells" 40) rfl) fun _ _ _ _ _ _ us hl => match us, hl with | [_, _, _], _ => rfl
theorem txt_precedence (X : K.In h) (G : h.Ns mainGlobals mg) (c : He.SaysD hFa hFn K) : Txt1 K mg "precedence" (topS 44) ["logs", "log"] := mk_txt X G (c.fact 53 (f := .glo "precedence") rfl) (c.def_ 27 (d := dD "precedence" 44) rfl) fun _ _ _ _ _ _ us hl => match us, hl with | [_, _], _ => rfl
theorem txt_rounds (X : K.In h) (G : h.Ns mainGlobals mg) (c : He.SaysD hFa hFn K) : Txt1 K mg "rounds" (topS 45) ["logs", "log"] := mk_txt X G (c.fact 54 (f := .glo "rounds") rfl) (c.def_ 28 (d := dD "rounds" 45) rfl) fun _ _ _ _ _ _ us hl => match us, hl with | [_, _], _ => rfl
theorem txt_are_cells_of (X : K.In h) (G : h.Ns mainGlobals mg) (c : He.SaysD hFa hFn K) : Txt1 K mg "are_cells_of" (topS 64) ["log", "thing"] := mk_txt X G (c.fact 69 (f := .glo "are_cells_of") rfl) (c.def_ 43 (d := dD "are_cells_of" 64) rfl) fun _ _ _ _ _ _ us hl => match us, hl with | [_, _], _ => rfl
theorem txt_lacks (X : K.In h) (G : h.Ns mainGlobals mg) (c : He.SaysD hFa hFn K) : Txt1 K mg "lacks" (topS 65) ["group", "thing", "cell"] := mk_txt X G (c.fact 70 (f := .glo "lacks") rfl) (c.def_ 44 (d := dD "lacks" 65) rfl) fun _ _ _ _ _ _ us hl => match us, hl with | [_, _, _], _ => rfl
theorem txt_are_witnesses (X : K.In h) (G : h.Ns mainGlobals mg) (c : He.SaysD hFa hFn K) : Txt1 K mg "are_witnesses" (topS 66) ["group", "thing", "cells"] := mk_txt X G (c.fact 71 (f := .glo "are_witnesses") rfl) (c.def_ 45 (d := dD "are_witnesses" 66) rfl) fun _ _ _ _ _ _ us hl => match us, hl with | [_, _, _], _ => rfl
theorem txt_shows_precedence (X : K.In h) (G : h.Ns mainGlobals mg) (c : He.SaysD hFa hFn K) : Txt1 K mg "shows_precedence" (topS 67) ["logs", "log", "first", "later", "thing"] := mk_txt X G (c.fact 72 (f := .glo "shows_precedence") rfl) (c.def_ 46 (d := dD "shows_precedence" 67) rfl) fun _ _ _ _ _ _ us hl => match us, hl with | [_, _, _, _, _], _ => rfl
theorem txt__law_log_right (X : K.In h) (G : h.Ns mainGlobals mg) (c : He.SaysD hFa hFn K) : Txt1 K mg "_law_log_right" (topS 92) ["_law_box_here", "_law_family", "_law_others", "_law_entry", "_law_table"] := mk_txt X G (c.fact 94 (f := .glo "_law_log_right") rfl) (c.def_ 68 (d := dD "_law_log_right" 92) rfl) fun _ _ _ _ _ _ us hl => match us, hl with | [_, _, _, _, _], _ => rfl
theorem txt__law_leaves (X : K.In h) (G : h.Ns mainGlobals mg) (c : He.SaysD hFa hFn K) : Txt1 K mg "_law_leaves" (topS 82) ["_law_tree_here"] := mk_txt X G (c.fact 84 (f := .glo "_law_leaves") rfl) (c.def_ 58 (d := dD "_law_leaves" 82) rfl) fun _ _ _ _ _ _ us hl => match us, hl with | [_], _ => rfl
theorem txt__law_loose (X : K.In h) (G : h.Ns mainGlobals mg) (c : He.SaysD hFa hFn K) : Txt1 K mg "_law_loose" (topS 83) ["_law_box_here", "_law_cells_here", "_law_count"] := mk_txt X G (c.fact 85 (f := .glo "_law_loose") rfl) (c.def_ 59 (d := dD "_law_loose" 83) rfl) fun _ _ _ _ _ _ us hl => match us, hl with | [_, _, _], _ => rfl
theorem txt__law_values (X : K.In h) (G : h.Ns mainGlobals mg) (c : He.SaysD hFa hFn K) : Txt1 K mg "_law_values" (topS 80) ["_law_box_here", "_law_count"] := mk_txt X G (c.fact 82 (f := .glo "_law_values") rfl) (c.def_ 56 (d := dD "_law_values" 80) rfl) fun _ _ _ _ _ _ us hl => match us, hl with | [_, _], _ => rfl
theorem txt__law_tree (X : K.In h) (G : h.Ns mainGlobals mg) (c : He.SaysD hFa hFn K) : Txt1 K mg "_law_tree" (topS 81) ["_law_box_here", "_law_cells_here", "_law_budget"] := mk_txt X G (c.fact 83 (f := .glo "_law_tree") rfl) (c.def_ 57 (d := dD "_law_tree" 81) rfl) fun _ _ _ _ _ _ us hl => match us, hl with | [_, _, _], _ => rfl
theorem txt__law_logs (X : K.In h) (G : h.Ns mainGlobals mg) (c : He.SaysD hFa hFn K) : Txt1 K mg "_law_logs" (topS 84) ["_law_box_here", "_law_cells_here", "_law_budget"] := mk_txt X G (c.fact 86 (f := .glo "_law_logs") rfl) (c.def_ 60 (d := dD "_law_logs" 84) rfl) fun _ _ _ _ _ _ us hl => match us, hl with | [_, _, _], _ => rfl
theorem txt__law_renaming (X : K.In h) (G : h.Ns mainGlobals mg) (c : He.SaysD hFa hFn K) : Txt1 K mg "_law_renaming" (topS 87) ["_law_box_here", "_law_cells_here"] := mk_txt X G (c.fact 89 (f := .glo "_law_renaming") rfl) (c.def_ 63 (d := dD "_law_renaming" 87) rfl) fun _ _ _ _ _ _ us hl => match us, hl with | [_, _], _ => rfl
theorem txt__law_values_of (X : K.In h) (G : h.Ns mainGlobals mg) (c : He.SaysD hFa hFn K) : Txt1 K mg "_law_values_of" (topS 86) ["_law_family"] := mk_txt X G (c.fact 88 (f := .glo "_law_values_of") rfl) (c.def_ 62 (d := dD "_law_values_of" 86) rfl) fun _ _ _ _ _ _ us hl => match us, hl with | [_], _ => rfl
theorem txt__law_snapshot (X : K.In h) (G : h.Ns mainGlobals mg) (c : He.SaysD hFa hFn K) : Txt1 K mg "_law_snapshot" (topS 85) ["_law_box_here", "_law_family"] := mk_txt X G (c.fact 87 (f := .glo "_law_snapshot") rfl) (c.def_ 61 (d := dD "_law_snapshot" 85) rfl) fun _ _ _ _ _ _ us hl => match us, hl with | [_, _], _ => rfl
theorem txt_cells_in (X : K.In h) (G : h.Ns mainGlobals mg) (c : He.SaysD hFa hFn K) : Txt1 K mg "cells_in" (topS 19) ["logs"] := mk_txt X G (c.fact 31 (f := .glo "cells_in") rfl) (c.def_ 5 (d := dD "cells_in" 19) rfl) fun _ _ _ _ _ _ us hl => match us, hl with | [_], _ => rfl
theorem txt_is_snapshot (X : K.In h) (G : h.Ns mainGlobals mg) (c : He.SaysD hFa hFn K) : Txt1 K mg "is_snapshot" (topS 50) ["logs", "thing"] := mk_txt X G (c.fact 57 (f := .glo "is_snapshot") rfl) (c.def_ 31 (d := dD "is_snapshot" 50) rfl) fun _ _ _ _ _ _ us hl => match us, hl with | [_, _], _ => rfl
theorem txt_check_snapshot (X : K.In h) (G : h.Ns mainGlobals mg) (c : He.SaysD hFa hFn K) : Txt1 K mg "check_snapshot" (topS 51) ["logs", "snapshot"] := mk_txt X G (c.fact 58 (f := .glo "check_snapshot") rfl) (c.def_ 32 (d := dD "check_snapshot" 51) rfl) fun _ _ _ _ _ _ us hl => match us, hl with | [_, _], _ => rfl
theorem txt_pairs_at (X : K.In h) (G : h.Ns mainGlobals mg) (c : He.SaysD hFa hFn K) : Txt1 K mg "pairs_at" (topS 52) ["snapshot", "cells"] := mk_txt X G (c.fact 59 (f := .glo "pairs_at") rfl) (c.def_ 33 (d := dD "pairs_at" 52) rfl) fun _ _ _ _ _ _ us hl => match us, hl with | [_, _], _ => rfl
theorem txt_closed_without (X : K.In h) (G : h.Ns mainGlobals mg) (c : He.SaysD hFa hFn K) : Txt1 K mg "closed_without" (topS 55) ["logs", "snapshot", "avoid"] := mk_txt X G (c.fact 62 (f := .glo "closed_without") rfl) (c.def_ 36 (d := dD "closed_without" 55) rfl) fun _ _ _ _ _ _ us hl => match us, hl with | [_, _, _], _ => rfl
theorem txt_is_read (X : K.In h) (G : h.Ns mainGlobals mg) (c : He.SaysD hFa hFn K) : Txt1 K mg "is_read" (topS 54) ["group", "done"] := mk_txt X G (c.fact 61 (f := .glo "is_read") rfl) (c.def_ 35 (d := dD "is_read" 54) rfl) fun _ _ _ _ _ _ us hl => match us, hl with | [_, _], _ => rfl
theorem txt_is_certain (X : K.In h) (G : h.Ns mainGlobals mg) (c : He.SaysD hFa hFn K) : Txt1 K mg "is_certain" (topS 56) ["logs", "snapshot", "cell"] := mk_txt X G (c.fact 63 (f := .glo "is_certain") rfl) (c.def_ 37 (d := dD "is_certain" 56) rfl) fun _ _ _ _ _ _ us hl => match us, hl with | [_, _, _], _ => rfl
theorem txt_certain_reads (X : K.In h) (G : h.Ns mainGlobals mg) (c : He.SaysD hFa hFn K) : Txt1 K mg "certain_reads" (topS 57) ["logs", "snapshot"] := mk_txt X G (c.fact 64 (f := .glo "certain_reads") rfl) (c.def_ 38 (d := dD "certain_reads" 57) rfl) fun _ _ _ _ _ _ us hl => match us, hl with | [_, _], _ => rfl
theorem txt_cells_outside (X : K.In h) (G : h.Ns mainGlobals mg) (c : He.SaysD hFa hFn K) : Txt1 K mg "cells_outside" (topS 71) ["logs", "closed", "cell"] := mk_txt X G (c.fact 74 (f := .glo "cells_outside") rfl) (c.def_ 48 (d := dD "cells_outside" 71) rfl) fun _ _ _ _ _ _ us hl => match us, hl with | [_, _, _], _ => rfl
theorem txt_check_place (X : K.In h) (G : h.Ns mainGlobals mg) (c : He.SaysD hFa hFn K) : Txt1 K mg "check_place" (topS 70) ["logs", "snapshot", "cell"] := mk_txt X G (c.fact 73 (f := .glo "check_place") rfl) (c.def_ 47 (d := dD "check_place" 70) rfl) fun _ _ _ _ _ _ us hl => match us, hl with | [_, _, _], _ => rfl
theorem txt_evidence_certain (X : K.In h) (G : h.Ns mainGlobals mg) (c : He.SaysD hFa hFn K) : Txt1 K mg "evidence_certain" (topS 72) ["logs", "snapshot", "cell"] := mk_txt X G (c.fact 75 (f := .glo "evidence_certain") rfl) (c.def_ 49 (d := dD "evidence_certain" 72) rfl) fun _ _ _ _ _ _ us hl => match us, hl with | [_, _, _], _ => rfl
theorem txt_hit (X : K.In h) (G : h.Ns mainGlobals mg) (c : He.SaysD hFa hFn K) : Txt1 K mg "hit" (topS 53) ["logs", "snapshot"] := mk_txt X G (c.fact 60 (f := .glo "hit") rfl) (c.def_ 34 (d := dD "hit" 53) rfl) fun _ _ _ _ _ _ us hl => match us, hl with | [_, _], _ => rfl
theorem txt_reached_with (X : K.In h) (G : h.Ns mainGlobals mg) (c : He.SaysD hFa hFn K) : Txt1 K mg "reached_with" (topS 58) ["logs", "snapshot", "log"] := mk_txt X G (c.fact 65 (f := .glo "reached_with") rfl) (c.def_ 39 (d := dD "reached_with" 58) rfl) fun _ _ _ _ _ _ us hl => match us, hl with | [_, _, _], _ => rfl
theorem txt_possible_reads (X : K.In h) (G : h.Ns mainGlobals mg) (c : He.SaysD hFa hFn K) : Txt1 K mg "possible_reads" (topS 59) ["logs", "snapshot"] := mk_txt X G (c.fact 66 (f := .glo "possible_reads") rfl) (c.def_ 40 (d := dD "possible_reads" 59) rfl) fun _ _ _ _ _ _ us hl => match us, hl with | [_, _], _ => rfl
theorem txt_is_closed_form (X : K.In h) (G : h.Ns mainGlobals mg) (c : He.SaysD hFa hFn K) : Txt1 K mg "is_closed_form" (topS 73) ["logs", "thing", "cell"] := mk_txt X G (c.fact 76 (f := .glo "is_closed_form") rfl) (c.def_ 50 (d := dD "is_closed_form" 73) rfl) fun _ _ _ _ _ _ us hl => match us, hl with | [_, _, _], _ => rfl
theorem txt_shows_certain (X : K.In h) (G : h.Ns mainGlobals mg) (c : He.SaysD hFa hFn K) : Txt1 K mg "shows_certain" (topS 74) ["logs", "snapshot", "cell", "thing"] := mk_txt X G (c.fact 77 (f := .glo "shows_certain") rfl) (c.def_ 51 (d := dD "shows_certain" 74) rfl) fun _ _ _ _ _ _ us hl => match us, hl with | [_, _, _, _], _ => rfl
theorem txt__law_snapshot_right (X : K.In h) (G : h.Ns mainGlobals mg) (c : He.SaysD hFa hFn K) : Txt1 K mg "_law_snapshot_right" (topS 93) ["_law_family", "_law_others", "_law_values_here", "_law_table"] := mk_txt X G (c.fact 95 (f := .glo "_law_snapshot_right") rfl) (c.def_ 69 (d := dD "_law_snapshot_right" 93) rfl) fun _ _ _ _ _ _ us hl => match us, hl with | [_, _, _, _], _ => rfl
theorem txt_has_reader (X : K.In h) (G : h.Ns mainGlobals mg) (c : He.SaysD hFa hFn K) : Txt1 K mg "has_reader" (topS 28) ["logs"] := mk_txt X G (c.fact 39 (f := .glo "has_reader") rfl) (c.def_ 13 (d := dD "has_reader" 28) rfl) fun _ _ _ _ _ _ us hl => match us, hl with | [_], _ => rfl
theorem txt_with_log (X : K.In h) (G : h.Ns mainGlobals mg) (c : He.SaysD hFa hFn K) : Txt1 K mg "with_log" (topS 47) ["logs", "log"] := mk_txt X G (c.fact 55 (f := .glo "with_log") rfl) (c.def_ 29 (d := dD "with_log" 47) rfl) fun _ _ _ _ _ _ us hl => match us, hl with | [_, _], _ => rfl
theorem txt_can_add (X : K.In h) (G : h.Ns mainGlobals mg) (c : He.SaysD hFa hFn K) : Txt1 K mg "can_add" (topS 48) ["logs", "log"] := mk_txt X G (c.fact 56 (f := .glo "can_add") rfl) (c.def_ 30 (d := dD "can_add" 48) rfl) fun _ _ _ _ _ _ us hl => match us, hl with | [_, _], _ => rfl
theorem txt_is_stuck (X : K.In h) (G : h.Ns mainGlobals mg) (c : He.SaysD hFa hFn K) : Txt1 K mg "is_stuck" (topS 26) ["logs"] := mk_txt X G (c.fact 37 (f := .glo "is_stuck") rfl) (c.def_ 11 (d := dD "is_stuck" 26) rfl) fun _ _ _ _ _ _ us hl => match us, hl with | [_], _ => rfl
theorem law_fn (X : K.In h) (G : h.Ns mainGlobals mg) (c : He.SaysD hFa hFn K) : ∃ fd, FunD K "law" "law" (defArgs (topS 94)) (defBody (topS 94)) (defScope (topS 94)) [] [] (He.ga K "law") fd := c.def_ 70 (d := dD "law" 94) rfl
theorem facts {f : Addr} (X : K.In h) (G : h.Ns mainGlobals mg) (hfa : mg ("law" : Str) = some (.ref f)) (c : He.SaysD hFa hFn K) :
    ∃ fd : FuncData, (∀ (s : Shared) (v : Value), BindsTo s fd ⟨[v], []⟩ [("_law_script", v)]) ∧ ∀ base : Heap, K.In base → base.Ns mainGlobals mg → FnOk P w K mg base CX0 12 f fd ["_law_script"] (SpD K R_law) := by
  obtain ⟨tk, T⟩ := mk_tx X G c
  obtain ⟨fd, F⟩ := law_fn X G c
  have e := hfa.symm.trans (He.glo_ok X G (c.fact 96 (f := .glo "law") rfl))
  cases e
  have b := FunD.bindsA (ps := ["_law_script"]) F fun _ _ _ _ _ _ us hl => match us, hl with | [_], _ => rfl
  refine ⟨fd, fun s v => b s [v] rfl, fun base _ _ => ?_⟩
  have a__law_box := ok__law_box (P := P) (w := w) (base := base) T (txt__law_box X G c)
  have a__law_take := ok__law_take (P := P) (w := w) (base := base) T (txt__law_take X G c)
  have a__law_of := ok__law_of (P := P) (w := w) (base := base) T (txt__law_of X G c) a__law_take
  have a__law_cells := ok__law_cells (P := P) (w := w) (base := base) T (txt__law_cells X G c) a__law_of a__law_take
  have a__law_pair := ok__law_pair (P := P) (w := w) (base := base) T (txt__law_pair X G c)
  have a__law_named := ok__law_named (P := P) (w := w) (base := base) T (txt__law_named X G c) a__law_pair
  have a__law_set := ok__law_set (P := P) (w := w) (base := base) T (txt__law_set X G c)
  have a__law_moved := ok__law_moved (P := P) (w := w) (base := base) T (txt__law_moved X G c) a__law_named a__law_set
  have a_parts_by := ok_parts_by (P := P) (w := w) (base := base) T (txt_parts_by X G c)
  have a_shared_cells := ok_shared_cells (P := P) (w := w) (base := base) T (txt_shared_cells X G c)
  have a_splitting_cells := ok_splitting_cells (P := P) (w := w) (base := base) T (txt_splitting_cells X G c) a_shared_cells
  have a_blocks := ok_blocks (P := P) (w := w) (base := base) T (txt_blocks X G c) a_parts_by a_splitting_cells
  have a_stuck_block := ok_stuck_block (P := P) (w := w) (base := base) T (txt_stuck_block X G c) a_blocks
  have a_without := ok_without (P := P) (w := w) (base := base) T (txt_without X G c)
  have a_single_group := ok_single_group (P := P) (w := w) (base := base) T (txt_single_group X G c) a_stuck_block a_without
  have a_check_reader := ok_check_reader (P := P) (w := w) (base := base) T (txt_check_reader X G c) a_single_group
  have a_check_logs := ok_check_logs (P := P) (w := w) (base := base) T (txt_check_logs X G c) a_check_reader
  have a_is_cell := ok_is_cell (P := P) (w := w) (base := base) T (txt_is_cell X G c)
  have a_is_value := ok_is_value (P := P) (w := w) (base := base) T (txt_is_value X G c)
  have a_is_pair := ok_is_pair (P := P) (w := w) (base := base) T (txt_is_pair X G c) a_is_cell a_is_value
  have a_has_log_form := ok_has_log_form (P := P) (w := w) (base := base) T (txt_has_log_form X G c) a_is_pair
  have a_check_log := ok_check_log (P := P) (w := w) (base := base) T (txt_check_log X G c) a_check_logs a_has_log_form
  have a_agreeing := ok_agreeing (P := P) (w := w) (base := base) T (txt_agreeing X G c)
  have a_group_after := ok_group_after (P := P) (w := w) (base := base) T (txt_group_after X G c) a_agreeing
  have a_unread_shared := ok_unread_shared (P := P) (w := w) (base := base) T (txt_unread_shared X G c) a_shared_cells
  have a_available := ok_available (P := P) (w := w) (base := base) T (txt_available X G c) a_group_after a_unread_shared
  have a_read_without := ok_read_without (P := P) (w := w) (base := base) T (txt_read_without X G c) a_available
  have a_closure := ok_closure (P := P) (w := w) (base := base) T (txt_closure X G c) a_check_log a_read_without
  have a_count_orders := ok_count_orders (P := P) (w := w) (base := base) T (txt_count_orders X G c) a_available a_check_log
  have a_has_cell := ok_has_cell (P := P) (w := w) (base := base) T (txt_has_cell X G c)
  have a_check_cells := ok_check_cells (P := P) (w := w) (base := base) T (txt_check_cells X G c) a_check_log a_has_cell a_is_cell
  have a_evidence_of := ok_evidence_of (P := P) (w := w) (base := base) T (txt_evidence_of X G c) a_check_cells a_group_after a_has_cell a_read_without
  have a_begins_order := ok_begins_order (P := P) (w := w) (base := base) T (txt_begins_order X G c) a_available a_is_cell
  have a_next_cells := ok_next_cells (P := P) (w := w) (base := base) T (txt_next_cells X G c) a_available a_begins_order a_check_log
  have a_precedence := ok_precedence (P := P) (w := w) (base := base) T (txt_precedence X G c) a_check_log a_read_without
  have a_rounds := ok_rounds (P := P) (w := w) (base := base) T (txt_rounds X G c) a_available a_check_log
  have a_are_cells_of := ok_are_cells_of (P := P) (w := w) (base := base) T (txt_are_cells_of X G c) a_has_cell a_is_cell
  have a_lacks := ok_lacks (P := P) (w := w) (base := base) T (txt_lacks X G c) a_has_cell a_has_log_form a_is_cell
  have a_are_witnesses := ok_are_witnesses (P := P) (w := w) (base := base) T (txt_are_witnesses X G c) a_lacks
  have a_shows_precedence := ok_shows_precedence (P := P) (w := w) (base := base) T (txt_shows_precedence X G c) a_are_cells_of a_are_witnesses a_check_cells a_group_after
  have a__law_log_right := ok__law_log_right (P := P) (w := w) (base := base) T (txt__law_log_right X G c) a__law_moved a__law_named a__law_of a__law_set a_closure a_count_orders a_evidence_of a_next_cells a_precedence a_rounds a_shows_precedence
  have a__law_leaves := ok__law_leaves (P := P) (w := w) (base := base) T (txt__law_leaves X G c)
  have a__law_loose := ok__law_loose (P := P) (w := w) (base := base) T (txt__law_loose X G c) a__law_take
  have a__law_values := ok__law_values (P := P) (w := w) (base := base) T (txt__law_values X G c) a__law_take
  have y0 := ok_tree0 (P := P) (w := w) (base := base) (txt__law_tree X G c)
  have y1 := ok_tree1 (P := P) (w := w) (base := base) T (txt__law_tree X G c) a__law_take a__law_values 0 y0
  have y2 := ok_tree1 (P := P) (w := w) (base := base) T (txt__law_tree X G c) a__law_take a__law_values 1 y1
  have y3 := ok_tree1 (P := P) (w := w) (base := base) T (txt__law_tree X G c) a__law_take a__law_values 2 y2
  have y4 := ok_tree1 (P := P) (w := w) (base := base) T (txt__law_tree X G c) a__law_take a__law_values 3 y3
  have y5 := ok_tree1 (P := P) (w := w) (base := base) T (txt__law_tree X G c) a__law_take a__law_values 4 y4
  have y6 := ok_tree1 (P := P) (w := w) (base := base) T (txt__law_tree X G c) a__law_take a__law_values 5 y5
  have a__law_tree := y6
  have a__law_logs := ok__law_logs (P := P) (w := w) (base := base) T (txt__law_logs X G c) a__law_leaves a__law_loose a__law_take a__law_tree
  have a__law_renaming := ok__law_renaming (P := P) (w := w) (base := base) T (txt__law_renaming X G c) a__law_cells a__law_take
  have a__law_values_of := ok__law_values_of (P := P) (w := w) (base := base) T (txt__law_values_of X G c)
  have a__law_snapshot := ok__law_snapshot (P := P) (w := w) (base := base) T (txt__law_snapshot X G c) a__law_of a__law_take a__law_values_of
  have a_cells_in := ok_cells_in (P := P) (w := w) (base := base) T (txt_cells_in X G c)
  have a_is_snapshot := ok_is_snapshot (P := P) (w := w) (base := base) T (txt_is_snapshot X G c) a_cells_in a_is_pair
  have a_check_snapshot := ok_check_snapshot (P := P) (w := w) (base := base) T (txt_check_snapshot X G c) a_check_logs a_is_snapshot
  have a_pairs_at := ok_pairs_at (P := P) (w := w) (base := base) T (txt_pairs_at X G c)
  have a_closed_without := ok_closed_without (P := P) (w := w) (base := base) T (txt_closed_without X G c) a_agreeing a_pairs_at a_unread_shared
  have a_is_read := ok_is_read (P := P) (w := w) (base := base) T (txt_is_read X G c)
  have a_is_certain := ok_is_certain (P := P) (w := w) (base := base) T (txt_is_certain X G c) a_closed_without a_is_read
  have a_certain_reads := ok_certain_reads (P := P) (w := w) (base := base) T (txt_certain_reads X G c) a_cells_in a_check_snapshot a_is_certain
  have a_cells_outside := ok_cells_outside (P := P) (w := w) (base := base) T (txt_cells_outside X G c) a_cells_in
  have a_check_place := ok_check_place (P := P) (w := w) (base := base) T (txt_check_place X G c) a_cells_in a_check_snapshot a_is_cell
  have a_evidence_certain := ok_evidence_certain (P := P) (w := w) (base := base) T (txt_evidence_certain X G c) a_cells_outside a_check_place a_closed_without a_has_cell a_is_read
  have a_hit := ok_hit (P := P) (w := w) (base := base) T (txt_hit X G c) a_check_snapshot
  have a_reached_with := ok_reached_with (P := P) (w := w) (base := base) T (txt_reached_with X G c) a_agreeing a_pairs_at a_unread_shared
  have a_possible_reads := ok_possible_reads (P := P) (w := w) (base := base) T (txt_possible_reads X G c) a_check_snapshot a_reached_with
  have a_is_closed_form := ok_is_closed_form (P := P) (w := w) (base := base) T (txt_is_closed_form X G c) a_cells_in a_is_cell
  have a_shows_certain := ok_shows_certain (P := P) (w := w) (base := base) T (txt_shows_certain X G c) a_agreeing a_are_witnesses a_cells_outside a_check_place a_is_closed_form a_pairs_at
  have a__law_snapshot_right := ok__law_snapshot_right (P := P) (w := w) (base := base) T (txt__law_snapshot_right X G c) a__law_moved a__law_named a__law_set a_certain_reads a_evidence_certain a_hit a_possible_reads a_shows_certain
  have a_has_reader := ok_has_reader (P := P) (w := w) (base := base) T (txt_has_reader X G c) a_stuck_block
  have a_with_log := ok_with_log (P := P) (w := w) (base := base) T (txt_with_log X G c)
  have a_can_add := ok_can_add (P := P) (w := w) (base := base) T (txt_can_add X G c) a_check_reader a_has_reader a_with_log
  have a_is_stuck := ok_is_stuck (P := P) (w := w) (base := base) T (txt_is_stuck X G c) a_splitting_cells
  exact ok_law (P := P) (w := w) (base := base) T (fun_txt X G F) a__law_box a__law_cells a__law_log_right a__law_logs a__law_loose a__law_named a__law_of a__law_renaming a__law_snapshot a__law_snapshot_right a_can_add a_has_reader a_is_stuck
end
end K97
set_option Elab.async false
set_option linter.all false
set_option maxRecDepth 100000
set_option maxHeartbeats 4000000
open PySem PySem.W PySem.Calls PyProof.Rows
theorem PySem.Challenge.cw_readorder_k97_whole_names_do_not_matter_holds : PySem.Challenge.rw_readorder_k97_whole_names_do_not_matter.Holds := by
  w_on; o_law
  refine HandSHeadRun.head_any (r := OpenLaw.row PySem.Challenge.rw_readorder_k97_whole_names_do_not_matter) (q := view (OpenLaw.row PySem.Challenge.rw_readorder_k97_whole_names_do_not_matter).prog [94]) (H := K97.hHk) (ob := K97.hOb) (M := 9000) (loose := K97.hNames) (d := HandSHeadRun.topDef (OpenLaw.row PySem.Challenge.rw_readorder_k97_whole_names_do_not_matter).prog 94) (kwd := []) K97.hOb_eq
    (by kernel_rfl) (fun s => by kernel_rfl) K97.hRun (by kernel_rfl) (by kernel_rfl) (by kernel_rfl) (by rfl) (by first | assumption | decide +kernel) (by decide +kernel) ⟨rfl, rfl, rfl, rfl, rfl, by decide +kernel⟩ ?hw ?hc
  case hw => w_witness2
  case hc =>
    refine L2.walk_ofE (l := PySem.Challenge.rw_readorder_k97_whole_names_do_not_matter) (n := 63) (k := 12) (x := "_law_script") (CX := L2.CX0) rfl (by decide) (by kernel_rfl) ⟨rfl, by decide, by decide⟩ ?F (fun _ _ _ _ z => z)
    intro w mg fa h Y G hmg0
    obtain ⟨K, KX, c⟩ := Y
    have hmg : mg ("law" : PySem.Str) = some (.ref fa) := by
      have e : (HandSHeadRun.topDef (OpenLaw.row PySem.Challenge.rw_readorder_k97_whole_names_do_not_matter).prog 94).name = ("law" : PySem.Str) := by kernel_rfl
      rw [← e]
      exact hmg0
    obtain ⟨fd, hb, hF⟩ := K97.facts (P := (PySem.Challenge.rw_readorder_k97_whole_names_do_not_matter).prog) (w := w) KX G hmg c
    refine ⟨K, fd, K97.SpD K K97.R_law, KX, hb, fun H a ns hl _ hS => ?_, hF⟩
    have hcut : K97.cut (fun _ => False) H = H := funext fun a => K97.cut_out fun z => z
    refine ⟨fun _ => False, [.list (ns.map K97.Dt.en)], .bool true, fun a z => z.elim, .one ?_, ⟨ns, Nat.le_trans hl (by decide), rfl, rfl⟩, fun v H' e r => ?_⟩
    · rw [hcut]
      refine .lst hS ?_
      clear hl hS
      induction ns with
      | nil => exact .nil
      | cons n ns ih => exact .cons (.int n) ih
    · cases r
      rfl
