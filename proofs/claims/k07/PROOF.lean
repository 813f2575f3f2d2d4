import PyProof.Rows.All
import Wide.All
import OpenK.AllK
import Wide.FinOn
import HandS.ForMost
import HandS.ForExc
import HandS.IsInst
import HandS.Flow
import HandS.Wide
import HandS.Evl
import HandS.TupAny
import HandS.Deep
import HandS.CallLocal
import HandS.Rev
import HandS.Defaults
import HandS.Exc
import HandS.ExcOwn
import HandS.TryOnly
import HandS.WordsExc
import KE.KStateDown
import HandS.Head0
import HandS.Head1
import HandS.Head2
import HandS.HeadEnd
import HandS.HeadHook1
import HandS.HeadHook2
import HandS.HeadHook4
import HandS.Comp
import HandS.SetKeys
import HandS.Set
import HandS.SetFor
import PyProof.Rows.SortShellAny
import HandS.TupSets
import HandS.Iter
import HandS.ExcIs
import HandS.RaiseMore
import HandS.TupMul
import HandS.List
import PyProof.ReprRoads
import PyProof.ReprBulk
import PySem.Challenge.RW_whatbefell_k07_conditions_hold
set_option Elab.async false
set_option linter.all false
set_option maxRecDepth 100000
set_option maxHeartbeats 1000000
/-! Dn1: a def's body as a shallow Lean function over data and a small store: the relation, the judgements. -/
namespace Dn
open PySem L2

abbrev D := PyData
abbrev Ex (H H' : Hp) : Prop := ∀ a o, H a = some o → H' a = some o

/-- a slot: nothing, data, a cell of the store, a def -/
inductive S where
  | no
  | d (x : D)
  | cel (j : Nat)
  | fn (a : Addr)
/-- what a cell holds -/
inductive OC where
  | lst (xs : List D)
  | dK (kvs : List (Key × D))
/-- a result: data, a new object, a cell -/
inductive Rv where
  | d (x : D)
  | own (o : OC)
  | cel (j : Nat)
abbrev Store := List OC
inductive Res (α : Type) where
  | ok (a : α) (cs : Store)
  | er (c : Str) (cs : Store)
  | no
abbrev M (α : Type) := Store → Res α
section
variable {α β : Type}
def ret (a : α) : M α := fun cs => .ok a cs
def stuck : M α := fun _ => .no
def bnd (m : M α) (k : α → M β) : M β := fun cs => match m cs with
  | .ok a cs' => k a cs'
  | .er c cs' => .er c cs'
  | .no => .no
def ofO : Option α → M α
  | some a => ret a
  | none => stuck
theorem bnd_ok {m : M α} {k : α → M β} {cs cs' : Store} {a : α} (h : m cs = .ok a cs') : bnd m k cs = k a cs' := by
  unfold bnd; rw [h]
theorem bnd_ret {a : α} {k : α → M β} : bnd (ret a) k = k a := rfl
end

/-! ### data in the heap -/
mutual
inductive Dd (H : Hp) : V → D → Prop
  | non : Dd H .non .none
  | bl (b : Bool) : Dd H (.bl b) (.bool b)
  | int (i : Int) : Dd H (.int i) (.int i)
  | str (x : Str) : Dd H (.str x) (.str x)
  | lst {a : Addr} {xs : List V} {ds : List D} : Rd H a (.lst xs) → Dds H xs ds → Dd H (.ref a) (.list ds)
  | tup {a : Addr} {xs : List V} {ds : List D} : Rd H a (.tup xs) → Dds H xs ds → Dd H (.ref a) (.tuple ds)
inductive Dds (H : Hp) : List V → List D → Prop
  | nil : Dds H [] []
  | cons {v : V} {vs : List V} {d : D} {ds : List D} : Dd H v d → Dds H vs ds → Dds H (v :: vs) (d :: ds)
end
theorem rd_ex {H H' : Hp} (e : Ex H H') {a : Addr} {u : HO} (h : Rd H a u) : Rd H' a u := by
  rcases h with h | ⟨o, h⟩
  · exact .inl (e a _ h)
  · exact .inr ⟨o, e a _ h⟩
mutual
theorem dp_ex {H H' : Hp} (e : Ex H H') : ∀ {v : V} {d : D}, Dd H v d → Dd H' v d
  | _, _, .non => .non
  | _, _, .bl b => .bl b
  | _, _, .int i => .int i
  | _, _, .str x => .str x
  | _, _, .lst h a => .lst (rd_ex e h) (dps_ex e a)
  | _, _, .tup h a => .tup (rd_ex e h) (dps_ex e a)
theorem dps_ex {H H' : Hp} (e : Ex H H') : ∀ {vs : List V} {ds : List D}, Dds H vs ds → Dds H' vs ds
  | _, _, .nil => .nil
  | _, _, .cons h t => .cons (dp_ex e h) (dps_ex e t)
end
mutual
theorem dd_dp (K : PySem.W.Frag) {H : Hp} : ∀ {v : V} {d : D}, Dd H v d → Dp K H v d
  | _, _, .non => .non
  | _, _, .bl b => .bl b
  | _, _, .int i => .int i
  | _, _, .str x => .str x
  | _, _, .lst h a => .lst (.inl h) (dds_dp K a)
  | _, _, .tup h a => .tup (.inl h) (dds_dp K a)
theorem dds_dp (K : PySem.W.Frag) {H : Hp} : ∀ {vs : List V} {ds : List D}, Dds H vs ds → DpAll K H vs ds
  | _, _, .nil => .nil
  | _, _, .cons h t => .cons (dd_dp K h) (dds_dp K t)
end
section
variable {H H' Hf : Hp} {vs ws : List V} {ds es : List D} {v : V} {d : D}
theorem dps_len : ∀ {vs : List V} {ds : List D}, Dds H vs ds → vs.length = ds.length
  | _, _, .nil => rfl
  | _, _, .cons _ t => by rw [List.length_cons, List.length_cons, dps_len t]
theorem dps_get : ∀ {vs : List V} {ds : List D} {i : Nat} {d : D}, Dds H vs ds → ds[i]? = some d → ∃ v, vs[i]? = some v ∧ Dd H v d
  | _, _, _, _, .nil, e => by simp at e
  | _, _, 0, _, .cons h _, e => by simp at e; subst e; exact ⟨_, rfl, h⟩
  | _, _, i + 1, _, .cons _ t, e => by
    obtain ⟨v, h1, h2⟩ := dps_get (i := i) t (by simpa using e)
    exact ⟨v, by simpa using h1, h2⟩
theorem dps_get' : ∀ {vs : List V} {ds : List D} {i : Nat} {v : V}, Dds H vs ds → vs[i]? = some v → ∃ d, ds[i]? = some d ∧ Dd H v d
  | _, _, _, _, .nil, e => by simp at e
  | _, _, 0, _, .cons h _, e => by simp at e; subst e; exact ⟨_, rfl, h⟩
  | _, _, i + 1, _, .cons _ t, e => by
    obtain ⟨v, h1, h2⟩ := dps_get' (i := i) t (by simpa using e)
    exact ⟨v, by simpa using h1, h2⟩
theorem dps_app : ∀ {vs ws : List V} {ds es : List D}, Dds H vs ds → Dds H ws es → Dds H (vs ++ ws) (ds ++ es)
  | _, _, _, _, .nil, s => s
  | _, _, _, _, .cons h t, s => .cons h (dps_app t s)
theorem dps_take : ∀ (n : Nat) {vs : List V} {ds : List D}, Dds H vs ds → Dds H (vs.take n) (ds.take n)
  | 0, _, _, _ => .nil
  | _ + 1, _, _, .nil => .nil
  | n + 1, _, _, .cons h t => .cons h (dps_take n t)
theorem dps_drop : ∀ (n : Nat) {vs : List V} {ds : List D}, Dds H vs ds → Dds H (vs.drop n) (ds.drop n)
  | 0, _, _, h => h
  | _ + 1, _, _, .nil => .nil
  | n + 1, _, _, .cons _ t => dps_drop n t
theorem dps_set : ∀ {vs : List V} {ds : List D} {v : V} {d : D} (i : Nat), Dds H vs ds → Dd H v d → Dds H (vs.set i v) (ds.set i d)
  | _, _, _, _, _, .nil, _ => .nil
  | _, _, _, _, 0, .cons _ t, h => .cons h t
  | _, _, _, _, i + 1, .cons h' t, h => .cons h' (dps_set i t h)
theorem dps_dropLast (h : Dds H vs ds) : Dds H vs.dropLast ds.dropLast := by
  rw [List.dropLast_eq_take, List.dropLast_eq_take, dps_len h]
  exact dps_take _ h
end

/-- the content of a cell at a -/
def CellOk (Hf H : Hp) (a : Addr) : OC → Prop
  | .lst xs => ∃ vs, H a = some (.lst vs) ∧ Dds Hf vs xs
  | .dK kvs => ∃ ws, H a = some (.dK ws) ∧ Paired (fun (p : Key × V) (q : Key × D) => p.1 = q.1 ∧ Dd Hf p.2 q.2) ws kvs
def SvOk (ca : List Addr) (Hf : Hp) : S → V → Prop
  | .no, _ => False
  | .d x, v => Dd Hf v x
  | .cel j, v => ∃ a, ca[j]? = some a ∧ v = .ref a
  | .fn a, v => v = .ref a
/-- B: what is banned: the callers' things that are not ours -/
def RvOk (B : Hp) (ca : List Addr) (Hf H : Hp) : Rv → V → Prop
  | .d x, v => Dd Hf v x
  | .own o, v => ∃ a, v = .ref a ∧ CellOk Hf H a o ∧ Hf a = none ∧ a ∉ ca ∧ B a = none
  | .cel j, v => ∃ a, ca[j]? = some a ∧ v = .ref a
inductive SvsOk (ca : List Addr) (Hf : Hp) : List S → List V → Prop
  | nil : SvsOk ca Hf [] []
  | cons {s : S} {ss : List S} {v : V} {vs : List V} : SvOk ca Hf s v → SvsOk ca Hf ss vs → SvsOk ca Hf (s :: ss) (v :: vs)

structure Rel (B : Hp) (ca : List Addr) (ρ : List S) (cs : Store) (Hf : Hp) (σ : L2.St) (H : Hp) : Prop where
  ext : Ex Hf H
  len : σ.length = ρ.length
  sl : ∀ (i : Nat) (s : S), ρ[i]? = some s → s = .no ∨ ∃ v, σ[i]? = some (some v) ∧ SvOk ca Hf s v
  cells : ∀ (j : Nat) (o : OC), cs[j]? = some o → ∃ a, ca[j]? = some a ∧ CellOk Hf H a o
  lenc : ca.length = cs.length
  nd : ca.Nodup
  off : ∀ a ∈ ca, Hf a = none
  exb : Ex B H
  dis : ∀ a, B a ≠ none → Hf a = none ∧ a ∉ ca

structure Nx (ca : List Addr) (Hf : Hp) (ca' : List Addr) (Hf' : Hp) : Prop where
  pre : ca <+: ca'
  ex : Ex Hf Hf'
section
variable {B : Hp} {ca ca' ca'' : List Addr} {ρ : List S} {cs cs' : Store} {Hf Hf' Hf'' : Hp} {σ : L2.St} {H H' H'' : Hp} {s : S} {v : V} {r : Rv} {a : Addr} {o : OC}
theorem CellOk.some (h : CellOk Hf H a o) : H a ≠ none := by
  cases o with
  | lst xs => obtain ⟨vs, e, _⟩ := h; rw [e]; simp
  | dK kvs => obtain ⟨vs, e, _⟩ := h; rw [e]; simp
theorem CellOk.at (h : CellOk Hf H a o) (e : H' a = H a) (x : Ex Hf Hf') : CellOk Hf' H' a o := by
  cases o with
  | lst xs => obtain ⟨vs, q, p⟩ := h; exact ⟨vs, e.trans q, dps_ex x p⟩
  | dK kvs => obtain ⟨vs, q, p⟩ := h; exact ⟨vs, e.trans q, Paired.mapP p fun _ _ z => ⟨z.1, dp_ex x z.2⟩⟩
theorem Rel.there (r : Rel B ca ρ cs Hf σ H) (ha : a ∈ ca) : H a ≠ none := by
  obtain ⟨j, hj, e⟩ := List.mem_iff_getElem.mp ha
  have hj' : j < cs.length := by rw [← r.lenc]; exact hj
  obtain ⟨b, h1, h2⟩ := r.cells j cs[j] (by simp [hj'])
  have : b = a := by
    rw [List.getElem?_eq_getElem hj] at h1
    rw [← e]; exact (Option.some.inj h1).symm
  subst this
  exact h2.some
theorem Nx.refl : Nx ca Hf ca Hf := ⟨List.prefix_refl _, fun _ _ h => h⟩
theorem Nx.trans (x : Nx ca Hf ca' Hf') (y : Nx ca' Hf' ca'' Hf'') : Nx ca Hf ca'' Hf'' := ⟨x.pre.trans y.pre, fun a o h => y.ex a o (x.ex a o h)⟩
theorem SvOk.nx (h : SvOk ca Hf s v) (x : Nx ca Hf ca' Hf') : SvOk ca' Hf' s v := by
  cases s with
  | no => exact h
  | d d => exact dp_ex x.ex h
  | fn a => exact h
  | cel j =>
    obtain ⟨a, e, z⟩ := h
    exact ⟨a, by
      obtain ⟨t, rfl⟩ := x.pre
      rw [List.getElem?_append_left (List.getElem?_eq_some_iff.mp e).1]
      exact e, z⟩
theorem SvsOk.nx {ss : List S} {vs : List V} (h : SvsOk ca Hf ss vs) (x : Nx ca Hf ca' Hf') : SvsOk ca' Hf' ss vs := by
  induction h with
  | nil => exact .nil
  | cons h _ ih => exact .cons (h.nx x) ih
theorem SvsOk.len {ss : List S} {vs : List V} (h : SvsOk ca Hf ss vs) : ss.length = vs.length := by
  induction h with
  | nil => rfl
  | cons _ _ ih => simp [ih]
theorem SvsOk.get {ss : List S} {vs : List V} (h : SvsOk ca Hf ss vs) {i : Nat} {s : S} (e : ss[i]? = some s) : ∃ v, vs[i]? = some v ∧ SvOk ca Hf s v := by
  induction h generalizing i with
  | nil => simp at e
  | cons h _ ih =>
    cases i with
    | zero => simp at e; subst e; exact ⟨_, rfl, h⟩
    | succ i =>
      obtain ⟨v, h1, h2⟩ := ih (i := i) (by simpa using e)
      exact ⟨v, by simpa using h1, h2⟩
/-- slots of another kind over the same heap -/
theorem Rel.slots {ρ' : List S} {σ' : L2.St} (r : Rel B ca ρ cs Hf σ H) (hl : σ'.length = ρ'.length) (h : ∀ (i : Nat) (s : S), ρ'[i]? = some s → s = .no ∨ ∃ v, σ'[i]? = some (some v) ∧ SvOk ca Hf s v) : Rel B ca ρ' cs Hf σ' H :=
  ⟨r.ext, hl, h, r.cells, r.lenc, r.nd, r.off, r.exb, r.dis⟩
/-- the slots of an earlier state -/
theorem Rel.back {ρ' : List S} {σ' : L2.St} {cs0 : Store} (r0 : Rel B ca ρ' cs0 Hf σ' H) (x : Nx ca Hf ca' Hf') (r : Rel B ca' ρ cs' Hf' σ H') : Rel B ca' ρ' cs' Hf' σ' H' :=
  r.slots r0.len fun i s e => by
    rcases r0.sl i s e with z | ⟨v, h1, h2⟩
    · exact .inl z
    · exact .inr ⟨v, h1, h2.nx x⟩
theorem Rel.get (r : Rel B ca ρ cs Hf σ H) {i : Nat} {s : S} (e : ρ[i]? = some s) (n : s ≠ .no) : ∃ v, σ[i]? = some (some v) ∧ SvOk ca Hf s v := by
  rcases r.sl i s e with z | z
  · exact absurd z n
  · exact z
theorem Rel.set (r : Rel B ca ρ cs Hf σ H) (i : Nat) (h : SvOk ca Hf s v) : Rel B ca (ρ.set i s) cs Hf (σ.set i (some v)) H :=
  r.slots (by simp [r.len]) fun j t e => by
    by_cases hj : i = j
    · subst hj
      by_cases hi : i < ρ.length
      · rw [List.getElem?_set_self hi] at e
        cases e
        exact .inr ⟨v, List.getElem?_set_self (by rw [r.len]; exact hi), h⟩
      · rw [List.getElem?_eq_none (by simpa using hi)] at e; cases e
    · rw [List.getElem?_set_ne hj] at e
      rcases r.sl j t e with z | ⟨w, h1, h2⟩
      · exact .inl z
      · exact .inr ⟨w, by rw [List.getElem?_set_ne hj]; exact h1, h2⟩
/-- a slot forgotten -/
theorem Rel.lose (r : Rel B ca ρ cs Hf σ H) (i : Nat) (x : Option V) : Rel B ca (ρ.set i .no) cs Hf (σ.set i x) H :=
  r.slots (by simp [r.len]) fun j t e => by
    by_cases hj : i = j
    · subst hj
      by_cases hi : i < ρ.length
      · rw [List.getElem?_set_self hi] at e; cases e; exact .inl rfl
      · rw [List.getElem?_eq_none (by simpa using hi)] at e; cases e
    · rw [List.getElem?_set_ne hj] at e
      rcases r.sl j t e with z | ⟨w, h1, h2⟩
      · exact .inl z
      · exact .inr ⟨w, by rw [List.getElem?_set_ne hj]; exact h1, h2⟩
/-- an object of the heap is frozen -/
theorem Rel.freeze {o : HO} {p : Addr} (r : Rel B ca ρ cs Hf σ H) (hp : H p = some o) (n : Hf p = none) (hc : p ∉ ca) (hb : B p = none) : Rel B ca ρ cs (upd Hf p o) σ H ∧ Ex Hf (upd Hf p o) := by
  have e : Ex Hf (upd Hf p o) := fun a u h => by
    by_cases q : a = p
    · subst q; rw [n] at h; cases h
    · rw [upd_ne q]; exact h
  refine ⟨⟨fun a u h => ?_, r.len, fun i s q => ?_, fun j u q => ?_, r.lenc, r.nd, fun a m => ?_, r.exb, fun a m => ?_⟩, e⟩
  · by_cases q : a = p
    · subst q; rw [upd_same] at h; cases h; exact hp
    · rw [upd_ne q] at h; exact r.ext a u h
  · rcases r.sl i s q with z | ⟨v, h1, h2⟩
    · exact .inl z
    · exact .inr ⟨v, h1, h2.nx ⟨List.prefix_refl _, e⟩⟩
  · obtain ⟨a, h1, h2⟩ := r.cells j u q
    exact ⟨a, h1, h2.at rfl e⟩
  · rw [upd_ne (fun (z : a = p) => hc (z ▸ m))]; exact r.off a m
  · obtain ⟨h1, h2⟩ := r.dis a m
    exact ⟨by rw [upd_ne (fun (z : a = p) => m (z ▸ hb))]; exact h1, h2⟩
theorem Rel.newIn (r : Rel B ca ρ cs Hf σ H) {p : Addr} (hp : H p = none) : Hf p = none ∧ p ∉ ca ∧ B p = none := by
  refine ⟨?_, fun m => r.there m hp, ?_⟩
  · cases q : Hf p with
    | none => rfl
    | some u => rw [r.ext p u q] at hp; cases hp
  · cases q : B p with
    | none => rfl
    | some u => rw [r.exb p u q] at hp; cases hp
/-- the heap grows -/
theorem Rel.grow (r : Rel B ca ρ cs Hf σ H) (e : Ex H H') : Rel B ca ρ cs Hf σ H' :=
  ⟨fun a u h => e a u (r.ext a u h), r.len, r.sl, fun j u q => by
    obtain ⟨a, h1, h2⟩ := r.cells j u q
    refine ⟨a, h1, h2.at ?_ fun _ _ h => h⟩
    cases z : H a with
    | none => exact absurd z h2.some
    | some w => exact e a w z, r.lenc, r.nd, r.off, fun a u h => e a u (r.exb a u h), r.dis⟩
theorem ex_new {o : HO} {p : Addr} (hp : H p = none) : Ex H (upd H p o) := fun a u h => by rw [upd_ne (ne_of_none h hp)]; exact h
/-- a new object, frozen -/
theorem Rel.news {o : HO} {p : Addr} (r : Rel B ca ρ cs Hf σ H) (hp : H p = none) : Rel B ca ρ cs (upd Hf p o) σ (upd H p o) ∧ Nx ca Hf ca (upd Hf p o) := by
  obtain ⟨n1, n2, n3⟩ := r.newIn hp
  obtain ⟨r2, e2⟩ := (r.grow (ex_new (o := o) hp)).freeze (p := p) (o := o) upd_same n1 n2 n3
  exact ⟨r2, List.prefix_refl _, e2⟩
/-- an own object is frozen -/
theorem Rel.own {xs : List D} (r : Rel B ca ρ cs Hf σ H) (h : RvOk B ca Hf H (.own (.lst xs)) v) : ∃ Hf', Rel B ca ρ cs Hf' σ H ∧ Nx ca Hf ca Hf' ∧ Dd Hf' v (.list xs) := by
  obtain ⟨a, rfl, ⟨vs, h1, h2⟩, h3, h4, h5⟩ := h
  obtain ⟨r', e⟩ := r.freeze h1 h3 h4 h5
  exact ⟨_, r', ⟨List.prefix_refl _, e⟩, .lst (.inl upd_same) (dps_ex e h2)⟩
/-- an own object becomes a cell -/
theorem Rel.alloc (r : Rel B ca ρ cs Hf σ H) (h : RvOk B ca Hf H (.own o) v) : ∃ a, v = .ref a ∧ Rel B (ca ++ [a]) ρ (cs ++ [o]) Hf σ H ∧ (ca ++ [a])[cs.length]? = some a := by
  obtain ⟨a, rfl, h1, h2, h3, h4⟩ := h
  refine ⟨a, rfl, ⟨r.ext, r.len, fun i s q => ?_, fun j u q => ?_, by simp [r.lenc], ?_, fun b m => ?_, r.exb, fun b m => ?_⟩, by rw [← r.lenc]; simp⟩
  · rcases r.sl i s q with z | ⟨v, g1, g2⟩
    · exact .inl z
    · exact .inr ⟨v, g1, g2.nx ⟨List.prefix_append _ _, fun _ _ h => h⟩⟩
  · by_cases hj : j < cs.length
    · rw [List.getElem?_append_left hj] at q
      obtain ⟨b, g1, g2⟩ := r.cells j u q
      exact ⟨b, by rw [List.getElem?_append_left (by rw [r.lenc]; exact hj)]; exact g1, g2⟩
    · have hj2 : j = cs.length := by
        have := (List.getElem?_eq_some_iff.mp q).1
        simp at this; omega
      subst hj2
      simp at q; subst q
      exact ⟨a, by rw [← r.lenc]; simp, h1⟩
  · rw [List.nodup_append]
    refine ⟨r.nd, by simp, fun x hx y hy => ?_⟩
    simp at hy; subst hy
    exact fun z => h3 (z ▸ hx)
  · rcases List.mem_append.mp m with z | z
    · exact r.off b z
    · simp at z; subst z; exact h2
  · obtain ⟨g1, g2⟩ := r.dis b m
    refine ⟨g1, fun q => ?_⟩
    rcases List.mem_append.mp q with z | z
    · exact g2 z
    · simp at z; subst z; exact m h4
/-- a cell is written -/
theorem Rel.write {j : Nat} {u : HO} (r : Rel B ca ρ cs Hf σ H) (hj : ca[j]? = some a) (h : CellOk Hf (upd H a u) a o) : Rel B ca ρ (cs.set j o) Hf σ (upd H a u) := by
  have ma : a ∈ ca := List.mem_of_getElem? hj
  refine ⟨fun b w q => ?_, r.len, r.sl, fun i w q => ?_, by simp [r.lenc], r.nd, r.off, fun b w q => ?_, r.dis⟩
  · by_cases e : b = a
    · subst e; rw [r.off b ma] at q; cases q
    · rw [upd_ne e]; exact r.ext b w q
  · by_cases e : j = i
    · subst e
      have hi : j < cs.length := by rw [← r.lenc]; exact (List.getElem?_eq_some_iff.mp hj).1
      rw [List.getElem?_set_self hi] at q
      cases q
      exact ⟨a, hj, h⟩
    · rw [List.getElem?_set_ne e] at q
      obtain ⟨b, g1, g2⟩ := r.cells i w q
      refine ⟨b, g1, g2.at (upd_ne ?_) fun _ _ h => h⟩
      intro z
      subst z
      exact e (nd_ix r.nd hj g1)
  · by_cases e : b = a
    · subst e
      exact absurd ma (r.dis b (by rw [q]; simp)).2
    · rw [upd_ne e]; exact r.exb b w q
theorem Rel.cell (r : Rel B ca ρ cs Hf σ H) {j : Nat} (e : cs[j]? = some o) (h : ca[j]? = some a) : CellOk Hf H a o := by
  obtain ⟨b, g1, g2⟩ := r.cells j o e
  rw [h] at g1; cases g1; exact g2
end

/-! ### what is wanted of an expression's result -/
section
variable (X : Cx) (W : WX)
def Gs {α : Type} (B : Hp) (ca : List Addr) (Hf : Hp) (ρ : List S) (σ : L2.St) (res : Res α) (P : List Addr → Hp → Hp → Store → α → Prop) : Prop :=
  match res with
  | .ok a cs' => ∀ ca' Hf' H', Nx ca Hf ca' Hf' → Rel B ca' ρ cs' Hf' σ H' → P ca' Hf' H' cs' a
  | .er c cs' => ∀ ca' Hf' H' cls, Nx ca Hf ca' Hf' → Rel B ca' ρ cs' Hf' σ H' → X.mg c = some cls → W cls none σ H'
  | .no => False
/-- an expression -/
def DE (e : Expr) (f : List S → M S) : Prop := ∃ t : TE, PE X e t ∧ ∀ (B : Hp) (ca : List Addr) (ρ : List S) (cs : Store) (Hf : Hp) (σ : L2.St) (H : Hp) (Q : VK), Rel B ca ρ cs Hf σ H →
  Gs X W B ca Hf ρ σ (f ρ cs) (fun ca' Hf' H' _ s => ∀ v, SvOk ca' Hf' s v → Q v H') → t σ H Q
/-- an expression whose value may be a new object -/
def DO (e : Expr) (f : List S → M Rv) : Prop := ∃ t : TE, PE X e t ∧ ∀ (B : Hp) (ca : List Addr) (ρ : List S) (cs : Store) (Hf : Hp) (σ : L2.St) (H : Hp) (Q : VK), Rel B ca ρ cs Hf σ H →
  Gs X W B ca Hf ρ σ (f ρ cs) (fun ca' Hf' H' _ r => ∀ v, RvOk B ca' Hf' H' r v → Q v H') → t σ H Q
def DT (e : Expr) (f : List S → M Bool) : Prop := ∃ t : TT, PT X e t ∧ ∀ (B : Hp) (ca : List Addr) (ρ : List S) (cs : Store) (Hf : Hp) (σ : L2.St) (H : Hp) (Q : Bool → Hp → Prop), Rel B ca ρ cs Hf σ H →
  Gs X W B ca Hf ρ σ (f ρ cs) (fun _ _ H' _ b => Q b H') → t σ H Q
def DW (e : Expr) (f : List S → M Bool) : Prop := ∃ t : TT, PW X e t ∧ ∀ (B : Hp) (ca : List Addr) (ρ : List S) (cs : Store) (Hf : Hp) (σ : L2.St) (H : Hp) (Q : Bool → Hp → Prop), Rel B ca ρ cs Hf σ H →
  Gs X W B ca Hf ρ σ (f ρ cs) (fun _ _ H' _ b => Q b H') → t σ H Q
def DA (es : List Expr) (f : List S → M (List S)) : Prop := ∃ t : TA, PA X es t ∧ ∀ (B : Hp) (ca : List Addr) (ρ : List S) (cs : Store) (Hf : Hp) (σ : L2.St) (H : Hp) (Q : List V → Hp → Prop), Rel B ca ρ cs Hf σ H →
  Gs X W B ca Hf ρ σ (f ρ cs) (fun ca' Hf' H' _ ss => ∀ vs, SvsOk ca' Hf' ss vs → Q vs H') → t σ H Q
end
section
variable {X : Cx} {W : WX} {B : Hp} {ca : List Addr} {Hf H : Hp} {ρ : List S} {σ : L2.St} {cs : Store} {α β : Type} {P P' : List Addr → Hp → Hp → Store → α → Prop}
theorem Gs.mono {res : Res α} (h : Gs X W B ca Hf ρ σ res P) (m : ∀ ca' Hf' H' cs' a, Nx ca Hf ca' Hf' → Rel B ca' ρ cs' Hf' σ H' → P ca' Hf' H' cs' a → P' ca' Hf' H' cs' a) : Gs X W B ca Hf ρ σ res P' := by
  cases res with
  | ok a cs' => exact fun ca' Hf' H' n r => m _ _ _ _ _ n r (h ca' Hf' H' n r)
  | er c cs' => exact h
  | no => exact h
theorem Gs.fwd {res : Res α} {ca1 : List Addr} {Hf1 : Hp} (h : Gs X W B ca Hf ρ σ res P) (n : Nx ca Hf ca1 Hf1) : Gs X W B ca1 Hf1 ρ σ res P := by
  cases res with
  | ok a cs' => exact fun ca' Hf' H' n' r => h ca' Hf' H' (n.trans n') r
  | er c cs' => exact fun ca' Hf' H' cls n' r => h ca' Hf' H' cls (n.trans n') r
  | no => exact h
theorem Gs.bind {m : M α} {k : α → M β} {P : List Addr → Hp → Hp → Store → β → Prop} (h : Gs X W B ca Hf ρ σ (bnd m k cs) P) :
    Gs X W B ca Hf ρ σ (m cs) (fun ca1 Hf1 _ cs1 a => Gs X W B ca1 Hf1 ρ σ (k a cs1) P) := by
  unfold bnd at h
  cases e : m cs with
  | ok a cs1 => rw [e] at h; exact fun ca1 Hf1 H1 n r => Gs.fwd h n
  | er c cs1 => rw [e] at h; exact h
  | no => rw [e] at h; exact h
theorem Gs.ret_ {a : α} (h : Gs X W B ca Hf ρ σ (ret a cs) P) (r : Rel B ca ρ cs Hf σ H) : P ca Hf H cs a := h ca Hf H Nx.refl r
theorem Gs.ofO_ {o : Option α} (h : Gs X W B ca Hf ρ σ (ofO o cs) P) (r : Rel B ca ρ cs Hf σ H) : ∃ a, o = some a ∧ P ca Hf H cs a := by
  cases o with
  | none => exact h.elim
  | some a => exact ⟨a, rfl, h ca Hf H Nx.refl r⟩
end
end Dn

set_option Elab.async false
set_option linter.all false
set_option maxRecDepth 100000
set_option maxHeartbeats 1000000
/-! Dn2: expressions. -/
namespace Dn
open PySem L2

/-! ### views of operands -/
def Lv (Hf H : Hp) (v : V) (d : D) : Prop := Dd H v d ∧ match d with
  | .list xs => ∃ a vs, v = .ref a ∧ Rd H a (.lst vs) ∧ Dds Hf vs xs
  | .tuple xs => (∃ a vs, v = .ref a ∧ Rd H a (.tup vs) ∧ Dds Hf vs xs) ∧ Dd Hf v d
  | _ => Dd Hf v d
def vw : S → Store → Option D
  | .d x, _ => some x
  | .cel j, cs => match cs[j]? with
    | some (.lst xs) => some (.list xs)
    | _ => none
  | _, _ => none
def vwM (s : S) : M D := fun cs => match vw s cs with
  | some d => .ok d cs
  | none => .no
section
variable {B : Hp} {ca ca' : List Addr} {ρ : List S} {cs : Store} {Hf Hf' : Hp} {σ : L2.St} {H H' : Hp} {s : S} {v w : V} {d : D} {o : OC}
theorem Lv.of (e : Ex Hf H) (h : Dd Hf v d) : Lv Hf H v d := by
  refine ⟨dp_ex e h, ?_⟩
  cases h with
  | lst h a => exact ⟨_, _, rfl, rd_ex e h, a⟩
  | tup h a => exact ⟨⟨_, _, rfl, rd_ex e h, a⟩, .tup h a⟩
  | non => exact .non
  | bl b => exact .bl b
  | int i => exact .int i
  | str x => exact .str x
theorem vw_ok (r : Rel B ca ρ cs Hf σ H) (h : SvOk ca Hf s v) (e : vw s cs = some d) : Lv Hf H v d := by
  cases s with
  | no => exact h.elim
  | fn a => cases e
  | d x =>
    have : x = d := Option.some.inj e
    subst this
    exact Lv.of r.ext h
  | cel j =>
    obtain ⟨a, h1, rfl⟩ := h
    have e' : (match cs[j]? with
      | some (.lst xs) => some (.list xs)
      | _ => none) = some d := e
    split at e'
    · rename_i xs q
      cases e'
      obtain ⟨vs, g1, g2⟩ := r.cell q h1
      exact ⟨.lst (.inl g1) (dps_ex r.ext g2), a, vs, rfl, .inl g1, g2⟩
    · cases e'
theorem Lv.flat (h : Lv Hf H v d) (n : ∀ xs, d ≠ .list xs) : Dd Hf v d := by
  obtain ⟨_, h⟩ := h
  cases d with
  | list xs => exact absurd rfl (n xs)
  | tuple xs => exact h.2
  | _ => exact h
theorem Lv.lst {xs : List D} (h : Lv Hf H v (.list xs)) : ∃ a vs, v = .ref a ∧ Rd H a (.lst vs) ∧ Dds Hf vs xs := h.2
theorem Lv.tup {xs : List D} (h : Lv Hf H v (.tuple xs)) : ∃ a vs, v = .ref a ∧ Rd H a (.tup vs) ∧ Dds Hf vs xs := h.2.1
theorem Lv.int_ {i : Int} (h : Lv Hf H v (.int i)) : v = .int i := by cases h.1; rfl
theorem Lv.str_ {x : Str} (h : Lv Hf H v (.str x)) : v = .str x := by cases h.1; rfl
theorem Lv.bl_ {x : Bool} (h : Lv Hf H v (.bool x)) : v = .bl x := by cases h.1; rfl
theorem Lv.non_ (h : Lv Hf H v .none) : v = .non := by cases h.1; rfl

/-- the heap grows by frozen things -/
structure Gw (Hf H Hf' H' : Hp) : Prop where
  ex : Ex Hf Hf'
  kp : Ex H H'
  ext : Ex Hf' H'
  nhf : ∀ a, Hf' a ≠ none → Hf a ≠ none ∨ H a = none
theorem Gw.refl (e : Ex Hf H) : Gw Hf H Hf H := ⟨fun _ _ h => h, fun _ _ h => h, e, fun _ h => .inl h⟩
theorem Gw.new {o : HO} {p : Addr} (e : Ex Hf H) (hp : H p = none) : Gw Hf H (upd Hf p o) (upd H p o) := by
  have nf : Hf p = none := by
    cases q : Hf p with
    | none => rfl
    | some u => rw [e p u q] at hp; cases hp
  refine ⟨ex_new nf, ex_new hp, fun a u h => ?_, fun a h => ?_⟩
  · by_cases q : a = p
    · subst q; rw [upd_same] at h ⊢; exact h
    · rw [upd_ne q] at h ⊢; exact e a u h
  · by_cases q : a = p
    · exact .inr (q ▸ hp)
    · rw [upd_ne q] at h; exact .inl h
theorem Rel.gw (r : Rel B ca ρ cs Hf σ H) (g : Gw Hf H Hf' H') : Rel B ca ρ cs Hf' σ H' ∧ Nx ca Hf ca Hf' := by
  have n : Nx ca Hf ca Hf' := ⟨List.prefix_refl _, g.ex⟩
  have no : ∀ a, H a ≠ none → Hf a = none → Hf' a = none := fun a h1 h2 => by
    cases q : Hf' a with
    | none => rfl
    | some u =>
      rcases g.nhf a (by rw [q]; simp) with z | z
      · exact absurd h2 z
      · exact absurd z h1
  refine ⟨⟨g.ext, r.len, fun i s q => ?_, fun j u q => ?_, r.lenc, r.nd, fun a m => no a (r.there m) (r.off a m), fun a u h => g.kp a u (r.exb a u h), fun a m => ?_⟩, n⟩
  · rcases r.sl i s q with z | ⟨v, h1, h2⟩
    · exact .inl z
    · exact .inr ⟨v, h1, h2.nx n⟩
  · obtain ⟨a, h1, h2⟩ := (r.grow g.kp).cells j u q
    exact ⟨a, h1, h2.at rfl g.ex⟩
  · obtain ⟨h1, h2⟩ := r.dis a m
    refine ⟨no a ?_ h1, h2⟩
    cases q : B a with
    | none => exact absurd q m
    | some u => rw [r.exb a u q]; simp
end

/-! ### operators over data -/
def rD (g : D → D → Option D) : R2 := fun x y H Q => ∃ Hf da db d, g da db = some d ∧ Ex Hf H ∧ Lv Hf H x da ∧ Lv Hf H y db ∧ ∀ v Hf' H', Gw Hf H Hf' H' → Dd Hf' v d → Q v H'
def rDb (g : D → D → Option Bool) : R2 := fun x y H Q => ∃ Hf da db b, g da db = some b ∧ Ex Hf H ∧ Lv Hf H x da ∧ Lv Hf H y db ∧ Q (.bl b) H
def addD : D → D → Option D
  | .int i, .int j => some (.int (i + j))
  | .str x, .str y => if x.length + y.length ≤ sizeLine then some (.str (x ++ y)) else none
  | .tuple xs, .tuple ys => if xs.length + ys.length ≤ sizeLine then some (.tuple (xs ++ ys)) else none
  | .list xs, .list ys => if xs.length + ys.length ≤ sizeLine then some (.list (xs ++ ys)) else none
  | _, _ => none
def subD : D → D → Option D
  | .int i, .int j => some (.int (i - j))
  | _, _ => none
def mulD : D → D → Option D
  | .int i, .int j => if i.natAbs.log2 + j.natAbs.log2 < 1000000 then some (.int (i * j)) else none
  | _, _ => none
def fdivD : D → D → Option D
  | .int i, .int j => if 0 < j ∧ j.natAbs.log2 < 9000 then some (.int (i / j)) else none
  | _, _ => none
def modD : D → D → Option D
  | .int i, .int j => if 0 < j then some (.int (i % j)) else none
  | _, _ => none
def powD : D → D → Option D
  | .int i, .int j => if 0 ≤ j ∧ j ≤ 1000000 ∧ i.natAbs < 2 ^ 64 then some (.int (i ^ j.toNat)) else none
  | _, _ => none
def scalD : D → D → Bool
  | .none, .none => true | .none, .int _ => true | .int _, .none => true | .none, .bool _ => true | .bool _, .none => true | .none, .str _ => true | .str _, .none => true
  | .int _, .int _ => true | .bool _, .bool _ => true | .str _, .str _ => true
  | .int _, .str _ => true | .str _, .int _ => true | .bool _, .str _ => true | .str _, .bool _ => true
  | _, _ => false
def eqD (a b : D) : Option Bool := if scalD a b || (SeqAt.shaped a && SeqAt.shaped b) then some (PyData.eqv a b) else none
def neD (a b : D) : Option Bool := (eqD a b).map (!·)
def ltD : D → D → Option Bool
  | .int i, .int j => some (decide (i < j))
  | .str x, .str y => some (decide (x.cps.toList < y.cps.toList))
  | _, _ => none
def leD : D → D → Option Bool
  | .int i, .int j => some (decide (i ≤ j))
  | _, _ => none
def gtD : D → D → Option Bool
  | .int i, .int j => some (decide (j < i))
  | _, _ => none
def geD : D → D → Option Bool
  | .int i, .int j => some (decide (j ≤ i))
  | _, _ => none
def flatD : D → Bool
  | .none => true | .bool _ => true | .int _ => true | .str _ => true
  | _ => false
def inD (x : D) : D → Option Bool
  | .list ys => if flatD x && ys.all flatD || (SeqAt.shaped x && SeqAt.shaped (.list ys)) then some (ys.any fun y => PyData.eqv y x) else none
  | .tuple ys => if flatD x && ys.all flatD then some (ys.any fun y => PyData.eqv y x) else none
  | .str z => match x with
    | .str c => if c.length = 1 then some (decide (c.cps.getD 0 0 ∈ z.cps.toList)) else none
    | _ => none
  | _ => none
def ninD (x ys : D) : Option Bool := (inD x ys).map (!·)
def isnD : D → Option Bool
  | .none => some true
  | _ => some false
def lenD : D → Option Nat
  | .str x => if x.length ≤ sizeLine then some x.length else none
  | .list xs => some xs.length
  | .tuple xs => some xs.length
  | _ => none
def ixD : D → D → Option D
  | .list xs, .int i => atI xs i
  | .tuple xs, .int i => atI xs i
  | .str z, .int i => if z.length ≤ sizeLine then (atI z.cps.toList i).map fun c => .str ⟨#[c]⟩ else none
  | _, _ => none
def truD : D → Option Bool
  | .none => some false
  | .bool b => some b
  | .int i => some (i != 0)
  | .str x => if x.length ≤ sizeLine then some (x.length != 0) else none
  | .list xs => some (!xs.isEmpty)
  | .tuple xs => some (!xs.isEmpty)
  | .dict _ => none
def cutD (xs : List D) (lo hi : Option Int) : List D := (xs.drop (HT.sIx xs.length 0 lo)).take (HT.sIx xs.length xs.length hi - HT.sIx xs.length 0 lo)
/-- the types' names -/
def tyD : D → String
  | .none => "NoneType" | .bool _ => "bool" | .int _ => "int" | .str _ => "str" | .list _ => "list" | .tuple _ => "tuple" | .dict _ => "dict"
def isaD (T : String) : D → Bool
  | .none => T == "NoneType" | .bool _ => T == "bool" || T == "int" | .int _ => T == "int" | .str _ => T == "str" | .list _ => T == "list" | .tuple _ => T == "tuple" | .dict _ => T == "dict"

section
variable {X : Cx} {pins : List (Addr × Obj)} {σ : L2.St} {H Hf Hf' : Hp} {s : Shared} {l b : Addr} {xs ys zs : List V} {v : V} {d : D} {ds : List D}
theorem Inv.rdl (I : Inv X pins σ H s) (h : Rd H l (.lst xs)) : xs.length ≤ sizeLine ∧ ∃ (its : List Value) (n : Nat), Vals xs its ∧ xs.length = its.length ∧ s.heap.get? l = some { cls := .type "list", data := .seq its.toArray n } := by
  obtain ⟨z, its, n, r, e⟩ := h.ok I.hok
  exact ⟨z, its, n, r, r.length, e⟩
theorem add_ok : OpR X (binaryOp .Add) (rD addD) := by
  intro pins s σ H x y v u Q I rx ry h
  obtain ⟨Hf, da, db, d, e, ex, ha, hb, q⟩ := h
  unfold addD at e
  split at e
  · cases e
    have := ha.int_; subst this
    have := hb.int_; subst this
    exact op_add pins s σ H _ _ v u Q I rx ry ⟨_, _, rfl, rfl, q _ _ _ (Gw.refl ex) (.int _)⟩
  · split at e
    · cases e
      have := ha.str_; subst this
      have := hb.str_; subst this
      exact op_add_str pins s σ H _ _ v u Q I rx ry ⟨_, _, rfl, rfl, by assumption, q _ _ _ (Gw.refl ex) (.str _)⟩
    · cases e
  · rename_i ds es
    split at e
    · rename_i hz
      cases e
      obtain ⟨a, vs, rfl, h1, h2⟩ := ha.tup
      obtain ⟨a', vs', rfl, h1', h2'⟩ := hb.tup
      have l1 := dps_len h2
      have l2 := dps_len h2'
      refine op_catA pins s σ H _ _ v u Q I rx ry ⟨a, a', vs, vs', rfl, rfl, .inl h1, .inl h1', by omega, fun z => ?_, fun z z' => ?_, fun z z' p hp => ?_⟩
      · have : ds = [] := by rw [z] at l1; exact List.length_eq_zero_iff.mp l1.symm
        subst this
        exact q _ _ _ (Gw.refl ex) (hb.flat fun _ z => nomatch z)
      · have : es = [] := by rw [z'] at l2; exact List.length_eq_zero_iff.mp l2.symm
        subst this
        rw [List.append_nil] at q
        exact q _ _ _ (Gw.refl ex) (ha.flat fun _ z => nomatch z)
      · have g := Gw.new (o := .tup (vs ++ vs')) ex hp
        exact q _ _ _ g (.tup (.inl upd_same) (dps_ex g.ex (dps_app h2 h2')))
    · cases e
  · rename_i ds es
    split at e
    · rename_i hz
      cases e
      obtain ⟨a, vs, rfl, h1, h2⟩ := ha.lst
      obtain ⟨a', vs', rfl, h1', h2'⟩ := hb.lst
      cases rx
      cases ry
      have l1 := dps_len h2
      have l2 := dps_len h2'
      obtain ⟨z, its, n, r, hl, e⟩ := Inv.rdl I h1
      obtain ⟨z2, its2, n2, r2, hl2, e2⟩ := Inv.rdl I h1'
      refine PySem.P.add_list e e2 ?_ (by rw [List.size_toArray, List.size_toArray]; omega)
      have ea : its.toArray ++ its2.toArray = (its ++ its2).toArray := by simp
      rw [ea]
      have g := Gw.new (o := .lst (vs ++ vs')) ex I.fresh
      exact ⟨.ref _, _, I.lnew (t' := s.toks) (r.append r2) (by rw [List.length_append]; omega), rfl, q _ _ _ g (.lst (.inl upd_same) (dps_ex g.ex (dps_app h2 h2')))⟩
    · cases e
  · cases e
theorem sub_ok : OpR X (binaryOp .Sub) (rD subD) := by
  intro pins s σ H x y v u Q I rx ry h
  obtain ⟨Hf, da, db, d, e, ex, ha, hb, q⟩ := h
  unfold subD at e
  split at e
  · cases e
    have := ha.int_; subst this
    have := hb.int_; subst this
    exact op_sub pins s σ H _ _ v u Q I rx ry ⟨_, _, rfl, rfl, q _ _ _ (Gw.refl ex) (.int _)⟩
  · cases e
theorem mul_ok : OpR X (binaryOp .Mult) (rD mulD) := by
  intro pins s σ H x y v u Q I rx ry h
  obtain ⟨Hf, da, db, d, e, ex, ha, hb, q⟩ := h
  unfold mulD at e
  split at e
  · split at e
    · cases e
      have := ha.int_; subst this
      have := hb.int_; subst this
      exact op_mulW pins s σ H _ _ v u Q I rx ry ⟨_, _, rfl, rfl, by assumption, q _ _ _ (Gw.refl ex) (.int _)⟩
    · cases e
  · cases e
theorem fdiv_ok : OpR X (binaryOp .FloorDiv) (rD fdivD) := by
  intro pins s σ H x y v u Q I rx ry h
  obtain ⟨Hf, da, db, d, e, ex, ha, hb, q⟩ := h
  unfold fdivD at e
  split at e
  · split at e
    · cases e
      have := ha.int_; subst this
      have := hb.int_; subst this
      exact op_fdivW pins s σ H _ _ v u Q I rx ry ⟨_, _, rfl, rfl, by assumption, q _ _ _ (Gw.refl ex) (.int _)⟩
    · cases e
  · cases e
theorem mod_ok : OpR X (binaryOp .Mod) (rD modD) := by
  intro pins s σ H x y v u Q I rx ry h
  obtain ⟨Hf, da, db, d, e, ex, ha, hb, q⟩ := h
  unfold modD at e
  split at e
  · split at e
    · cases e
      have := ha.int_; subst this
      have := hb.int_; subst this
      exact op_mod pins s σ H _ _ v u Q I rx ry ⟨_, _, rfl, rfl, by assumption, q _ _ _ (Gw.refl ex) (.int _)⟩
    · cases e
  · cases e
theorem pow_ok : OpR X (binaryOp .Pow) (rD powD) := by
  intro pins s σ H x y v u Q I rx ry h
  obtain ⟨Hf, da, db, d, e, ex, ha, hb, q⟩ := h
  unfold powD at e
  split at e
  · split at e
    · cases e
      have := ha.int_; subst this
      have := hb.int_; subst this
      exact op_pow pins s σ H _ _ v u Q I rx ry ⟨_, _, rfl, rfl, by assumption, q _ _ _ (Gw.refl ex) (.int _)⟩
    · cases e
  · cases e

/-! ### comparisons -/
theorem scal_eq {x y : V} {da db : D} (h : scalD da db = true) (ha : Dd H x da) (hb : Dd H y db) : scal x y = true ∧ decide (x = y) = PyData.eqv da db := by
  cases ha <;> cases hb <;> first
    | (exact absurd (show false = true from h) Bool.false_ne_true)
    | (refine ⟨rfl, ?_⟩; rw [PyData.eqv]; first | exact dec_int | exact dec_bl | exact dec_str)
    | (refine ⟨rfl, ?_⟩; simp [PyData.eqv]; done)
theorem eq_ok (hu : X.A.units + 64 < cLine) : OpR X (compareOp .Eq) (rDb eqD) := by
  intro pins s σ H x y v u Q I rx ry h
  obtain ⟨Hf, da, db, d, e, ex, ha, hb, q⟩ := h
  unfold eqD at e
  split at e
  · rename_i hs
    cases e
    by_cases hc : scalD da db = true
    · obtain ⟨s1, s2⟩ := scal_eq hc ha.1 hb.1
      exact op_eq pins s σ H x y v u Q I rx ry ⟨s1, by rw [s2]; exact q⟩
    · rw [Bool.or_eq_true, Bool.and_eq_true] at hs
      rcases hs with z | ⟨z1, z2⟩
      · exact absurd z hc
      · exact op_eqD hu pins s σ H x y v u Q I rx ry ⟨da, db, dd_dp _ ha.1, dd_dp _ hb.1, z1, z2, q⟩
  · cases e
theorem ne_ok (hu : X.A.units + 64 < cLine) : OpR X (compareOp .NotEq) (rDb neD) := by
  intro pins s σ H x y v u Q I rx ry h
  obtain ⟨Hf, da, db, d, e, ex, ha, hb, q⟩ := h
  unfold neD eqD at e
  split at e
  · rename_i hs
    cases e
    by_cases hc : scalD da db = true
    · obtain ⟨s1, s2⟩ := scal_eq hc ha.1 hb.1
      exact op_ne pins s σ H x y v u Q I rx ry ⟨s1, by rw [s2]; exact q⟩
    · rw [Bool.or_eq_true, Bool.and_eq_true] at hs
      rcases hs with z | ⟨z1, z2⟩
      · exact absurd z hc
      · exact op_neD hu pins s σ H x y v u Q I rx ry ⟨da, db, dd_dp _ ha.1, dd_dp _ hb.1, z1, z2, q⟩
  · cases e
theorem lt_ok : OpR X (compareOp .Lt) (rDb ltD) := by
  intro pins s σ H x y v u Q I rx ry h
  obtain ⟨Hf, da, db, d, e, ex, ha, hb, q⟩ := h
  unfold ltD at e
  split at e
  · cases e
    have := ha.int_; subst this
    have := hb.int_; subst this
    exact op_lt pins s σ H _ _ v u Q I rx ry ⟨_, _, rfl, rfl, q⟩
  · cases e
    have := ha.str_; subst this
    have := hb.str_; subst this
    exact op_lt_str pins s σ H _ _ v u Q I rx ry ⟨_, _, rfl, rfl, q⟩
  · cases e
theorem le_ok : OpR X (compareOp .LtE) (rDb leD) := by
  intro pins s σ H x y v u Q I rx ry h
  obtain ⟨Hf, da, db, d, e, ex, ha, hb, q⟩ := h
  unfold leD at e
  split at e
  · cases e
    have := ha.int_; subst this
    have := hb.int_; subst this
    exact op_le pins s σ H _ _ v u Q I rx ry ⟨_, _, rfl, rfl, q⟩
  · cases e
theorem gt_ok : OpR X (compareOp .Gt) (rDb gtD) := by
  intro pins s σ H x y v u Q I rx ry h
  obtain ⟨Hf, da, db, d, e, ex, ha, hb, q⟩ := h
  unfold gtD at e
  split at e
  · cases e
    have := ha.int_; subst this
    have := hb.int_; subst this
    exact op_gt pins s σ H _ _ v u Q I rx ry ⟨_, _, rfl, rfl, q⟩
  · cases e
theorem ge_ok : OpR X (compareOp .GtE) (rDb geD) := by
  intro pins s σ H x y v u Q I rx ry h
  obtain ⟨Hf, da, db, d, e, ex, ha, hb, q⟩ := h
  unfold geD at e
  split at e
  · cases e
    have := ha.int_; subst this
    have := hb.int_; subst this
    exact op_ge pins s σ H _ _ v u Q I rx ry ⟨_, _, rfl, rfl, q⟩
  · cases e
theorem flat_V (f : flatD d = true) (h : Dd H v d) : flatV v = true := by
  cases h <;> first | rfl | (exact absurd (show false = true from f) Bool.false_ne_true)
theorem eqV_eqv {x y : V} {da db : D} (fa : flatD da = true) (fb : flatD db = true) (ha : Dd H x da) (hb : Dd H y db) : eqV x y = PyData.eqv da db := by
  cases ha <;> cases hb <;> first
    | (exact absurd (show false = true from fa) Bool.false_ne_true)
    | (exact absurd (show false = true from fb) Bool.false_ne_true)
    | rfl
    | (unfold eqV; simp [PyData.eqv])
theorem flat_all : ∀ {xs : List V} {ds : List D}, ds.all flatD = true → Dds H xs ds → xs.all flatV = true
  | _, _, _, .nil => rfl
  | _, _, f, .cons h t => by
    rw [List.all_cons, Bool.and_eq_true] at f
    rw [List.all_cons, Bool.and_eq_true]
    exact ⟨flat_V f.1 h, flat_all f.2 t⟩
theorem inV_any {x : V} (fx : flatD d = true) (hx : Dd H x d) : ∀ {xs : List V} {ds : List D}, ds.all flatD = true → Dds H xs ds → inV x xs = ds.any fun y => PyData.eqv y d
  | _, _, _, .nil => rfl
  | _, _, f, .cons h t => by
    rw [List.all_cons, Bool.and_eq_true] at f
    have ih := inV_any fx hx f.2 t
    unfold inV at ih ⊢
    rw [List.any_cons, List.any_cons, ih, eqV_eqv f.1 fx h hx]
end
end Dn

set_option Elab.async false
set_option linter.all false
set_option maxRecDepth 100000
set_option maxHeartbeats 1000000
/-! Dn3: expressions' rules. -/
namespace Dn
open PySem L2
section
variable {X : Cx} {pins : List (Addr × Obj)} {σ : L2.St} {H Hf Hf' : Hp} {s : Shared} {v : V} {d : D}
theorem sign_of {c : Str} (h : c.length = 1) : c = ⟨#[c.cps.getD 0 0]⟩ := by
  obtain ⟨⟨l⟩⟩ := c
  match l, h with
  | [a], _ => rfl
  | [], h => exact absurd h (by decide)
  | a :: b :: r, h => exact absurd (show (a :: b :: r).length = 1 from h) (by simp)
theorem in_ok (hu : X.A.units + 65 < cLine) : OpR X (compareOp .In) (rDb inD) := by
  intro pins s σ H x y v u Q I rx ry h
  obtain ⟨Hf, da, db, d, e, ex, ha, hb, q⟩ := h
  unfold inD at e
  split at e
  · rename_i ys
    split at e
    · rename_i hs
      cases e
      obtain ⟨a, vs, rfl, h1, h2⟩ := hb.lst
      by_cases hf : (flatD da && ys.all flatD) = true
      · rw [Bool.and_eq_true] at hf
        have h2' := dps_ex ex h2
        refine op_in_seq pins s σ H _ _ v u Q I rx ry ⟨a, vs, rfl, .inl (.inl h1), flat_V hf.1 ha.1, flat_all hf.2 h2', ?_⟩
        show Q (.bl (inV x vs)) H
        rw [inV_any hf.1 ha.1 hf.2 h2']
        exact q
      · rw [Bool.or_eq_true] at hs
        rcases hs with z | z
        · exact absurd z hf
        · rw [Bool.and_eq_true] at z
          exact op_inD hu pins s σ H _ _ v u Q I rx ry ⟨da, ys, dd_dp _ ha.1, dd_dp _ hb.1, z.1, z.2, q⟩
    · cases e
  · rename_i ys
    split at e
    · rename_i hf
      cases e
      rw [Bool.and_eq_true] at hf
      obtain ⟨a, vs, rfl, h1, h2⟩ := hb.tup
      have h2' := dps_ex ex h2
      refine op_in_seq pins s σ H _ _ v u Q I rx ry ⟨a, vs, rfl, .inr (.inl h1), flat_V hf.1 ha.1, flat_all hf.2 h2', ?_⟩
      show Q (.bl (inV x vs)) H
      rw [inV_any hf.1 ha.1 hf.2 h2']
      exact q
    · cases e
  · split at e
    · rename_i c
      split at e
      · rename_i hc
        cases e
        have := ha.str_; subst this
        have := hb.str_; subst this
        exact op_in_sign pins s σ H _ _ v u Q I rx ry ⟨_, _, by rw [← sign_of hc], rfl, q⟩
      · cases e
    · cases e
  · cases e
theorem nin_ok (hu : X.A.units + 65 < cLine) : OpR X (compareOp .NotIn) (rDb ninD) := by
  intro pins s σ H x y v u Q I rx ry h
  obtain ⟨Hf, da, db, d, e, ex, ha, hb, q⟩ := h
  unfold ninD inD at e
  split at e
  · rename_i ys
    split at e
    · rename_i hs
      cases e
      obtain ⟨a, vs, rfl, h1, h2⟩ := hb.lst
      by_cases hf : (flatD da && ys.all flatD) = true
      · rw [Bool.and_eq_true] at hf
        have h2' := dps_ex ex h2
        refine op_notIn_seq pins s σ H _ _ v u Q I rx ry ⟨a, vs, rfl, .inl (.inl h1), flat_V hf.1 ha.1, flat_all hf.2 h2', ?_⟩
        show Q (.bl (!inV x vs)) H
        rw [inV_any hf.1 ha.1 hf.2 h2']
        exact q
      · rw [Bool.or_eq_true] at hs
        rcases hs with z | z
        · exact absurd z hf
        · rw [Bool.and_eq_true] at z
          exact op_notInD hu pins s σ H _ _ v u Q I rx ry ⟨da, ys, dd_dp _ ha.1, dd_dp _ hb.1, z.1, z.2, q⟩
    · cases e
  · rename_i ys
    split at e
    · rename_i hf
      cases e
      rw [Bool.and_eq_true] at hf
      obtain ⟨a, vs, rfl, h1, h2⟩ := hb.tup
      have h2' := dps_ex ex h2
      refine op_notIn_seq pins s σ H _ _ v u Q I rx ry ⟨a, vs, rfl, .inr (.inl h1), flat_V hf.1 ha.1, flat_all hf.2 h2', ?_⟩
      show Q (.bl (!inV x vs)) H
      rw [inV_any hf.1 ha.1 hf.2 h2']
      exact q
    · cases e
  · split at e
    · rename_i c
      split at e
      · rename_i hc
        cases e
        have := ha.str_; subst this
        have := hb.str_; subst this
        exact op_notIn_sign pins s σ H _ _ v u Q I rx ry ⟨_, _, by rw [← sign_of hc], rfl, q⟩
      · cases e
    · cases e
  · cases e
theorem ix_ok : IxR X (rD ixD) := by
  intro value slice pins s σ H x y v u Q I rx ry h hs
  obtain ⟨Hf, da, db, d, e, ex, ha, hb, q⟩ := h
  unfold ixD at e
  split at e
  · obtain ⟨a, vs, rfl, h1, h2⟩ := ha.lst
    have := hb.int_; subst this
    obtain ⟨j, g1, g2, g3, g4, g5⟩ := atI_get e
    obtain ⟨w, k1, k2⟩ := dps_get h2 g2
    refine ix_list value slice pins s σ H _ _ v u Q I rx ry ⟨a, vs, _, w, rfl, rfl, .inl h1, ?_, q _ _ _ (Gw.refl ex) k2⟩ hs
    unfold atI at e ⊢
    rw [dps_len h2]
    cases z : ixN _ _ with
    | none => rw [z] at e; cases e
    | some j' =>
      rw [z] at e
      have e' : _ = some d := e
      obtain ⟨hs', _⟩ := ixN_seq z
      rw [g1] at hs'; cases hs'
      exact k1
  · obtain ⟨a, vs, rfl, h1, h2⟩ := ha.tup
    have := hb.int_; subst this
    obtain ⟨j, g1, g2, g3, g4, g5⟩ := atI_get e
    obtain ⟨w, k1, k2⟩ := dps_get h2 g2
    refine ix_tup value slice pins s σ H _ _ v u Q I rx ry ⟨a, vs, _, w, rfl, rfl, .inl h1, ?_, q _ _ _ (Gw.refl ex) k2⟩ hs
    unfold atI at e ⊢
    rw [dps_len h2]
    cases z : ixN _ _ with
    | none => rw [z] at e; cases e
    | some j' =>
      rw [z] at e
      have e' : _ = some d := e
      obtain ⟨hs', _⟩ := ixN_seq z
      rw [g1] at hs'; cases hs'
      exact k1
  · split at e
    · rename_i hz
      have := ha.str_; subst this
      have := hb.int_; subst this
      cases z : atI _ _ with
      | none => rw [z] at e; cases e
      | some c =>
        rw [z] at e
        cases e
        exact ix_str value slice pins s σ H _ _ v u Q I rx ry ⟨_, _, c, rfl, rfl, hz, z, q _ _ _ (Gw.refl ex) (.str _)⟩ hs
    · cases e
  · cases e
/-- xs[lo:hi] -/
def slD (d : D) (lo hi : Option Int) : Option D := match d with
  | .list xs => some (.list (cutD xs lo hi))
  | .tuple xs => some (.tuple (cutD xs lo hi))
  | _ => none
theorem cut_dds {xs : List D} {vs : List V} (h : Dds Hf vs xs) (lo hi : Option Int) : Dds Hf (cutV vs lo hi) (cutD xs lo hi) := by
  unfold cutV cutD
  rw [dps_len h]
  exact dps_take _ (dps_drop _ h)
def rSl (x : V) (lo hi : Option Int) (H : Hp) (Q : VK) : Prop := ∃ Hf d e, slD d lo hi = some e ∧ Ex Hf H ∧ Lv Hf H x d ∧ ∀ v Hf' H', Gw Hf H Hf' H' → Dd Hf' v e → Q v H'
theorem sl_ok : SlR X rSl := by
  intro pins s σ H x v vl vu lo hi sl Q I rx hs pl pu h
  obtain ⟨Hf, d, e, he, ex, hx, q⟩ := h
  unfold slD at he
  split at he
  · rename_i xs
    cases he
    obtain ⟨a, vs, rfl, h1, h2⟩ := hx.lst
    refine sl_list pins s σ H _ v vl vu lo hi sl Q I rx hs pl pu ⟨a, vs, rfl, .inl h1, fun p hp => ?_⟩
    have g := Gw.new (o := .lst (cutV vs lo hi)) ex hp
    exact q _ _ _ g (.lst (.inl upd_same) (dps_ex g.ex (cut_dds h2 lo hi)))
  · rename_i xs
    cases he
    obtain ⟨a, vs, rfl, h1, h2⟩ := hx.tup
    refine sl_tupA pins s σ H _ v vl vu lo hi sl Q I rx hs pl pu ⟨a, vs, rfl, .inl h1, fun z => ?_, fun z p hp => ?_⟩
    · rw [dps_len h2] at z
      have : cutD xs lo hi = xs := by
        unfold cutD
        rw [z.1, z.2, List.drop_zero, Nat.sub_zero, List.take_length]
      rw [this] at q
      exact q _ _ _ (Gw.refl ex) (hx.flat fun _ z => nomatch z)
    · have g := Gw.new (o := .tup (cutV vs lo hi)) ex hp
      exact q _ _ _ g (.tup (.inl upd_same) (dps_ex g.ex (cut_dds h2 lo hi)))
  · cases he
theorem tru_dd {K : PySem.W.Frag} {b : Bool} (h : Dd H v d) (e : truD d = some b) : TruV K v H b := by
  cases h with
  | non => cases e; rfl
  | bl x => cases e; rfl
  | int i => cases e; rfl
  | str x =>
    have e' : (if x.length ≤ sizeLine then some (x.length != 0) else none) = some b := e
    split at e'
    · rename_i hz
      cases e'
      refine ⟨hz, ?_⟩
      rw [Bool.eq_iff_iff]
      simp
    · cases e'
  | lst h a =>
    cases e
    refine .inl ⟨_, .inl h, ?_⟩
    cases a <;> rfl
  | tup h a =>
    cases e
    refine .inr (.inl ⟨_, .inl h, ?_⟩)
    cases a <;> rfl
theorem ty_dd {K : PySem.W.Frag} (h : Dd H v d) : TyX K H v (.type (tyD d)) := by
  cases h with
  | non => exact .base .non
  | bl x => exact .base (.bl x)
  | int i => exact .base (.int i)
  | str x => exact .base (.str x)
  | lst h a =>
    rcases h with h | ⟨o, h⟩
    · exact .base (.lst h)
    · exact .base (.frz h)
  | tup h a =>
    rcases h with h | ⟨o, h⟩
    · exact .base (.tup h)
    · exact .fTuple h
end

/-! ### the mirrors of expressions -/
def eV (i : Nat) (ρ : List S) : M S := match ρ[i]? with
  | some (.d x) => ret (.d x)
  | some (.cel j) => ret (.cel j)
  | some (.fn a) => ret (.fn a)
  | _ => stuck
def eFn (a : Addr) (_ : List S) : M S := ret (.fn a)
def eC (d : D) (_ : List S) : M S := ret (.d d)
def op2 {β : Type} (g : D → D → Option β) (fa fb : List S → M S) (ρ : List S) : M β := bnd (fa ρ) fun a => bnd (fb ρ) fun b => bnd (vwM a) fun x => bnd (vwM b) fun y => ofO (g x y)
def op1 {β : Type} (g : D → Option β) (fa : List S → M S) (ρ : List S) : M β := bnd (fa ρ) fun a => bnd (vwM a) fun x => ofO (g x)
def eBin (g : D → D → Option D) (fa fb : List S → M S) (ρ : List S) : M S := bnd (op2 g fa fb ρ) fun d => ret (.d d)
def eCmp (g : D → D → Option Bool) (fa fb : List S → M S) (ρ : List S) : M S := bnd (op2 g fa fb ρ) fun b => ret (.d (.bool b))
def eIsN (fa : List S → M S) (ρ : List S) : M S := bnd (op1 isnD fa ρ) fun b => ret (.d (.bool b))
def eIsNN (fa : List S → M S) (ρ : List S) : M S := bnd (op1 isnD fa ρ) fun b => ret (.d (.bool (!b)))
def tT (fa : List S → M S) (ρ : List S) : M Bool := op1 truD fa ρ
def tNotM (f : List S → M Bool) (ρ : List S) : M Bool := bnd (f ρ) fun b => ret (!b)
def tAndM (f g : List S → M Bool) (ρ : List S) : M Bool := bnd (f ρ) fun b => if b = true then g ρ else ret false
def tOrM (f g : List S → M Bool) (ρ : List S) : M Bool := bnd (f ρ) fun b => if b = true then ret true else g ρ
def eAndM (f g : List S → M S) (ρ : List S) : M S := bnd (f ρ) fun a => bnd (vwM a) fun x => bnd (ofO (truD x)) fun b => if b = true then g ρ else ret a
def eOrM (f g : List S → M S) (ρ : List S) : M S := bnd (f ρ) fun a => bnd (vwM a) fun x => bnd (ofO (truD x)) fun b => if b = true then ret a else g ρ
def eNotM (f : List S → M S) (ρ : List S) : M S := bnd (op1 truD f ρ) fun b => ret (.d (.bool (!b)))
def eIf (t : List S → M Bool) (f g : List S → M S) (ρ : List S) : M S := bnd (t ρ) fun b => if b = true then f ρ else g ρ
def tChn (g g' : D → D → Option Bool) (fa fb fc : List S → M S) (ρ : List S) : M Bool := bnd (fa ρ) fun a => bnd (fb ρ) fun b => bnd (vwM a) fun x => bnd (vwM b) fun y => bnd (ofO (g x y)) fun k => if k = true then bnd (fc ρ) fun c => bnd (vwM b) fun y' => bnd (vwM c) fun z => ofO (g' y' z) else ret false
def eChn (g g' : D → D → Option Bool) (fa fb fc : List S → M S) (ρ : List S) : M S := bnd (tChn g g' fa fb fc ρ) fun b => ret (.d (.bool b))
def aNil (_ : List S) : M (List S) := ret []
def aCons (f : List S → M S) (g : List S → M (List S)) (ρ : List S) : M (List S) := bnd (f ρ) fun a => bnd (g ρ) fun as => ret (a :: as)
def asD : List S → Option (List D)
  | [] => some []
  | .d x :: r => (asD r).map (x :: ·)
  | _ :: _ => none
def eTup (g : List S → M (List S)) (ρ : List S) : M S := bnd (g ρ) fun as => bnd (ofO (asD as)) fun xs => if xs.length ≤ sizeLine then ret (.d (.tuple xs)) else stuck
def eLst (g : List S → M (List S)) (ρ : List S) : M Rv := bnd (g ρ) fun as => bnd (ofO (asD as)) fun xs => if xs.length ≤ sizeLine then ret (.own (.lst xs)) else stuck
def frz : Rv → M S
  | .d x => ret (.d x)
  | .own (.lst xs) => ret (.d (.list xs))
  | .cel j => ret (.cel j)
  | _ => stuck
def eFrz (f : List S → M Rv) (ρ : List S) : M S := bnd (f ρ) frz
def sRv : S → M Rv
  | .d x => ret (.d x)
  | .cel j => ret (.cel j)
  | _ => stuck
def eRv (f : List S → M S) (ρ : List S) : M Rv := bnd (f ρ) sRv
def oNone (_ : List S) : M (Option Int) := ret none
def oSome (f : List S → M S) (ρ : List S) : M (Option Int) := bnd (f ρ) fun a => match a with
  | .d (.int i) => ret (some i)
  | _ => stuck
def eSl (f : List S → M S) (l h : List S → M (Option Int)) (ρ : List S) : M S := bnd (f ρ) fun a => bnd (l ρ) fun lo => bnd (h ρ) fun hi => bnd (vwM a) fun x => bnd (ofO (slD x lo hi)) fun d => ret (.d d)

section
variable {X : Cx} {W : WX} {B : Hp} {ca : List Addr} {Hf H : Hp} {ρ : List S} {σ : L2.St} {cs : Store} {α β : Type} {P : List Addr → Hp → Hp → Store → β → Prop}
theorem vwM_ {a : S} {k : D → M β} (r : Rel B ca ρ cs Hf σ H) (h : Gs X W B ca Hf ρ σ (bnd (vwM a) k cs) P) : ∃ d, vw a cs = some d ∧ Gs X W B ca Hf ρ σ (k d cs) P := by
  unfold bnd vwM at h
  cases e : vw a cs with
  | none => rw [e] at h; exact h.elim
  | some d => rw [e] at h; exact ⟨d, rfl, h⟩
theorem ofOb_ {o : Option α} {k : α → M β} (h : Gs X W B ca Hf ρ σ (bnd (ofO o) k cs) P) : ∃ d, o = some d ∧ Gs X W B ca Hf ρ σ (k d cs) P := by
  cases o with
  | none => exact h.elim
  | some d => exact ⟨d, rfl, h⟩
abbrev KE (X : Cx) (W : WX) (t : TE) (f : List S → M S) : Prop := ∀ (B : Hp) (ca : List Addr) (ρ : List S) (cs : Store) (Hf : Hp) (σ : L2.St) (H : Hp) (Q : VK), Rel B ca ρ cs Hf σ H →
  Gs X W B ca Hf ρ σ (f ρ cs) (fun ca' Hf' H' _ s => ∀ v, SvOk ca' Hf' s v → Q v H') → t σ H Q
theorem op2_run {γ : Type} {g : D → D → Option γ} {fa fb : List S → M S} {ta tb : TE} {P : List Addr → Hp → Hp → Store → β → Prop} {k : γ → M β} (ka : KE X W ta fa) (kb : KE X W tb fb) (r : Rel B ca ρ cs Hf σ H)
    (h : Gs X W B ca Hf ρ σ (bnd (op2 g fa fb ρ) k cs) P) {R : V → V → Hp → Prop}
    (hR : ∀ ca2 Hf2 H2 cs2 x y da db z, Nx ca Hf ca2 Hf2 → Rel B ca2 ρ cs2 Hf2 σ H2 → Lv Hf2 H2 x da → Lv Hf2 H2 y db → g da db = some z → Gs X W B ca2 Hf2 ρ σ (k z cs2) P → R x y H2) :
    ta σ H fun x H1 => tb σ H1 fun y H2 => R x y H2 := by
  have h' : Gs X W B ca Hf ρ σ (bnd (fa ρ) (fun a => bnd (fb ρ) fun b => bnd (vwM a) fun x => bnd (vwM b) fun y => bnd (ofO (g x y)) k) cs) P := by
    have e : bnd (op2 g fa fb ρ) k cs = bnd (fa ρ) (fun a => bnd (fb ρ) fun b => bnd (vwM a) fun x => bnd (vwM b) fun y => bnd (ofO (g x y)) k) cs := by
      unfold op2 bnd
      cases fa ρ cs with
      | ok a c1 =>
        dsimp only
        cases fb ρ c1 with
        | ok b c2 =>
          dsimp only
          cases vwM a c2 with
          | ok x c3 =>
            dsimp only
            cases vwM b c3 with
            | ok y c4 => rfl
            | er _ _ => rfl
            | no => rfl
          | er _ _ => rfl
          | no => rfl
        | er _ _ => rfl
        | no => rfl
      | er _ _ => rfl
      | no => rfl
    rw [← e]; exact h
  refine ka B ca ρ cs Hf σ H _ r (h'.bind.mono fun ca1 Hf1 H1 cs1 a n1 r1 h1 x hx => ?_)
  refine kb B ca1 ρ cs1 Hf1 σ H1 _ r1 (h1.bind.mono fun ca2 Hf2 H2 cs2 b n2 r2 h2 y hy => ?_)
  obtain ⟨da, e1, h3⟩ := vwM_ r2 h2
  obtain ⟨db, e2, h4⟩ := vwM_ r2 h3
  obtain ⟨z, e3, h5⟩ := ofOb_ h4
  exact hR ca2 Hf2 H2 cs2 x y da db z (n1.trans n2) r2 (vw_ok r2 (hx.nx n2) e1) (vw_ok r2 hy e2) e3 h5
theorem op1_run {γ : Type} {g : D → Option γ} {fa : List S → M S} {ta : TE} {k : γ → M β} (ka : KE X W ta fa) (r : Rel B ca ρ cs Hf σ H)
    (h : Gs X W B ca Hf ρ σ (bnd (op1 g fa ρ) k cs) P) {R : V → Hp → Prop}
    (hR : ∀ ca2 Hf2 H2 cs2 x da z, Nx ca Hf ca2 Hf2 → Rel B ca2 ρ cs2 Hf2 σ H2 → Lv Hf2 H2 x da → g da = some z → Gs X W B ca2 Hf2 ρ σ (k z cs2) P → R x H2) :
    ta σ H fun x H1 => R x H1 := by
  have h' : Gs X W B ca Hf ρ σ (bnd (fa ρ) (fun a => bnd (vwM a) fun x => bnd (ofO (g x)) k) cs) P := by
    have e : bnd (op1 g fa ρ) k cs = bnd (fa ρ) (fun a => bnd (vwM a) fun x => bnd (ofO (g x)) k) cs := by
      unfold op1 bnd
      cases fa ρ cs with
      | ok a c1 =>
        dsimp only
        cases vwM a c1 with
        | ok x c3 => rfl
        | er _ _ => rfl
        | no => rfl
      | er _ _ => rfl
      | no => rfl
    rw [← e]; exact h
  refine ka B ca ρ cs Hf σ H _ r (h'.bind.mono fun ca1 Hf1 H1 cs1 a n1 r1 h1 x hx => ?_)
  obtain ⟨da, e1, h3⟩ := vwM_ r1 h1
  obtain ⟨z, e3, h5⟩ := ofOb_ h3
  exact hR ca1 Hf1 H1 cs1 x da z n1 r1 (vw_ok r1 hx e1) e3 h5
/-- a Gs without a rest -/
theorem Gs.rest {res : M β} (h : Gs X W B ca Hf ρ σ (res cs) P) : Gs X W B ca Hf ρ σ (bnd res ret cs) P := by
  have e : bnd res ret cs = res cs := by
    unfold bnd
    cases res cs <;> rfl
  rw [e]; exact h
end

section
variable {X : Cx} {W : WX} {a b c : Expr} {fa fb fc : List S → M S} {pos : Pos}
theorem de_name (i : Nat) {x : Str} (hN : X.N[i]? = some x := by rfl) (hv : Vis X.env.scope x := by first | exact Or.inl rfl | exact Or.inr (Or.inl rfl) | exact Or.inr (Or.inr rfl)) (hd : (x == ("__debug__" : Str)) = false := by decide)
    (hcd : (x == ("__classdict__" : Str)) = false := by decide) : DE X W (.Name x pos) (eV i) := by
  refine ⟨_, pe_var hN hv hd hcd, fun B ca ρ cs Hf σ H Q r h => ?_⟩
  unfold eV at h
  cases e : ρ[i]? with
  | none => rw [e] at h; exact h.elim
  | some s =>
    rw [e] at h
    cases s with
    | no => exact h.elim
    | d x =>
      obtain ⟨v, h1, h2⟩ := r.get e (fun z => nomatch z)
      exact ⟨v, h1, h.ret_ r v h2⟩
    | cel j =>
      obtain ⟨v, h1, h2⟩ := r.get e (fun z => nomatch z)
      exact ⟨v, h1, h.ret_ r v h2⟩
    | fn a =>
      obtain ⟨v, h1, h2⟩ := r.get e (fun z => nomatch z)
      exact ⟨v, h1, h.ret_ r v h2⟩
theorem de_int {i j} : DE X W (.Constant (.int i) j pos) (eC (.int i)) := ⟨_, pe_int, fun B ca ρ cs Hf σ H Q r h => h.ret_ r _ (.int i)⟩
theorem de_bl {i j} : DE X W (.Constant (.bool i) j pos) (eC (.bool i)) := ⟨_, pe_bl, fun B ca ρ cs Hf σ H Q r h => h.ret_ r _ (.bl i)⟩
theorem de_str {i j} : DE X W (.Constant (.str i) j pos) (eC (.str i)) := ⟨_, pe_str, fun B ca ρ cs Hf σ H Q r h => h.ret_ r _ (.str i)⟩
theorem de_non {j} : DE X W (.Constant .none j pos) (eC .none) := ⟨_, pe_non, fun B ca ρ cs Hf σ H Q r h => h.ret_ r _ .non⟩
theorem de_globI {x : Str} {i : Int} {t : Tok} (hm : X.mg x = some (.int i t)) (hg : Gl X x := by rfl) (hd : (x == ("__debug__" : Str)) = false := by decide) : DE X W (.Name x pos) (eC (.int i)) :=
  ⟨_, pe_glob (v := .int i) hg hm ⟨t, rfl⟩ hd, fun B ca ρ cs Hf σ H Q r h => h.ret_ r _ (.int i)⟩
theorem de_globF {x : Str} {a : Addr} (hm : X.mg x = some (.ref a)) (hg : Gl X x := by rfl) (hd : (x == ("__debug__" : Str)) = false := by decide) : DE X W (.Name x pos) (eFn a) :=
  ⟨_, pe_glob (v := .ref a) hg hm rfl hd, fun B ca ρ cs Hf σ H Q r h => h.ret_ r _ rfl⟩
theorem de_globS {x y : Str} {t : Tok} (hm : X.mg x = some (.str y t)) (hg : Gl X x := by rfl) (hd : (x == ("__debug__" : Str)) = false := by decide) : DE X W (.Name x pos) (eC (.str y)) :=
  ⟨_, pe_glob (v := .str y) hg hm ⟨t, rfl⟩ hd, fun B ca ρ cs Hf σ H Q r h => h.ret_ r _ (.str y)⟩
theorem DO.frz {f : List S → M Rv} (h : DO X W a f) : DE X W a (eFrz f) := by
  obtain ⟨t, p, k⟩ := h
  refine ⟨t, p, fun B ca ρ cs Hf σ H Q r h => ?_⟩
  refine k B ca ρ cs Hf σ H Q r (h.bind.mono fun ca1 Hf1 H1 cs1 rv n1 r1 h1 v hv => ?_)
  cases rv with
  | d x => exact h1.ret_ r1 v hv
  | cel j => exact h1.ret_ r1 v hv
  | own o =>
    cases o with
    | lst xs =>
      obtain ⟨Hf2, r2, n2, dp⟩ := r1.own hv
      exact h1 ca1 Hf2 H1 n2 r2 v dp
    | dK kvs => exact h1.elim
theorem DE.rv (h : DE X W a fa) : DO X W a (eRv fa) := by
  obtain ⟨t, p, k⟩ := h
  refine ⟨t, p, fun B ca ρ cs Hf σ H Q r h => ?_⟩
  refine k B ca ρ cs Hf σ H Q r (h.bind.mono fun ca1 Hf1 H1 cs1 s n1 r1 h1 v hv => ?_)
  cases s with
  | d x => exact h1.ret_ r1 v hv
  | cel j => exact h1.ret_ r1 v hv
  | fn a => exact h1.elim
  | no => exact h1.elim
theorem de_op {op : Operator} {g : D → D → Option D} (ho : OpR X (binaryOp op) (rD g)) (ha : DE X W a fa) (hb : DE X W b fb) : DE X W (.BinOp a op b pos) (eBin g fa fb) := by
  obtain ⟨ta, pa, ka⟩ := ha
  obtain ⟨tb, pb, kb⟩ := hb
  refine ⟨_, pe_op ho pa pb, fun B ca ρ cs Hf σ H Q r h => ?_⟩
  refine op2_run ka kb r h fun ca2 Hf2 H2 cs2 x y da db z n2 r2 hx hy hz h2 => ?_
  refine ⟨Hf2, da, db, z, hz, r2.ext, hx, hy, fun v Hf3 H3 g3 dv => ?_⟩
  obtain ⟨r3, n3⟩ := r2.gw g3
  exact h2 ca2 Hf3 H3 n3 r3 v dv
theorem de_cmp {op : CmpOp} {g : D → D → Option Bool} (ho : OpR X (compareOp op) (rDb g)) (ha : DE X W a fa) (hb : DE X W b fb) (hm : behindInMarks op b = false := by rfl) : DE X W (.Compare a [op] [b] pos) (eCmp g fa fb) := by
  obtain ⟨ta, pa, ka⟩ := ha
  obtain ⟨tb, pb, kb⟩ := hb
  refine ⟨_, pe_cmpR ho pa pb hm, fun B ca ρ cs Hf σ H Q r h => ?_⟩
  refine op2_run ka kb r h fun ca2 Hf2 H2 cs2 x y da db z n2 r2 hx hy hz h2 => ?_
  exact ⟨Hf2, da, db, z, hz, r2.ext, hx, hy, h2.ret_ r2 _ (.bl z)⟩
theorem dt_cmp {op : CmpOp} {g : D → D → Option Bool} (ho : OpR X (compareOp op) (rDb g)) (ha : DE X W a fa) (hb : DE X W b fb) (hm : behindInMarks op b = false := by rfl) : DT X W (.Compare a [op] [b] pos) (op2 g fa fb) := by
  obtain ⟨ta, pa, ka⟩ := ha
  obtain ⟨tb, pb, kb⟩ := hb
  refine ⟨_, pt_cmpR ho pa pb hm, fun B ca ρ cs Hf σ H Q r h => ?_⟩
  refine op2_run ka kb r h.rest fun ca2 Hf2 H2 cs2 x y da db z n2 r2 hx hy hz h2 => ?_
  exact ⟨Hf2, da, db, z, hz, r2.ext, hx, hy, z, rfl, h2.ret_ r2⟩
theorem isn_dec {da : D} {x : V} {k : Bool} (hx : Dd H x da) (hz : isnD da = some k) : decide (x = V.non) = k := by
  cases hx <;> (unfold isnD at hz; cases hz; first | rfl | simp)
theorem de_isn {j p} (ha : DE X W a fa) : DE X W (.Compare a [.Is] [.Constant .none j p] pos) (eIsN fa) := by
  obtain ⟨ta, pa, ka⟩ := ha
  refine ⟨_, pe_cmpR op_isN pa pe_non rfl, fun B ca ρ cs Hf σ H Q r h => ?_⟩
  refine op1_run ka r h fun ca2 Hf2 H2 cs2 x da z n2 r2 hx hz h2 => ?_
  refine ⟨rfl, ?_⟩
  rw [isn_dec hx.1 hz]
  exact h2.ret_ r2 _ (.bl z)
theorem de_isnn {j p} (ha : DE X W a fa) : DE X W (.Compare a [.IsNot] [.Constant .none j p] pos) (eIsNN fa) := by
  obtain ⟨ta, pa, ka⟩ := ha
  refine ⟨_, pe_cmpR op_notN pa pe_non rfl, fun B ca ρ cs Hf σ H Q r h => ?_⟩
  refine op1_run ka r h fun ca2 Hf2 H2 cs2 x da z n2 r2 hx hz h2 => ?_
  refine ⟨rfl, ?_⟩
  rw [isn_dec hx.1 hz]
  exact h2.ret_ r2 _ (.bl (!z))
theorem dt_isn {j p} (ha : DE X W a fa) : DT X W (.Compare a [.Is] [.Constant .none j p] pos) (op1 isnD fa) := by
  obtain ⟨ta, pa, ka⟩ := ha
  refine ⟨_, pt_cmpR op_isN pa pe_non rfl, fun B ca ρ cs Hf σ H Q r h => ?_⟩
  refine op1_run ka r h.rest fun ca2 Hf2 H2 cs2 x da z n2 r2 hx hz h2 => ?_
  refine ⟨rfl, z, by rw [isn_dec hx.1 hz], h2.ret_ r2⟩
theorem dt_isnn {j p} (ha : DE X W a fa) : DT X W (.Compare a [.IsNot] [.Constant .none j p] pos) (tNotM (op1 isnD fa)) := by
  obtain ⟨ta, pa, ka⟩ := ha
  refine ⟨_, pt_cmpR op_notN pa pe_non rfl, fun B ca ρ cs Hf σ H Q r h => ?_⟩
  refine op1_run ka r h fun ca2 Hf2 H2 cs2 x da z n2 r2 hx hz h2 => ?_
  refine ⟨rfl, !z, by rw [isn_dec hx.1 hz], h2.ret_ r2⟩
/-- an expression's truth as a test -/
theorem dt_tru (ha : DE X W a fa) (he : ∀ whole, isTrue a X.env whole = (do let v ← whole; standAt a.pos; holding [v] (truthy v)) := by intro _; rfl) : DT X W a (tT fa) := by
  obtain ⟨ta, pa, ka⟩ := ha
  refine ⟨_, pt_truth pa he, fun B ca ρ cs Hf σ H Q r h => ?_⟩
  refine op1_run ka r h.rest fun ca2 Hf2 H2 cs2 x da z n2 r2 hx hz h2 => ?_
  exact ⟨z, tru_dd hx.1 hz, h2.ret_ r2⟩
theorem dt_not {f : List S → M Bool} (ha : DT X W a f) : DT X W (.UnaryOp .Not a pos) (tNotM f) := by
  obtain ⟨ta, pa, ka⟩ := ha
  refine ⟨_, pt_not pa, fun B ca ρ cs Hf σ H Q r h => ?_⟩
  exact ka B ca ρ cs Hf σ H _ r (h.bind.mono fun ca1 Hf1 H1 cs1 z n1 r1 h1 => h1.ret_ r1)
theorem DW.dt {f : List S → M Bool} (h : DW X W a f) : DT X W a f := let ⟨t, p, k⟩ := h; ⟨t, p.pt, k⟩
variable {f g : List S → M Bool} {rest : List Expr}
theorem dw_and1 (h : DT X W a f) : DW X W (.BoolOp .And [a] pos) f := let ⟨t, p, k⟩ := h; ⟨t, pw_and1 p, k⟩
theorem dw_or1 (h : DT X W a f) : DW X W (.BoolOp .Or [a] pos) f := let ⟨t, p, k⟩ := h; ⟨t, pw_or1 p, k⟩
theorem dw_and (ha : DT X W a f) (hb : DW X W (.BoolOp .And (b :: rest) pos) g) : DW X W (.BoolOp .And (a :: b :: rest) pos) (tAndM f g) := by
  obtain ⟨ta, pa, ka⟩ := ha
  obtain ⟨tb, pb, kb⟩ := hb
  refine ⟨_, pw_and pa pb, fun B ca ρ cs Hf σ H Q r h => ?_⟩
  refine ka B ca ρ cs Hf σ H _ r (h.bind.mono fun ca1 Hf1 H1 cs1 z n1 r1 h1 => ?_)
  cases z with
  | true => exact kb B ca1 ρ cs1 Hf1 σ H1 Q r1 h1
  | false => exact h1.ret_ r1
theorem dw_or (ha : DT X W a f) (hb : DW X W (.BoolOp .Or (b :: rest) pos) g) : DW X W (.BoolOp .Or (a :: b :: rest) pos) (tOrM f g) := by
  obtain ⟨ta, pa, ka⟩ := ha
  obtain ⟨tb, pb, kb⟩ := hb
  refine ⟨_, pw_or pa pb, fun B ca ρ cs Hf σ H Q r h => ?_⟩
  refine ka B ca ρ cs Hf σ H _ r (h.bind.mono fun ca1 Hf1 H1 cs1 z n1 r1 h1 => ?_)
  cases z with
  | true => exact h1.ret_ r1
  | false => exact kb B ca1 ρ cs1 Hf1 σ H1 Q r1 h1
theorem de_one {op} (h : DE X W a fa) : DE X W (.BoolOp op [a] pos) fa := let ⟨t, p, k⟩ := h; ⟨t, pe_one p, k⟩
theorem de_and (ha : DE X W a fa) (hb : DE X W (.BoolOp .And (b :: rest) pos) fb) : DE X W (.BoolOp .And (a :: b :: rest) pos) (eAndM fa fb) := by
  obtain ⟨ta, pa, ka⟩ := ha
  obtain ⟨tb, pb, kb⟩ := hb
  refine ⟨_, pe_andT pa pb, fun B ca ρ cs Hf σ H Q r h => ?_⟩
  refine ka B ca ρ cs Hf σ H _ r (h.bind.mono fun ca1 Hf1 H1 cs1 s n1 r1 h1 v hv => ?_)
  obtain ⟨d, e1, h2⟩ := vwM_ r1 h1
  obtain ⟨z, e2, h3⟩ := ofOb_ h2
  refine ⟨z, tru_dd (vw_ok r1 hv e1).1 e2, ?_⟩
  cases z with
  | true => exact kb B ca1 ρ cs1 Hf1 σ H1 Q r1 h3
  | false => exact h3.ret_ r1 v hv
theorem de_or (ha : DE X W a fa) (hb : DE X W (.BoolOp .Or (b :: rest) pos) fb) : DE X W (.BoolOp .Or (a :: b :: rest) pos) (eOrM fa fb) := by
  obtain ⟨ta, pa, ka⟩ := ha
  obtain ⟨tb, pb, kb⟩ := hb
  refine ⟨_, pe_orT pa pb, fun B ca ρ cs Hf σ H Q r h => ?_⟩
  refine ka B ca ρ cs Hf σ H _ r (h.bind.mono fun ca1 Hf1 H1 cs1 s n1 r1 h1 v hv => ?_)
  obtain ⟨d, e1, h2⟩ := vwM_ r1 h1
  obtain ⟨z, e2, h3⟩ := ofOb_ h2
  refine ⟨z, tru_dd (vw_ok r1 hv e1).1 e2, ?_⟩
  cases z with
  | true => exact h3.ret_ r1 v hv
  | false => exact kb B ca1 ρ cs1 Hf1 σ H1 Q r1 h3
theorem de_not (ha : DE X W a fa) : DE X W (.UnaryOp .Not a pos) (eNotM fa) := by
  obtain ⟨ta, pa, ka⟩ := ha
  refine ⟨_, pe_notT pa, fun B ca ρ cs Hf σ H Q r h => ?_⟩
  refine op1_run ka r h fun ca2 Hf2 H2 cs2 x da z n2 r2 hx hz h2 => ?_
  exact ⟨z, tru_dd hx.1 hz, h2.ret_ r2 _ (.bl (!z))⟩
theorem de_if (hc : DT X W c f) (ha : DE X W a fa) (hb : DE X W b fb) : DE X W (.IfExp c a b pos) (eIf f fa fb) := by
  obtain ⟨tc, pc, kc⟩ := hc
  obtain ⟨ta, pa, ka⟩ := ha
  obtain ⟨tb, pb, kb⟩ := hb
  refine ⟨_, pe_ifExp pc pa pb, fun B ca ρ cs Hf σ H Q r h => ?_⟩
  refine kc B ca ρ cs Hf σ H _ r (h.bind.mono fun ca1 Hf1 H1 cs1 z n1 r1 h1 => ?_)
  cases z with
  | true => exact ka B ca1 ρ cs1 Hf1 σ H1 Q r1 h1
  | false => exact kb B ca1 ρ cs1 Hf1 σ H1 Q r1 h1
theorem chn_run {ta tb tc : TE} {g g' : D → D → Option Bool} (ka : KE X W ta fa) (kb : KE X W tb fb) (kc : KE X W tc fc) {B : Hp} {ca : List Addr} {ρ : List S} {cs : Store} {Hf : Hp} {σ : L2.St} {H : Hp} (r : Rel B ca ρ cs Hf σ H) {R : Bool → Hp → Prop}
    (h : Gs X W B ca Hf ρ σ (tChn g g' fa fb fc ρ cs) (fun _ _ H' _ b => R b H')) : tChain (rDb g) (rDb g') ta tb tc σ H fun x H' => ∃ k, x = .bl k ∧ R k H' := by
  refine ka B ca ρ cs Hf σ H _ r (h.bind.mono fun ca1 Hf1 H1 cs1 s n1 r1 h1 x hx => ?_)
  refine kb B ca1 ρ cs1 Hf1 σ H1 _ r1 (h1.bind.mono fun ca2 Hf2 H2 cs2 s2 n2 r2 h2 y hy => ?_)
  obtain ⟨da, e1, h3⟩ := vwM_ r2 h2
  obtain ⟨db, e2, h4⟩ := vwM_ r2 h3
  obtain ⟨z, e3, h5⟩ := ofOb_ h4
  refine ⟨Hf2, da, db, z, e3, r2.ext, vw_ok r2 (hx.nx n2) e1, vw_ok r2 hy e2, z, rfl, ?_⟩
  cases z with
  | false => exact iteF ⟨false, rfl, h5.ret_ r2⟩
  | true =>
    refine iteT ?_
    have h5' : Gs X W B ca2 Hf2 ρ σ (bnd (fc ρ) (fun c => bnd (vwM s2) fun y' => bnd (vwM c) fun z => ofO (g' y' z)) cs2) (fun _ _ H' _ b => R b H') := h5
    refine kc B ca2 ρ cs2 Hf2 σ H2 _ r2 (h5'.bind.mono fun ca3 Hf3 H3 cs3 s3 n3 r3 h6 w hw => ?_)
    obtain ⟨db', e4, h7⟩ := vwM_ r3 h6
    obtain ⟨dc, e5, h8⟩ := vwM_ r3 h7
    obtain ⟨k, e6, h9⟩ := h8.ofO_ r3
    exact ⟨Hf3, db', dc, k, e6, r3.ext, vw_ok r3 (hy.nx n3) e4, vw_ok r3 hw e5, k, rfl, h9⟩
theorem dt_chn {op op' : CmpOp} {g g' : D → D → Option Bool} (ho : OpR X (compareOp op) (rDb g)) (ho' : OpR X (compareOp op') (rDb g')) (ha : DE X W a fa) (hb : DE X W b fb) (hc : DE X W c fc)
    (hm : lastMarks [op, op'] [b, c] = false := by with_unfolding_all rfl) : DT X W (.Compare a [op, op'] [b, c] pos) (tChn g g' fa fb fc) := by
  obtain ⟨ta, pa, ka⟩ := ha
  obtain ⟨tb, pb, kb⟩ := hb
  obtain ⟨tc, pc, kc⟩ := hc
  exact ⟨_, pt_chain ho ho' pa pb pc hm, fun B ca ρ cs Hf σ H Q r h => chn_run ka kb kc r h⟩
theorem de_chn {op op' : CmpOp} {g g' : D → D → Option Bool} (ho : OpR X (compareOp op) (rDb g)) (ho' : OpR X (compareOp op') (rDb g')) (ha : DE X W a fa) (hb : DE X W b fb) (hc : DE X W c fc)
    (hm : lastMarks [op, op'] [b, c] = false := by with_unfolding_all rfl) : DE X W (.Compare a [op, op'] [b, c] pos) (eChn g g' fa fb fc) := by
  obtain ⟨ta, pa, ka⟩ := ha
  obtain ⟨tb, pb, kb⟩ := hb
  obtain ⟨tc, pc, kc⟩ := hc
  have mono : ∀ {σ : L2.St} {H : Hp} {Q Q' : VK}, tChain (rDb g) (rDb g') ta tb tc σ H Q → tChain (rDb g) (rDb g') ta tb tc σ H Q := fun h => h
  refine ⟨_, pe_chain ho ho' pa pb pc hm, fun B ca ρ cs Hf σ H Q r h => ?_⟩
  refine ka B ca ρ cs Hf σ H _ r ?_
  have h0 : Gs X W B ca Hf ρ σ (bnd (fa ρ) (fun s => bnd (fun cs => bnd (fb ρ) (fun b => bnd (vwM s) fun x => bnd (vwM b) fun y => bnd (ofO (g x y)) fun k => if k = true then bnd (fc ρ) fun c => bnd (vwM b) fun y' => bnd (vwM c) fun z => ofO (g' y' z) else ret false) cs) fun b => ret (.d (.bool b))) cs) (fun ca' Hf' H' _ s => ∀ v, SvOk ca' Hf' s v → Q v H') := by
    have e : ∀ (m : M S) (k : S → M Bool) (k2 : Bool → M S), bnd (bnd m k) k2 cs = bnd m (fun s => bnd (k s) k2) cs := fun m k k2 => by
      unfold bnd
      cases m cs <;> rfl
    have h' := h
    unfold eChn tChn at h'
    rw [e] at h'
    exact h'
  refine h0.bind.mono fun ca1 Hf1 H1 cs1 s n1 r1 h1 x hx => ?_
  have h1' := h1.bind
  refine kb B ca1 ρ cs1 Hf1 σ H1 _ r1 (h1'.bind.mono fun ca2 Hf2 H2 cs2 s2 n2 r2 h2 y hy => ?_)
  obtain ⟨da, e1, h3⟩ := vwM_ r2 h2
  obtain ⟨db, e2, h4⟩ := vwM_ r2 h3
  obtain ⟨z, e3, h5⟩ := ofOb_ h4
  refine ⟨Hf2, da, db, z, e3, r2.ext, vw_ok r2 (hx.nx n2) e1, vw_ok r2 hy e2, z, rfl, ?_⟩
  cases z with
  | false => exact iteF ((h5.ret_ r2).ret_ r2 _ (.bl false))
  | true =>
    refine iteT ?_
    have h5' : Gs X W B ca2 Hf2 ρ σ (bnd (fc ρ) (fun c => bnd (vwM s2) fun y' => bnd (vwM c) fun z => ofO (g' y' z)) cs2) _ := h5
    refine kc B ca2 ρ cs2 Hf2 σ H2 _ r2 (h5'.bind.mono fun ca3 Hf3 H3 cs3 s3 n3 r3 h6 w hw => ?_)
    obtain ⟨db', e4, h7⟩ := vwM_ r3 h6
    obtain ⟨dc, e5, h8⟩ := vwM_ r3 h7
    obtain ⟨k, e6, h9⟩ := h8.ofO_ r3
    exact ⟨Hf3, db', dc, k, e6, r3.ext, vw_ok r3 (hy.nx n3) e4, vw_ok r3 hw e5, h9.ret_ r3 _ (.bl k)⟩
end
end Dn

set_option Elab.async false
set_option linter.all false
set_option maxRecDepth 100000
set_option maxHeartbeats 1000000
/-! Dn4: arguments, displays, subscripts, calls of built-ins. -/
namespace Dn
open PySem L2
abbrev KA (X : Cx) (W : WX) (t : TA) (f : List S → M (List S)) : Prop := ∀ (B : Hp) (ca : List Addr) (ρ : List S) (cs : Store) (Hf : Hp) (σ : L2.St) (H : Hp) (Q : List V → Hp → Prop), Rel B ca ρ cs Hf σ H →
  Gs X W B ca Hf ρ σ (f ρ cs) (fun ca' Hf' H' _ ss => ∀ vs, SvsOk ca' Hf' ss vs → Q vs H') → t σ H Q
section
variable {Hf H : Hp} {ca : List Addr}
theorem asD_dds : ∀ {ss : List S} {xs : List D} {vs : List V}, asD ss = some xs → SvsOk ca Hf ss vs → Dds Hf vs xs
  | [], xs, vs, e, h => by
    have : [] = xs := Option.some.inj e
    subst this
    cases h
    exact .nil
  | .d x :: r, xs, vs, e, h => by
    unfold asD at e
    cases q : asD r with
    | none => rw [q] at e; cases e
    | some ys =>
      rw [q] at e
      have : x :: ys = xs := Option.some.inj e
      subst this
      cases h with
      | cons h t => exact .cons h (asD_dds q t)
  | .cel j :: r, xs, vs, e, h => by cases e
  | .fn a :: r, xs, vs, e, h => by cases e
  | .no :: r, xs, vs, e, h => by cases e
end
section
variable {X : Cx} {W : WX} {a b e : Expr} {es : List Expr} {fa fb : List S → M S} {g : List S → M (List S)} {pos : Pos}
theorem da_nil : DA X W [] aNil := ⟨_, pa_nil, fun B ca ρ cs Hf σ H Q r h => h.ret_ r _ .nil⟩
theorem da_cons (ha : DE X W e fa) (hr : DA X W es g) (hs : starEach (e :: es) X.env = (false, eval e X.env) :: starEach es X.env := by rfl) : DA X W (e :: es) (aCons fa g) := by
  obtain ⟨ta, pa, ka⟩ := ha
  obtain ⟨tr, pr, kr⟩ := hr
  refine ⟨_, pa_cons pa pr hs, fun B ca ρ cs Hf σ H Q r h => ?_⟩
  refine ka B ca ρ cs Hf σ H _ r (h.bind.mono fun ca1 Hf1 H1 cs1 s n1 r1 h1 v hv => ?_)
  refine kr B ca1 ρ cs1 Hf1 σ H1 _ r1 (h1.bind.mono fun ca2 Hf2 H2 cs2 ss n2 r2 h2 vs hvs => ?_)
  exact h2.ret_ r2 _ (.cons (hv.nx n2) hvs)
theorem de_tup {k} (hr : DA X W es g) : DE X W (.Tuple es k pos) (eTup g) := by
  obtain ⟨tr, pr, kr⟩ := hr
  refine ⟨_, pe_tup pr, fun B ca ρ cs Hf σ H Q r h => ?_⟩
  refine kr B ca ρ cs Hf σ H _ r (h.bind.mono fun ca1 Hf1 H1 cs1 ss n1 r1 h1 vs hvs => ?_)
  obtain ⟨xs, e1, h2⟩ := ofOb_ h1
  have dd := asD_dds e1 hvs
  split at h2
  · rename_i hz
    refine ⟨by rw [dps_len dd]; exact hz, fun p hp => ?_⟩
    obtain ⟨r2, n2⟩ := r1.news (o := .tup vs) hp
    exact h2 ca1 _ _ n2 r2 _ (.tup (.inl upd_same) (dps_ex n2.ex dd))
  · exact h2.elim
theorem do_lst (hr : DA X W es g) : DO X W (.List es pos) (eLst g) := by
  obtain ⟨tr, pr, kr⟩ := hr
  refine ⟨_, pe_lst pr, fun B ca ρ cs Hf σ H Q r h => ?_⟩
  refine kr B ca ρ cs Hf σ H _ r (h.bind.mono fun ca1 Hf1 H1 cs1 ss n1 r1 h1 vs hvs => ?_)
  obtain ⟨xs, e1, h2⟩ := ofOb_ h1
  have dd := asD_dds e1 hvs
  split at h2
  · rename_i hz
    refine ⟨by rw [dps_len dd]; exact hz, fun p hp => ?_⟩
    obtain ⟨m1, m2, m3⟩ := r1.newIn hp
    exact h2 ca1 Hf1 _ Nx.refl (r1.grow (ex_new hp)) _ ⟨p, rfl, ⟨vs, upd_same, dd⟩, m1, m2, m3⟩
  · exact h2.elim
theorem de_ix (ha : DE X W a fa) (hb : DE X W b fb) (hs : PlainIx b := by exact fun _ _ => rfl) : DE X W (.Subscript a b pos) (eBin ixD fa fb) := by
  obtain ⟨ta, pa, ka⟩ := ha
  obtain ⟨tb, pb, kb⟩ := hb
  refine ⟨_, pe_ix ix_ok pa pb hs, fun B ca ρ cs Hf σ H Q r h => ?_⟩
  refine op2_run ka kb r h fun ca2 Hf2 H2 cs2 x y da db z n2 r2 hx hy hz h2 => ?_
  refine ⟨Hf2, da, db, z, hz, r2.ext, hx, hy, fun v Hf3 H3 g3 dv => ?_⟩
  obtain ⟨r3, n3⟩ := r2.gw g3
  exact h2 ca2 Hf3 H3 n3 r3 v dv
/-- a part of a slice -/
def DPo (X : Cx) (W : WX) (e : Option Expr) (f : List S → M (Option Int)) : Prop := ∃ t : TO, PO X e t ∧ ∀ (B : Hp) (ca : List Addr) (ρ : List S) (cs : Store) (Hf : Hp) (σ : L2.St) (H : Hp) (Q : Option Int → Hp → Prop), Rel B ca ρ cs Hf σ H →
  Gs X W B ca Hf ρ σ (f ρ cs) (fun ca' Hf' H' _ o => Q o H') → t σ H Q
theorem dpo_none : DPo X W none oNone := ⟨_, po_none, fun B ca ρ cs Hf σ H Q r h => h.ret_ r⟩
theorem dpo_some (ha : DE X W a fa) : DPo X W (some a) (oSome fa) := by
  obtain ⟨ta, pa, ka⟩ := ha
  refine ⟨_, po_some pa, fun B ca ρ cs Hf σ H Q r h => ?_⟩
  refine ka B ca ρ cs Hf σ H _ r (h.bind.mono fun ca1 Hf1 H1 cs1 s n1 r1 h1 v hv => ?_)
  cases s with
  | d x =>
    cases x with
    | int i =>
      have hv' : Dd Hf1 v (.int i) := hv
      cases hv'
      exact ⟨i, rfl, h1.ret_ r1⟩
    | _ => exact h1.elim
  | _ => exact h1.elim
theorem de_sl {lo hi : Option Expr} {p2 : Pos} {fl fh : List S → M (Option Int)} (ha : DE X W a fa) (hl : DPo X W lo fl) (hh : DPo X W hi fh) : DE X W (.Subscript a (.Slice lo hi none p2) pos) (eSl fa fl fh) := by
  obtain ⟨ta, pa, ka⟩ := ha
  obtain ⟨tl, pl, kl⟩ := hl
  obtain ⟨th, ph, kh⟩ := hh
  refine ⟨_, pe_slice sl_ok pa pl ph, fun B ca ρ cs Hf σ H Q r h => ?_⟩
  refine ka B ca ρ cs Hf σ H _ r (h.bind.mono fun ca1 Hf1 H1 cs1 s n1 r1 h1 v hv => ?_)
  refine kl B ca1 ρ cs1 Hf1 σ H1 _ r1 (h1.bind.mono fun ca2 Hf2 H2 cs2 o n2 r2 h2 => ?_)
  refine kh B ca2 ρ cs2 Hf2 σ H2 _ r2 (h2.bind.mono fun ca3 Hf3 H3 cs3 o' n3 r3 h3 => ?_)
  obtain ⟨d, e1, h4⟩ := vwM_ r3 h3
  obtain ⟨d', e2, h5⟩ := ofOb_ h4
  refine ⟨Hf3, d, d', e2, r3.ext, vw_ok r3 (hv.nx (n2.trans n3)) e1, fun w Hf4 H4 g4 dw => ?_⟩
  obtain ⟨r4, n4⟩ := r3.gw g4
  exact h5 ca3 Hf4 H4 n4 r4 w dw
end

/-! ### built-in functions of data -/
def rCd (g : List D → Option D) : List V → Hp → VK → Prop := fun vs H Q => ∃ Hf ds d, g ds = some d ∧ Ex Hf H ∧ Lvs Hf H vs ds ∧ ∀ v Hf' H', Gw Hf H Hf' H' → Dd Hf' v d → Q v H'
where Lvs (Hf H : Hp) : List V → List D → Prop
  | [], [] => True
  | v :: vs, d :: ds => Lv Hf H v d ∧ Lvs Hf H vs ds
  | _, _ => False
def vws : List S → Store → Option (List D)
  | [], _ => some []
  | s :: r, cs => match vw s cs, vws r cs with
    | some d, some ds => some (d :: ds)
    | _, _ => none
def vwsM (ss : List S) : M (List D) := fun cs => match vws ss cs with
  | some ds => .ok ds cs
  | none => .no
def eCd (g : List D → Option D) (f : List S → M (List S)) (ρ : List S) : M S := bnd (f ρ) fun ss => bnd (vwsM ss) fun ds => bnd (ofO (g ds)) fun d => ret (.d d)
theorem vwsM_ {X : Cx} {W : WX} {B : Hp} {ca : List Addr} {Hf : Hp} {ρ : List S} {σ : L2.St} {cs : Store} {β : Type} {P : List Addr → Hp → Hp → Store → β → Prop} {a : List S} {k : List D → M β} (h : Gs X W B ca Hf ρ σ (bnd (vwsM a) k cs) P) : ∃ d, vws a cs = some d ∧ Gs X W B ca Hf ρ σ (k d cs) P := by
  unfold bnd vwsM at h
  cases e : vws a cs with
  | none => rw [e] at h; exact h.elim
  | some d => rw [e] at h; exact ⟨d, rfl, h⟩
theorem vws_ok {B : Hp} {ca : List Addr} {ρ : List S} {cs : Store} {Hf : Hp} {σ : L2.St} {H : Hp} (r : Rel B ca ρ cs Hf σ H) : ∀ {ss : List S} {vs : List V} {ds : List D}, SvsOk ca Hf ss vs → vws ss cs = some ds → rCd.Lvs Hf H vs ds
  | [], _, ds, h, e => by
    have : [] = ds := Option.some.inj e
    subst this
    cases h
    trivial
  | s :: ss, _, ds, h, e => by
    cases h with
    | cons h t =>
      unfold vws at e
      split at e
      · rename_i d ds' e1 e2
        cases e
        exact ⟨vw_ok r h e1, vws_ok r t e2⟩
      · cases e
section
variable {X : Cx} {W : WX} {a b e : Expr} {es : List Expr} {fa fb : List S → M S} {g : List S → M (List S)} {pos : Pos}
theorem eCd_run {gd : List D → Option D} {t : TA} (k : KA X W t g) {B : Hp} {ca : List Addr} {ρ : List S} {cs : Store} {Hf : Hp} {σ : L2.St} {H : Hp} {Q : VK} (r : Rel B ca ρ cs Hf σ H)
    (h : Gs X W B ca Hf ρ σ (eCd gd g ρ cs) (fun ca' Hf' H' _ s => ∀ v, SvOk ca' Hf' s v → Q v H')) : tCB (rCd gd) t σ H Q := by
  refine k B ca ρ cs Hf σ H _ r (h.bind.mono fun ca1 Hf1 H1 cs1 ss n1 r1 h1 vs hvs => ?_)
  obtain ⟨ds, e1, h2⟩ := vwsM_ h1
  obtain ⟨d, e2, h3⟩ := ofOb_ h2
  refine ⟨Hf1, ds, d, e2, r1.ext, vws_ok r1 hvs e1, fun v Hf2 H2 g2 dv => ?_⟩
  obtain ⟨r3, n3⟩ := r1.gw g2
  exact h3 ca1 Hf2 H2 n3 r3 v dv
theorem de_callB {x : Str} {id : String} {p : Pos} {gd : List D → Option D} (hc : CallR X (.builtin id) (rCd gd)) (hm : X.mg x = none) (hv : bootBuiltins x = some (.builtin id)) (ha : DA X W (e :: es) g) (hg : Gl X x := by rfl) (hn : x ≠ "__name__" := by decide) (hdb : (x == ("__debug__" : Str)) = false := by decide)
    (he : starEach (e :: es) X.env = (false, eval e X.env) :: starEach es X.env := by rfl) (hpl : (backTo pos (starEach es X.env)).any (·.1) = false := by rfl) : DE X W (.Call (.Name x p) (e :: es) [] pos) (eCd gd g) := by
  obtain ⟨tr, pr, kr⟩ := ha
  exact ⟨_, pe_callB hc hg hm hv pr hn hdb he hpl, fun B ca ρ cs Hf σ H Q r h => eCd_run kr r h⟩
theorem de_callT {x : Str} {T : String} {p : Pos} {gd : List D → Option D} (hc : CallR X (.type T) (rCd gd)) (hm : X.mg x = none) (hv : bootBuiltins x = some (.type T)) (ha : DA X W (e :: es) g) (hg : Gl X x := by rfl) (hn : x ≠ "__name__" := by decide) (hdb : (x == ("__debug__" : Str)) = false := by decide)
    (he : starEach (e :: es) X.env = (false, eval e X.env) :: starEach es X.env := by rfl) (hpl : (backTo pos (starEach es X.env)).any (·.1) = false := by rfl) : DE X W (.Call (.Name x p) (e :: es) [] pos) (eCd gd g) := by
  obtain ⟨tr, pr, kr⟩ := ha
  exact ⟨_, pe_callTy hc hg hm hv pr hn hdb he hpl, fun B ca ρ cs Hf σ H Q r h => eCd_run kr r h⟩
end
def lenG : List D → Option D
  | [d] => (lenD d).map fun n => .int n
  | _ => none
def minG : List D → Option D
  | [.int i, .int j] => some (.int (if j < i then j else i))
  | _ => none
def maxG : List D → Option D
  | [.int i, .int j] => some (.int (if j > i then j else i))
  | _ => none
def absG : List D → Option D
  | [.int i] => some (.int (if i < 0 then -i else i))
  | _ => none
def intG : List D → Option D
  | [.int i] => some (.int i)
  | [.bool b] => some (.int (if b then 1 else 0))
  | _ => none
def listG : List D → Option D
  | [.list xs] => some (.list xs)
  | [.tuple xs] => some (.list xs)
  | _ => none
def tupleG : List D → Option D
  | [.list xs] => some (.tuple xs)
  | [.tuple xs] => some (.tuple xs)
  | _ => none
section
variable {X : Cx}
theorem lvs_one {Hf H : Hp} {vs : List V} {d : D} (h : rCd.Lvs Hf H vs [d]) : ∃ v, vs = [v] ∧ Lv Hf H v d := by
  match vs, h with
  | [v], h => exact ⟨v, rfl, h.1⟩
  | v :: _ :: _, h => exact h.2.elim
theorem lvs_two {Hf H : Hp} {vs : List V} {d d' : D} (h : rCd.Lvs Hf H vs [d, d']) : ∃ v v', vs = [v, v'] ∧ Lv Hf H v d ∧ Lv Hf H v' d' := by
  match vs, h with
  | [v, v'], h => exact ⟨v, v', rfl, h.1, h.2.1⟩
  | [_], h => exact h.2.elim
  | _ :: _ :: _ :: _, h => exact h.2.2.elim
theorem len_ok : CallR X (.builtin "len") (rCd lenG) := by
  intro pins s σ H xs us Q I r h
  obtain ⟨Hf, ds, d, e, ex, hl, q⟩ := h
  unfold lenG at e
  split at e
  · rename_i d0
    obtain ⟨v, rfl, hv⟩ := lvs_one hl
    cases z : lenD d0 with
    | none => rw [z] at e; cases e
    | some n =>
      rw [z] at e
      cases e
      refine call_len pins s σ H _ us Q I r ⟨v, n, rfl, ?_, q _ _ _ (Gw.refl ex) (.int _)⟩
      have d1 := hv.1
      cases d1 with
      | str x =>
        have z' : (if x.length ≤ sizeLine then some x.length else none) = some n := z
        split at z'
        · cases z'; exact ⟨by assumption, rfl⟩
        · cases z'
      | lst h a => cases z; exact .inl ⟨_, .inl h, (dps_len a).symm⟩
      | tup h a => cases z; exact .inr ⟨_, .inl h, (dps_len a).symm⟩
      | _ => cases z
  · cases e
theorem min_ok (hc : X.calm = true) : CallR X (.builtin "min") (rCd minG) := by
  intro pins s σ H xs us Q I r h
  obtain ⟨Hf, ds, d, e, ex, hl, q⟩ := h
  unfold minG at e
  split at e
  · cases e
    obtain ⟨v, v', rfl, h1, h2⟩ := lvs_two hl
    have := h1.int_; subst this
    have := h2.int_; subst this
    exact call_min2 hc pins s σ H _ us Q I r ⟨_, _, rfl, q _ _ _ (Gw.refl ex) (.int _)⟩
  · cases e
theorem max_ok (hc : X.calm = true) : CallR X (.builtin "max") (rCd maxG) := by
  intro pins s σ H xs us Q I r h
  obtain ⟨Hf, ds, d, e, ex, hl, q⟩ := h
  unfold maxG at e
  split at e
  · cases e
    obtain ⟨v, v', rfl, h1, h2⟩ := lvs_two hl
    have := h1.int_; subst this
    have := h2.int_; subst this
    exact call_max2 hc pins s σ H _ us Q I r ⟨_, _, rfl, q _ _ _ (Gw.refl ex) (.int _)⟩
  · cases e
theorem abs_ok : CallR X (.builtin "abs") (rCd absG) := by
  intro pins s σ H xs us Q I r h
  obtain ⟨Hf, ds, d, e, ex, hl, q⟩ := h
  unfold absG at e
  split at e
  · cases e
    obtain ⟨v, rfl, h1⟩ := lvs_one hl
    have := h1.int_; subst this
    exact call_abs pins s σ H _ us Q I r ⟨_, rfl, q _ _ _ (Gw.refl ex) (.int _)⟩
  · cases e
theorem int_ok : CallR X (.type "int") (rCd intG) := by
  intro pins s σ H xs us Q I r h
  obtain ⟨Hf, ds, d, e, ex, hl, q⟩ := h
  unfold intG at e
  split at e
  · cases e
    obtain ⟨v, rfl, h1⟩ := lvs_one hl
    have := h1.int_; subst this
    exact call_int1 pins s σ H _ us Q I r (.inl ⟨_, rfl, q _ _ _ (Gw.refl ex) (.int _)⟩)
  · cases e
    obtain ⟨v, rfl, h1⟩ := lvs_one hl
    have := h1.bl_; subst this
    exact call_int1 pins s σ H _ us Q I r (.inr ⟨_, rfl, q _ _ _ (Gw.refl ex) (.int _)⟩)
  · cases e
theorem list_ok : CallR X (.type "list") (rCd listG) := by
  intro pins s σ H xs us Q I r h
  obtain ⟨Hf, ds, d, e, ex, hl, q⟩ := h
  unfold listG at e
  split at e
  · cases e
    obtain ⟨v, rfl, h1⟩ := lvs_one hl
    obtain ⟨a, vs, rfl, g1, g2⟩ := h1.lst
    refine call_list_of pins s σ H _ us Q I r ⟨a, vs, rfl, .inl (.inl g1), fun l hl => ?_⟩
    have g := Gw.new (o := .lst vs) ex hl
    exact q _ _ _ g (.lst (.inl upd_same) (dps_ex g.ex g2))
  · cases e
    obtain ⟨v, rfl, h1⟩ := lvs_one hl
    obtain ⟨a, vs, rfl, g1, g2⟩ := h1.tup
    refine call_list_of pins s σ H _ us Q I r ⟨a, vs, rfl, .inr (.inl g1), fun l hl => ?_⟩
    have g := Gw.new (o := .lst vs) ex hl
    exact q _ _ _ g (.lst (.inl upd_same) (dps_ex g.ex g2))
  · cases e
theorem tuple_ok : CallR X (.type "tuple") (rCd tupleG) := by
  intro pins s σ H xs us Q I r h
  obtain ⟨Hf, ds, d, e, ex, hl, q⟩ := h
  unfold tupleG at e
  split at e
  · cases e
    obtain ⟨v, rfl, h1⟩ := lvs_one hl
    obtain ⟨a, vs, rfl, g1, g2⟩ := h1.lst
    refine call_tuple_of pins s σ H _ us Q I r ⟨a, vs, rfl, .inl ⟨.inl g1, fun l hl => ?_⟩⟩
    have g := Gw.new (o := .tup vs) ex hl
    exact q _ _ _ g (.tup (.inl upd_same) (dps_ex g.ex g2))
  · cases e
    obtain ⟨v, rfl, h1⟩ := lvs_one hl
    obtain ⟨a, vs, rfl, g1, g2⟩ := h1.tup
    exact call_tuple_of pins s σ H _ us Q I r ⟨a, vs, rfl, .inr ⟨.inl g1, q _ _ _ (Gw.refl ex) (h1.flat fun _ z => nomatch z)⟩⟩
  · cases e
/-- isinstance(x, T), T a built-in class -/
def eIsa (T : String) (fa : List S → M S) (ρ : List S) : M S := bnd (op1 (fun d => some (isaD T d)) fa ρ) fun b => ret (.d (.bool b))
theorem kit_isa {K : PySem.W.Frag} {H : Hp} {v : V} {d : D} {T : String} (h : Dd H v d) (hT : T = "int" ∨ T = "bool" ∨ T = "str" ∨ T = "list" ∨ T = "tuple" ∨ T = "dict") : PySem.W.kitOne K (.type (tyD d)) (.type T) = some (isaD T d) := by
  cases h <;> rcases hT with rfl | rfl | rfl | rfl | rfl | rfl <;> (refine kit_ty ?_; first | decide +kernel | rfl)
theorem de_isa {W : WX} {a : Expr} {fa : List S → M S} {p p2 pos : Pos} {T : String} {TS : Str} (ha : DE X W a fa) (hm : X.mg "isinstance" = none) (hmT : X.mg TS = none) (hT : T = "int" ∨ T = "bool" ∨ T = "str" ∨ T = "list" ∨ T = "tuple" ∨ T = "dict") (hv : bootBuiltins TS = some (.type T)) (hg : Gl X "isinstance" := by rfl) (hgT : Gl X TS := by rfl)
    (hn : TS ≠ "__name__" := by decide) (hdb : (TS == ("__debug__" : Str)) = false := by decide)
    (h1 : starEach [a, .Name TS p2] X.env = (false, eval a X.env) :: starEach [.Name TS p2] X.env := by rfl) (h2 : starEach [.Name TS p2] X.env = (false, eval (.Name TS p2) X.env) :: starEach [] X.env := by rfl) (h3 : (backTo pos (starEach [.Name TS p2] X.env)).any (·.1) = false := by rfl) :
    DE X W (.Call (.Name "isinstance" p) [a, .Name TS p2] [] pos) (eIsa T fa) := by
  obtain ⟨ta, pa, ka⟩ := ha
  refine ⟨_, pe_callB call_isi hg hm (by decide +kernel) (pa_cons pa (pa_cons (pe_bltn (v := .ty T) hgT hmT hv rfl hn hdb) pa_nil h2) h1) (by decide) (by decide) h1 h3, fun B ca ρ cs Hf σ H Q r h => ?_⟩
  refine op1_run ka r h fun ca2 Hf2 H2 cs2 x da z n2 r2 hx hz h2 => ?_
  cases hz
  exact ⟨x, .ty T, _, _, _, rfl, .ty T, ty_dd hx.1, kit_isa hx.1 hT, h2.ret_ r2 _ (.bl _)⟩
end
end Dn

set_option Elab.async false
set_option linter.all false
set_option maxRecDepth 100000
set_option maxHeartbeats 1000000
/-! Dn5: statements, loops, defs, calls. -/
namespace Dn
open PySem L2
inductive Out where
  | nx (ρ : List S) (cs : Store)
  | rt (r : Rv) (cs : Store)
  | bk (ρ : List S) (cs : Store)
  | ct (ρ : List S) (cs : Store)
  | er (c : Str) (ρ : List S) (cs : Store)
  | no
abbrev G := List S → Store → Out
section
variable (X : Cx) (W : WX)
def GO (B : Hp) (ca : List Addr) (Hf : Hp) (En : Ends) : Out → Prop
  | .nx ρ cs => ∀ ca' Hf' σ' H', Nx ca Hf ca' Hf' → Rel B ca' ρ cs Hf' σ' H' → En.nx σ' H'
  | .rt r cs => ∀ ca' Hf' ρ' σ' H' v, Nx ca Hf ca' Hf' → Rel B ca' ρ' cs Hf' σ' H' → RvOk B ca' Hf' H' r v → En.rt v H'
  | .bk ρ cs => ∀ ca' Hf' σ' H', Nx ca Hf ca' Hf' → Rel B ca' ρ cs Hf' σ' H' → En.bk σ' H'
  | .ct ρ cs => ∀ ca' Hf' σ' H', Nx ca Hf ca' Hf' → Rel B ca' ρ cs Hf' σ' H' → En.ct σ' H'
  | .er c ρ cs => ∀ ca' Hf' σ' H' cls, Nx ca Hf ca' Hf' → Rel B ca' ρ cs Hf' σ' H' → X.mg c = some cls → W cls none σ' H'
  | .no => False
abbrev KS (t : TS) (g : G) : Prop := ∀ (B : Hp) (ca : List Addr) (ρ : List S) (cs : Store) (Hf : Hp) (σ : L2.St) (H : Hp) (En : Ends), Rel B ca ρ cs Hf σ H → GO X W B ca Hf En (g ρ cs) → t En σ H
def DSt (st : Stmt) (g : G) : Prop := ∃ t : TS, PS X st t ∧ KS X W t g
def DSs (st : List Stmt) (g : G) : Prop := ∃ t : TS, PSs X st t ∧ KS X W t g
end
def stp {α : Type} (m : M α) (k : α → Store → Out) (ρ : List S) (cs : Store) : Out := match m cs with
  | .ok a cs' => k a cs'
  | .er c cs' => .er c ρ cs'
  | .no => .no
def gNil : G := fun ρ cs => .nx ρ cs
def gSeq (g h : G) : G := fun ρ cs => match g ρ cs with
  | .nx ρ' cs' => h ρ' cs'
  | o => o
def sSet (i : Nat) (f : List S → M S) : G := fun ρ => stp (f ρ) (fun s cs => .nx (ρ.set i s) cs) ρ
def sNew (i : Nat) (f : List S → M Rv) : G := fun ρ => stp (f ρ) (fun r cs => match r with
  | .own o => .nx (ρ.set i (.cel cs.length)) (cs ++ [o])
  | .d x => .nx (ρ.set i (.d x)) cs
  | .cel j => .nx (ρ.set i (.cel j)) cs) ρ
def sRet (f : List S → M Rv) : G := fun ρ => stp (f ρ) (fun r cs => .rt r cs) ρ
def sRetN : G := fun _ cs => .rt (.d .none) cs
def sExp (f : List S → M S) : G := fun ρ => stp (f ρ) (fun _ cs => .nx ρ cs) ρ
def sIf (t : List S → M Bool) (g h : G) : G := fun ρ => stp (t ρ) (fun b cs => if b = true then g ρ cs else h ρ cs) ρ
def sErr (c : Str) : G := fun ρ cs => .er c ρ cs
def gPass : G := fun ρ cs => .nx ρ cs
def gBrk : G := fun ρ cs => .bk ρ cs
def gCon : G := fun ρ cs => .ct ρ cs
def gNo : G := fun _ _ => .no
section
variable {X : Cx} {W : WX} {B : Hp} {ca ca1 : List Addr} {Hf Hf1 H : Hp} {ρ : List S} {σ : L2.St} {cs : Store} {En En' : Ends} {α : Type}
theorem GO.fwd {o : Out} (h : GO X W B ca Hf En o) (n : Nx ca Hf ca1 Hf1) : GO X W B ca1 Hf1 En o := by
  cases o with
  | nx ρ cs => exact fun ca' Hf' σ' H' n' r => h ca' Hf' σ' H' (n.trans n') r
  | rt v cs => exact fun ca' Hf' ρ' σ' H' v n' r => h ca' Hf' ρ' σ' H' v (n.trans n') r
  | bk ρ cs => exact fun ca' Hf' σ' H' n' r => h ca' Hf' σ' H' (n.trans n') r
  | ct ρ cs => exact fun ca' Hf' σ' H' n' r => h ca' Hf' σ' H' (n.trans n') r
  | er c ρ cs => exact fun ca' Hf' σ' H' cls n' r => h ca' Hf' σ' H' cls (n.trans n') r
  | no => exact h
theorem GO.stp_ {m : M α} {k : α → Store → Out} (h : GO X W B ca Hf En (stp m k ρ cs)) : Gs X W B ca Hf ρ σ (m cs) (fun ca1 Hf1 _ cs1 a => GO X W B ca1 Hf1 En (k a cs1)) := by
  unfold stp at h
  cases e : m cs with
  | ok a cs1 => rw [e] at h; exact fun ca1 Hf1 H1 n r => GO.fwd h n
  | er c cs1 => rw [e] at h; exact fun ca' Hf' H' cls n r => h ca' Hf' σ H' cls n r
  | no => rw [e] at h; exact h
theorem GO.nx_ (h : GO X W B ca Hf En (.nx ρ cs)) (r : Rel B ca ρ cs Hf σ H) : En.nx σ H := h ca Hf σ H Nx.refl r
end
section
variable {X : Cx} {W : WX} {st : Stmt} {sts : List Stmt} {g h : G} {a : Expr} {f : List S → M S} {fr : List S → M Rv} {pos : Pos}
theorem dss_nil : DSs X W [] gNil := ⟨_, pss_nil, fun B ca ρ cs Hf σ H En r h => h.nx_ r⟩
theorem dss_one (hs : DSt X W st g) : DSs X W [st] g := let ⟨t, p, k⟩ := hs; ⟨t, pss_one p, k⟩
theorem dss_cons (hs : DSt X W st g) (ht : DSs X W sts h) : DSs X W (st :: sts) (gSeq g h) := by
  obtain ⟨t, p, k⟩ := hs
  obtain ⟨u, q, l⟩ := ht
  refine ⟨_, pss_cons p q, fun B ca ρ cs Hf σ H En r hg => ?_⟩
  refine k B ca ρ cs Hf σ H { En with nx := u En } r ?_
  unfold gSeq at hg
  cases e : g ρ cs with
  | nx ρ' cs' => rw [e] at hg; exact fun ca' Hf' σ' H' n r' => l B ca' ρ' cs' Hf' σ' H' En r' (GO.fwd hg n)
  | rt v cs' => rw [e] at hg; exact hg
  | bk ρ' cs' => rw [e] at hg; exact hg
  | ct ρ' cs' => rw [e] at hg; exact hg
  | er c ρ' cs' => rw [e] at hg; exact hg
  | no => rw [e] at hg; exact hg
theorem dst_pass : DSt X W (.Pass pos) gPass := ⟨_, ps_pass, fun B ca ρ cs Hf σ H En r h => h.nx_ r⟩
theorem dst_brk : DSt X W (.Break pos) gBrk := ⟨_, ps_break, fun B ca ρ cs Hf σ H En r h => h ca Hf σ H Nx.refl r⟩
theorem dst_con : DSt X W (.Continue pos) gCon := ⟨_, ps_continue, fun B ca ρ cs Hf σ H En r h => h ca Hf σ H Nx.refl r⟩
theorem dst_no : DSt X W st gNo := ⟨_, ps_never, fun B ca ρ cs Hf σ H En r h => h.elim⟩
theorem dst_set (i : Nat) {x : Str} {pos' : Pos} (hN : X.N.Nodup) (ha : DE X W a f) (hi : X.N[i]? = some x := by rfl) (hx : Loc X.env.scope x := by first | exact Or.inl rfl | exact Or.inr rfl) (hs : swapsWith a (some (.Name x pos')) pos.line X.env = pure false := by rfl)
    (hf : X.fn x = true ∨ X.env.scope.names.lookup x = some .local := by first | exact .inl rfl | exact .inr rfl) : DSt X W (.Assign [.Name x pos'] a pos) (sSet i f) := by
  obtain ⟨t, p, k⟩ := ha
  refine ⟨_, ps_set hN hi hx p hs hf, fun B ca ρ cs Hf σ H En r hg => ?_⟩
  refine k B ca ρ cs Hf σ H _ r (hg.stp_.mono fun ca1 Hf1 H1 cs1 s n1 r1 h1 v hv => ?_)
  exact h1.nx_ (r1.set i hv)
theorem dst_new (i : Nat) {x : Str} {pos' : Pos} (hN : X.N.Nodup) (ha : DO X W a fr) (hi : X.N[i]? = some x := by rfl) (hx : Loc X.env.scope x := by first | exact Or.inl rfl | exact Or.inr rfl) (hs : swapsWith a (some (.Name x pos')) pos.line X.env = pure false := by rfl)
    (hf : X.fn x = true ∨ X.env.scope.names.lookup x = some .local := by first | exact .inl rfl | exact .inr rfl) : DSt X W (.Assign [.Name x pos'] a pos) (sNew i fr) := by
  obtain ⟨t, p, k⟩ := ha
  refine ⟨_, ps_set hN hi hx p hs hf, fun B ca ρ cs Hf σ H En r hg => ?_⟩
  refine k B ca ρ cs Hf σ H _ r (hg.stp_.mono fun ca1 Hf1 H1 cs1 rv n1 r1 h1 v hv => ?_)
  cases rv with
  | d x => exact h1.nx_ (r1.set (s := .d x) i hv)
  | cel j => exact h1.nx_ (r1.set (s := .cel j) i hv)
  | own o =>
    obtain ⟨a, rfl, r2, e2⟩ := r1.alloc hv
    exact h1 (ca1 ++ [a]) Hf1 _ H1 ⟨List.prefix_append _ _, fun _ _ h => h⟩ (r2.set (s := .cel cs1.length) i ⟨a, e2, rfl⟩)
theorem dst_ret (ha : DO X W a fr) : DSt X W (.Return (some a) pos) (sRet fr) := by
  obtain ⟨t, p, k⟩ := ha
  refine ⟨_, ps_ret p, fun B ca ρ cs Hf σ H En r hg => ?_⟩
  exact k B ca ρ cs Hf σ H _ r (hg.stp_.mono fun ca1 Hf1 H1 cs1 rv n1 r1 h1 v hv => h1 ca1 Hf1 ρ σ H1 v Nx.refl r1 hv)
theorem dst_retE (ha : DE X W a f) : DSt X W (.Return (some a) pos) (sRet (eRv f)) := dst_ret ha.rv
theorem dst_retN : DSt X W (.Return none pos) sRetN := ⟨_, ps_retN, fun B ca ρ cs Hf σ H En r h => h ca Hf ρ σ H _ Nx.refl r .non⟩
theorem dst_exp (ha : DE X W a f) (hs : swapsWith a none pos.line X.env = pure false := by rfl) : DSt X W (.Expr a pos) (sExp f) := by
  obtain ⟨t, p, k⟩ := ha
  refine ⟨_, ps_expr p hs, fun B ca ρ cs Hf σ H En r hg => ?_⟩
  exact k B ca ρ cs Hf σ H _ r (hg.stp_.mono fun ca1 Hf1 H1 cs1 rv n1 r1 h1 v hv => h1.nx_ r1)
theorem dst_if {t : List S → M Bool} {p q : List Stmt} (hc : DT X W a t) (hp : DSs X W p g) (hq : DSs X W q h) : DSt X W (.If a p q pos) (sIf t g h) := by
  obtain ⟨tc, pc, kc⟩ := hc
  obtain ⟨tp, pp, kp⟩ := hp
  obtain ⟨tq, pq, kq⟩ := hq
  refine ⟨_, ps_if pc pp pq, fun B ca ρ cs Hf σ H En r hg => ?_⟩
  refine kc B ca ρ cs Hf σ H _ r (hg.stp_.mono fun ca1 Hf1 H1 cs1 b n1 r1 h1 => ?_)
  cases b with
  | true => exact kp B ca1 ρ cs1 Hf1 σ H1 En r1 h1
  | false => exact kq B ca1 ρ cs1 Hf1 σ H1 En r1 h1
/-- raise X('..') -/
theorem dst_raise {C : Addr} {x m : Str} {j : Nat} {p p2 p3 : Pos} {bmB : List Value} {Bn newId initId : String} (tk : Takes X W) (F : ExcBaseFacts Bn newId initId bmB) (q : PySem.W.excIn X.K C bmB newId = true) (gC : X.mg x = some (.ref C)) (kC : PySem.W.keepIn X.K (.ref C) = true) (rs : Raises X (.ref C))
    (hc : X.calm = true := by rfl) (hg : Gl X x := by rfl) (hdb : (x == ("__debug__" : Str)) = false := by decide) : DSt X W (.Raise (some (.Call (.Name x p) [.Constant (.str m) j p2] [] p3)) none pos) (sErr x) :=
  ⟨_, ps_raise hc tk (pmk_own F q gC kC rs hg hdb), fun B ca ρ cs Hf σ H En r h => h ca Hf σ H _ Nx.refl r gC⟩
end

/-! ### loops -/
def gFor (tg : D → List S → Option (List S)) (body : G) : List D → G
  | [], ρ, cs => .nx ρ cs
  | x :: xs, ρ, cs => match tg x ρ with
    | none => .no
    | some ρ1 => match body ρ1 cs with
      | .nx ρ' cs' => gFor tg body xs ρ' cs'
      | .ct ρ' cs' => gFor tg body xs ρ' cs'
      | .bk ρ' cs' => .nx ρ' cs'
      | .rt r cs' => .rt r cs'
      | .er c ρ' cs' => .er c ρ' cs'
      | .no => .no
/-- a target -/
def DG (X : Cx) (tg : Expr) (g : D → List S → Option (List S)) : Prop := ∃ t : TG, PG X tg t ∧ ∀ (B : Hp) (ca : List Addr) (ρ ρ' : List S) (cs : Store) (Hf : Hp) (σ : L2.St) (H : Hp) (v : V) (d : D) (Q : L2.St → Hp → Prop), Rel B ca ρ cs Hf σ H → Dd Hf v d → g d ρ = some ρ' →
  (∀ σ', Rel B ca ρ' cs Hf σ' H → Q σ' H) → t v σ H Q
def gtN (i : Nat) (d : D) (ρ : List S) : Option (List S) := some (ρ.set i (.d d))
def gtT (gs : List D → List S → Option (List S)) (d : D) (ρ : List S) : Option (List S) := match d with
  | .tuple xs => gs xs ρ
  | _ => none
def gtsNil (xs : List D) (ρ : List S) : Option (List S) := match xs with
  | [] => some ρ
  | _ => none
def gtsCons (g : D → List S → Option (List S)) (gs : List D → List S → Option (List S)) (xs : List D) (ρ : List S) : Option (List S) := match xs with
  | x :: r => (g x ρ).bind (gs r)
  | [] => none
def DGs (X : Cx) (tgs : List Expr) (g : List D → List S → Option (List S)) : Prop := ∃ t : TGs, PGs X tgs t ∧ ∀ (B : Hp) (ca : List Addr) (ρ ρ' : List S) (cs : Store) (Hf : Hp) (σ : L2.St) (H : Hp) (vs : List V) (ds : List D) (Q : L2.St → Hp → Prop), Rel B ca ρ cs Hf σ H → Dds Hf vs ds → g ds ρ = some ρ' →
  (∀ σ', Rel B ca ρ' cs Hf σ' H → Q σ' H) → t vs σ H Q
section
variable {X : Cx} {pos : Pos}
theorem dg_name (i : Nat) {x : Str} (hN : X.N.Nodup) (hi : X.N[i]? = some x := by rfl) (hx : Loc X.env.scope x := by first | exact Or.inl rfl | exact Or.inr rfl)
    (hf : X.fn x = true ∨ X.env.scope.names.lookup x = some .local := by first | exact .inl rfl | exact .inr rfl) : DG X (.Name x pos) (gtN i) := by
  refine ⟨_, pg_name hN hi hx hf, fun B ca ρ ρ' cs Hf σ H v d Q r hv e q => ?_⟩
  cases e
  exact q _ (r.set i hv)
theorem dgs_nil : DGs X [] gtsNil := by
  refine ⟨_, pgs_nil, fun B ca ρ ρ' cs Hf σ H vs ds Q r hv e q => ?_⟩
  unfold gtsNil at e
  split at e
  · cases e
    cases hv
    exact ⟨rfl, q _ r⟩
  · cases e
theorem dgs_cons {tg : Expr} {tgs : List Expr} {g : D → List S → Option (List S)} {gs : List D → List S → Option (List S)} (h : DG X tg g) (hs : DGs X tgs gs)
    (he : (assignEach (tg :: tgs) X.env).map (·.2) = assign tg X.env :: (assignEach tgs X.env).map (·.2) := by rfl) : DGs X (tg :: tgs) (gtsCons g gs) := by
  obtain ⟨t, p, k⟩ := h
  obtain ⟨u, q, l⟩ := hs
  refine ⟨_, pgs_cons p q he, fun B ca ρ ρ' cs Hf σ H vs ds Q r hv e qq => ?_⟩
  unfold gtsCons at e
  split at e
  · rename_i x xs
    cases hv with
    | cons hv ht =>
      cases z : g x ρ with
      | none => rw [z] at e; cases e
      | some ρ1 =>
        rw [z] at e
        exact ⟨_, _, rfl, k B ca ρ ρ1 cs Hf σ H _ _ _ r hv z fun σ1 r1 => l B ca ρ1 ρ' cs Hf σ1 H _ _ Q r1 ht e qq⟩
  · cases e
theorem dg_tup {es : List Expr} {k : Nat} {gs : List D → List S → Option (List S)} (n : Nat) (hs : DGs X es gs) (hl : ∀ ds ρ ρ', gs ds ρ = some ρ' → ds.length = n) (hc : X.calm = true := by rfl)
    (hn : (assignEach es X.env).length = n := by rfl) (hst : (assignEach es X.env).findIdx? (·.1) = none := by rfl) : DG X (.Tuple es k pos) (gtT gs) := by
  obtain ⟨u, q, l⟩ := hs
  refine ⟨_, pg_tup hc q hn hst, fun B ca ρ ρ' cs Hf σ H v d Q r hv e qq => ?_⟩
  unfold gtT at e
  split at e
  · rename_i xs
    cases hv with
    | tup h1 h2 =>
      exact ⟨_, _, rfl, .inl (rd_ex r.ext h1), (dps_len h2).trans (hl _ _ _ e), l B ca ρ ρ' cs Hf σ H _ _ Q r h2 e qq⟩
  · cases e
end
theorem gts_len0 (ds : List D) (ρ ρ' : List S) (h : gtsNil ds ρ = some ρ') : ds.length = 0 := by
  unfold gtsNil at h
  split at h
  · rfl
  · cases h
theorem gts_lenS {g : D → List S → Option (List S)} {gs : List D → List S → Option (List S)} {n : Nat} (hl : ∀ ds ρ ρ', gs ds ρ = some ρ' → ds.length = n) (ds : List D) (ρ ρ' : List S) (h : gtsCons g gs ds ρ = some ρ') : ds.length = n + 1 := by
  unfold gtsCons at h
  split at h
  · rename_i x r
    cases z : g x ρ with
    | none => rw [z] at h; cases h
    | some ρ1 => rw [z] at h; rw [List.length_cons, hl _ _ _ h]
  · cases h

/-- what is walked: the items are given ahead of the first turn -/
def DI (X : Cx) (W : WX) (tg iter : Expr) (f : List S → M (List D)) : Prop := ∃ wi : TI, PI X tg iter wi ∧ ∀ (B : Hp) (ca : List Addr) (ρ : List S) (cs : Store) (Hf : Hp) (σ : L2.St) (H : Hp) (R : It → Hp → Prop), Rel B ca ρ cs Hf σ H →
  Gs X W B ca Hf ρ σ (f ρ cs) (fun ca' Hf' H' cs' xs => ∀ J, (∀ B2 ca2 ρ2 cs2 Hf2 σ2 H2 (i : Nat), Nx ca' Hf' ca2 Hf2 → Rel B2 ca2 ρ2 cs2 Hf2 σ2 H2 → i ≤ xs.length →
      (i = xs.length → J.stop i H2) ∧ (i < xs.length → J.go i H2 ∧ ∀ x H3, J.yld i H2 x H3 → ∃ Hf3, Nx ca2 Hf2 ca2 Hf3 ∧ Rel B2 ca2 ρ2 cs2 Hf3 σ2 H3 ∧ ∃ d, xs[i]? = some d ∧ Dd Hf3 x d)) → R J H') → wi σ H R
def iSeq (f : List S → M S) (ρ : List S) : M (List D) := bnd (f ρ) fun s => match s with
  | .d (.list xs) => ret xs
  | _ => stuck
def iTupM (f : List S → M S) (ρ : List S) : M (List D) := bnd (f ρ) fun s => match s with
  | .d (.tuple xs) => ret xs
  | _ => stuck
def rngD (lo : Int) (n : Nat) : List D := (List.range n).map fun i => .int (lo + (i : Nat))
def iRng (f : List S → M S) (ρ : List S) : M (List D) := bnd (f ρ) fun s => match s with
  | .d (.int j) => if -(2 ^ 62) ≤ j ∧ j < 2 ^ 62 then ret (rngD 0 j.toNat) else stuck
  | _ => stuck
def iRngTwo (f g : List S → M S) (ρ : List S) : M (List D) := bnd (f ρ) fun s => bnd (g ρ) fun s' => match s, s' with
  | .d (.int i), .d (.int j) => if -(2 ^ 62) ≤ i ∧ i < 2 ^ 62 ∧ -(2 ^ 62) ≤ j ∧ j < 2 ^ 62 then ret (rngD i (j - i).toNat) else stuck
  | _, _ => stuck
theorem rngD_get {lo : Int} {n i : Nat} (h : i < n) : (rngD lo n)[i]? = some (.int (lo + (i : Nat))) := by
  unfold rngD
  rw [List.getElem?_map, List.getElem?_range h]; rfl
theorem rngD_len {lo : Int} {n : Nat} : (rngD lo n).length = n := by unfold rngD; simp
section
variable {X : Cx} {W : WX} {a b tg : Expr} {fa fb : List S → M S} {pos : Pos}
theorem rdl_inj {Hh : Hp} {a : Addr} {xs ys : List V} (h : Rd Hh a (.lst xs)) (h' : SqL X.K Hh a ys) (I : ∀ K : PySem.W.Frag, True) : True := trivial
theorem di_list (ha : DE X W a fa) : DI X W tg a (iSeq fa) := by
  obtain ⟨t, p, k⟩ := ha
  refine ⟨_, pi_list p, fun B ca ρ cs Hf σ H R r h => ?_⟩
  refine k B ca ρ cs Hf σ H _ r (h.bind.mono fun ca1 Hf1 H1 cs1 s n1 r1 h1 v hv => ?_)
  cases s with
  | d x =>
    cases x with
    | list xs =>
      have hv' : Dd Hf1 v (.list xs) := hv
      cases hv' with
      | lst g1 g2 =>
        rename_i l vs
        refine ⟨l, rfl, ⟨vs, .inl (rd_ex r1.ext g1)⟩, ?_⟩
        refine (h1.ret_ r1) _ fun B2 ca2 ρ2 cs2 Hf2 σ2 H2 i n2 r2 hi => ⟨fun e => ⟨vs, .inl (rd_ex (fun a o h => r2.ext a o (n2.ex a o h)) g1), by rw [dps_len g2]; omega⟩, fun hi' => ?_⟩
        have hx : xs[i]? = some xs[i] := by simp [hi']
        obtain ⟨w, e1, e2⟩ := dps_get g2 hx
        refine ⟨⟨vs, w, .inl (rd_ex (fun a o h => r2.ext a o (n2.ex a o h)) g1), e1⟩, fun x H3 y => ?_⟩
        obtain ⟨rfl, y⟩ := y
        have y1 := y vs (.inl (rd_ex (fun a o h => r2.ext a o (n2.ex a o h)) g1))
        rw [e1] at y1
        cases y1
        exact ⟨Hf2, Nx.refl, r2, xs[i], hx, dp_ex n2.ex e2⟩
    | _ => exact h1.elim
  | _ => exact h1.elim
theorem di_tup (ha : DE X W a fa) : DI X W tg a (iTupM fa) := by
  obtain ⟨t, p, k⟩ := ha
  refine ⟨_, pi_tup p, fun B ca ρ cs Hf σ H R r h => ?_⟩
  refine k B ca ρ cs Hf σ H _ r (h.bind.mono fun ca1 Hf1 H1 cs1 s n1 r1 h1 v hv => ?_)
  cases s with
  | d x =>
    cases x with
    | tuple xs =>
      have hv' : Dd Hf1 v (.tuple xs) := hv
      cases hv' with
      | tup g1 g2 =>
        rename_i l vs
        refine ⟨l, rfl, ⟨vs, .inl (rd_ex r1.ext g1)⟩, ?_⟩
        refine (h1.ret_ r1) _ fun B2 ca2 ρ2 cs2 Hf2 σ2 H2 i n2 r2 hi => ⟨fun e => ⟨vs, .inl (rd_ex (fun a o h => r2.ext a o (n2.ex a o h)) g1), by rw [dps_len g2]; omega⟩, fun hi' => ?_⟩
        have hx : xs[i]? = some xs[i] := by simp [hi']
        obtain ⟨w, e1, e2⟩ := dps_get g2 hx
        refine ⟨⟨vs, w, .inl (rd_ex (fun a o h => r2.ext a o (n2.ex a o h)) g1), e1⟩, fun x H3 y => ?_⟩
        obtain ⟨rfl, y⟩ := y
        have y1 := y vs (.inl (rd_ex (fun a o h => r2.ext a o (n2.ex a o h)) g1))
        rw [e1] at y1
        cases y1
        exact ⟨Hf2, Nx.refl, r2, xs[i], hx, dp_ex n2.ex e2⟩
    | _ => exact h1.elim
  | _ => exact h1.elim
theorem di_rng {p : Pos} (ha : DE X W a fa) (hm : X.mg "range" = none) (hg : Gl X "range" := by rfl) (hs : starEach [a] X.env = [(false, eval a X.env)] := by rfl) : DI X W tg (.Call (.Name "range" p) [a] [] pos) (iRng fa) := by
  obtain ⟨t, q, k⟩ := ha
  refine ⟨_, pi_range1 hg hm (pa_cons q pa_nil hs) hs, fun B ca ρ cs Hf σ H R r h => ?_⟩
  refine k B ca ρ cs Hf σ H _ r (h.bind.mono fun ca1 Hf1 H1 cs1 s n1 r1 h1 v hv => ?_)
  cases s with
  | d x =>
    cases x with
    | int j =>
      have hv' : Dd Hf1 v (.int j) := hv
      cases hv'
      have h2 : Gs X W B ca1 Hf1 ρ σ ((if -(2 ^ 62) ≤ j ∧ j < 2 ^ 62 then ret (rngD 0 j.toNat) else stuck) cs1) _ := h1
      split at h2
      · rename_i hz
        refine ⟨j, rfl, hz.1, hz.2, ?_⟩
        refine (h2.ret_ r1) _ fun B2 ca2 ρ2 cs2 Hf2 σ2 H2 i n2 r2 hi => ⟨fun e => ?_, fun hi' => ?_⟩
        · rw [rngD_len] at e; exact Nat.le_of_eq e.symm
        · rw [rngD_len] at hi'
          refine ⟨hi', fun x H3 y => ?_⟩
          obtain ⟨rfl, rfl⟩ := y
          exact ⟨Hf2, Nx.refl, r2, _, rngD_get hi', .int _⟩
      · exact h2.elim
    | _ => exact h1.elim
  | _ => exact h1.elim
theorem di_rng2 {p : Pos} (ha : DE X W a fa) (hb : DE X W b fb) (hm : X.mg "range" = none) (hg : Gl X "range" := by rfl) (hs : starEach [a, b] X.env = [(false, eval a X.env), (false, eval b X.env)] := by rfl) (hs2 : starEach [b] X.env = [(false, eval b X.env)] := by rfl) :
    DI X W tg (.Call (.Name "range" p) [a, b] [] pos) (iRngTwo fa fb) := by
  obtain ⟨t, q, k⟩ := ha
  obtain ⟨t', q', k'⟩ := hb
  refine ⟨_, pi_range2 hg hm (pa_cons q (pa_cons q' pa_nil hs2) (by rw [hs, hs2])) hs hs2, fun B ca ρ cs Hf σ H R r h => ?_⟩
  refine k B ca ρ cs Hf σ H _ r (h.bind.mono fun ca1 Hf1 H1 cs1 s n1 r1 h1 v hv => ?_)
  refine k' B ca1 ρ cs1 Hf1 σ H1 _ r1 (h1.bind.mono fun ca2 Hf2 H2 cs2 s' n2 r2 h2 v' hv' => ?_)
  cases s with
  | d x =>
    cases x with
    | int i =>
      cases s' with
      | d x' =>
        cases x' with
        | int j =>
          have hv1 : Dd Hf1 v (.int i) := hv
          cases hv1
          have hv2 : Dd Hf2 v' (.int j) := hv'
          cases hv2
          have h3 : Gs X W B ca2 Hf2 ρ σ ((if -(2 ^ 62) ≤ i ∧ i < 2 ^ 62 ∧ -(2 ^ 62) ≤ j ∧ j < 2 ^ 62 then ret (rngD i (j - i).toNat) else stuck) cs2) _ := h2
          split at h3
          · rename_i hz
            refine ⟨i, j, rfl, hz, ?_⟩
            refine (h3.ret_ r2) _ fun B3 ca3 ρ3 cs3 Hf3 σ3 H3 m n3 r3 hm => ⟨fun e => ?_, fun hm' => ?_⟩
            · rw [rngD_len] at e; exact Nat.le_of_eq e.symm
            · rw [rngD_len] at hm'
              refine ⟨hm', fun x H4 y => ?_⟩
              obtain ⟨rfl, rfl⟩ := y
              exact ⟨Hf3, Nx.refl, r3, _, rngD_get hm', .int _⟩
          · exact h3.elim
        | _ => exact h2.elim
      | _ => exact h2.elim
    | _ => exact h2.elim
  | _ => exact h2.elim
def sFor (tg : D → List S → Option (List S)) (it : List S → M (List D)) (body : G) : G := fun ρ => stp (it ρ) (fun xs cs => gFor tg body xs ρ cs) ρ
theorem dst_for {body : List Stmt} {g : D → List S → Option (List S)} {it : List S → M (List D)} {gb : G} (hp : PassesOwn (model X.prog X.w) X.A X.env X.xe) (hi : DI X W tg a it) (hg : DG X tg g) (hb : DSs X W body gb) (hc : X.calm = true := by rfl)
    (hs : ∀ x, foldedSetIterable a X.env x = pure x := by intro _; rfl) : DSt X W (.For tg a body [] pos) (sFor g it gb) := by
  obtain ⟨wi, pi, ki⟩ := hi
  obtain ⟨tgt, pg, kg⟩ := hg
  obtain ⟨tb, pb, kb⟩ := hb
  refine ⟨_, ps_for hp hc pi pg pb hs, fun B ca ρ cs Hf σ H En r h => ?_⟩
  refine ki B ca ρ cs Hf σ H _ r (h.stp_.mono fun ca1 Hf1 H1 cs1 xs n1 r1 h1 J hJ => ?_)
  refine ⟨fun i m σ2 H2 => m = xs.length - i ∧ i ≤ xs.length ∧ ∃ ca2 ρ2 cs2 Hf2, Nx ca1 Hf1 ca2 Hf2 ∧ Rel B ca2 ρ2 cs2 Hf2 σ2 H2 ∧ GO X W B ca2 Hf2 En (gFor g gb (xs.drop i) ρ2 cs2), ⟨xs.length, by simp, Nat.zero_le _, ca1, ρ, cs1, Hf1, Nx.refl, r1, h1⟩, ?_⟩
  rintro i m σ2 H2 ⟨rfl, hi, ca2, ρ2, cs2, Hf2, n2, r2, h2⟩
  obtain ⟨hstop, hgo⟩ := hJ B ca2 ρ2 cs2 Hf2 σ2 H2 i n2 r2 hi
  by_cases hlt : i < xs.length
  · obtain ⟨go, yl⟩ := hgo hlt
    refine .inr ⟨go, fun σ' H' => i + 1 ≤ xs.length ∧ ∃ ca2 ρ2 cs2 Hf2, Nx ca1 Hf1 ca2 Hf2 ∧ Rel B ca2 ρ2 cs2 Hf2 σ' H' ∧ GO X W B ca2 Hf2 En (gFor g gb (xs.drop (i + 1)) ρ2 cs2), fun σ' H' p' => ⟨xs.length - (i + 1), by omega, rfl, p'.1, p'.2⟩, fun x H3 y => ?_⟩
    obtain ⟨Hf3, n3, r3, d, ed, hd⟩ := yl x H3 y
    have ed' : xs.drop i = d :: xs.drop (i + 1) := by
      rw [List.drop_eq_getElem_cons hlt]
      rw [List.getElem?_eq_getElem hlt] at ed
      rw [Option.some.inj ed]
    rw [ed'] at h2
    have h2' : GO X W B ca2 Hf2 En (match g d ρ2 with
      | none => .no
      | some ρ1 => match gb ρ1 cs2 with
        | .nx ρ' cs' => gFor g gb (xs.drop (i + 1)) ρ' cs'
        | .ct ρ' cs' => gFor g gb (xs.drop (i + 1)) ρ' cs'
        | .bk ρ' cs' => .nx ρ' cs'
        | .rt r cs' => .rt r cs'
        | .er c ρ' cs' => .er c ρ' cs'
        | .no => .no) := h2
    cases eg : g d ρ2 with
    | none => rw [eg] at h2'; exact h2'.elim
    | some ρ1 =>
      rw [eg] at h2'
      have h3 : GO X W B ca2 Hf2 En (match gb ρ1 cs2 with
        | .nx ρ' cs' => gFor g gb (xs.drop (i + 1)) ρ' cs'
        | .ct ρ' cs' => gFor g gb (xs.drop (i + 1)) ρ' cs'
        | .bk ρ' cs' => .nx ρ' cs'
        | .rt r cs' => .rt r cs'
        | .er c ρ' cs' => .er c ρ' cs'
        | .no => .no) := h2'
      refine kg B ca2 ρ2 ρ1 cs2 Hf3 σ2 H3 x d _ r3 hd eg fun σ4 r4 => ?_
      refine kb B ca2 ρ1 cs2 Hf3 σ4 H3 _ r4 ?_
      have h4 := GO.fwd h3 n3
      cases eb : gb ρ1 cs2 with
      | nx ρ' cs' => rw [eb] at h4; exact fun ca' Hf' σ' H' n' r' => ⟨hlt, ca', ρ', cs', Hf', (n2.trans n3).trans n', r', GO.fwd h4 n'⟩
      | ct ρ' cs' => rw [eb] at h4; exact fun ca' Hf' σ' H' n' r' => ⟨hlt, ca', ρ', cs', Hf', (n2.trans n3).trans n', r', GO.fwd h4 n'⟩
      | bk ρ' cs' => rw [eb] at h4; exact fun ca' Hf' σ' H' n' r' => h4 ca' Hf' σ' H' n' r'
      | rt v cs' => rw [eb] at h4; exact h4
      | er c ρ' cs' => rw [eb] at h4; exact h4
      | no => rw [eb] at h4; exact h4.elim
  · have e : i = xs.length := by omega
    refine .inl ⟨hstop e, ?_⟩
    rw [e, List.drop_length] at h2
    exact GO.nx_ (show GO X W B ca2 Hf2 En (.nx ρ2 cs2) from h2) r2
def gWhile (t : List S → M Bool) (body : G) : Nat → G
  | 0, _, _ => .no
  | n + 1, ρ, cs => stp (t ρ) (fun b cs => if b = true then (match body ρ cs with
      | .nx ρ' cs' => gWhile t body n ρ' cs'
      | .ct ρ' cs' => gWhile t body n ρ' cs'
      | .bk ρ' cs' => .nx ρ' cs'
      | .rt r cs' => .rt r cs'
      | .er c ρ' cs' => .er c ρ' cs'
      | .no => .no) else .nx ρ cs) ρ cs
/-- the fuel may be any number -/
def sWhile (fuel : List S → Store → Nat) (t : List S → M Bool) (body : G) : G := fun ρ cs => gWhile t body (fuel ρ cs) ρ cs
theorem dst_while (fuel : List S → Store → Nat) {body : List Stmt} {t : List S → M Bool} {gb : G} (hp : PassesOwn (model X.prog X.w) X.A X.env X.xe) (hc : DT X W a t) (hb : DSs X W body gb) : DSt X W (.While a body [] pos) (sWhile fuel t gb) := by
  obtain ⟨tc, pc, kc⟩ := hc
  obtain ⟨tb, pb, kb⟩ := hb
  refine ⟨_, ps_while hp pc pb, fun B ca ρ cs Hf σ H En r h => ?_⟩
  refine ⟨fun m σ2 H2 => ∃ ca2 ρ2 cs2 Hf2, Rel B ca2 ρ2 cs2 Hf2 σ2 H2 ∧ GO X W B ca2 Hf2 En (gWhile t gb m ρ2 cs2), ⟨_, ca, ρ, cs, Hf, r, h⟩, ?_⟩
  rintro m σ2 H2 ⟨ca2, ρ2, cs2, Hf2, r2, h2⟩
  cases m with
  | zero => exact (show False from h2).elim
  | succ m =>
    have h2' : GO X W B ca2 Hf2 En (stp (t ρ2) (fun b cs => if b = true then (match gb ρ2 cs with
      | .nx ρ' cs' => gWhile t gb m ρ' cs'
      | .ct ρ' cs' => gWhile t gb m ρ' cs'
      | .bk ρ' cs' => .nx ρ' cs'
      | .rt r cs' => .rt r cs'
      | .er c ρ' cs' => .er c ρ' cs'
      | .no => .no) else .nx ρ2 cs) ρ2 cs2) := h2
    refine kc B ca2 ρ2 cs2 Hf2 σ2 H2 _ r2 (h2'.stp_.mono fun ca3 Hf3 H3 cs3 b n3 r3 h3 => ?_)
    cases b with
    | false => exact GO.nx_ (show GO X W B ca3 Hf3 En (.nx ρ2 cs3) from h3) r3
    | true =>
      have h4 : GO X W B ca3 Hf3 En (match gb ρ2 cs3 with
        | .nx ρ' cs' => gWhile t gb m ρ' cs'
        | .ct ρ' cs' => gWhile t gb m ρ' cs'
        | .bk ρ' cs' => .nx ρ' cs'
        | .rt r cs' => .rt r cs'
        | .er c ρ' cs' => .er c ρ' cs'
        | .no => .no) := h3
      refine ⟨fun σ' H' => ∃ ca2 ρ2 cs2 Hf2, Rel B ca2 ρ2 cs2 Hf2 σ' H' ∧ GO X W B ca2 Hf2 En (gWhile t gb m ρ2 cs2), fun σ' H' p' => ⟨m, Nat.lt_succ_self _, p'⟩, ?_⟩
      refine kb B ca3 ρ2 cs3 Hf3 σ2 H3 _ r3 ?_
      cases eb : gb ρ2 cs3 with
      | nx ρ' cs' => rw [eb] at h4; exact fun ca' Hf' σ' H' n' r' => ⟨ca', ρ', cs', Hf', r', GO.fwd h4 n'⟩
      | ct ρ' cs' => rw [eb] at h4; exact fun ca' Hf' σ' H' n' r' => ⟨ca', ρ', cs', Hf', r', GO.fwd h4 n'⟩
      | bk ρ' cs' => rw [eb] at h4; exact fun ca' Hf' σ' H' n' r' => h4 ca' Hf' σ' H' n' r'
      | rt v cs' => rw [eb] at h4; exact h4
      | er c ρ' cs' => rw [eb] at h4; exact h4
      | no => rw [eb] at h4; exact h4.elim
end
end Dn

set_option Elab.async false
set_option linter.all false
set_option maxRecDepth 100000
set_option maxHeartbeats 1000000
/-! Dn6: cells changed by methods and stores; defs and their calls. -/
namespace Dn
open PySem L2
/-- a method that changes the list of a cell: the answer, the new items -/
def rMt (g : List D → List D → Option (D × List D)) : V → List V → Hp → VK → Prop := fun x vs H Q => ∃ Hf l ws xs ds d ys, g xs ds = some (d, ys) ∧ Ex Hf H ∧ x = .ref l ∧ H l = some (.lst ws) ∧ Dds Hf ws xs ∧ Dds Hf vs ds ∧ xs.length ≤ sizeLine ∧
  ∀ v us, Dd Hf v d → Dds Hf us ys → Q v (upd H l (.lst us))
def celM (s : S) : M (Nat × List D) := fun cs => match s with
  | .cel j => match cs[j]? with
    | some (.lst xs) => .ok (j, xs) cs
    | _ => .no
  | _ => .no
def putM (j : Nat) (o : OC) : M Unit := fun cs => .ok () (cs.set j o)
def fin_ (g : List D → List D → Option (D × List D)) (s : S) (ss : List S) : M S :=
  bnd (celM s) fun p => bnd (ofO (asD ss)) fun ds => bnd (ofO (if p.2.length ≤ sizeLine then g p.2 ds else none)) fun q => bnd (putM p.1 (.lst q.2)) fun _ => ret (.d q.1)
def eMt (g : List D → List D → Option (D × List D)) (fo : List S → M S) (fa : List S → M (List S)) (ρ : List S) : M S := bnd (fo ρ) fun s => bnd (celM s) fun _ => bnd (fa ρ) fun ss => fin_ g s ss
def eMt0 (g : List D → List D → Option (D × List D)) (fo : List S → M S) (ρ : List S) : M S := bnd (fo ρ) fun s => fin_ g s []
def appG : List D → List D → Option (D × List D)
  | xs, [d] => if xs.length < sizeLine then some (.none, xs ++ [d]) else none
  | _, _ => none
def extG : List D → List D → Option (D × List D)
  | xs, [.list ys] => if xs.length + ys.length ≤ sizeLine then some (.none, xs ++ ys) else none
  | _, _ => none
def popG : List D → List D → Option (D × List D)
  | xs, [] => (xs[xs.length - 1]?).map fun d => (d, xs.dropLast)
  | _, _ => none
section
variable {X : Cx} {W : WX} {B : Hp} {ca : List Addr} {Hf H : Hp} {ρ : List S} {σ : L2.St} {cs : Store} {β : Type} {P : List Addr → Hp → Hp → Store → β → Prop}
theorem celM_ {a : S} {k : Nat × List D → M β} (h : Gs X W B ca Hf ρ σ (bnd (celM a) k cs) P) : ∃ j xs, a = .cel j ∧ cs[j]? = some (.lst xs) ∧ Gs X W B ca Hf ρ σ (k (j, xs) cs) P := by
  unfold bnd celM at h
  cases a with
  | cel j =>
    cases e : cs[j]? with
    | none => simp only [e] at h; exact h.elim
    | some o =>
      cases o with
      | lst xs => simp only [e] at h; exact ⟨j, xs, rfl, e, h⟩
      | dK _ => simp only [e] at h; exact h.elim
  | _ => exact h.elim
end
section
variable {X : Cx} {W : WX} {o e : Expr} {es : List Expr} {fo fb : List S → M S} {fa : List S → M (List S)} {name : Str} {id : String} {apos cpos pos : Pos} {g : List D → List D → Option (D × List D)}
theorem ty_cel {B : Hp} {ca : List Addr} {ρ : List S} {cs : Store} {Hf : Hp} {σ : L2.St} {H : Hp} {j : Nat} {xs : List D} {x : V} (r : Rel B ca ρ cs Hf σ H) (hx : SvOk ca Hf (.cel j) x) (e : cs[j]? = some (.lst xs)) :
    ∃ l ws, x = .ref l ∧ ca[j]? = some l ∧ H l = some (.lst ws) ∧ Dds Hf ws xs := by
  obtain ⟨l, h1, rfl⟩ := hx
  obtain ⟨ws, g1, g2⟩ := r.cell e h1
  exact ⟨l, ws, rfl, h1, g1, g2⟩
theorem fin_run {B : Hp} {ca : List Addr} {ρ : List S} {cs : Store} {Hf : Hp} {σ : L2.St} {H : Hp} {Q : VK} {s : S} {ss : List S} {x : V} {vs : List V} (r : Rel B ca ρ cs Hf σ H) (hx : SvOk ca Hf s x) (hv : SvsOk ca Hf ss vs)
    (h : Gs X W B ca Hf ρ σ (fin_ g s ss cs) (fun ca' Hf' H' _ s => ∀ v, SvOk ca' Hf' s v → Q v H')) : rMt g x vs H Q := by
  obtain ⟨j, xs, rfl, e1, h1⟩ := celM_ h
  obtain ⟨ds, e2, h2⟩ := ofOb_ h1
  obtain ⟨q, e3, h3⟩ := ofOb_ h2
  obtain ⟨l, ws, rfl, c1, c2, c3⟩ := ty_cel r hx e1
  dsimp only at e3
  split at e3
  · rename_i hz
    refine ⟨Hf, l, ws, xs, ds, q.1, q.2, e3, r.ext, rfl, c2, c3, asD_dds e2 hv, hz, fun v us hd hu => ?_⟩
    have r2 : Rel B ca ρ (cs.set j (.lst q.2)) Hf σ (upd H l (.lst us)) := r.write c1 ⟨us, upd_same, hu⟩
    exact h3 ca Hf _ Nx.refl r2 v hd
  · cases e3
theorem eMt_run {to : TE} {t : TA} (ko : KE X W to fo) (kt : KA X W t fa) {B : Hp} {ca : List Addr} {ρ : List S} {cs : Store} {Hf : Hp} {σ : L2.St} {H : Hp} {Q : VK} (r : Rel B ca ρ cs Hf σ H)
    (h : Gs X W B ca Hf ρ σ (eMt g fo fa ρ cs) (fun ca' Hf' H' _ s => ∀ v, SvOk ca' Hf' s v → Q v H')) : tBM X.K "list" (rMt g) to t σ H Q := by
  refine ko B ca ρ cs Hf σ H _ r (h.bind.mono fun ca1 Hf1 H1 cs1 s n1 r1 h1 x hx => ?_)
  obtain ⟨j, xs, rfl, e1, h2⟩ := celM_ h1
  obtain ⟨l, ws, rfl, c1, c2, c3⟩ := ty_cel r1 hx e1
  refine ⟨.inl ⟨rfl, ws, .inl (.inl c2)⟩, ?_⟩
  exact kt B ca1 ρ cs1 Hf1 σ H1 _ r1 (h2.bind.mono fun ca2 Hf2 H2 cs2 ss n2 r2 h3 vs hvs => fin_run r2 (hx.nx n2) hvs h3)
theorem eMt0_run {to : TE} (ko : KE X W to fo) {B : Hp} {ca : List Addr} {ρ : List S} {cs : Store} {Hf : Hp} {σ : L2.St} {H : Hp} {Q : VK} (r : Rel B ca ρ cs Hf σ H)
    (h : Gs X W B ca Hf ρ σ (eMt0 g fo ρ cs) (fun ca' Hf' H' _ s => ∀ v, SvOk ca' Hf' s v → Q v H')) : tBM0 X.K "list" (rMt g) to σ H Q := by
  refine ko B ca ρ cs Hf σ H _ r (h.bind.mono fun ca1 Hf1 H1 cs1 s n1 r1 h1 x hx => ?_)
  have h1' := h1
  obtain ⟨j, xs, rfl, e1, h2⟩ := celM_ h1
  obtain ⟨l, ws, rfl, c1, c2, c3⟩ := ty_cel r1 hx e1
  exact ⟨.inl ⟨rfl, ws, .inl (.inl c2)⟩, fin_run r1 hx .nil h1'⟩
theorem de_mt (slot : Slot "list" name id) (hty : typeOf (.builtin id) = pure (.type "method_descriptor")) (hm : MtR X id (rMt g)) (ho : DE X W o fo) (ha : DA X W (e :: es) fa)
    (hbase : attributeBase o name X.env (eval o X.env) = eval o X.env := by rfl)
    (hfew : ((backTo cpos (starEach (e :: es) X.env)).all (fun x => !x.1) && (backToKw cpos (keywordEach [] X.env)).all (fun x => x.1.isSome)
      && decide ((e :: es).length + ([] : List Keyword).length + (if ([] : List Keyword).isEmpty then 0 else 1) < 30)) = true := by rfl)
    (hline : (apos.endLine == cpos.line) = true := by rfl) (hs : starEach (e :: es) X.env = (false, eval e X.env) :: starEach es X.env := by rfl) (hplain : (backTo cpos (starEach es X.env)).any (·.1) = false := by rfl) :
    DE X W (.Call (.Attribute o name apos) (e :: es) [] cpos) (eMt g fo fa) := by
  obtain ⟨to, po, ko⟩ := ho
  obtain ⟨t, p, k⟩ := ha
  exact ⟨_, pe_bm PySem.F.plainAttrs_list slot hty hm po p hbase hfew hline hs hplain, fun B ca ρ cs Hf σ H Q r h => eMt_run ko k r h⟩
theorem de_mt0 (slot : Slot "list" name id) (hty : typeOf (.builtin id) = pure (.type "method_descriptor")) (hm : MtR X id (rMt g)) (ho : DE X W o fo)
    (hbase : attributeBase o name X.env (eval o X.env) = eval o X.env := by rfl) (hline : (apos.endLine == cpos.line) = true := by rfl) :
    DE X W (.Call (.Attribute o name apos) [] [] cpos) (eMt0 g fo) := by
  obtain ⟨to, po, ko⟩ := ho
  exact ⟨_, pe_bm0 PySem.F.plainAttrs_list slot hty hm po hbase hline, fun B ca ρ cs Hf σ H Q r h => eMt0_run ko r h⟩
theorem dds_one {Hf : Hp} {vs : List V} {d : D} (h : Dds Hf vs [d]) : ∃ v, vs = [v] ∧ Dd Hf v d := by
  cases h with
  | cons h t => cases t; exact ⟨_, rfl, h⟩
theorem dds_two {Hf : Hp} {vs : List V} {d d' : D} (h : Dds Hf vs [d, d']) : ∃ v v', vs = [v, v'] ∧ Dd Hf v d ∧ Dd Hf v' d' := by
  cases h with
  | cons h t =>
    obtain ⟨v', rfl, h'⟩ := dds_one t
    exact ⟨_, _, rfl, h, h'⟩
theorem app_ok : MtR X "list.append" (rMt appG) := by
  intro pins s σ H x vs v us Q I rx rv h
  obtain ⟨Hf, l, ws, xs, ds, d, ys, e, ex, rfl, c2, c3, hl, hz, q⟩ := h
  unfold appG at e
  split at e
  · rename_i d0
    split at e
    · rename_i hlt
      cases e
      obtain ⟨y, rfl, hy⟩ := dds_one hl
      exact mt_append pins s σ H _ _ v us Q I rx rv ⟨l, ws, y, rfl, rfl, c2, by rw [dps_len c3]; exact hlt, q _ _ .non (dps_app c3 (.cons hy .nil))⟩
    · cases e
  · cases e
theorem ext_ok : MtR X "list.extend" (rMt extG) := by
  intro pins s σ H x vs v us Q I rx rv h
  obtain ⟨Hf, l, ws, xs, ds, d, ys, e, ex, rfl, c2, c3, hl, hz, q⟩ := h
  unfold extG at e
  split at e
  · rename_i zs
    split at e
    · rename_i hlt
      cases e
      obtain ⟨y, rfl, hy⟩ := dds_one hl
      cases hy with
      | lst g1 g2 =>
        rename_i b vs2
        cases rx
        obtain ⟨u, rfl, ru⟩ := rv.one
        cases ru
        have l1 := dps_len c3
        have l2 := dps_len g2
        obtain ⟨z, its, n, r, hl, e⟩ := I.lstM c2
        obtain ⟨z2, its2, n2, r2, hl2, e2⟩ := Inv.rdl I (rd_ex ex g1)
        have hsz : its.toArray.size + its2.toArray.size ≤ sizeLine := by rw [List.size_toArray, List.size_toArray]; omega
        have hlong : ¬ (!its.toArray.isEmpty && Builtin.List.listTooLong (its.toArray.size + its2.toArray.size)) = true := by
          rw [notLongL hsz, Bool.and_false]
          exact Bool.false_ne_true
        refine PySem.call_meets PySem.F.slot_list_extend ⟨_, e, rfl⟩ PySem.F.entry_list_extend (PySem.F.args_list_extend_2 _ _)
          (AutoSeq1.list_extend_list_list_0 l its.toArray n b its2.toArray n2 hlong (by rw [List.size_toArray]; omega) (by omega)) ⟨e, e2, ?_⟩
        refine ⟨.non, _, I.lset (its' := its ++ its2) c2 e (by simp) (r.append r2) ?_, rfl, q _ _ .non (dps_app c3 g2)⟩
        rw [List.length_append]
        omega
    · cases e
  · cases e
theorem pop_ok : MtR X "list.pop" (rMt popG) := by
  intro pins s σ H x vs v us Q I rx rv h
  obtain ⟨Hf, l, ws, xs, ds, d, ys, e, ex, rfl, c2, c3, hl, hz, q⟩ := h
  unfold popG at e
  split at e
  · cases z : xs[xs.length - 1]? with
    | none => rw [z] at e; cases e
    | some d0 =>
      rw [z] at e
      cases e
      cases hl
      obtain ⟨y, k1, k2⟩ := dps_get c3 z
      exact mt_pop pins s σ H _ _ v us Q I rx rv ⟨l, ws, y, rfl, rfl, c2, by rw [dps_len c3]; exact k1, q _ _ k2 (dps_dropLast c3)⟩
  · cases e
end
/-- xs[i] = e, xs a cell -/
def sSub (fo fi fe : List S → M S) : G := fun ρ => stp (bnd (fe ρ) fun e => bnd (fo ρ) fun o => bnd (fi ρ) fun i => bnd (celM o) fun p => match e, i with
  | .d x, .d (.int k) => bnd (ofO (ixN p.2.length k)) fun j => putM p.1 (.lst (p.2.set j x))
  | _, _ => stuck) (fun _ cs => .nx ρ cs) ρ
section
variable {X : Cx} {W : WX} {o i e : Expr} {fo fi fe : List S → M S} {pos pos' : Pos}
theorem dst_sub (he : DE X W e fe) (ho : DE X W o fo) (hi : DE X W i fi)
    (ha : ∀ v, assign (.Subscript o i pos') X.env v = (do
      let ov ← holding [v] (eval o X.env)
      let iv ← holding [v, ov] (eval i X.env)
      standAt pos'
      holding [v, ov, iv] (setItem ov iv v)
      release [v, ov, iv] []) := by intro _; rfl)
    (hs : swapsWithSole [.Subscript o i pos'] e pos.line X.env = pure false := by rfl) (hw : swappedStores [.Subscript o i pos'] e X.env = pure none := by rfl)
    (h1 : (assignEach [.Subscript o i pos'] X.env).map (·.2) = [assign (.Subscript o i pos') X.env] := by rfl) : DSt X W (.Assign [.Subscript o i pos'] e pos) (sSub fo fi fe) := by
  obtain ⟨te, pe, ke⟩ := he
  obtain ⟨to, po, ko⟩ := ho
  obtain ⟨ti, pi, ki⟩ := hi
  refine ⟨_, ps_asg pe (pg_sub po pi set_list ha) hs hw h1, fun B ca ρ cs Hf σ H En r hg => ?_⟩
  refine ke B ca ρ cs Hf σ H _ r (hg.stp_.bind.mono fun ca1 Hf1 H1 cs1 s1 n1 r1 h1 v hv => ?_)
  refine ko B ca1 ρ cs1 Hf1 σ H1 _ r1 (h1.bind.mono fun ca2 Hf2 H2 cs2 s2 n2 r2 h2 x hx => ?_)
  refine ki B ca2 ρ cs2 Hf2 σ H2 _ r2 (h2.bind.mono fun ca3 Hf3 H3 cs3 s3 n3 r3 h3 y hy => ?_)
  obtain ⟨j, xs, rfl, e1, h4⟩ := celM_ h3
  obtain ⟨l, ws, rfl, c1, c2, c3⟩ := ty_cel r3 (hx.nx n3) e1
  cases s1 with
  | d z =>
    cases s3 with
    | d w =>
      cases w with
      | int k =>
        have hy' : Dd Hf3 y (.int k) := hy
        cases hy'
        have h5 : Gs X W B ca3 Hf3 ρ σ (bnd (ofO (ixN xs.length k)) (fun m => putM j (.lst (xs.set m z))) cs3) _ := h4
        obtain ⟨m, e2, h6⟩ := ofOb_ h5
        have hz : Dd Hf3 v z := dp_ex n3.ex (dp_ex n2.ex hv)
        refine ⟨l, ws, k, m, rfl, rfl, c2, by rw [dps_len c3]; exact e2, ?_⟩
        have r4 : Rel B ca3 ρ (cs3.set j (.lst (xs.set m z))) Hf3 σ (upd H3 l (.lst (ws.set m v))) := r3.write c1 ⟨_, upd_same, dps_set m c3 hz⟩
        exact GO.nx_ (h6 ca3 Hf3 _ Nx.refl r4) r4
      | _ => exact h4.elim
    | _ => exact h4.elim
  | _ => exact h4.elim
end

/-! ### defs -/
def fin (n : Nat) : Out → Res Rv
  | .nx _ cs => .ok (.d .none) (cs.take n)
  | .rt (.cel j) cs => if j < n then .ok (.cel j) (cs.take n) else match cs[j]? with
    | some o => .ok (.own o) (cs.take n)
    | none => .no
  | .rt r cs => .ok r (cs.take n)
  | .er c _ cs => .er c (cs.take n)
  | _ => .no
/-- a def's mirror by its body's -/
def runG (m : Nat) (g : G) (ss : List S) : M Rv := fun cs => fin cs.length (g (ss ++ List.replicate m .no) cs)
/-- a def's promise: it does what F says -/
def spE (mg : Str → Option Value) (n : Nat) (F : List S → M Rv) : Sp := fun vs H Q E => vs.length = n ∧ ∃ B ca cs Hf ss, Rel B ca ss cs Hf (vs.map some) H ∧ match F ss cs with
  | .ok r cs' => ∀ Hf' H' v, Ex Hf Hf' → Rel B ca ss cs' Hf' (vs.map some) H' → RvOk B ca Hf' H' r v → Q v H'
  | .er c cs' => ∀ Hf' H' cls, Ex Hf Hf' → Rel B ca ss cs' Hf' (vs.map some) H' → mg c = some cls → E cls none H'
  | .no => False
theorem Rel.cut {B : Hp} {ca ca' : List Addr} {ρ ρ' : List S} {cs cs' : Store} {Hf Hf' : Hp} {σ σ' : L2.St} {H H' : Hp} (r0 : Rel B ca ρ cs Hf σ H) (n : Nx ca Hf ca' Hf') (r : Rel B ca' ρ' cs' Hf' σ' H') : Rel B ca ρ (cs'.take cs.length) Hf' σ H' := by
  obtain ⟨t, ht⟩ := n.pre
  have hlen : ca.length = cs.length := r0.lenc
  have hlen' : ca'.length = cs'.length := r.lenc
  have hle : ca.length ≤ ca'.length := by rw [← ht, List.length_append]; omega
  refine ⟨r.ext, r0.len, fun i s e => ?_, fun j o e => ?_, ?_, r0.nd, fun a m => r.off a (n.pre.subset m), r.exb, fun a m => ⟨(r.dis a m).1, fun z => (r.dis a m).2 (n.pre.subset z)⟩⟩
  · rcases r0.sl i s e with z | ⟨v, h1, h2⟩
    · exact .inl z
    · refine .inr ⟨v, h1, ?_⟩
      cases s with
      | no => exact h2
      | d x => exact dp_ex n.ex h2
      | fn a => exact h2
      | cel j => exact h2
  · have hj : j < cs.length := by
      have := (List.getElem?_eq_some_iff.mp e).1
      rw [List.length_take] at this
      omega
    rw [List.getElem?_take_of_lt hj] at e
    obtain ⟨a, g1, g2⟩ := r.cells j o e
    refine ⟨a, ?_, g2⟩
    rw [← ht, List.getElem?_append_left (by omega)] at g1
    exact g1
  · rw [List.length_take]
    omega
theorem RvOk.cut {B : Hp} {ca ca' : List Addr} {cs : Store} {Hf Hf' H' : Hp} {r : Rv} {v : V} (n : Nx ca Hf ca' Hf') (h : RvOk B ca' Hf' H' r v) (hr : ∀ j, r = .cel j → j < ca.length) : RvOk B ca Hf' H' r v := by
  cases r with
  | d x => exact h
  | own o =>
    obtain ⟨a, e, h1, h2, h3, h4⟩ := h
    exact ⟨a, e, h1, h2, fun z => h3 (n.pre.subset z), h4⟩
  | cel j =>
    obtain ⟨a, h1, e⟩ := h
    obtain ⟨t, ht⟩ := n.pre
    rw [← ht, List.getElem?_append_left (hr j rfl)] at h1
    exact ⟨a, h1, e⟩
section
variable {P : Program} {w : World} {K : PySem.W.Frag} {mg : Str → Option Value} {base : Heap} {x qual : Str} {params : Arguments} {body : List Stmt} {scope : Scope} {dvs : List V} {kws : List (Str × V)} {f : Addr} {fd : FuncData} {N ps : List Str} {k : Nat} {F : List S → M Rv}
/-- the body's context -/
abbrev BX (P : Program) (w : World) (K : PySem.W.Frag) (mg : Str → Option Value) (base : Heap) (N : List Str) (qual : Str) (scope : Scope) (f : Addr) (cd : Value) (A : Around) (outer : List Env) (s : Shared) (H : Hp) (E : XK) : Cx := cxOf (L2.CX P w) P w K mg base N qual scope f cd A outer s H E
abbrev BW (E : XK) : WX := fun cls d _ H => E cls d H
theorem takesB {cdv : Value} {A : Around} {outer : List Env} {s : Shared} {H : Hp} {E : XK} : Takes (BX P w K mg base N qual scope f cdv A outer s H E) (BW E) := takes_of rfl rfl rfl rfl
theorem passesB {cdv : Value} {A : Around} {outer : List Env} {s : Shared} {H : Hp} {E : XK} : PassesOwn (model P w) (BX P w K mg base N qual scope f cdv A outer s H E).A (BX P w K mg base N qual scope f cdv A outer s H E).env (BX P w K mg base N qual scope f cdv A outer s H E).xe := passes_of rfl
/-- THE RULE: a def by its body -/
theorem def_ok (Fd : FunD K x qual params body scope dvs kws f fd) (S : FnScope N ps scope) {g : G} (m : Nat) (hm : N.length = ps.length + m)
    (hbody : ∀ (cdv : Value) (A : Around) (outer : List Env) (s : Shared) (H : Hp) (E : XK), Room k (A.deeper (PyProof.Rows.envOfC qual scope s.heap.objs.size f cdv)) → Takes (BX P w K mg base N qual scope f cdv A outer s H E) (BW E) →
      PassesOwn (model P w) (BX P w K mg base N qual scope f cdv A outer s H E).A (BX P w K mg base N qual scope f cdv A outer s H E).env (BX P w K mg base N qual scope f cdv A outer s H E).xe → DSs (BX P w K mg base N qual scope f cdv A outer s H E) (BW E) body g) :
    FnOk P w K mg base (L2.CX P w) (k + 1) f fd ps (spE mg ps.length (runG m g)) := by
  refine Fd.ok S (fun vs H Q E h => h.1) (fun cdv A outer s H vs Q E hr h => ?_)
  obtain ⟨hl, B, ca, cs, Hf, ss, r, h⟩ := h
  obtain ⟨t, pt, kt⟩ := hbody cdv A outer s H E hr takesB passesB
  refine ⟨t, pt, ?_⟩
  have hss : ss.length = vs.length := by
    have := r.len
    rw [List.length_map] at this
    exact this.symm
  have hst : L2.start N vs = vs.map some ++ List.replicate m none := by
    unfold L2.start
    rw [hm, hl, Nat.add_sub_cancel_left]
  have r1 : Rel B ca (ss ++ List.replicate m .no) cs Hf (L2.start N vs) H := by
    rw [hst]
    refine r.slots (by simp [hss]) fun i sl e => ?_
    by_cases hi : i < ss.length
    · rw [List.getElem?_append_left hi] at e
      rcases r.sl i sl e with z | ⟨v, h1, h2⟩
      · exact .inl z
      · exact .inr ⟨v, by rw [List.getElem?_append_left (by simp; omega)]; exact h1, h2⟩
    · rw [List.getElem?_append_right (by omega), List.getElem?_replicate] at e
      split at e
      · cases e; exact .inl rfl
      · cases e
  refine kt B ca _ cs Hf _ H _ r1 ?_
  have hlc := r.lenc
  unfold runG at h
  cases e : g (ss ++ List.replicate m .no) cs with
  | nx ρ' cs' =>
    rw [e] at h
    exact fun ca' Hf' σ' H' n r' => h Hf' H' .non n.ex (r.cut n r') .non
  | rt rv cs' =>
    rw [e] at h
    intro ca' Hf' ρ' σ' H' v n r' hv
    have rc := r.cut n r'
    cases rv with
    | d x => exact h Hf' H' v n.ex rc (hv.cut (cs := cs) n fun j z => nomatch z)
    | own o => exact h Hf' H' v n.ex rc (hv.cut (cs := cs) n fun j z => nomatch z)
    | cel j =>
      by_cases hj : j < cs.length
      · have h' : match (Res.ok (Rv.cel j) (cs'.take cs.length) : Res Rv) with
          | .ok r cs' => ∀ Hf' H' v, Ex Hf Hf' → Rel B ca ss cs' Hf' (vs.map some) H' → RvOk B ca Hf' H' r v → Q v H'
          | .er c cs' => ∀ Hf' H' cls, Ex Hf Hf' → Rel B ca ss cs' Hf' (vs.map some) H' → mg c = some cls → E cls none H'
          | .no => False := by
          have e2 : fin cs.length (.rt (.cel j) cs') = .ok (.cel j) (cs'.take cs.length) := if_pos hj
          rw [← e2]; exact h
        exact h' Hf' H' v n.ex rc (hv.cut (cs := cs) n fun j' z => by cases z; omega)
      · obtain ⟨a, h1, rfl⟩ := hv
        have hj' : j < cs'.length := by rw [← r'.lenc]; exact (List.getElem?_eq_some_iff.mp h1).1
        obtain ⟨b, g1, g2⟩ := r'.cells j cs'[j] (by simp [hj'])
        rw [h1] at g1; cases g1
        have ma : a ∈ ca' := List.mem_of_getElem? h1
        have h' : match (Res.ok (Rv.own cs'[j]) (cs'.take cs.length) : Res Rv) with
          | .ok r cs' => ∀ Hf' H' v, Ex Hf Hf' → Rel B ca ss cs' Hf' (vs.map some) H' → RvOk B ca Hf' H' r v → Q v H'
          | .er c cs' => ∀ Hf' H' cls, Ex Hf Hf' → Rel B ca ss cs' Hf' (vs.map some) H' → mg c = some cls → E cls none H'
          | .no => False := by
          have e2 : fin cs.length (.rt (.cel j) cs') = .ok (.own cs'[j]) (cs'.take cs.length) := by
            refine Eq.trans (show fin cs.length (.rt (.cel j) cs') = (if j < cs.length then .ok (.cel j) (cs'.take cs.length) else match cs'[j]? with
              | some o => .ok (.own o) (cs'.take cs.length)
              | none => .no) from rfl) ?_
            rw [if_neg hj, List.getElem?_eq_getElem hj']
          rw [← e2]; exact h
        refine h' Hf' H' _ n.ex rc ⟨a, rfl, g2, r'.off a ma, fun z => ?_, ?_⟩
        · obtain ⟨t, ht⟩ := n.pre
          obtain ⟨i, hi, ei⟩ := List.mem_iff_getElem.mp z
          have e3 : ca'[i]? = some a := by rw [← ht, List.getElem?_append_left hi]; simp [hi, ei]
          have := nd_ix r'.nd h1 e3
          omega
        · cases q : B a with
          | none => rfl
          | some u => exact absurd ma (r'.dis a (by rw [q]; simp)).2
  | er c ρ' cs' =>
    rw [e] at h
    exact fun ca' Hf' σ' H' cls n r' hc => h Hf' H' cls n.ex (r.cut n r') hc
  | bk ρ' cs' => rw [e] at h; exact h.elim
  | ct ρ' cs' => rw [e] at h; exact h.elim
  | no => rw [e] at h; exact h.elim
end
end Dn

set_option Elab.async false
set_option linter.all false
set_option maxRecDepth 100000
set_option maxHeartbeats 1000000
/-! Dn7: calls of defs. -/
namespace Dn
open PySem L2
/-- no cell among them -/
def noCel : List S → Bool
  | [] => true
  | .cel _ :: _ => false
  | _ :: r => noCel r
/-- a call that is handed no cell -/
def callP (F : List S → M Rv) (ss : List S) : M Rv := fun cs => if noCel ss = true then (match F ss [] with
  | .ok (.d x) _ => .ok (.d x) cs
  | .ok (.own o) _ => .ok (.own o) cs
  | .ok (.cel _) _ => .no
  | .er c _ => .er c cs
  | .no => .no) else .no
/-- a call that is handed one cell, ahead -/
def callC (F : List S → M Rv) (ss : List S) : M Rv := fun cs => match ss with
  | .cel j :: r => if noCel r = true then (match cs[j]? with
    | some o => match F (.cel 0 :: r) [o] with
      | .ok (.d x) [o'] => .ok (.d x) (cs.set j o')
      | .ok (.own u) [o'] => .ok (.own u) (cs.set j o')
      | .ok (.cel 0) [o'] => .ok (.cel j) (cs.set j o')
      | .er c [o'] => .er c (cs.set j o')
      | _ => .no
    | none => .no) else .no
  | _ => .no
def eCall (F : List S → M Rv) (g : List S → M (List S)) (ρ : List S) : M Rv := bnd (g ρ) (callP F)
def eCallC (F : List S → M Rv) (g : List S → M (List S)) (ρ : List S) : M Rv := bnd (g ρ) (callC F)
/-- the i-th slot holds the def at a; it lets nothing out -/
def eCallL (i : Nat) (a : Addr) (F : List S → M Rv) (g : List S → M (List S)) (ρ : List S) : M Rv := fun cs => match ρ[i]? with
  | some (.fn b) => if b = a then bnd (g ρ) (fun ss cs => match callP F ss cs with
    | .er _ _ => .no
    | o => o) cs else .no
  | _ => .no
section
variable {B : Hp} {ca : List Addr} {ρ : List S} {cs : Store} {Hf Hf' : Hp} {σ : L2.St} {H H' : Hp} {ss : List S} {vs : List V}
theorem nocel_sv : ∀ {ss : List S} {vs : List V} {ca' : List Addr}, noCel ss = true → SvsOk ca Hf ss vs → SvsOk ca' Hf ss vs
  | [], _, _, _, h => by cases h; exact .nil
  | .no :: r, _, _, e, h => by cases h with | cons h t => exact h.elim
  | .d x :: r, _, _, e, h => by cases h with | cons h t => exact .cons h (nocel_sv (show noCel r = true from e) t)
  | .fn a :: r, _, _, e, h => by cases h with | cons h t => exact .cons h (nocel_sv (show noCel r = true from e) t)
  | .cel j :: r, _, _, e, h => by cases e
theorem slots_of {ca' : List Addr} (h : SvsOk ca' Hf ss vs) (i : Nat) (s : S) (e : ss[i]? = some s) : s = .no ∨ ∃ v, (vs.map some)[i]? = some (some v) ∧ SvOk ca' Hf s v := by
  obtain ⟨v, h1, h2⟩ := h.get e
  exact .inr ⟨v, by rw [List.getElem?_map, h1] <;> rfl, h2⟩
/-- what a callee may not touch: all but what is frozen and what it is handed -/
def ban (Hf H : Hp) (ca' : List Addr) : Hp := fun a => if Hf a = none ∧ a ∉ ca' then H a else none
theorem ban_some {ca' : List Addr} {a : Addr} {o : HO} (h1 : Hf a = none) (h2 : a ∉ ca') (h3 : H a = some o) : ban Hf H ca' a = some o := by
  unfold ban; rw [if_pos ⟨h1, h2⟩]; exact h3
theorem ban_of {ca' : List Addr} {a : Addr} (h : ban Hf H ca' a ≠ none) : Hf a = none ∧ a ∉ ca' := by
  unfold ban at h
  by_cases q : Hf a = none ∧ a ∉ ca'
  · exact q
  · rw [if_neg q] at h; exact absurd rfl h
theorem ban_ex {ca' : List Addr} : Ex (ban Hf H ca') H := fun a o h => by
  unfold ban at h
  by_cases q : Hf a = none ∧ a ∉ ca'
  · rw [if_pos q] at h; exact h
  · rw [if_neg q] at h; cases h
theorem Rel.enter (r : Rel B ca ρ cs Hf σ H) (h : noCel ss = true) (hv : SvsOk ca Hf ss vs) : Rel (ban Hf H []) [] ss [] Hf (vs.map some) H :=
  ⟨r.ext, by simp [hv.len], slots_of (nocel_sv h hv), fun j o e => by simp at e, rfl, List.nodup_nil, fun a m => by simp at m, ban_ex, fun a m => ban_of m⟩
theorem Rel.leave {ss' : List S} {σ' : L2.St} (r : Rel B ca ρ cs Hf σ H) (e : Ex Hf Hf') (r' : Rel (ban Hf H []) [] ss' [] Hf' σ' H') : Rel B ca ρ cs Hf' σ H' ∧ Nx ca Hf ca Hf' := by
  have kp : ∀ a, Hf a = none → ∀ o, H a = some o → H' a = some o := fun a h o q => r'.exb a o (ban_some h (by simp) q)
  have nf : ∀ a, Hf a = none → H a ≠ none → Hf' a = none := fun a h q => by
    cases z : H a with
    | none => exact absurd z q
    | some o => exact (r'.dis a (by rw [ban_some h (by simp) z]; simp)).1
  have n : Nx ca Hf ca Hf' := ⟨List.prefix_refl _, e⟩
  refine ⟨⟨r'.ext, r.len, fun i s q => ?_, fun j o q => ?_, r.lenc, r.nd, fun a m => nf a (r.off a m) (r.there m), fun a o q => kp a (r.dis a (by rw [q]; simp)).1 o (r.exb a o q), fun a m => ?_⟩, n⟩
  · rcases r.sl i s q with z | ⟨v, h1, h2⟩
    · exact .inl z
    · exact .inr ⟨v, h1, h2.nx n⟩
  · obtain ⟨a, h1, h2⟩ := r.cells j o q
    refine ⟨a, h1, h2.at ?_ e⟩
    have ma := List.mem_of_getElem? h1
    cases z : H a with
    | none => exact absurd z (r.there ma)
    | some u => exact kp a (r.off a ma) u z
  · obtain ⟨h1, h2⟩ := r.dis a m
    refine ⟨nf a h1 ?_, h2⟩
    cases q : B a with
    | none => exact absurd q m
    | some u => rw [r.exb a u q]; simp
theorem RvOk.leave {rv : Rv} {v : V} (r : Rel B ca ρ cs Hf σ H) (h : RvOk (ban Hf H []) [] Hf' H' rv v) (n : ∀ j, rv ≠ .cel j) : RvOk B ca Hf' H' rv v := by
  cases rv with
  | d x => exact h
  | cel j => exact absurd rfl (n j)
  | own o =>
    obtain ⟨a, e, h1, h2, _, h4⟩ := h
    have hb : ∀ o, H a = some o → Hf a = none → False := fun o q z => by rw [ban_some z (by simp) q] at h4; cases h4
    refine ⟨a, e, h1, h2, fun m => ?_, ?_⟩
    · cases z : H a with
      | none => exact r.there m z
      | some u => exact hb u z (r.off a m)
    · cases z : B a with
      | none => rfl
      | some u => exact (hb u (r.exb a u z) (r.dis a (by rw [z]; simp)).1).elim
theorem Rel.enterC {j : Nat} {o : OC} {a : Addr} {v : V} (r : Rel B ca ρ cs Hf σ H) (h : noCel ss = true) (hv : SvsOk ca Hf ss vs) (hj : cs[j]? = some o) (ha : ca[j]? = some a) : Rel (ban Hf H [a]) [a] (.cel 0 :: ss) [o] Hf ((V.ref a :: vs).map some) H := by
  have ma := List.mem_of_getElem? ha
  refine ⟨r.ext, by simp [hv.len], slots_of (.cons ⟨a, rfl, rfl⟩ (nocel_sv h hv)), fun i u e => ?_, rfl, by simp, fun b m => ?_, ban_ex, fun b m => ban_of m⟩
  · cases i with
    | zero => simp at e; subst e; exact ⟨a, rfl, r.cell hj ha⟩
    | succ i => simp at e
  · simp at m; subst m; exact r.off b ma
theorem Rel.leaveC {ss' : List S} {σ' : L2.St} {j : Nat} {o' : OC} {a : Addr} (r : Rel B ca ρ cs Hf σ H) (ha : ca[j]? = some a) (e : Ex Hf Hf') (r' : Rel (ban Hf H [a]) [a] ss' [o'] Hf' σ' H') : Rel B ca ρ (cs.set j o') Hf' σ H' ∧ Nx ca Hf ca Hf' := by
  have kp : ∀ b, Hf b = none → b ≠ a → ∀ o, H b = some o → H' b = some o := fun b h hn o q => r'.exb b o (ban_some h (by simp [hn]) q)
  have nf : ∀ b, Hf b = none → b ≠ a → H b ≠ none → Hf' b = none := fun b h hn q => by
    cases z : H b with
    | none => exact absurd z q
    | some o => exact (r'.dis b (by rw [ban_some h (by simp [hn]) z]; simp)).1
  have ma := List.mem_of_getElem? ha
  have n : Nx ca Hf ca Hf' := ⟨List.prefix_refl _, e⟩
  refine ⟨⟨r'.ext, r.len, fun i s q => ?_, fun i o q => ?_, by simp [r.lenc], r.nd, fun b m => ?_, fun b o q => ?_, fun b m => ?_⟩, n⟩
  · rcases r.sl i s q with z | ⟨v, h1, h2⟩
    · exact .inl z
    · exact .inr ⟨v, h1, h2.nx n⟩
  · by_cases hi : j = i
    · subst hi
      have hjl : j < cs.length := by rw [← r.lenc]; exact (List.getElem?_eq_some_iff.mp ha).1
      rw [List.getElem?_set_self hjl] at q
      cases q
      obtain ⟨b, g1, g2⟩ := r'.cells 0 o' rfl
      have : a = b := by simpa using g1
      subst this
      exact ⟨a, ha, g2⟩
    · rw [List.getElem?_set_ne hi] at q
      obtain ⟨b, h1, h2⟩ := r.cells i o q
      have hne : b ≠ a := fun z => by subst z; exact hi (nd_ix r.nd ha h1)
      have mb := List.mem_of_getElem? h1
      refine ⟨b, h1, h2.at ?_ e⟩
      cases z : H b with
      | none => exact absurd z (r.there mb)
      | some u => exact kp b (r.off b mb) hne u z
  · by_cases hb : b = a
    · subst hb; exact r'.off b (by simp)
    · exact nf b (r.off b m) hb (r.there m)
  · have hd := r.dis b (by rw [q]; simp)
    exact kp b hd.1 (fun z => hd.2 (z ▸ ma)) o (r.exb b o q)
  · obtain ⟨h1, h2⟩ := r.dis b m
    refine ⟨nf b h1 (fun z => h2 (z ▸ ma)) ?_, h2⟩
    cases q : B b with
    | none => exact absurd q m
    | some u => rw [r.exb b u q]; simp
theorem RvOk.leaveC {rv : Rv} {v : V} {a : Addr} {j : Nat} (r : Rel B ca ρ cs Hf σ H) (ha : ca[j]? = some a) (h : RvOk (ban Hf H [a]) [a] Hf' H' rv v) (n : ∀ i, rv ≠ .cel i) : RvOk B ca Hf' H' rv v := by
  cases rv with
  | d x => exact h
  | cel i => exact absurd rfl (n i)
  | own o =>
    obtain ⟨b, e, h1, h2, h3, h4⟩ := h
    have hne : b ≠ a := fun z => h3 (by simp [z])
    have hb : ∀ o, H b = some o → Hf b = none → False := fun o q z => by rw [ban_some z (by simp [hne]) q] at h4; cases h4
    refine ⟨b, e, h1, h2, fun m => ?_, ?_⟩
    · cases z : H b with
      | none => exact r.there m z
      | some u => exact hb u z (r.off b m)
    · cases z : B b with
      | none => rfl
      | some u => exact (hb u (r.exb b u z) (r.dis b (by rw [z]; simp)).1).elim
end
section
variable {X : Cx} {W : WX} {k : Nat} {f : Addr} {fd : FuncData} {ps : List Str} {F : List S → M Rv} {x : Str} {p pos : Pos} {e : Expr} {es : List Expr} {g : List S → M (List S)}
theorem callP_run {n : Nat} {B : Hp} {ca : List Addr} {ρ : List S} {cs : Store} {Hf : Hp} {σ : L2.St} {H : Hp} {Q : VK} {ss : List S} {vs : List V} (r : Rel B ca ρ cs Hf σ H) (hn : vs.length = n) (hv : SvsOk ca Hf ss vs)
    (h : Gs X W B ca Hf ρ σ (callP F ss cs) (fun ca' Hf' H' _ rv => ∀ v, RvOk B ca' Hf' H' rv v → Q v H')) : spE X.mg n F vs H Q (WE W σ) := by
  unfold callP at h
  by_cases hc : noCel ss = true
  · rw [if_pos hc] at h
    refine ⟨hn, _, [], [], Hf, ss, r.enter hc hv, ?_⟩
    cases q : F ss [] with
    | no => rw [q] at h; exact h.elim
    | er c cs1 =>
      rw [q] at h
      intro Hf' H' cls ex r' hm
      cases cs1 with
      | nil =>
        obtain ⟨r2, n2⟩ := r.leave ex r'
        exact h ca Hf' H' cls n2 r2 hm
      | cons _ _ => exact absurd r'.lenc (by simp)
    | ok rv cs1 =>
      rw [q] at h
      intro Hf' H' v ex r' hr
      have e1 : cs1 = [] := by
        have := r'.lenc
        exact List.length_eq_zero_iff.mp (by simpa using this.symm)
      subst e1
      obtain ⟨r2, n2⟩ := r.leave ex r'
      cases rv with
      | d y => exact h ca Hf' H' n2 r2 v (RvOk.leave r hr fun j z => nomatch z)
      | own o => exact h ca Hf' H' n2 r2 v (RvOk.leave r hr fun j z => nomatch z)
      | cel j => exact h.elim
  · rw [if_neg hc] at h; exact h.elim
theorem do_call (Fk : FnOk X.prog X.w X.K X.mg X.base (L2.CX X.prog X.w) k f fd ps (spE X.mg ps.length F)) (hr : Room k X.A) (tk : Takes X W) (hm : X.mg x = some (.ref f)) (hk : PySem.W.keepIn X.K (.ref f) = true) (hb : Binds X.K fd ps [])
    (ha : DA X W (e :: es) g) (hl : (e :: es).length = ps.length := by rfl) (hg : Gl X x := by rfl) (hdb : (x == ("__debug__" : Str)) = false := by decide) (he : starEach (e :: es) X.env = (false, eval e X.env) :: starEach es X.env := by rfl) (hpl : (backTo pos (starEach es X.env)).any (·.1) = false := by rfl)
    (hlen : ∀ ρ cs ss cs', g ρ cs = .ok ss cs' → ss.length = ps.length) : DO X W (.Call (.Name x p) (e :: es) [] pos) (eCall F g) := by
  obtain ⟨t, pt, kt⟩ := ha
  refine ⟨_, pe_callS (E := WE W) Fk hr hg hm hk hb (passAt tk) pt hdb he hpl, fun B ca ρ cs Hf σ H Q r h => ?_⟩
  have h' := h
  cases q : g ρ cs with
  | ok ss cs1 =>
    refine kt B ca ρ cs Hf σ H _ r ?_
    have hss := hlen ρ cs ss cs1 q
    rw [q]
    intro ca1 Hf1 H1 n1 r1 vs hvs
    have h1 : Gs X W B ca1 Hf1 ρ σ (callP F ss cs1) (fun ca' Hf' H' _ rv => ∀ v, RvOk B ca' Hf' H' rv v → Q v H') := by
      have e1 : eCall F g ρ cs = callP F ss cs1 := bnd_ok q
      rw [← e1]; exact h.fwd n1
    exact callP_run r1 (by rw [← hvs.len]; exact hss) hvs h1
  | er c cs1 =>
    refine kt B ca ρ cs Hf σ H _ r ?_
    rw [q]
    have e1 : eCall F g ρ cs = .er c cs1 := by unfold eCall bnd; rw [q]
    rw [e1] at h
    exact h
  | no =>
    have e1 : eCall F g ρ cs = .no := by unfold eCall bnd; rw [q]
    rw [e1] at h
    exact h.elim
theorem callC_run {n : Nat} {B : Hp} {ca : List Addr} {ρ : List S} {cs : Store} {Hf : Hp} {σ : L2.St} {H : Hp} {Q : VK} {ss : List S} {vs : List V} (r : Rel B ca ρ cs Hf σ H) (hn : vs.length = n) (hv : SvsOk ca Hf ss vs)
    (h : Gs X W B ca Hf ρ σ (callC F ss cs) (fun ca' Hf' H' _ rv => ∀ v, RvOk B ca' Hf' H' rv v → Q v H')) : spE X.mg n F vs H Q (WE W σ) := by
  cases hv with
  | nil => exact h.elim
  | cons hs ht =>
    rename_i s ss v vs
    cases s with
    | cel j =>
      obtain ⟨a, ha, rfl⟩ := hs
      have h0 : Gs X W B ca Hf ρ σ (if noCel ss = true then (match cs[j]? with
        | some o => match F (.cel 0 :: ss) [o] with
          | .ok (.d x) [o'] => .ok (.d x) (cs.set j o')
          | .ok (.own u) [o'] => .ok (.own u) (cs.set j o')
          | .ok (.cel 0) [o'] => .ok (.cel j) (cs.set j o')
          | .er c [o'] => .er c (cs.set j o')
          | _ => .no
        | none => .no) else .no) (fun ca' Hf' H' _ rv => ∀ v, RvOk B ca' Hf' H' rv v → Q v H') := h
      by_cases hc : noCel ss = true
      · rw [if_pos hc] at h0
        cases qj : cs[j]? with
        | none => rw [qj] at h0; exact h0.elim
        | some o =>
          rw [qj] at h0
          refine ⟨hn, _, [a], [o], Hf, _, r.enterC (v := .ref a) hc ht qj ha, ?_⟩
          have h1 : Gs X W B ca Hf ρ σ (match F (.cel 0 :: ss) [o] with
            | .ok (.d x) [o'] => .ok (.d x) (cs.set j o')
            | .ok (.own u) [o'] => .ok (.own u) (cs.set j o')
            | .ok (.cel 0) [o'] => .ok (.cel j) (cs.set j o')
            | .er c [o'] => .er c (cs.set j o')
            | _ => .no) (fun ca' Hf' H' _ rv => ∀ v, RvOk B ca' Hf' H' rv v → Q v H') := h0
          cases q : F (.cel 0 :: ss) [o] with
          | no => rw [q] at h1; exact h1.elim
          | er c cs1 =>
            rw [q] at h1
            intro Hf' H' cls ex r' hm
            have hl := r'.lenc
            match cs1, hl with
            | [o'], _ =>
              obtain ⟨r2, n2⟩ := r.leaveC ha ex r'
              exact h1 ca Hf' H' cls n2 r2 hm
          | ok rv cs1 =>
            rw [q] at h1
            intro Hf' H' v ex r' hr
            have hl := r'.lenc
            match cs1, hl with
            | [o'], _ =>
              obtain ⟨r2, n2⟩ := r.leaveC ha ex r'
              cases rv with
              | d y => exact h1 ca Hf' H' n2 r2 v (RvOk.leaveC r ha hr fun j z => nomatch z)
              | own u => exact h1 ca Hf' H' n2 r2 v (RvOk.leaveC r ha hr fun j z => nomatch z)
              | cel i =>
                cases i with
                | zero =>
                  obtain ⟨b, g1, rfl⟩ := hr
                  have : a = b := by simpa using g1
                  subst this
                  exact h1 ca Hf' H' n2 r2 _ ⟨a, ha, rfl⟩
                | succ i => exact h1.elim
      · rw [if_neg hc] at h0; exact h0.elim
    | _ => exact h.elim
theorem do_callC (Fk : FnOk X.prog X.w X.K X.mg X.base (L2.CX X.prog X.w) k f fd ps (spE X.mg ps.length F)) (hr : Room k X.A) (tk : Takes X W) (hm : X.mg x = some (.ref f)) (hk : PySem.W.keepIn X.K (.ref f) = true) (hb : Binds X.K fd ps [])
    (ha : DA X W (e :: es) g) (hl : (e :: es).length = ps.length := by rfl) (hg : Gl X x := by rfl) (hdb : (x == ("__debug__" : Str)) = false := by decide) (he : starEach (e :: es) X.env = (false, eval e X.env) :: starEach es X.env := by rfl) (hpl : (backTo pos (starEach es X.env)).any (·.1) = false := by rfl)
    (hlen : ∀ ρ cs ss cs', g ρ cs = .ok ss cs' → ss.length = ps.length) : DO X W (.Call (.Name x p) (e :: es) [] pos) (eCallC F g) := by
  obtain ⟨t, pt, kt⟩ := ha
  refine ⟨_, pe_callS (E := WE W) Fk hr hg hm hk hb (passAt tk) pt hdb he hpl, fun B ca ρ cs Hf σ H Q r h => ?_⟩
  cases q : g ρ cs with
  | ok ss cs1 =>
    refine kt B ca ρ cs Hf σ H _ r ?_
    have hss := hlen ρ cs ss cs1 q
    rw [q]
    intro ca1 Hf1 H1 n1 r1 vs hvs
    have h1 : Gs X W B ca1 Hf1 ρ σ (callC F ss cs1) (fun ca' Hf' H' _ rv => ∀ v, RvOk B ca' Hf' H' rv v → Q v H') := by
      have e1 : eCallC F g ρ cs = callC F ss cs1 := bnd_ok q
      rw [← e1]; exact h.fwd n1
    exact callC_run r1 (by rw [← hvs.len]; exact hss) hvs h1
  | er c cs1 =>
    refine kt B ca ρ cs Hf σ H _ r ?_
    rw [q]
    have e1 : eCallC F g ρ cs = .er c cs1 := by unfold eCallC bnd; rw [q]
    rw [e1] at h
    exact h
  | no =>
    have e1 : eCallC F g ρ cs = .no := by unfold eCallC bnd; rw [q]
    rw [e1] at h
    exact h.elim
/-- a call of a local name that holds a def -/
theorem do_callL (i : Nat) (Fk : FnOk X.prog X.w X.K X.mg X.base (L2.CX X.prog X.w) k f fd ps (spE X.mg ps.length F)) (hr : Room k X.A) (hk : PySem.W.keepIn X.K (.ref f) = true) (hb : Binds X.K fd ps [])
    (ha : DA X W (e :: es) g) (hlen : ∀ ρ cs ss cs', g ρ cs = .ok ss cs' → ss.length = ps.length) (hN : X.N[i]? = some x := by rfl) (hv : Vis X.env.scope x := by first | exact Or.inl rfl | exact Or.inr (Or.inl rfl) | exact Or.inr (Or.inr rfl))
    (hdb : (x == ("__debug__" : Str)) = false := by decide) (hcd : (x == ("__classdict__" : Str)) = false := by decide) (he : starEach (e :: es) X.env = (false, eval e X.env) :: starEach es X.env := by rfl) (hpl : (backTo pos (starEach es X.env)).any (·.1) = false := by rfl) : DO X W (.Call (.Name x p) (e :: es) [] pos) (eCallL i f F g) := by
  obtain ⟨t, pt, kt⟩ := ha
  refine ⟨_, pe_callL (dvs := []) (E := E0) Fk hr hN hv hk hb .nil passL pt hdb hcd he hpl, fun B ca ρ cs Hf σ H Q r h => ?_⟩
  cases es : ρ[i]? with
  | none =>
    have e1 : eCallL i f F g ρ cs = .no := by unfold eCallL; rw [es]
    rw [e1] at h; exact h.elim
  | some s =>
    cases s with
    | fn b =>
      by_cases hb : b = f
      · subst hb
        have e1 : eCallL i b F g ρ cs = bnd (g ρ) (fun ss cs => match callP F ss cs with
          | .er _ _ => .no
          | o => o) cs := by unfold eCallL; rw [es]; exact if_pos rfl
        rw [e1] at h
        obtain ⟨v0, s1, s2⟩ := r.get es (fun z => nomatch z)
        have s2' : v0 = .ref b := s2
        subst s2'
        refine ⟨s1, ?_⟩
        cases q : g ρ cs with
        | ok ss cs1 =>
          refine kt B ca ρ cs Hf σ H _ r ?_
          have hss := hlen ρ cs ss cs1 q
          rw [q]
          intro ca1 Hf1 H1 n1 r1 vs hvs
          rw [bnd_ok q] at h
          rw [List.append_nil]
          have h1 := h.fwd n1
          cases qc : callP F ss cs1 with
          | er c c' => rw [qc] at h1; exact h1.elim
          | no => rw [qc] at h1; exact h1.elim
          | ok rv cs2 =>
            rw [qc] at h1
            have h2 : Gs X (fun _ _ _ _ => False) B ca1 Hf1 ρ σ (callP F ss cs1) (fun ca' Hf' H' _ rv => ∀ v, RvOk B ca' Hf' H' rv v → Q v H') := by rw [qc]; exact h1
            exact callP_run (W := fun _ _ _ _ => False) r1 (by rw [← hvs.len]; exact hss) hvs h2
        | er c cs1 =>
          refine kt B ca ρ cs Hf σ H _ r ?_
          rw [q]
          unfold bnd at h
          rw [q] at h
          exact h
        | no =>
          unfold bnd at h
          rw [q] at h
          exact h.elim
      · have e1 : eCallL i f F g ρ cs = .no := by unfold eCallL; rw [es]; exact if_neg hb
        rw [e1] at h; exact h.elim
    | _ =>
      have e1 : eCallL i f F g ρ cs = .no := by unfold eCallL; rw [es]
      rw [e1] at h; exact h.elim
theorem alen0 : ∀ ρ cs ss cs', aNil ρ cs = .ok ss cs' → ss.length = 0 := fun ρ cs ss cs' h => by
  have h' : (Res.ok [] cs : Res (List S)) = .ok ss cs' := h
  cases h'; rfl
theorem alenS {fa : List S → M S} {n : Nat} (hl : ∀ ρ cs ss cs', g ρ cs = .ok ss cs' → ss.length = n) : ∀ ρ cs ss cs', aCons fa g ρ cs = .ok ss cs' → ss.length = n + 1 := fun ρ cs ss cs' h => by
  unfold aCons bnd at h
  cases q : fa ρ cs with
  | ok a c1 =>
    rw [q] at h
    dsimp only at h
    cases q2 : g ρ c1 with
    | ok as c2 =>
      rw [q2] at h
      have h' : (Res.ok (a :: as) c2 : Res (List S)) = .ok ss cs' := h
      cases h'
      exact congrArg Nat.succ (hl ρ c1 as _ q2)
    | er c c2 => rw [q2] at h; cases h
    | no => rw [q2] at h; cases h
  | er c c2 => rw [q] at h; cases h
  | no => rw [q] at h; cases h
end
end Dn

set_option Elab.async false
set_option linter.all false
set_option maxRecDepth 100000
set_option maxHeartbeats 1000000
/-! Dn8: defs by name, the head by facts, the law's end. -/
namespace Dn
open PySem L2
/-- the def named x does what F says, by at most k levels -/
def Okf (P : Program) (w : World) (K : PySem.W.Frag) (mg : Str → Option Value) (base : Heap) (k : Nat) (x : Str) (ps : List Str) (F : List S → M Rv) : Prop :=
  ∃ f fd, mg x = some (.ref f) ∧ f = He.ga K x ∧ FnOk P w K mg base (L2.CX P w) k f fd ps (spE mg ps.length F) ∧ Binds K fd ps [] ∧ PySem.W.keepIn K (.ref f) = true
section
variable {P : Program} {w : World} {K : PySem.W.Frag} {mg : Str → Option Value} {base : Heap} {j k : Nat} {x : Str} {ps N : List Str} {F : List S → M Rv} {st : Stmt}
theorem Okf.mono (h : Okf P w K mg base j x ps F) (hk : j ≤ k) : Okf P w K mg base k x ps F := by
  obtain ⟨f, fd, h1, h0, h2, h3, h4⟩ := h
  exact ⟨f, fd, h1, h0, h2.mono hk, h3, h4⟩
/-- how a def of the text stands -/
structure Dfn (K : PySem.W.Frag) (mg : Str → Option Value) (x : Str) (st : Stmt) (ps : List Str) : Prop where
  g : mg x = some (.ref (He.ga K x))
  d : ∃ fd, FunD K x x (defArgs st) (defBody st) (defScope st) [] [] (He.ga K x) fd ∧ Binds K fd ps []
theorem Dfn.ok (T : Dfn K mg x st ps) (sc : FnScope N ps (defScope st)) (m : Nat) (hm : N.length = ps.length + m) {g : G}
    (hbody : ∀ (cdv : Value) (A : Around) (outer : List Env) (s : Shared) (H : Hp) (E : XK), Room k (A.deeper (PyProof.Rows.envOfC x (defScope st) s.heap.objs.size (He.ga K x) cdv)) → Takes (BX P w K mg base N x (defScope st) (He.ga K x) cdv A outer s H E) (BW E) →
      PassesOwn (model P w) (BX P w K mg base N x (defScope st) (He.ga K x) cdv A outer s H E).A (BX P w K mg base N x (defScope st) (He.ga K x) cdv A outer s H E).env (BX P w K mg base N x (defScope st) (He.ga K x) cdv A outer s H E).xe → DSs (BX P w K mg base N x (defScope st) (He.ga K x) cdv A outer s H E) (BW E) (defBody st) g) :
    Okf P w K mg base (k + 1) x ps (runG m g) := by
  obtain ⟨h1, fd, h2, h3⟩ := T
  exact ⟨He.ga K x, fd, h1, rfl, def_ok h2 sc m hm hbody, h3, h2.kp⟩
def F0 : List S → M Rv := fun _ _ => .no
theorem Dfn.ok0 (T : Dfn K mg x st ps) : Okf P w K mg base k x ps F0 := by
  obtain ⟨h1, fd, h2, h3⟩ := T
  refine ⟨He.ga K x, fd, h1, rfl, ⟨fun vs H Q E h => h.1, fun A outer s H args us vs Q E hr e0 hb hv hs => ?_⟩, h3, h2.kp⟩
  obtain ⟨_, _, _, _, _, _, _, z⟩ := hs
  exact z.elim
end
section
variable {X : Cx} {W : WX} {k : Nat} {x : Str} {ps : List Str} {F : List S → M Rv} {p pos : Pos} {e : Expr} {es : List Expr} {g : List S → M (List S)}
theorem do_f (h : Okf X.prog X.w X.K X.mg X.base k x ps F) (hr : Room k X.A) (tk : Takes X W)
    (ha : DA X W (e :: es) g) (hlen : ∀ ρ cs ss cs', g ρ cs = .ok ss cs' → ss.length = ps.length) (hl : (e :: es).length = ps.length := by rfl) (hg : Gl X x := by rfl) (hdb : (x == ("__debug__" : Str)) = false := by decide) (he : starEach (e :: es) X.env = (false, eval e X.env) :: starEach es X.env := by rfl) (hpl : (backTo pos (starEach es X.env)).any (·.1) = false := by rfl)
    : DO X W (.Call (.Name x p) (e :: es) [] pos) (eCall F g) := by
  obtain ⟨f, fd, h1, _, h2, h3, h4⟩ := h
  exact do_call h2 hr tk h1 h4 h3 ha hl hg hdb he hpl hlen
theorem do_fC (h : Okf X.prog X.w X.K X.mg X.base k x ps F) (hr : Room k X.A) (tk : Takes X W)
    (ha : DA X W (e :: es) g) (hlen : ∀ ρ cs ss cs', g ρ cs = .ok ss cs' → ss.length = ps.length) (hl : (e :: es).length = ps.length := by rfl) (hg : Gl X x := by rfl) (hdb : (x == ("__debug__" : Str)) = false := by decide) (he : starEach (e :: es) X.env = (false, eval e X.env) :: starEach es X.env := by rfl) (hpl : (backTo pos (starEach es X.env)).any (·.1) = false := by rfl)
    : DO X W (.Call (.Name x p) (e :: es) [] pos) (eCallC F g) := by
  obtain ⟨f, fd, h1, _, h2, h3, h4⟩ := h
  exact do_callC h2 hr tk h1 h4 h3 ha hl hg hdb he hpl hlen
theorem do_fL (i : Nat) {y : Str} (h : Okf X.prog X.w X.K X.mg X.base k y ps F) (hr : Room k X.A)
    (ha : DA X W (e :: es) g) (hlen : ∀ ρ cs ss cs', g ρ cs = .ok ss cs' → ss.length = ps.length) (hN : X.N[i]? = some x := by rfl) (hv : Vis X.env.scope x := by first | exact Or.inl rfl | exact Or.inr (Or.inl rfl) | exact Or.inr (Or.inr rfl))
    (hdb : (x == ("__debug__" : Str)) = false := by decide) (hcd : (x == ("__classdict__" : Str)) = false := by decide) (he : starEach (e :: es) X.env = (false, eval e X.env) :: starEach es X.env := by rfl) (hpl : (backTo pos (starEach es X.env)).any (·.1) = false := by rfl)
    : DO X W (.Call (.Name x p) (e :: es) [] pos) (eCallL i (He.ga X.K y) F g) := by
  obtain ⟨f, fd, h1, rfl, h2, h3, h4⟩ := h
  exact do_callL i h2 hr h4 h3 ha hlen hN hv hdb hcd he hpl
end
end Dn

namespace Dn
open PySem L2 He
/-! ### the head: no list stands in what is told of it -/
def nl (o : Obj) : Bool := match o.cls with
  | .type c => c != "list"
  | _ => true
def frL (g : Addr → Option Obj) (as : List Addr) : PySem.W.Frag := (frG g as).filter fun q => nl q.2
theorem frL_mem {g : Addr → Option Obj} {as : List Addr} {a : Addr} {o : Obj} (h : (frL g as).lookup a = some o) : g a = some o ∧ nl o = true := by
  obtain ⟨h1, h2⟩ := List.mem_filter.mp (lookup_mem h)
  exact ⟨frG_mem h1, h2⟩
abbrev AlL : Type := AlD × Bool
def obsL (n : Nat) (fa : List Fa) (fn : List DefD) (fb : PySem.W.Frag → Bool) (g : Addr → Option Obj) : AlL := (obsD fa fn (frL g (He.asD g n)), fb (frL g (He.asD g n)))
def SaysL (fa : List Fa) (fn : List DefD) (fb : PySem.W.Frag → Bool) (K : PySem.W.Frag) : Prop := SaysD fa fn K ∧ fb K = true ∧ ∀ a o, K.lookup a = some o → o.cls ≠ .type "list"
def hookL (n : Nat) (fa : List Fa) (fn : List DefD) (fb : PySem.W.Frag → Bool) : PySem.W.Hook where
  α := AlL
  obs := fun s => obsL n fa fn fb s.heap.get?
  val := fun _ => (valD fn, true)
  says := fun _ h => ∃ K : PySem.W.Frag, K.In h ∧ SaysL fa fn fb K
  of := fun _ _ e => ⟨_, fun _ _ q => (frL_mem q).1, congrArg (fun z : AlL => z.1) e, congrArg (fun z : AlL => z.2) e, fun a o q z => by
    have h := (frL_mem q).2
    unfold nl at h
    rw [z] at h
    cases h⟩
  keeps := fun _ _ _ ⟨K, hK, c⟩ k => ⟨K, PySem.W.Frag.In.keeps hK k, c⟩
def obL (n : Nat) (fa : List Fa) (fn : List DefD) (fb : PySem.W.Frag → Bool) (s : PySem.W.SharedT) : AlL := obsL n fa fn fb (HandSHeadRun.getT s)
theorem obL_eq (n : Nat) (fa : List Fa) (fn : List DefD) (fb : PySem.W.Frag → Bool) (s : PySem.W.SharedT) : obL n fa fn fb s = (hookL n fa fn fb).obs s.abs := by
  have e : HandSHeadRun.getT s = s.abs.heap.get? := funext (HandSHeadRun.getT_eq s)
  unfold obL
  rw [e] <;> rfl
/-- a def of the text, as the hook looks at it -/
def dfd (x : Str) (st : Stmt) : DefD := ⟨(x, none), x, x, defArgs st, defBody st, defScope st, [], []⟩
section
variable {fa : List Fa} {fn : List DefD} {K : PySem.W.Frag} {mg : Str → Option Value} {h : Heap}
theorem dfn_of (X : K.In h) (G : h.Ns mainGlobals mg) (c : SaysD fa fn K) {x : Str} {st : Stmt} {ps : List Str} (i j : Nat) (hi : fn[i]? = some (dfd x st)) (hj : fa[j]? = some (.glo x))
    (hb : ∀ (kV doc pm : Value) (an : Option Addr) (cdv ct : Value) (us : List Value), us.length = ps.length → bindArgs (PySem.W.fnOf x x (defArgs st) (defBody st) (defScope st) .none kV doc pm an cdv ct) ⟨us, []⟩ = pure (ps.zip us)) : Dfn K mg x st ps := by
  obtain ⟨fd, F⟩ := c.def_ i hi
  exact ⟨glo_ok X G (c.fact j hj), fd, F, FunD.bindsN F hb⟩
end
/-- the law's end -/
theorem law_end {l : PySem.W.OpenLaw} {n k : Nat} {q : Program} {loose : List Str} {d : DefRec} {fa : List Fa} {fn : List DefD} {fb : PySem.W.Frag → Bool} {m : Nat} {XP : (Str → Option Value) → Heap → Prop} {x : Str} {F : PySem.W.Frag → List S → M Rv}
    (hn : l.most = some n) (hn2 : n ≤ sizeLine) (hdf : d.params.defaults = []) (hr : Room k callerA)
    (hF : ∀ (w : World) (mg : Str → Option Value) (h : Heap) (K : PySem.W.Frag), K.In h → SaysD fa fn K → fb K = true → h.Ns mainGlobals mg → ∃ fd : FuncData, mg d.name = some (.ref (ga K d.name)) ∧ (∀ (s : Shared) (u : Value), BindsTo s fd ⟨[u], []⟩ [(x, u)]) ∧
      ∀ base : Heap, K.In base → base.Ns mainGlobals mg → FnOk l.prog w K mg base (L2.CX l.prog w) k (ga K d.name) fd [x] (spE mg 1 (F K)))
    (hl : ∀ (K : PySem.W.Frag) (ns : List Int), ns.length ≤ n → ∃ cs', F K [.d (.list (ns.map .int))] [] = .ok (.d (.bool true)) cs') :
    PySem.W.WalkO q loose XP (hookL m fa fn fb).says l.row.toRowW d [] (fun f vs => PySem.call f vs) := by
  refine L2.walk_ofE (n := n) (k := k) (x := x) (CX := fun outer H s E u s' => ∃ w : World, L2.CX l.prog w outer H s E u s') hn hn2 hdf hr ?_ (fun H s e s' z => ?_)
  · intro w mg fa0 h Y G hmg
    obtain ⟨K, KX, c, cb, hno⟩ := Y
    obtain ⟨fd, hg, hb, hF'⟩ := hF w mg h K KX c cb G
    have e0 := hmg.symm.trans hg
    cases e0
    refine ⟨K, fd, spE mg 1 (F K), KX, hb, fun H a ns hlen _ hS => ?_, fun base k1 k2 => ?_⟩
    · have rd : Rd H a (.lst (ns.map V.int)) := by
        rcases hS with z | ⟨o, its, m', z1, z2, _⟩
        · exact z
        · exact absurd z2 (hno a o z1)
      have dd : Dds H (ns.map V.int) (ns.map PyData.int) := by
        clear hlen hS rd
        induction ns with
        | nil => exact .nil
        | cons i r ih => exact .cons (.int i) ih
      obtain ⟨cs', e⟩ := hl K ns hlen
      refine ⟨rfl, fun _ => none, [], [], H, [.d (.list (ns.map .int))], ⟨fun _ _ h => h, rfl, fun i s e => ?_, fun j o e => (by simp at e), rfl, List.nodup_nil, fun b z => (by simp at z), fun b o z => (by cases z), fun b z => absurd rfl z⟩, ?_⟩
      · cases i with
        | zero => simp at e; subst e; exact .inr ⟨.ref a, rfl, .lst rd dd⟩
        | succ i => simp at e
      · rw [e]
        intro Hf' H' v _ _ hv
        have hv' : Dd Hf' v (.bool true) := hv
        cases hv'
        rfl
    · have FN := hF' base k1 k2
      exact ⟨FN.len, fun A outer s H args us vs Q E h1 h2 h3 h4 h5 => codeAny_mono (FN.run A outer s H args us vs Q E h1 h2 h3 h4 h5) fun r s' hq => by
        cases r with
        | ok f => cases f <;> exact hq
        | error e => exact ⟨w, hq⟩⟩
  · obtain ⟨w, _, _, _, _, _, _, _, _, _, _, _, _, z⟩ := z
    exact z
end Dn

set_option Elab.async false
set_option linter.all false
set_option maxRecDepth 100000
set_option maxHeartbeats 1000000
/-! Dn9: short forms for printed texts. -/
namespace Dn
open PySem L2
theorem bt_len : bootBuiltins "len" = some (.builtin "len") := by decide +kernel
theorem bt_min : bootBuiltins "min" = some (.builtin "min") := by decide +kernel
theorem bt_max : bootBuiltins "max" = some (.builtin "max") := by decide +kernel
theorem bt_abs : bootBuiltins "abs" = some (.builtin "abs") := by decide +kernel
theorem bt_sum : bootBuiltins "sum" = some (.builtin "sum") := by decide +kernel
theorem bt_sorted : bootBuiltins "sorted" = some (.builtin "sorted") := by decide +kernel
theorem bt_int : bootBuiltins "int" = some (.type "int") := by decide +kernel
theorem bt_bool : bootBuiltins "bool" = some (.type "bool") := by decide +kernel
theorem bt_str : bootBuiltins "str" = some (.type "str") := by decide +kernel
theorem bt_list : bootBuiltins "list" = some (.type "list") := by decide +kernel
theorem bt_tuple : bootBuiltins "tuple" = some (.type "tuple") := by decide +kernel
theorem bt_dict : bootBuiltins "dict" = some (.type "dict") := by decide +kernel
theorem bt_set : bootBuiltins "set" = some (.type "set") := by decide +kernel
theorem hu65 {k : Nat} {A : Around} (r : Room k A) : A.units + 65 < cLine := by have := r.un; omega
def negD : D → Option D
  | .int i => some (.int (-i))
  | _ => none
def eNeg (fa : List S → M S) (ρ : List S) : M S := bnd (op1 negD fa ρ) fun d => ret (.d d)
/-- an exception class of the text -/
structure Exf (K : PySem.W.Frag) (mg : Str → Option Value) (x : Str) : Prop where
  g : mg x = some (.ref (He.ga K x))
  e : PySem.W.excIn K (He.ga K x) He.veBase "ValueError.__new__" = true ∧ PySem.W.keepIn K (.ref (He.ga K x)) = true ∧ PySem.W.subIn K (.ref (He.ga K x)) (.type "BaseException") = some true ∧ PySem.W.typeIn K (.ref (He.ga K x)) = some (.type "type")
section
variable {X : Cx} {W : WX} {a : Expr} {fa : List S → M S} {pos : Pos}
theorem de_neg (ha : DE X W a fa) : DE X W (.UnaryOp .USub a pos) (eNeg fa) := by
  obtain ⟨ta, pa, ka⟩ := ha
  refine ⟨_, pe_un un_neg pa, fun B ca ρ cs Hf σ H Q r h => ?_⟩
  refine op1_run ka r h fun ca2 Hf2 H2 cs2 x da z n2 r2 hx hz h2 => ?_
  unfold negD at hz
  split at hz
  · cases hz
    have := hx.int_; subst this
    exact ⟨_, rfl, h2.ret_ r2 _ (.int _)⟩
  · cases hz
theorem de_gI {x : Str} {i : Int} (hm : ∃ t, X.mg x = some (.int i t)) (hg : Gl X x := by rfl) (hd : (x == ("__debug__" : Str)) = false := by decide) : DE X W (.Name x pos) (eC (.int i)) :=
  let ⟨_, h⟩ := hm; de_globI h hg hd
theorem de_gS {x y : Str} (hm : ∃ t, X.mg x = some (.str y t)) (hg : Gl X x := by rfl) (hd : (x == ("__debug__" : Str)) = false := by decide) : DE X W (.Name x pos) (eC (.str y)) :=
  let ⟨_, h⟩ := hm; de_globS h hg hd
theorem dst_rs {x m : Str} {j : Nat} {p p2 p3 : Pos} (h : Exf X.K X.mg x) (tk : Takes X W) (hc : X.calm = true := by rfl) (hg : Gl X x := by rfl) (hdb : (x == ("__debug__" : Str)) = false := by decide) : DSt X W (.Raise (some (.Call (.Name x p) [.Constant (.str m) j p2] [] p3)) none pos) (sErr x) :=
  dst_raise tk PySem.F.excBase_ValueError h.e.1 h.g h.e.2.1 (raises_own h.e.2.2.1 h.e.2.2.2) hc hg hdb
end
theorem exf_of {fa : List He.Fa} {fn : List He.DefD} {K : PySem.W.Frag} {mg : Str → Option Value} {h : Heap} (X : K.In h) (G : h.Ns mainGlobals mg) (c : He.SaysD fa fn K) {x : Str} (i j : Nat) (hi : fa[i]? = some (.glo x)) (hj : fa[j]? = some (.exc x)) : Exf K mg x :=
  ⟨He.glo_ok X G (c.fact i hi), He.exc_ok (c.fact j hj)⟩
end Dn

set_option Elab.async false
set_option linter.all false
set_option maxRecDepth 100000
set_option maxHeartbeats 1000000
/-! Dn10: list comprehensions. -/
namespace Dn
open PySem L2
def Wf : WX := fun _ _ _ _ => False
def noEr {α : Type} (m : M α) : M α := fun cs => match m cs with
  | .er _ _ => .no
  | o => o
def wipeS (ρ : List S) : List Nat → List S
  | [] => ρ
  | v :: vs => (wipeS ρ vs).set v .no
def lcL (tg : D → List S → Option (List S)) (t : List S → M Bool) (f : List S → M S) (ρ : List S) : List D → List D → M Rv
  | [], acc => ret (.own (.lst acc))
  | x :: xs, acc => match tg x ρ with
    | none => stuck
    | some ρ1 => bnd (noEr (t ρ1)) fun b => if b = true then bnd (noEr (f ρ1)) fun y => (match y with
        | .d d => if acc.length < sizeLine then lcL tg t f ρ xs (acc ++ [d]) else stuck
        | _ => stuck)
      else lcL tg t f ρ xs acc
def eLc (it : List S → M (List D)) (tg : D → List S → Option (List S)) (t : List S → M Bool) (f : List S → M S) (vs : List Nat) (ρ : List S) : M Rv :=
  bnd (it ρ) fun xs => lcL tg t f (wipeS ρ vs) xs []
def tYesM (_ : List S) : M Bool := ret true
/-- a block's target -/
def DGb (X : Cx) (vs : List Nat) (tg : Expr) (g : D → List S → Option (List S)) : Prop := ∃ t : TG, PG X tg t ∧ ∀ (B : Hp) (ca : List Addr) (ρ ρ' : List S) (cs : Store) (Hf : Hp) (σ : L2.St) (H : Hp) (v : V) (d : D) (Q : L2.St → Hp → Prop), Rel B ca ρ cs Hf σ H → Dd Hf v d → g d ρ = some ρ' →
  (∀ σ', wipe σ' vs = wipe σ vs → Rel B ca ρ' cs Hf σ' H → Q σ' H) → t v σ H Q
def DGbs (X : Cx) (vs : List Nat) (tgs : List Expr) (g : List D → List S → Option (List S)) : Prop := ∃ t : TGs, PGs X tgs t ∧ ∀ (B : Hp) (ca : List Addr) (ρ ρ' : List S) (cs : Store) (Hf : Hp) (σ : L2.St) (H : Hp) (us : List V) (ds : List D) (Q : L2.St → Hp → Prop), Rel B ca ρ cs Hf σ H → Dds Hf us ds → g ds ρ = some ρ' →
  (∀ σ', wipe σ' vs = wipe σ vs → Rel B ca ρ' cs Hf σ' H → Q σ' H) → t us σ H Q
def DTs (X : Cx) (W : WX) (ifs : List Expr) (f : List S → M Bool) : Prop := ∃ t : TT, PTs X ifs t ∧ ∀ (B : Hp) (ca : List Addr) (ρ : List S) (cs : Store) (Hf : Hp) (σ : L2.St) (H : Hp) (Q : Bool → Hp → Prop), Rel B ca ρ cs Hf σ H →
  Gs X W B ca Hf ρ σ (f ρ cs) (fun _ _ H' _ b => Q b H') → t σ H Q
section
variable {X : Cx} {W : WX} {pos : Pos} {vs : List Nat}
theorem wipe_set {σ : St} {i : Nat} {x : Option V} : ∀ {vs : List Nat}, i ∈ vs → wipe (σ.set i x) vs = wipe σ vs
  | v :: vs, h => by
    show (wipe (σ.set i x) vs).set v none = (wipe σ vs).set v none
    by_cases hv : i ∈ vs
    · rw [wipe_set hv]
    · have e : i = v := by
        rcases List.mem_cons.1 h with h | h
        · exact h
        · exact absurd h hv
      subst e
      have : ∀ {vs : List Nat}, i ∉ vs → wipe (σ.set i x) vs = (wipe σ vs).set i x := by
        intro vs hv
        induction vs with
        | nil => rfl
        | cons v vs ih =>
          simp only [List.mem_cons, not_or] at hv
          show (wipe (σ.set i x) vs).set v none = ((wipe σ vs).set v none).set i x
          rw [ih hv.2, List.set_comm _ _ hv.1]
      rw [this hv, List.set_set]
theorem wipe_wipe (σ : St) : ∀ (vs us : List Nat), (∀ i ∈ us, i ∈ vs) → wipe (wipe σ us) vs = wipe σ vs
  | vs, [], _ => rfl
  | vs, u :: us, h => by
    show wipe ((wipe σ us).set u none) vs = wipe σ vs
    rw [wipe_set (h u (by simp)), wipe_wipe σ vs us fun i hi => h i (by simp [hi])]
theorem Rel.wipe {B : Hp} {ca : List Addr} {ρ : List S} {cs : Store} {Hf : Hp} {σ : L2.St} {H : Hp} (r : Rel B ca ρ cs Hf σ H) : ∀ vs : List Nat, Rel B ca (wipeS ρ vs) cs Hf (wipe σ vs) H
  | [] => r
  | v :: vs => (Rel.wipe r vs).lose v none
theorem dgb_name (i : Nat) {x : Str} (hN : X.N.Nodup) (hv : i ∈ vs := by decide) (hi : X.N[i]? = some x := by rfl) (hx : Loc X.env.scope x := by first | exact Or.inl rfl | exact Or.inr rfl)
    (hf : X.fn x = true ∨ X.env.scope.names.lookup x = some .local := by first | exact .inl rfl | exact .inr rfl) : DGb X vs (.Name x pos) (gtN i) := by
  refine ⟨_, pg_name hN hi hx hf, fun B ca ρ ρ' cs Hf σ H v d Q r hd e q => ?_⟩
  cases e
  exact q _ (wipe_set hv) (r.set i hd)
theorem dgbs_nil : DGbs X vs [] gtsNil := by
  refine ⟨_, pgs_nil, fun B ca ρ ρ' cs Hf σ H us ds Q r hv e q => ?_⟩
  unfold gtsNil at e
  split at e
  · cases e
    cases hv
    exact ⟨rfl, q _ rfl r⟩
  · cases e
theorem dgbs_cons {tg : Expr} {tgs : List Expr} {g : D → List S → Option (List S)} {gs : List D → List S → Option (List S)} (h : DGb X vs tg g) (hs : DGbs X vs tgs gs)
    (he : (assignEach (tg :: tgs) X.env).map (·.2) = assign tg X.env :: (assignEach tgs X.env).map (·.2) := by rfl) : DGbs X vs (tg :: tgs) (gtsCons g gs) := by
  obtain ⟨t, p, k⟩ := h
  obtain ⟨u, q, l⟩ := hs
  refine ⟨_, pgs_cons p q he, fun B ca ρ ρ' cs Hf σ H us ds Q r hv e qq => ?_⟩
  unfold gtsCons at e
  split at e
  · rename_i x xs
    cases hv with
    | cons hv ht =>
      cases z : g x ρ with
      | none => rw [z] at e; cases e
      | some ρ1 =>
        rw [z] at e
        exact ⟨_, _, rfl, k B ca ρ ρ1 cs Hf σ H _ _ _ r hv z fun σ1 w1 r1 => l B ca ρ1 ρ' cs Hf σ1 H _ _ Q r1 ht e fun σ2 w2 r2 => qq σ2 (w2.trans w1) r2⟩
  · cases e
theorem dgb_tup {es : List Expr} {k : Nat} {gs : List D → List S → Option (List S)} (n : Nat) (hs : DGbs X vs es gs) (hl : ∀ ds ρ ρ', gs ds ρ = some ρ' → ds.length = n) (hc : X.calm = true := by rfl)
    (hn : (assignEach es X.env).length = n := by rfl) (hst : (assignEach es X.env).findIdx? (·.1) = none := by rfl) : DGb X vs (.Tuple es k pos) (gtT gs) := by
  obtain ⟨u, q, l⟩ := hs
  refine ⟨_, pg_tup hc q hn hst, fun B ca ρ ρ' cs Hf σ H v d Q r hv e qq => ?_⟩
  unfold gtT at e
  split at e
  · rename_i xs
    cases hv with
    | tup h1 h2 =>
      exact ⟨_, _, rfl, .inl (rd_ex r.ext h1), (dps_len h2).trans (hl _ _ _ e), l B ca ρ ρ' cs Hf σ H _ _ Q r h2 e qq⟩
  · cases e
theorem dts_nil : DTs X W [] tYesM := ⟨_, pts_nil, fun B ca ρ cs Hf σ H Q r h => h.ret_ r⟩
theorem dts_one {c : Expr} {t : List S → M Bool} (h : DT X W c t) : DTs X W [c] t := let ⟨t, p, k⟩ := h; ⟨t, pts_one p, k⟩
theorem Gs.noEr_ {α : Type} {B : Hp} {ca : List Addr} {Hf : Hp} {ρ : List S} {σ : L2.St} {m : M α} {cs : Store} {β : Type} {k : α → M β} {P' : List Addr → Hp → Hp → Store → β → Prop} (h : Gs X W B ca Hf ρ σ (bnd (noEr m) k cs) P') :
    (∀ a cs', m cs = .ok a cs' → Gs X W B ca Hf ρ σ (k a cs') P') ∧ m cs ≠ .no ∧ ∀ c cs', m cs ≠ .er c cs' := by
  unfold bnd noEr at h
  cases e : m cs with
  | ok a cs' =>
    rw [e] at h
    refine ⟨fun a' cs'' e' => ?_, by simp, by simp⟩
    cases e'
    exact h
  | er c cs' => rw [e] at h; exact h.elim
  | no => rw [e] at h; exact h.elim
end
/-- banned things left out -/
theorem Rel.less {B B' : Hp} {ca : List Addr} {ρ : List S} {cs : Store} {Hf : Hp} {σ : L2.St} {H : Hp} (r : Rel B' ca ρ cs Hf σ H) (h : Ex B B') : Rel B ca ρ cs Hf σ H :=
  ⟨r.ext, r.len, r.sl, r.cells, r.lenc, r.nd, r.off, fun a o e => r.exb a o (h a o e), fun a e => r.dis a (by
    cases q : B a with
    | none => exact absurd q e
    | some o => rw [h a o q]; simp)⟩
section
variable {X : Cx} {W : WX} {pos : Pos} {elt tg iter : Expr} {ifs : List Expr} {scope : Scope} {own : List (Str × Nat)} {it : List S → M (List D)} {g : D → List S → Option (List S)} {t : List S → M Bool} {f : List S → M S}
def tgOf (g : D → List S → Option (List S)) (vs : List Nat) : TG := fun v σ H Q => ∃ (B : Hp) (ca : List Addr) (ρ ρ' : List S) (cs : Store) (Hf : Hp) (d : D), Rel B ca ρ cs Hf σ H ∧ Dd Hf v d ∧ g d ρ = some ρ' ∧ ∀ σ', wipe σ' vs = wipe σ vs → Rel B ca ρ' cs Hf σ' H → Q σ' H
def ttOf (X : Cx) (t : List S → M Bool) : TT := fun σ H Q => ∃ (B : Hp) (ca : List Addr) (ρ : List S) (cs : Store) (Hf : Hp), Rel B ca ρ cs Hf σ H ∧ Gs X Wf B ca Hf ρ σ (t ρ cs) (fun _ _ H' _ b => Q b H')
def teOf (X : Cx) (f : List S → M S) : TE := fun σ H Q => ∃ (B : Hp) (ca : List Addr) (ρ : List S) (cs : Store) (Hf : Hp), Rel B ca ρ cs Hf σ H ∧ Gs X Wf B ca Hf ρ σ (f ρ cs) (fun ca' Hf' H' _ s => ∀ v, SvOk ca' Hf' s v → Q v H')
/-- what a comprehension's loop asks -/
theorem lc_run {wi : TI} {vs : List Nat} (ki : ∀ (B : Hp) (ca : List Addr) (ρ : List S) (cs : Store) (Hf : Hp) (σ : L2.St) (H : Hp) (R : It → Hp → Prop), Rel B ca ρ cs Hf σ H →
    Gs X W B ca Hf ρ σ (it ρ cs) (fun ca' Hf' H' cs' xs => ∀ J, (∀ B2 ca2 ρ2 cs2 Hf2 σ2 H2 (i : Nat), Nx ca' Hf' ca2 Hf2 → Rel B2 ca2 ρ2 cs2 Hf2 σ2 H2 → i ≤ xs.length →
      (i = xs.length → J.stop i H2) ∧ (i < xs.length → J.go i H2 ∧ ∀ x H3, J.yld i H2 x H3 → ∃ Hf3, Nx ca2 Hf2 ca2 Hf3 ∧ Rel B2 ca2 ρ2 cs2 Hf3 σ2 H3 ∧ ∃ d, xs[i]? = some d ∧ Dd Hf3 x d)) → R J H') → wi σ H R)
    {B : Hp} {ca : List Addr} {ρ : List S} {cs : Store} {Hf : Hp} {σ : L2.St} {H : Hp} {Q : VK} (r : Rel B ca ρ cs Hf σ H) (h : Gs X W B ca Hf ρ σ (eLc it g t f vs ρ cs) (fun ca' Hf' H' _ rv => ∀ v, RvOk B ca' Hf' H' rv v → Q v H')) :
    tLc wi (tgOf g vs) (ttOf X t) (teOf X f) vs σ H Q := by
  refine ki B ca ρ cs Hf σ H _ r (h.bind.mono fun ca1 Hf1 H1 cs1 xs n1 r1 h1 J hJ => fun D hD => ?_)
  obtain ⟨d1, d2, d3⟩ := r1.newIn hD
  have exn : ∀ vs, Ex B (upd B D (.lst vs)) := fun vs => ex_new d3
  refine ⟨fun i m H2 => m = xs.length - i ∧ i ≤ xs.length ∧ ∃ ca2 cs2 Hf2 acc accV, Nx ca1 Hf1 ca2 Hf2 ∧ Dds Hf2 accV acc ∧ Rel (upd B D (.lst accV)) ca2 ρ cs2 Hf2 σ H2 ∧ Gs X W B ca2 Hf2 ρ σ (lcL g t f (wipeS ρ vs) (xs.drop i) acc cs2) (fun ca' Hf' H' _ rv => ∀ v, RvOk B ca' Hf' H' rv v → Q v H'),
    ⟨xs.length, by simp, Nat.zero_le _, ca1, cs1, Hf1, [], [], Nx.refl, .nil, ?_, h1⟩, ?_⟩
  · have r2 := r1.grow (ex_new (o := .lst []) hD)
    refine ⟨r2.ext, r2.len, r2.sl, r2.cells, r2.lenc, r2.nd, r2.off, fun a o e => ?_, fun a e => ?_⟩
    · by_cases q : a = D
      · subst q; rw [upd_same] at e ⊢; exact e
      · rw [upd_ne q] at e ⊢; exact r1.exb a o e
    · by_cases q : a = D
      · subst q; exact ⟨d1, d2⟩
      · rw [upd_ne q] at e; exact r1.dis a e
  rintro i m H2 ⟨rfl, hi, ca2, cs2, Hf2, acc, accV, n2, da, r2, h2⟩
  have r2B := r2.less (exn accV)
  obtain ⟨hstop, hgo⟩ := hJ (upd B D (.lst accV)) ca2 ρ cs2 Hf2 σ H2 i n2 r2 hi
  by_cases hlt : i < xs.length
  · obtain ⟨go, yl⟩ := hgo hlt
    refine .inr ⟨go, fun H' => i + 1 ≤ xs.length ∧ ∃ ca2 cs2 Hf2 acc accV, Nx ca1 Hf1 ca2 Hf2 ∧ Dds Hf2 accV acc ∧ Rel (upd B D (.lst accV)) ca2 ρ cs2 Hf2 σ H' ∧ Gs X W B ca2 Hf2 ρ σ (lcL g t f (wipeS ρ vs) (xs.drop (i + 1)) acc cs2) (fun ca' Hf' H' _ rv => ∀ v, RvOk B ca' Hf' H' rv v → Q v H'),
      fun H' p' => ⟨xs.length - (i + 1), by omega, rfl, p'.1, p'.2⟩, fun x H3 y => ?_⟩
    obtain ⟨Hf3, n3, r3, d, ed, hd⟩ := yl x H3 y
    have ed' : xs.drop i = d :: xs.drop (i + 1) := by
      rw [List.drop_eq_getElem_cons hlt]
      rw [List.getElem?_eq_getElem hlt] at ed
      rw [Option.some.inj ed]
    rw [ed'] at h2
    unfold lcL at h2
    cases eg : g d (wipeS ρ vs) with
    | none => rw [eg] at h2; exact h2.elim
    | some ρ1 =>
      rw [eg] at h2
      refine ⟨upd B D (.lst accV), ca2, wipeS ρ vs, ρ1, cs2, Hf3, d, r3.wipe vs, hd, eg, fun σ2 w2 r4 => ⟨w2.trans (wipe_wipe σ vs vs fun _ h => h), ?_⟩⟩
      have h3 := Gs.fwd h2 n3
      obtain ⟨k1, k2, k3⟩ := Gs.noEr_ h3
      refine ⟨upd B D (.lst accV), ca2, ρ1, cs2, Hf3, r4, ?_⟩
      cases et : t ρ1 cs2 with
      | no => exact absurd et k2
      | er c cs' => exact absurd et (k3 c cs')
      | ok b cs3 =>
        have h4 := k1 b cs3 et
        intro ca4 Hf4 H4 n4 r5
        have back := fun {σ' : L2.St} {ρ' : List S} {cs' : Store} {ca' : List Addr} {Hf' H' : Hp} {V : List V} (n : Nx ca2 Hf2 ca' Hf') (r' : Rel (upd B D (.lst V)) ca' ρ' cs' Hf' σ' H') => Rel.slots (ρ' := ρ) (σ' := σ) r' r2.len fun i s e => by
          rcases r2.sl i s e with z | ⟨v, h1, h2⟩
          · exact .inl z
          · exact .inr ⟨v, h1, h2.nx n⟩
        cases b with
        | false =>
          refine ⟨hlt, ca4, cs3, Hf4, acc, accV, (n2.trans n3).trans n4, dps_ex (n3.trans n4).ex da, back (n3.trans n4) r5, ?_⟩
          exact Gs.fwd h4 n4
        | true =>
          have h5 := Gs.fwd h4 n4
          obtain ⟨j1, j2, j3⟩ := Gs.noEr_ h5
          refine ⟨upd B D (.lst accV), ca4, ρ1, cs3, Hf4, r5, ?_⟩
          cases ef : f ρ1 cs3 with
          | no => exact absurd ef j2
          | er c cs' => exact absurd ef (j3 c cs')
          | ok y cs4 =>
            have h6 := j1 y cs4 ef
            intro ca5 Hf5 H5 n5 r6 v hv
            cases y with
            | no => exact h6.elim
            | cel j => exact h6.elim
            | fn a => exact h6.elim
            | d z =>
              have h7 : Gs X W B ca4 Hf4 ρ σ ((if acc.length < sizeLine then lcL g t f (wipeS ρ vs) (xs.drop (i + 1)) (acc ++ [z]) else stuck) cs4) _ := h6
              split at h7
              · rename_i hz
                have hl := dps_len da
                refine ⟨accV, r6.exb D _ upd_same, by rw [hl]; exact hz, hlt, ca5, cs4, Hf5, acc ++ [z], accV ++ [v], ((n2.trans n3).trans n4).trans n5, dps_app (dps_ex ((n3.trans n4).trans n5).ex da) (.cons hv .nil), ?_, Gs.fwd h7 n5⟩
                have r7 := back ((n3.trans n4).trans n5) r6
                have dD := r7.dis D (by rw [upd_same]; simp)
                refine ⟨fun a o e => ?_, r7.len, r7.sl, fun j o e => ?_, r7.lenc, r7.nd, r7.off, fun a o e => ?_, fun a e => ?_⟩
                · by_cases q : a = D
                  · subst q; rw [dD.1] at e; cases e
                  · rw [upd_ne q]; exact r7.ext a o e
                · obtain ⟨a, g1, g2⟩ := r7.cells j o e
                  refine ⟨a, g1, g2.at (upd_ne ?_) fun _ _ h => h⟩
                  intro q
                  subst q
                  exact dD.2 (List.mem_of_getElem? g1)
                · by_cases q : a = D
                  · subst q; rw [upd_same] at e ⊢; exact e
                  · rw [upd_ne q] at e ⊢
                    exact r7.exb a o (by rw [upd_ne q]; exact e)
                · by_cases q : a = D
                  · subst q; exact dD
                  · rw [upd_ne q] at e; exact r7.dis a (by rw [upd_ne q]; exact e)
              · exact h7.elim
  · have e : i = xs.length := by omega
    refine .inl ⟨hstop e, ?_⟩
    rw [e, List.drop_length] at h2
    have h3 := Gs.ret_ (show Gs X W B ca2 Hf2 ρ σ (ret (Rv.own (OC.lst acc)) cs2) (fun ca' Hf' H' _ rv => ∀ v, RvOk B ca' Hf' H' rv v → Q v H') from h2) r2B
    have dD := r2.dis D (by rw [upd_same]; simp)
    exact h3 (.ref D) ⟨D, rfl, ⟨accV, r2.exb D _ upd_same, da⟩, dD.1, dD.2, d3⟩
theorem do_lc (own : List (Str × Nat)) (hN : X.N.Nodup) (hi : DI X W tg iter it)
    (hg : ∀ (s : Shared) (H : Hp) (C : Addr) (cl : List (Str × Addr)) (fp : List Addr), DGb (X.blk s H scope (compEnvC scope cl C X.env) fp) (own.map (·.2)) tg g)
    (ht : ∀ (s : Shared) (H : Hp) (C : Addr) (cl : List (Str × Addr)) (fp : List Addr), DTs (X.blk s H scope (compEnvC scope cl C X.env) fp) Wf ifs t)
    (he : ∀ (s : Shared) (H : Hp) (C : Addr) (cl : List (Str × Addr)) (fp : List Addr), DE (X.blk s H scope (compEnvC scope cl C X.env) fp) Wf elt f)
    (hk : blkC X.N X.env.scope scope own = true := by rfl) (hc : X.calm = true := by rfl) (hs : ∀ x, foldedSetIterable iter X.env x = pure x := by intro _; rfl) :
    DO X W (.ListComp elt [⟨tg, iter, ifs, 0⟩] scope pos) (eLc it g t f (own.map (·.2))) := by
  obtain ⟨wi, pi, ki⟩ := hi
  refine ⟨_, pe_lc (g := tgOf g (own.map (·.2))) (tt := ttOf X t) (te := teOf X f) hc hN pi (blkOk_by hk) (fun s H C cl fp => ?_) (fun s H C cl fp => ?_) (fun s H C cl fp => ?_) hs, fun B ca ρ cs Hf σ H Q r h => lc_run ki r h⟩
  · obtain ⟨t', p, k⟩ := hg s H C cl fp
    exact ⟨fun pins s σ H v u Q I rv ⟨B, ca, ρ, ρ', cs, Hf, d, r, hd, e, q⟩ => p.run pins s σ H v u Q I rv (k B ca ρ ρ' cs Hf σ H v d Q r hd e q)⟩
  · obtain ⟨t', p, k⟩ := ht s H C cl fp
    exact ⟨fun pins s σ H Q I ⟨B, ca, ρ, cs, Hf, r, h⟩ => p.run pins s σ H Q I (k B ca ρ cs Hf σ H Q r h)⟩
  · obtain ⟨t', p, k⟩ := he s H C cl fp
    exact ⟨fun pins s σ H Q I ⟨B, ca, ρ, cs, Hf, r, h⟩ => p.run pins s σ H Q I (k B ca ρ cs Hf σ H Q r h)⟩
/-- name = [..], on one line -/
theorem dst_newLc (i : Nat) (own : List (Str × Nat)) {y : Str} {py spos : Pos} (hN : X.N.Nodup) (hi : DI X W tg iter it)
    (hg : ∀ (s : Shared) (H : Hp) (C : Addr) (cl : List (Str × Addr)) (fp : List Addr), DGb (X.blk s H scope (compEnvC scope cl C X.env) fp) (own.map (·.2)) tg g)
    (ht : ∀ (s : Shared) (H : Hp) (C : Addr) (cl : List (Str × Addr)) (fp : List Addr), DTs (X.blk s H scope (compEnvC scope cl C X.env) fp) Wf ifs t)
    (he : ∀ (s : Shared) (H : Hp) (C : Addr) (cl : List (Str × Addr)) (fp : List Addr), DE (X.blk s H scope (compEnvC scope cl C X.env) fp) Wf elt f)
    (hy : X.N[i]? = some y := by rfl) (hyl : X.env.scope.names.lookup y = some .local := by rfl) (hkf : X.env.scope.kind = .function := by rfl) (hl : (py.line == pos.line) = true := by rfl)
    (hL : pos.line = spos.line := by rfl) (ha : (scope.names.any fun (n, k) => n == y && (k == .local || k == .cell)) = false := by rfl)
    (hk : blkC X.N X.env.scope scope own = true := by rfl) (hc : X.calm = true := by rfl) (hs : ∀ x, foldedSetIterable iter X.env x = pure x := by intro _; rfl) :
    DSt X W (.Assign [.Name y py] (.ListComp elt [⟨tg, iter, ifs, 0⟩] scope pos) spos) (sNew i (eLc it g t f (own.map (·.2)))) := by
  obtain ⟨wi, pi, ki⟩ := hi
  refine ⟨_, ps_setLc (g := tgOf g (own.map (·.2))) (tt := ttOf X t) (te := teOf X f) hc hN hy hyl (sw_true hkf hyl hl ha) pi (blkOk_by hk) (fun s H C cl fp => ?_) (fun s H C cl fp => ?_) (fun s H C cl fp => ?_) hs, fun B ca ρ cs Hf σ H En r hg => ?_⟩
  · obtain ⟨t', p, k⟩ := hg s H C cl fp
    exact ⟨fun pins s σ H v u Q I rv ⟨B, ca, ρ, ρ', cs, Hf, d, r, hd, e, q⟩ => p.run pins s σ H v u Q I rv (k B ca ρ ρ' cs Hf σ H v d Q r hd e q)⟩
  · obtain ⟨t', p, k⟩ := ht s H C cl fp
    exact ⟨fun pins s σ H Q I ⟨B, ca, ρ, cs, Hf, r, h⟩ => p.run pins s σ H Q I (k B ca ρ cs Hf σ H Q r h)⟩
  · obtain ⟨t', p, k⟩ := he s H C cl fp
    exact ⟨fun pins s σ H Q I ⟨B, ca, ρ, cs, Hf, r, h⟩ => p.run pins s σ H Q I (k B ca ρ cs Hf σ H Q r h)⟩
  · refine lc_run (W := W) ki r (hg.stp_.mono fun ca1 Hf1 H1 cs1 rv n1 r1 h1 v hv => ?_)
    cases rv with
    | d x => exact h1.nx_ (r1.set (s := .d x) i hv)
    | cel j => exact h1.nx_ (r1.set (s := .cel j) i hv)
    | own o =>
      obtain ⟨a, rfl, r2, e2⟩ := r1.alloc hv
      exact h1 (ca1 ++ [a]) Hf1 _ H1 ⟨List.prefix_append _ _, fun _ _ h => h⟩ (r2.set (s := .cel cs1.length) i ⟨a, e2, rfl⟩)
/-- name = [..], on one line -/
theorem dst_setLc (i : Nat) (own : List (Str × Nat)) {y : Str} {py spos : Pos} (hN : X.N.Nodup) (hi : DI X W tg iter it)
    (hg : ∀ (s : Shared) (H : Hp) (C : Addr) (cl : List (Str × Addr)) (fp : List Addr), DGb (X.blk s H scope (compEnvC scope cl C X.env) fp) (own.map (·.2)) tg g)
    (ht : ∀ (s : Shared) (H : Hp) (C : Addr) (cl : List (Str × Addr)) (fp : List Addr), DTs (X.blk s H scope (compEnvC scope cl C X.env) fp) Wf ifs t)
    (he : ∀ (s : Shared) (H : Hp) (C : Addr) (cl : List (Str × Addr)) (fp : List Addr), DE (X.blk s H scope (compEnvC scope cl C X.env) fp) Wf elt f)
    (hy : X.N[i]? = some y := by rfl) (hyl : X.env.scope.names.lookup y = some .local := by rfl) (hkf : X.env.scope.kind = .function := by rfl) (hl : (py.line == pos.line) = true := by rfl)
    (hL : pos.line = spos.line := by rfl) (ha : (scope.names.any fun (n, k) => n == y && (k == .local || k == .cell)) = false := by rfl)
    (hk : blkC X.N X.env.scope scope own = true := by rfl) (hc : X.calm = true := by rfl) (hs : ∀ x, foldedSetIterable iter X.env x = pure x := by intro _; rfl) :
    DSt X W (.Assign [.Name y py] (.ListComp elt [⟨tg, iter, ifs, 0⟩] scope pos) spos) (sSet i (eFrz (eLc it g t f (own.map (·.2))))) := by
  obtain ⟨wi, pi, ki⟩ := hi
  refine ⟨_, ps_setLc (g := tgOf g (own.map (·.2))) (tt := ttOf X t) (te := teOf X f) hc hN hy hyl (sw_true hkf hyl hl ha) pi (blkOk_by hk) (fun s H C cl fp => ?_) (fun s H C cl fp => ?_) (fun s H C cl fp => ?_) hs, fun B ca ρ cs Hf σ H En r hg => ?_⟩
  · obtain ⟨t', p, k⟩ := hg s H C cl fp
    exact ⟨fun pins s σ H v u Q I rv ⟨B, ca, ρ, ρ', cs, Hf, d, r, hd, e, q⟩ => p.run pins s σ H v u Q I rv (k B ca ρ ρ' cs Hf σ H v d Q r hd e q)⟩
  · obtain ⟨t', p, k⟩ := ht s H C cl fp
    exact ⟨fun pins s σ H Q I ⟨B, ca, ρ, cs, Hf, r, h⟩ => p.run pins s σ H Q I (k B ca ρ cs Hf σ H Q r h)⟩
  · obtain ⟨t', p, k⟩ := he s H C cl fp
    exact ⟨fun pins s σ H Q I ⟨B, ca, ρ, cs, Hf, r, h⟩ => p.run pins s σ H Q I (k B ca ρ cs Hf σ H Q r h)⟩
  · refine lc_run (W := W) ki r (hg.stp_.bind.mono fun ca1 Hf1 H1 cs1 rv n1 r1 h1 v hv => ?_)
    cases rv with
    | d x => exact GO.nx_ ((show Gs X W B ca1 Hf1 ρ σ (ret (S.d x) cs1) _ from h1).ret_ r1) (r1.set (s := .d x) i hv)
    | cel j => exact GO.nx_ ((show Gs X W B ca1 Hf1 ρ σ (ret (S.cel j) cs1) _ from h1).ret_ r1) (r1.set (s := .cel j) i hv)
    | own o =>
      cases o with
      | lst xs =>
        obtain ⟨Hf2, r2, n2, dd⟩ := r1.own hv
        exact GO.nx_ ((Gs.fwd (show Gs X W B ca1 Hf1 ρ σ (ret (S.d (.list xs)) cs1) _ from h1) n2).ret_ r2) (r2.set (s := .d (.list xs)) i dd)
      | dK kvs => exact h1.elim
theorem takesWf : Takes X Wf := fun _ _ h => by
  obtain ⟨_, _, _, _, _, _, _, _, _, _, _, _, _, _, _, _, z⟩ := h
  exact z.elim
end
end Dn

set_option Elab.async false
set_option linter.all false
set_option maxRecDepth 100000
set_option maxHeartbeats 4000000
/-! Dn11: len(set(xs)), walks over texts. -/
namespace Dn
open PySem L2
open PySem.Spec PyProof.Rows
def mK (l : List Key) (k : Key) : Bool := l.any fun x => decide (x = k)
theorem mK_iff (l : List Key) (k : Key) : mK l k = true ↔ k ∈ l := by simp [mK]
def dd1 (l : List Key) (k : Key) : List Key := if mK l k = true then l else l ++ [k]
/-- what is met first, of keys -/
def fmK (ks : List Key) : List Key := ks.foldl dd1 []
theorem fmK_snoc (ks : List Key) (k : Key) : fmK (ks ++ [k]) = dd1 (fmK ks) k := by
  unfold fmK; rw [List.foldl_append]; rfl
theorem sd_any (l : List Key) (v k : Key) : mK (dd1 l v) k = (mK l k || decide (k = v)) := by
  unfold dd1
  by_cases h : mK l v = true
  · rw [if_pos h]
    by_cases e : k = v
    · subst e; simp [h]
    · simp [e]
  · rw [if_neg h]
    simp only [mK, List.any_append, List.any_cons, List.any_nil, Bool.or_false]
    congr 1
    exact decide_eq_decide.2 eq_comm
theorem sd_len (l : List Key) (v : Key) : (dd1 l v).length = if mK l v = true then l.length else l.length + 1 := by
  unfold dd1; split <;> simp
theorem fmK_le0 (ks : List Key) : ∀ l : List Key, (ks.foldl dd1 l).length ≤ l.length + ks.length := by
  induction ks with
  | nil => intro l; exact Nat.le_refl _
  | cons k ks ih =>
    intro l
    have h := ih (dd1 l k)
    have h2 := sd_len l k
    rw [List.foldl_cons, List.length_cons]
    split at h2 <;> omega
theorem fmK_le (ks : List Key) : (fmK ks).length ≤ ks.length := by
  have := fmK_le0 ks []
  simpa [fmK] using this
/-- keys of data -/
def kyD : D → Option Key
  | .int i => some (.inl i)
  | .str x => some (.inr x)
  | _ => none
def kysD : List D → Option (List Key)
  | [] => some []
  | x :: xs => match kyD x, kysD xs with
    | some k, some ks => some (k :: ks)
    | _, _ => none
/-! ### a set that can be walked -/
def kvV : Value → Key
  | .int i _ => .inl i
  | .str x _ => .inr x
  | _ => .inl 0
theorem kvV_is {v : Value} {k k' : Key} (h : keyIs k v = true) : keyIs k' v = true ↔ kvV v = k' := by
  rcases keyIs_shape h with ⟨i, t, rfl, rfl⟩ | ⟨x, t, rfl, rfl⟩
  · constructor
    · intro q
      rcases keyIs_shape q with ⟨j, u, rfl, e⟩ | ⟨y, u, rfl, e⟩
      · injection e with e1 _; rw [e1]; rfl
      · cases e
    · rintro rfl
      exact keyIs_int i t
  · constructor
    · intro q
      rcases keyIs_shape q with ⟨j, u, rfl, e⟩ | ⟨y, u, rfl, e⟩
      · cases e
      · injection e with e1 _; rw [e1]; rfl
    · rintro rfl
      exact keyIs_str x t
theorem kvV_self {v : Value} {k : Key} (h : keyIs k v = true) : kvV v = k := (kvV_is h).mp h
def kvE (e : Int × Value) : Key := kvV e.2
def GdE (w : World) (e : Int × Value) : Prop := ∃ k, keyIs k e.2 = true ∧ e.1 = keyH w k
theorem scan_of {v : Value} {k : Key} (h : keyIs k v = true) : v.scannable = true := by
  rcases keyIs_shape h with ⟨i, t, rfl, rfl⟩ | ⟨x, t, rfl, rfl⟩ <;> rfl
/-- the set at a holds the keys ks, one each, and can be walked -/
def SetX (w : World) (h : Heap) (a : Addr) (ks : List Key) : Prop :=
  ∃ o es ep t, h.get? a = some o ∧ o.ExactSet ∧ o.data = .set es ep t ∧ (∀ e ∈ es.toList, GdE w e) ∧ ks.Nodup ∧ (es.toList.map kvE).Perm ks ∧
    es.size < scanBound ∧ t.fits es.size = true ∧ Ris t.place.toList ∧ (w.params.followText "set-order" = true ∨ t.led = true)
section
variable {P : Program} {w : World} {h h' : Heap} {a : Addr} {ks : List Key}
theorem SetX.at (R : SetX w h a ks) (k : ∀ o, h.get? a = some o → h'.get? a = some o) : SetX w h' a ks := by
  obtain ⟨o, es, ep, t, ho, r⟩ := R
  exact ⟨o, es, ep, t, k o ho, r⟩
theorem gd_elems {l : List (Int × Value)} (g : ∀ e ∈ l, GdE w e) : ElemsOf (mixKind P w) l := fun e he => by
  obtain ⟨k, h1, h2⟩ := g e he
  exact ⟨⟨k, h1, h2⟩, scan_of h1⟩
theorem gd_mem {l : List (Int × Value)} (g : ∀ e ∈ l, GdE w e) (k : Key) : k ∈ l.map kvE ↔ ∃ e ∈ l, (mixKind P w).is k e.2 = true := by
  rw [List.mem_map]
  constructor
  · rintro ⟨e, he, q⟩
    obtain ⟨k0, h1, _⟩ := g e he
    exact ⟨e, he, (kvV_is h1).2 q⟩
  · rintro ⟨e, he, q⟩
    obtain ⟨k0, h1, _⟩ := g e he
    exact ⟨e, he, (kvV_is h1).1 q⟩
end
section
variable {P : Program} {w : World} {A : Around} {E : Value → Shared → Prop} {s : Shared} {a : Addr} {ks : List Key}
theorem putX_at {h : Heap} {o : Obj} {es es' : Array (Int × Value)} {ep : Nat} {t t' : SetTable} (ho : h.get? a = some o) (hd : o.data = .set es ep t) :
    (h.update a (Obj.putSet es' t')).get? a = some { o with data := .set es' (ep + 1) t' } := by
  have q := Heap.get?_update_self (Obj.putSet es' t') ho (by rw [putSet_of es' t' hd]; rfl)
  rwa [putSet_of es' t' hd] at q
/-- the tail of an add: laid, and laid anew where it is too full -/
theorem setX_tail {g : Bool → Sem Unit} (hg : ∀ (b : Bool) (s1 : Shared) (Q' : Unit → Shared → Prop), Q' () s1 → wpAny (model P w) A (g b) Q' E s1)
    {o : Obj} {es : Array (Int × Value)} {ep : Nat} {t : SetTable} (ho : s.heap.get? a = some o) (hex : o.ExactSet) (hd : o.data = .set es ep t)
    {f1 : Array (Int × Value)} {t2 : SetTable} {ks' : List Key} (g1 : ∀ e ∈ f1.toList, GdE w e) (nd1 : ks'.Nodup) (p1 : (f1.toList.map kvE).Perm ks')
    (hb1 : f1.size < scanBound) (hf2 : t2.fits f1.size = true) (hr : Ris t2.place.toList) (hl : w.params.followText "set-order" = true ∨ t2.led = true) {dummy : Bool} {R : Option Bool → Shared → Prop}
    (hR : ∀ h', Heap.SameBut a s.heap h' → SetX w h' a ks' → R (some true) { s with heap := h' }) :
    wpAny (model P w) A (do
        storeSet a f1 t2
        if (!dummy && t2.tooFull) = true then do
            g (relayAll t2 f1 (SetTable.grown f1.size)).2.2
            storeSet a (relayAll t2 f1 (SetTable.grown f1.size)).1 (relayAll t2 f1 (SetTable.grown f1.size)).2.1
            pure (some true)
          else pure (some true)) R E s := by
  refine wpAny_bind (wpAny_storeSet_of ho hd ?_ (fits_of_scanBound hb1))
  have k1 := putX_at (es' := f1) (t' := t2) ho hd
  have b1 := Heap.SameBut.update s.heap a (Obj.putSet f1 t2)
  split
  · have pm := relayAll_perm t2 f1 (SetTable.grown f1.size)
    have q3 := relayAll_fits t2 f1 (SetTable.grown f1.size)
    have q4 := relayAll_ris t2 f1 (SetTable.grown f1.size)
    have q5 := relayAll_led t2 f1 (SetTable.grown f1.size)
    generalize relayAll t2 f1 (SetTable.grown f1.size) = Z at pm q3 q4 q5 ⊢
    obtain ⟨f2, t3, gv⟩ := Z
    dsimp only at pm q3 q4 q5 ⊢
    have hsz : f2.size = f1.size := by rw [← Array.length_toList, pm.length_eq, Array.length_toList]
    have hb2 : f2.size < scanBound := hsz ▸ hb1
    refine wpAny_bind (hg _ _ _ ?_)
    refine wpAny_bind (wpAny_storeSet_of k1 rfl ?_ (fits_of_scanBound hb2))
    have k2 := putX_at (es' := f2) (t' := t3) k1 rfl
    refine wpAny_pure (hR _ (b1.trans (Heap.SameBut.update _ a _)) ?_)
    exact ⟨_, f2, _, t3, k2, hex, rfl, fun e he => g1 e (pm.mem_iff.mp he), nd1, (pm.map kvE).trans p1, hb2, q3, q4, hl.imp id fun z => q5.trans z⟩
  · exact wpAny_pure (hR _ b1 ⟨_, f1, _, t2, k1, hex, rfl, g1, nd1, p1, hb1, hf2, hr, hl⟩)
theorem setX_add {k : Key} {v : Value} (hkey : keyIs k v = true) {Q : Bool → Shared → Prop} (R : SetX w s.heap a ks) (room : ks.length + 1 < scanBound)
    (hQ : ∀ (b : Bool) h', Heap.SameBut a s.heap h' → SetX w h' a (dd1 ks k) → Q b { s with heap := h' }) :
    wpAny (model P w) A (setAddHashed a v ((mixKind P w).hash k)) Q E s := by
  obtain ⟨o, es, ep, t, ho, hex, hd, g, nd, pk0, hb, hf, hr, hl⟩ := R
  have hsc := scan_of hkey
  have hel : ElemsOf (mixKind P w) es.toList := gd_elems g
  have hkey' : (mixKind P w).is k v = true := hkey
  unfold setAddHashed setAddHashedIn
  refine wpAny_holding (wpAny_bind (wpAny_setState_of ho hd hf ?_))
  dsimp only
  rw [byScan_of hsc hb hel]
  simp only [↓reduceIte]
  unfold setAddByScan
  refine wpAny_bind ?_
  refine wpAny_bind (wpAny_rule ?_)
  refine wpAny_bind (wpAny_setScan_of hkey' ho hd hf hel ?_)
  cases hfi : List.findIdx? (fun e => (mixKind P w).is k e.2) es.toList with
  | some j =>
    dsimp only
    obtain ⟨hj, pj, _⟩ := List.findIdx?_eq_some_iff_getElem.mp hfi
    have hin : k ∈ ks := pk0.mem_iff.mp ((gd_mem (P := P) (w := w) g k).2 ⟨es.toList[j], List.getElem_mem hj, pj⟩)
    have ed : dd1 ks k = ks := by unfold dd1; rw [if_pos ((mK_iff ks k).2 hin)]
    refine wpAny_pure (wpAny_pure ?_)
    exact hQ _ s.heap (Heap.SameBut.refl a s.heap) (by rw [ed]; exact ⟨o, es, ep, t, ho, hex, hd, g, nd, pk0, hb, hf, hr, hl⟩)
  | none =>
    dsimp only
    have hnk0 : k ∉ es.toList.map kvE := fun z => by
      obtain ⟨e, he, q⟩ := (gd_mem (P := P) (w := w) g k).1 z
      have c := List.findIdx?_eq_none_iff.mp hfi e he
      rw [q] at c
      cases c
    have hnk : k ∉ ks := fun z => hnk0 (pk0.mem_iff.mpr z)
    have ed : dd1 ks k = ks ++ [k] := by
      unfold dd1
      rw [if_neg fun z => hnk ((mK_iff ks k).1 z)]
    have hgw : ∀ (b : Bool) {s1 : Shared} {Q' : Unit → Shared → Prop}, Q' () s1 → wpAny (model P w) A (match b with | true => rule "set.scan.the-table-gave-way" | false => pure ()) Q' E s1 :=
      fun b s1 Q' q => by cases b <;> first | exact wpAny_pure q | exact wpAny_rule q
    have pm := layNew_perm t es ((mixKind P w).hash k) v
    have q1 := layNew_fits t es ((mixKind P w).hash k) v
    have q2 := layNew_ris t es ((mixKind P w).hash k) v hr
    have q3 := layNew_led t es ((mixKind P w).hash k) v
    generalize layNew t es ((mixKind P w).hash k) v = Z at pm q1 q2 q3 ⊢
    obtain ⟨f1, t1, dummy, gv⟩ := Z
    dsimp only at pm q1 q2 q3 ⊢
    rw [Array.toList_push] at pm
    have pc : f1.toList.Perm (((mixKind P w).hash k, v) :: es.toList) := pm.trans (List.perm_append_singleton _ _)
    have pk : (f1.toList.map kvE).Perm (dd1 ks k) := by
      have z := pc.map kvE
      rw [List.map_cons, show kvE ((mixKind P w).hash k, v) = k from kvV_self hkey] at z
      rw [ed]
      exact z.trans ((pk0.cons k).trans (List.perm_append_singleton _ _).symm)
    have g1 : ∀ e ∈ f1.toList, GdE w e := fun e he => by
      rcases List.mem_cons.mp (pc.mem_iff.mp he) with z | z
      · rw [z]; exact ⟨k, hkey, rfl⟩
      · exact g e z
    have nd1 : (dd1 ks k).Nodup := by
      rw [ed]
      exact (List.perm_append_singleton k ks).nodup_iff.mpr (List.nodup_cons.mpr ⟨hnk, nd⟩)
    have hsz : f1.size = ks.length + 1 := by
      have z1 := pc.length_eq
      have z2 := pk0.length_eq
      rw [List.length_map] at z2
      rw [List.length_cons, z2, Array.length_toList] at z1
      exact z1
    have hb1 : f1.size < scanBound := by rw [hsz]; exact room
    have hled : w.params.followText "set-order" = true ∨ t1.led = true := hl.imp id fun z => q3.trans z
    refine wpAny_bind (hgw _ ?_)
    split
    · refine wpAny_bind ?_
      rw [hashByValue_scannable 8 hsc]
      refine wpAny_pure ?_
      refine setX_tail ?_ ho hex hd g1 nd1 pk hb1 ?_ ?_ ?_ ?_
      · intro b s1 Q' q; cases b <;> first | exact wpAny_pure q | exact wpAny_rule q
      · first | (split <;> first | exact q1 | exact SetTable.fits_plain_off q1) | exact q1
      · first | (split <;> exact q2) | exact q2
      · first | (split <;> exact hled) | exact hled
      · intro h' sb r; dsimp only; exact wpAny_pure (hQ _ h' sb r)
    · refine wpAny_bind (wpAny_pure ?_)
      simp only [↓reduceIte]
      refine setX_tail ?_ ho hex hd g1 nd1 pk hb1 q1 q2 hled ?_
      · intro b s1 Q' q; cases b <;> first | exact wpAny_pure q | exact wpAny_rule q
      · intro h' sb r; dsimp only; exact wpAny_pure (hQ _ h' sb r)
end
/-! ### set(xs) -/
section
variable {prog : Program} {w : World}
variable {A : Around} {R : Result → Shared → Prop} {I : Addr} {fp wr : List Addr} {G : Array GenState → Array GenState → Prop} {P : Nat → Value → Prop} {St : Nat → Shared → Prop}
theorem setLoopX {n : Nat} (ks : List Key) (W : WalksS prog w A.in1 I fp wr G n P St) (hn : ks.length = n) (D : Addr) (hD : D ∉ fp)
    (hval : ∀ j v k, P j v → ks[j]? = some k → keyIs k v = true) (hb : ks.length + 1 < scanBound) (m : Nat) :
    ∀ (j : Nat) (s1 : Shared), ks.length - j = m → j ≤ ks.length → St j s1 →
      SetX w s1.heap D (fmK (ks.take j)) →
      (∀ s2, Moved (D :: wr) G s1 s2 → SetX w s2.heap D (fmK ks) → R (.ok (.ret .none)) s2) →
      codeAny (model prog w) A (.builtin "set.update.loop" ⟨[.ref D, .ref I], []⟩) R s1 := by
  subst hn
  have nD : D ∉ wr := fun z => hD (W.sub _ z)
  have up : ∀ b ∈ wr, b ∈ D :: wr := fun b hb => List.mem_cons_of_mem _ hb
  induction m with
  | zero =>
    intro j s1 hk hj hst hS hR
    obtain rfl : j = ks.length := by omega
    rw [List.take_length] at hS
    refine codeAny_builtin PyProof.Rows.F.entry_set_update_loop ?_
    rw [Around.under_plainId PyProof.Rows.F.plain_set_update_loop _]
    show wpAny _ A.in1 (pyNext (.ref I) >>= _) _ _ s1
    refine wpAny_bind (W.done s1 _ _ hst fun s2 hm => ?_)
    show wpAny _ A.in1 (PySem.ret Value.none) _ _ s2
    exact wpAny_pure (hR s2 (hm.mono up) (hS.at fun o ho => hm.heap D o nD ho))
  | succ m ih =>
    intro j s1 hk hj hst hS hR
    have lt : j < ks.length := by omega
    have ek : ks[j]? = some ks[j] := by simp [lt]
    have et : ks.take (j + 1) = ks.take j ++ [ks[j]] := by rw [List.take_succ, ek]; rfl
    refine codeAny_builtin PyProof.Rows.F.entry_set_update_loop ?_
    rw [Around.under_plainId PyProof.Rows.F.plain_set_update_loop _]
    show wpAny _ A.in1 (pyNext (.ref I) >>= _) _ _ s1
    refine wpAny_bind (W.item j s1 _ _ lt hst fun v s2 hP hst2 hm => ?_)
    have hv := hval j v _ hP ek
    have hS2 : SetX w s2.heap D (fmK (ks.take j)) := hS.at fun o ho => hm.heap D o nD ho
    show wpAny _ A.in1 (holding [v] (setAdd D v) >>= _) _ _ s2
    refine wpAny_bind (wpAny_holding ?_)
    unfold setAdd
    refine wpAny_holding ?_
    refine wpAny_bind ((mixKind prog w).pyHash (k := ks[j]) hv ?_)
    have room : (fmK (ks.take j)).length + 1 < scanBound := by
      have := fmK_le (ks.take j)
      rw [List.length_take] at this
      omega
    refine setX_add (s := { s2 with toks := s2.toks + 1 }) hv hS2 room fun b h3 hsb hS3 => ?_
    have hS4 : SetX w h3 D (fmK (ks.take (j + 1))) := by
      rw [et, fmK_snoc]
      exact hS3
    refine wpAny_pure ⟨plainId_quiet PyProof.Rows.F.plain_set_update_loop _, ih (j + 1) _ (by omega) lt (W.frame _ s2 _ _ hst2 (Nat.le_succ _) fun b hb o e => ?_) hS4 fun s5 hm5 hS5 => ?_⟩
    · rw [hsb.2 b (fun z : b = D => hD (by rw [← z]; exact hb))]; exact e
    · refine hR s5 (Moved.trans W.gtrans ((hm.mono up).then_heap (Nat.le_succ _) fun b o hb e => ?_) hm5) hS5
      rw [hsb.2 b (fun z : b = D => hb (by rw [z]; exact List.mem_cons_self))]; exact e
end
section
variable {P : Program} {w : World} {A : Around} {E : Value → Shared → Prop} {s0 : Shared}
abbrev freshSet (led : Bool) : Obj := { cls := .type "set", dict := none, data := .set #[] 0 (.fresh 0 0 led) }
theorem led_or (w : World) : w.params.followText "set-order" = true ∨ (!w.params.followText "set-order") = true := by
  cases w.params.followText "set-order"
  · exact .inr rfl
  · exact .inl rfl
/-- set(xs), xs a list or a tuple -/
theorem setCallX (tup : Bool) {l : Addr} {items : Array Value} {ks : List Key} {Q : Value → Shared → Prop}
    (hh : A.handled = none) (hl : if tup = true then s0.heap.IsTuple l items else s0.heap.IsList l items) (hk : ks.length = items.size) (hi : ∀ (j : Nat) (v : Value) (k : Key), items[j]? = some v → ks[j]? = some k → keyIs k v = true) (hb : ks.length + 1 < scanBound)
    (h : ∀ (g : Heap) (tk : Nat), SetX w g s0.heap.objs.size (fmK ks) →
      (∀ b o, b < s0.heap.objs.size → s0.heap.get? b = some o → g.get? b = some o) → Q (.ref s0.heap.objs.size) { s0 with heap := g, toks := tk }) :
    wpAny (model P w) A (call (.type "set") [.ref l]) Q E s0 := by
  obtain ⟨c, tl, q1⟩ := PySem.F.called_set.mro
  have q2 := PySem.F.called_set.made
  have q3 := PySem.F.called_set.sub
  refine wpAny_call (codeAny_of_tree ?_)
  show wpAny _ _ (callAny (.type "set") _) _ _ _
  refine wpAny_pure ⟨Code.quiet_builtin _ (by decide +kernel), codeAny_builtin PySem.F.entry_type_call ?_⟩
  rw [Around.under_plain (weight_type_call_type "set" [.ref l] []) rfl]
  have q4 := PySem.F.called_set.notType
  have q5 := PySem.F.called_set.canCreate
  have q6 := PySem.F.typeCall_set_1 (.ref l)
  repeat (any_goals (first | assumption | wp_step))
  generalize hD : s0.heap.objs.size = D at *
  refine codeAny_mono (code_set_led1 (w := w) (.ref l) (E := E) (Q₁ := fun u s1 => ∃ led : Bool, (w.params.followText "set-order" = true ∨ led = true) ∧ u = .ref D ∧ s1 = { s0 with heap := s0.heap.push (freshSet led) }) ⟨_, led_or w, by rw [hD], rfl⟩) fun r s1 hr => ?_
  cases r with
  | error e => exact hr
  | ok fl =>
    cases fl with
    | ret u =>
      obtain ⟨led, hled, rfl, rfl⟩ := hr
      have gS : (s0.heap.push (freshSet led)).get? D = some (freshSet led) := by rw [← hD]; exact Heap.get?_push_size _ rfl
      have hT : Shared.TypeIs { s0 with heap := s0.heap.push (freshSet led) } (.ref D) "set" := ⟨_, gS, rfl⟩
      have q7 := PySem.F.called_set.init.lookup
      have q8 := PySem.F.called_set.init.bind (.ref D)
      repeat (any_goals (first | assumption | wp_step))
      refine codeAny_mono (codeAny_call_builtin (R := wants (fun r s2 => r = .none ∧ ∃ g tk, s2 = { s0 with heap := g, toks := tk } ∧ SetX w g D (fmK ks) ∧
          (∀ b o, b < D → s0.heap.get? b = some o → g.get? b = some o)) E) PySem.F.called_set.init.plain PySem.F.entry_set_init (check_set_init_1 hT ?_)) fun r2 s2 hr2 => ?_
      · have h3 : A.in1.in1.in1.handled = none := by simp [hh]
        have zero : ∀ o : Obj, SetX w ((s0.heap.push (freshSet led)).push o) D (fmK (ks.take 0)) := fun o =>
          ⟨_, #[], 0, _, Heap.get?_push_of_some _ gS, ⟨rfl, rfl, rfl⟩, rfl, (fun e he => by simp at he), (by simp [fmK]), (by simp [fmK]), (by decide), (by rfl), List.Pairwise.nil, hled⟩
        have fin : ∀ (o : Obj) (lp : Nat) (s3 : Shared), lp = (s0.heap.push (freshSet led)).objs.size → Moved [D, lp] (fun g g' => g' = g) { s0 with heap := (s0.heap.push (freshSet led)).push o } s3 → SetX w s3.heap D (fmK ks) →
            (∃ g tk, s3 = { s0 with heap := g, toks := tk } ∧ SetX w g D (fmK ks) ∧ (∀ b o, b < D → s0.heap.get? b = some o → g.get? b = some o)) := fun o lp s3 ew hm hS => by
          obtain ⟨g, gn, dr, tk, os⟩ := s3
          have e1 : gn = s0.gens := hm.gens
          have e2 : dr = s0.drawn := hm.drawn
          have e3 : os = s0.os := hm.os
          subst e1; subst e2; subst e3
          refine ⟨g, tk, rfl, hS, fun b u hb e => hm.heap b u ?_ (Heap.get?_push_of_some _ (Heap.get?_push_of_some _ e))⟩
          rw [Heap.size_push, hD] at ew
          simp only [List.mem_cons, List.not_mem_nil, or_false, not_or]
          refine ⟨Nat.ne_of_lt hb, ?_⟩
          rw [ew]
          exact Nat.ne_of_lt (Nat.lt_succ_of_lt hb)
        have lD : ∀ (o : Obj), s0.heap.get? l = some o → l < D := fun o e => by rw [← hD]; exact Heap.lt_size e
        have out : ∀ (I : Addr), I = (s0.heap.push (freshSet led)).objs.size → l < D → l ≠ I ∧ D ∉ [I, l] := fun I e z => by
          rw [Heap.size_push, hD] at e
          simp only [List.mem_cons, List.not_mem_nil, or_false, not_or]
          subst e
          exact ⟨Nat.ne_of_lt (Nat.lt_succ_of_lt z), Nat.ne_of_lt (Nat.lt_succ_self _), Nat.ne_of_gt z⟩
        cases tup with
        | false =>
          have hl' : s0.heap.IsList l items := hl
          obtain ⟨⟨oc, od, oda, osl⟩, g1, g2, nl, g3⟩ := hl'
          simp only at g2 g3
          subst g2; subst g3
          have g4 : (s0.heap.push (freshSet led)).get? l = some { cls := .type "list", dict := od, data := .seq items nl, slots := osl } := Heap.get?_push_of_some _ g1
          have q9 := PySem.F.sub_list_set
          have q10 := PySem.F.sub_list_frozenset
          have q11 : (Value.type "list" == Value.type "dict") = false := by decide
          have l1 : (s0.heap.push (freshSet led)).IsList l items := ⟨_, g4, rfl, nl, rfl⟩
          obtain ⟨n1, n2⟩ := out _ rfl (lD _ g1)
          unfold Builtin.«set.__init__» noKeywords Builtin.Frozenset.updateFrom
          generalize hPI : pyIter = PI
          wp_walk
          subst hPI
          refine wpAny_pyIter_list l1 ?_
          refine wpAny_bind (wpAny_runValue ?_)
          refine setLoopX (P := fun j v => items[j]? = some v) ks (Walks.list h3 _ l n1 items).toS hk D n2 (fun j v k a b => hi j v k a b) hb (ks.length - 0) 0 _ rfl (Nat.zero_le _)
            ⟨⟨_, Heap.get?_push_size _ rfl, rfl, rfl⟩, l1.push _⟩ (zero _) fun s3 hm hS => ?_
          show wpAny _ _ _ _ _ _
          refine wpAny_pure ?_
          show wpAny _ _ (PySem.ret Value.none) _ _ _
          exact wpAny_pure ⟨rfl, fin _ _ _ rfl hm hS⟩
        | true =>
          have hl' : s0.heap.IsTuple l items := hl
          obtain ⟨⟨oc, od, oda, osl⟩, g1, g2, nl, g3⟩ := hl'
          simp only at g2 g3
          subst g2; subst g3
          have g4 : (s0.heap.push (freshSet led)).get? l = some { cls := .type "tuple", dict := od, data := .seq items nl, slots := osl } := Heap.get?_push_of_some _ g1
          have q9 := PySem.F.sub_tuple_set
          have q10 := PySem.F.sub_tuple_frozenset
          have q11 : (Value.type "tuple" == Value.type "dict") = false := by decide
          have l1 : (s0.heap.push (freshSet led)).IsTuple l items := ⟨_, g4, rfl, nl, rfl⟩
          obtain ⟨n1, n2⟩ := out _ rfl (lD _ g1)
          unfold Builtin.«set.__init__» noKeywords Builtin.Frozenset.updateFrom
          generalize hPI : pyIter = PI
          wp_walk
          subst hPI
          refine wpAny_pyIter_tuple l1 ?_
          refine wpAny_bind (wpAny_runValue ?_)
          refine setLoopX (P := fun j v => items[j]? = some v) ks (Walks.tuple h3 _ l n1 items).toS hk D n2 (fun j v k a b => hi j v k a b) hb (ks.length - 0) 0 _ rfl (Nat.zero_le _)
            ⟨⟨_, Heap.get?_push_size _ rfl, rfl, rfl⟩, l1.push _⟩ (zero _) fun s3 hm hS => ?_
          show wpAny _ _ _ _ _ _
          refine wpAny_pure ?_
          show wpAny _ _ (PySem.ret Value.none) _ _ _
          exact wpAny_pure ⟨rfl, fin _ _ _ rfl hm hS⟩
      · cases r2 with
        | error e => exact hr2
        | ok fl2 =>
          cases fl2 with
          | ret r =>
            obtain ⟨rfl, g, tk, rfl, hS, hk2⟩ := hr2
            repeat (any_goals (first | assumption | wp_step))
            exact h _ _ hS hk2
          | _ => exact hr2.elim
    | _ => exact hr.elim
end
section
variable {X : Cx} {W : WX} {a : Expr} {f : List S → M S}
def tLnS (K : PySem.W.Frag) (ta : TE) : TE := fun σ H Q => ta σ H fun x H1 => ∃ (b : Bool) (l : Addr) (vs : List V) (ks : List Key), x = V.ref l ∧ (if b = true then SqT K H1 l vs else SqL K H1 l vs) ∧ vs = ks.map kV ∧ ks.length + 1 < scanBound ∧ Q (.int (fmK ks).length) H1
theorem vals_keys {P : Program} {w : World} : ∀ {ks : List Key} {us : List Value}, Vals (ks.map kV) us → ∀ (j : Nat) (v : Value) (k : Key), us[j]? = some v → ks[j]? = some k → (mixKind P w).is k v = true
  | [], _, .nil, j, v, k, h, _ => by simp at h
  | k0 :: ks, _, .cons r t, 0, v, k, h, e => by
    simp at h e
    subst h; subst e
    cases k0 with
    | inl i =>
      obtain ⟨q, rfl⟩ := r
      simp [mixKind, keyIs, Value.isInt, Value.isStrOf]
    | inr x =>
      obtain ⟨q, rfl⟩ := r
      simp [mixKind, keyIs, Value.isInt, Value.isStrOf]
  | k0 :: ks, _, .cons r t, j + 1, v, k, h, e => vals_keys t j v k (by simpa using h) (by simpa using e)
theorem pe_lnS {ta : TE} {p p2 q pos : Pos} (hc : X.calm = true) (hg : Gl X "len") (hm : X.mg "len" = none) (hg2 : Gl X "set") (hm2 : X.mg "set" = none) (ha : PE X a ta)
    (na : starEach [a] X.env = (false, eval a X.env) :: starEach [] X.env) : PE X (.Call (.Name "len" p) [.Call (.Name "set" p2) [a] [] q] [] pos) (tLnS X.K ta) := by
  refine ⟨fun pins s σ H Q I h => ?_⟩
  refine PyProof.Rows.Call_ (ld_blt I hg hm PySem.boot_len ?_)
  refine PyProof.Rows.callWith_builtin1 (PyProof.Rows.args_cons ?_ rfl) rfl rfl
  refine PyProof.Rows.Call_ (ld_blt I hg2 hm2 PyProof.Rows.boot_set ?_)
  refine PyProof.Rows.callWith_type1 (PyProof.Rows.args_cons (thn (ha.run pins s σ H _ I h) fun v s1 ⟨x, H1, I1, r1, q1⟩ => PyProof.Rows.args_nil ?_) na) na rfl
  obtain ⟨b, l, vs, ks, rfl, hq, rfl, hlt, q1⟩ := q1
  cases r1
  have go : ∀ (its : List Value), Vals (ks.map kV) its → (if b = true then s1.heap.IsTuple l its.toArray else s1.heap.IsList l its.toArray) → wpAny (model X.prog X.w) X.A (call (.type "set") [Value.ref l]) (fun u s2 => wpAny (model X.prog X.w) X.A (spliced (backTo pos (starEach [] X.env))) (fun us s3 => wpAny (model X.prog X.w) X.A (call (.builtin "len") (u :: us)) (EP X pins σ Q) X.xe s3) X.xe s2) X.xe s1 := fun its r hit => by
    have hl : ks.length = its.toArray.size := by rw [List.size_toArray, ← r.length, List.length_map]
    refine setCallX b (I1.ok.hd hc) hit hl (fun j v k e1 e2 => vals_keys (P := X.prog) (w := X.w) r j v k (by simpa using e1) e2) hlt fun g tk hS hk => ?_
    refine PyProof.Rows.args_nil ?_
    obtain ⟨o, es, ep, t, ho, hex, hd, _, _, pk, _, hf, _, _⟩ := hS
    have hn : es.size = (fmK ks).length := by rw [← pk.length_eq, List.length_map, Array.length_toList]
    have I2 : Inv X pins σ H1 { s1 with heap := g, toks := tk } := I1.kept fun b o e => hk b o (Heap.lt_size e) e
    have lt := fmK_le ks
    have sb : scanBound = 4096 := rfl
    refine call_len_set ho hex hd hf (by rw [hn]; omega) ⟨.int (fmK ks).length, H1, I2.tok _, ⟨_, by rw [hn]⟩, q1⟩
  cases b with
  | false =>
    obtain ⟨its, r, pl, hz⟩ := I1.list hq
    exact go its r pl.isList
  | true =>
    obtain ⟨its, r, pl, hz⟩ := I1.tuple hq
    exact go its r pl
def lnSD : D → Option D
  | .list xs => match kysD xs with
    | some ks => if ks.length < 4000 then some (.int (fmK ks).length) else none
    | none => none
  | .tuple xs => match kysD xs with
    | some ks => if ks.length < 4000 then some (.int (fmK ks).length) else none
    | none => none
  | _ => none
def lenSetG : List D → Option D
  | [d] => lnSD d
  | _ => none
theorem kys_vs {Hf : Hp} : ∀ {vs : List V} {xs : List D} {ks : List Key}, Dds Hf vs xs → kysD xs = some ks → vs = ks.map kV
  | _, _, ks, .nil, e => by
    have : [] = ks := Option.some.inj e
    subst this; rfl
  | _, _, ks, .cons (d := d) (ds := ds) h t, e => by
    unfold kysD at e
    split at e
    · rename_i k ks' e1 e2
      cases e
      have ih := kys_vs t e2
      subst ih
      cases d with
      | int i => cases h; cases e1; rfl
      | str x => cases h; cases e1; rfl
      | _ => cases e1
    · cases e
theorem de_lenSet {p p2 q pos : Pos} (hm : X.mg "len" = none) (hm2 : X.mg "set" = none) (ha : DE X W a f) (hc : X.calm = true := by rfl) (hg : Gl X "len" := by rfl) (hg2 : Gl X "set" := by rfl)
    (na : starEach [a] X.env = (false, eval a X.env) :: starEach [] X.env := by rfl) : DE X W (.Call (.Name "len" p) [.Call (.Name "set" p2) [a] [] q] [] pos) (eCd lenSetG (aCons f aNil)) := by
  obtain ⟨t, pr, k⟩ := ha
  refine ⟨_, pe_lnS hc hg hm hg2 hm2 pr na, fun B ca ρ cs Hf σ H Q r h => ?_⟩
  refine k B ca ρ cs Hf σ H _ r (h.bind.bind.mono fun ca1 Hf1 H1 cs1 s n1 r1 h1 v hv => ?_)
  have h2 : Gs X W B ca1 Hf1 ρ σ (bnd (vwsM [s]) (fun ds => bnd (ofO (lenSetG ds)) fun d => ret (.d d)) cs1) (fun ca' Hf' H' _ s => ∀ v, SvOk ca' Hf' s v → Q v H') := (h1.ret_ r1)
  obtain ⟨ds, e1, h3⟩ := vwsM_ h2
  obtain ⟨d, e2, h4⟩ := ofOb_ h3
  have lv := vws_ok r1 (SvsOk.cons hv .nil) e1
  match ds, e2, lv with
  | [x], e2, lv =>
    have fin := h4.ret_ r1
    have sb : scanBound = 4096 := rfl
    cases x with
    | list xs =>
      obtain ⟨l, vs, rfl, q1, q2⟩ := lv.1.lst
      have e2' : (match kysD xs with
        | some ks => if ks.length < 4000 then some (PyData.int (fmK ks).length) else none
        | none => none) = some d := e2
      cases ek : kysD xs with
      | none => rw [ek] at e2'; cases e2'
      | some ks =>
        rw [ek] at e2'
        simp only at e2'
        split at e2'
        · cases e2'
          exact ⟨false, l, vs, ks, rfl, .inl q1, kys_vs q2 ek, by omega, fin _ (.int _)⟩
        · cases e2'
    | tuple xs =>
      obtain ⟨l, vs, rfl, q1, q2⟩ := lv.1.tup
      have e2' : (match kysD xs with
        | some ks => if ks.length < 4000 then some (PyData.int (fmK ks).length) else none
        | none => none) = some d := e2
      cases ek : kysD xs with
      | none => rw [ek] at e2'; cases e2'
      | some ks =>
        rw [ek] at e2'
        simp only at e2'
        split at e2'
        · cases e2'
          exact ⟨true, l, vs, ks, rfl, .inl q1, kys_vs q2 ek, by omega, fin _ (.int _)⟩
        · cases e2'
    | _ => cases e2
  | [], e2, lv => cases e2
  | _ :: _ :: _, e2, lv => cases e2
end
/-! walks over texts -/
def chD (c : Nat) : D := .str ⟨#[c]⟩
def iStrM (f : List S → M S) (ρ : List S) : M (List D) := bnd (f ρ) fun s => match s with
  | .d (.str x) => ret (x.cps.toList.map chD)
  | _ => stuck
section
variable {X : Cx} {W : WX} {a tg : Expr} {fa : List S → M S}
theorem di_str (ha : DE X W a fa) : DI X W tg a (iStrM fa) := by
  obtain ⟨t, p, k⟩ := ha
  refine ⟨_, pi_str p, fun B ca ρ cs Hf σ H R r h => ?_⟩
  refine k B ca ρ cs Hf σ H _ r (h.bind.mono fun ca1 Hf1 H1 cs1 s n1 r1 h1 v hv => ?_)
  cases s with
  | d x =>
    cases x with
    | str x =>
      have hv' : Dd Hf1 v (.str x) := hv
      cases hv'
      refine ⟨x, rfl, ?_⟩
      refine (h1.ret_ r1) _ fun B2 ca2 ρ2 cs2 Hf2 σ2 H2 i n2 r2 hi => ⟨fun e => ?_, fun hi' => ?_⟩
      · subst e
        simp [Its]
      · rw [List.length_map, Array.length_toList] at hi'
        refine ⟨hi', fun y H3 q => ?_⟩
        obtain ⟨rfl, c, e1, rfl⟩ := q
        refine ⟨Hf2, Nx.refl, r2, chD c, ?_, .str _⟩
        rw [List.getElem?_map, Array.getElem?_toList, e1]; rfl
    | _ => exact h1.elim
  | _ => exact h1.elim
end
/-! walks over lists, tuples and texts alike -/
section
variable {X : Cx} {tg : Expr}
def iAny (K : PySem.W.Frag) (te : TE) : TI := fun σ H R => te σ H fun v H1 => (∃ a, v = V.ref a ∧ (∃ xs, SqL K H1 a xs) ∧ R (Itl K a) H1) ∨ (∃ a, v = V.ref a ∧ (∃ xs, SqT K H1 a xs) ∧ R (Itt K a) H1) ∨ ∃ x, v = V.str x ∧ R (Its x) H1
theorem pi_any {e : Expr} {te : TE} (he : PE X e te) : PI X tg e (iAny X.K te) := by
  refine ⟨fun pins s σ H R I h => ?_⟩
  refine thn (he.run pins s σ H _ I h) fun v s1 ⟨y, H1, J1, r1, q⟩ => ?_
  rcases q with ⟨a, rfl, ⟨xs, hq⟩, q⟩ | ⟨a, rfl, ⟨xs, hq⟩, q⟩ | ⟨x, rfl, q⟩
  · cases r1
    obtain ⟨its, rv, p, hz⟩ := J1.list hq
    exact wpAny_pyIter_list p.isList (pi_one (tk := s1.toks) J1 _ (turn_list a _) ⟨_, Heap.get?_push_size _ rfl, rfl, rfl⟩ q)
  · cases r1
    obtain ⟨its, rv, p, hz⟩ := J1.tuple hq
    exact wpAny_pyIter_tuple (show s1.heap.IsTuple a its.toArray from p) (pi_one (tk := s1.toks) J1 _ (turn_tuple a _) ⟨_, Heap.get?_push_size _ rfl, rfl, rfl⟩ q)
  · obtain ⟨t, rfl⟩ := r1
    cases ha : x.cps.all (· < 128)
    · exact wpAny_pyIter_wide ha (pi_one (tk := s1.toks) J1 _ (turn_str _ x t "str_iterator" (.inr rfl)) ⟨_, Heap.get?_push_size _ rfl, rfl, rfl⟩ q)
    · exact wpAny_pyIter_ascii ha (pi_one (tk := s1.toks) J1 _ (turn_str _ x t "str_ascii_iterator" (.inl rfl)) ⟨_, Heap.get?_push_size _ rfl, rfl, rfl⟩ q)
def itD : D → Option (List D)
  | .list xs => some xs
  | .tuple xs => some xs
  | .str x => some (x.cps.toList.map chD)
  | _ => none
def iAnyM (f : List S → M S) (ρ : List S) : M (List D) := bnd (f ρ) fun s => match s with
  | .d x => ofO (itD x)
  | _ => stuck
variable {W : WX} {a : Expr} {fa : List S → M S}
theorem di_any (ha : DE X W a fa) : DI X W tg a (iAnyM fa) := by
  obtain ⟨t, p, k⟩ := ha
  refine ⟨_, pi_any p, fun B ca ρ cs Hf σ H R r h => ?_⟩
  refine k B ca ρ cs Hf σ H _ r (h.bind.mono fun ca1 Hf1 H1 cs1 s n1 r1 h1 v hv => ?_)
  cases s with
  | d x =>
    cases x with
    | list xs =>
      have hv' : Dd Hf1 v (.list xs) := hv
      cases hv' with
      | lst g1 g2 =>
        rename_i l vs
        refine .inl ⟨l, rfl, ⟨vs, .inl (rd_ex r1.ext g1)⟩, ?_⟩
        have h2 : Gs X W B ca1 Hf1 ρ σ (ret xs cs1) _ := h1
        refine (h2.ret_ r1) _ fun B2 ca2 ρ2 cs2 Hf2 σ2 H2 i n2 r2 hi => ?_
        have g3 := rd_ex (fun a o h => r2.ext a o (n2.ex a o h)) g1
        refine ⟨fun e => ⟨vs, .inl g3, by rw [dps_len g2]; omega⟩, fun hi' => ?_⟩
        have hx : xs[i]? = some xs[i] := by simp [hi']
        obtain ⟨w, e1, e2⟩ := dps_get g2 hx
        refine ⟨⟨vs, w, .inl g3, e1⟩, fun x H3 y => ?_⟩
        obtain ⟨rfl, y⟩ := y
        have y1 := y vs (.inl g3)
        rw [e1] at y1
        cases y1
        exact ⟨Hf2, Nx.refl, r2, xs[i], hx, dp_ex n2.ex e2⟩
    | tuple xs =>
      have hv' : Dd Hf1 v (.tuple xs) := hv
      cases hv' with
      | tup g1 g2 =>
        rename_i l vs
        refine .inr (.inl ⟨l, rfl, ⟨vs, .inl (rd_ex r1.ext g1)⟩, ?_⟩)
        have h2 : Gs X W B ca1 Hf1 ρ σ (ret xs cs1) _ := h1
        refine (h2.ret_ r1) _ fun B2 ca2 ρ2 cs2 Hf2 σ2 H2 i n2 r2 hi => ?_
        have g3 := rd_ex (fun a o h => r2.ext a o (n2.ex a o h)) g1
        refine ⟨fun e => ⟨vs, .inl g3, by rw [dps_len g2]; omega⟩, fun hi' => ?_⟩
        have hx : xs[i]? = some xs[i] := by simp [hi']
        obtain ⟨w, e1, e2⟩ := dps_get g2 hx
        refine ⟨⟨vs, w, .inl g3, e1⟩, fun x H3 y => ?_⟩
        obtain ⟨rfl, y⟩ := y
        have y1 := y vs (.inl g3)
        rw [e1] at y1
        cases y1
        exact ⟨Hf2, Nx.refl, r2, xs[i], hx, dp_ex n2.ex e2⟩
    | str x =>
      have hv' : Dd Hf1 v (.str x) := hv
      cases hv'
      refine .inr (.inr ⟨x, rfl, ?_⟩)
      have h2 : Gs X W B ca1 Hf1 ρ σ (ret (x.cps.toList.map chD) cs1) _ := h1
      refine (h2.ret_ r1) _ fun B2 ca2 ρ2 cs2 Hf2 σ2 H2 i n2 r2 hi => ⟨fun e => ?_, fun hi' => ?_⟩
      · subst e
        simp [Its]
      · rw [List.length_map, Array.length_toList] at hi'
        refine ⟨hi', fun y H3 q => ?_⟩
        obtain ⟨rfl, c, e1, rfl⟩ := q
        refine ⟨Hf2, Nx.refl, r2, chD c, ?_, .str _⟩
        rw [List.getElem?_map, Array.getElem?_toList, e1]; rfl
    | _ => exact h1.elim
  | _ => exact h1.elim
end
end Dn

set_option Elab.async false
set_option linter.all false
set_option maxRecDepth 100000
set_option maxHeartbeats 1000000
/-! Dn12: try .. except C as e. -/
namespace Dn
open PySem L2
/-- the slot of the exception's name is forgotten; an error of the suite is none -/
def clr (i : Nat) : Out → Out
  | .nx ρ cs => .nx (ρ.set i .no) cs
  | .bk ρ cs => .bk (ρ.set i .no) cs
  | .ct ρ cs => .ct (ρ.set i .no) cs
  | .rt r cs => .rt r cs
  | _ => .no
open Classical in
noncomputable def hAs (i : Nat) (h : Str → Addr → G) (c : Str) : G := fun ρ cs =>
  if ∀ a, clr i (h c a (ρ.set i (.fn a)) cs) = clr i (h c 0 (ρ.set i (.fn 0)) cs) then clr i (h c 0 (ρ.set i (.fn 0)) cs) else .no
noncomputable def sTry (i : Nat) (known sub : Str → Bool) (h : Str → Addr → G) (g : G) : G := fun ρ cs => match g ρ cs with
  | .er c ρ' cs' => if known c = true then (if sub c = true then hAs i h c ρ' cs' else .er c ρ' cs') else .no
  | o => o
section
variable {X : Cx} {W : WX}
theorem GO.wf {W W' : WX} {B : Hp} {ca : List Addr} {Hf : Hp} {En : Ends} {o : Out} (h : GO X W B ca Hf En o) (n : ∀ c ρ cs, o ≠ .er c ρ cs) : GO X W' B ca Hf En o := by
  cases o with
  | er c ρ cs => exact absurd rfl (n c ρ cs)
  | _ => exact h
theorem clr_ok {i : Nat} {B : Hp} {ca : List Addr} {Hf : Hp} {D : Ends} {o : Out} (h : GO X W B ca Hf D (clr i o)) : GO X Wf B ca Hf { nx := fun σ H => D.nx (σ.set i none) H, rt := D.rt, bk := fun σ H => D.bk (σ.set i none) H, ct := fun σ H => D.ct (σ.set i none) H } o := by
  cases o with
  | nx ρ cs => exact fun ca' Hf' σ' H' n r => h ca' Hf' _ H' n (r.lose i none)
  | bk ρ cs => exact fun ca' Hf' σ' H' n r => h ca' Hf' _ H' n (r.lose i none)
  | ct ρ cs => exact fun ca' Hf' σ' H' n r => h ca' Hf' _ H' n (r.lose i none)
  | rt v cs => exact h
  | er c ρ cs => exact h.elim
  | no => exact h.elim
def tbOf (X : Cx) (g : G) (W : WX) : TS := fun D σ H => ∃ (B : Hp) (ca : List Addr) (ρ : List S) (cs : Store) (Hf : Hp), Rel B ca ρ cs Hf σ H ∧ GO X W B ca Hf D (g ρ cs)
def tsOf (X : Cx) (known : Str → Bool) (h : Str → Addr → G) (a : Addr) (cls : Value) (d : Option Addr) : TS := fun D σ H => ∃ (B : Hp) (ca : List Addr) (ρ : List S) (cs : Store) (Hf : Hp) (c : Str), Rel B ca ρ cs Hf σ H ∧ X.mg c = some cls ∧ known c = true ∧ d = none ∧ GO X Wf B ca Hf D (h c a ρ cs)
theorem dst_try (i : Nat) {x n : Str} {C : Value} {known sub : Str → Bool} {body suite : List Stmt} {b₀ : Stmt} {np pos pos' : Pos} {g : G} {h : Str → Addr → G} (hN : X.N.Nodup) (tk : Takes X W) (hc : Names X x C)
    (hsub : ∀ c cls, known c = true → X.mg c = some cls → PySem.W.exmOne X.K cls C = some (sub c))
    (hb : ∀ (W : WX) (pn : List (Addr × Obj)) (xe : Value → Shared → Prop), Takes (X.tr pn xe) W → PassesOwn (model X.prog X.w) X.A X.env xe → DSs (X.tr pn xe) W body g)
    (hsu : ∀ (a : Addr) (oe : Obj) (cls : Value) (pn : List (Addr × Obj)) (c : Str), known c = true → X.mg c = some cls → Zc cls none oe → (∃ vs, oe.data = .fields vs) → DSs (X.suite a ((a, oe) :: pn)) Wf (b₀ :: suite) (h c a))
    (hi : X.N[i]? = some n := by rfl) (hln : X.env.kindOf n = some .local := by rfl) (hs : X.stack = X.env :: X.outer := by rfl) (hf : X.env.frame = some X.env.locals := by rfl) :
    DSt X W (.Try body [.ExceptHandler (some (.Name x np)) (some n) (b₀ :: suite) pos'] [] [] pos) (sTry i known sub h g) := by
  refine ⟨_, L2.ps_try_as (tb := tbOf X g) (ts := tsOf X known h) (Wout := W) hs hf hN hi hln hc tk (fun W' pn xe tk' po' => ?_) (fun a oe cls d pn hz hd => ?_), fun B ca ρ cs Hf σ H En r hg => ?_⟩
  · obtain ⟨t, p, k⟩ := hb W' pn xe tk' po'
    exact ⟨fun pins s σ H D I ⟨B, ca, ρ, cs, Hf, r, hh⟩ => p.run pins s σ H D I (k B ca ρ cs Hf σ H D r hh)⟩
  · refine ⟨fun pins s σ H D I ⟨B, ca, ρ, cs, Hf, c, r, e, kn, ed, hh⟩ => ?_⟩
    subst ed
    obtain ⟨t, p, k⟩ := hsu a oe cls pn c kn e hz hd
    exact p.run pins s σ H D I (k B ca ρ cs Hf σ H D r hh)
  · refine ⟨B, ca, ρ, cs, Hf, r, ?_⟩
    unfold sTry at hg
    cases eg : g ρ cs with
    | er c ρ' cs' =>
      rw [eg] at hg
      simp only at hg
      intro ca' Hf' σ' H' cls nx r' mg
      by_cases kn : known c = true
      · rw [if_pos kn] at hg
        refine ⟨sub c, hsub c cls kn mg, fun hb a ha => ?_, fun hb => ?_⟩
        · rw [if_pos hb] at hg
          unfold hAs at hg
          split at hg
          · rename_i al
            refine ⟨B, ca', ρ'.set i (.fn a), cs', Hf', c, r'.set (s := .fn a) i rfl, mg, kn, rfl, ?_⟩
            have q := GO.fwd hg nx
            rw [← al a] at q
            exact clr_ok q
          · exact hg.elim
        · rw [if_neg (by rw [hb]; simp)] at hg
          exact hg ca' Hf' σ' H' cls nx r' mg
      · rw [if_neg kn] at hg; exact hg.elim
    | nx ρ' cs' => rw [eg] at hg; exact hg
    | rt v cs' => rw [eg] at hg; exact hg
    | bk ρ' cs' => rw [eg] at hg; exact hg
    | ct ρ' cs' => rw [eg] at hg; exact hg
    | no => rw [eg] at hg; exact hg.elim
/-- isinstance(e, C), e the exception in hand -/
def eIsE (i : Nat) (a : Addr) (b : Bool) (ρ : List S) : M S := match ρ[i]? with
  | some (.fn a') => if a' = a then ret (.d (.bool b)) else stuck
  | _ => stuck
theorem isE_run {i : Nat} {a : Addr} {b : Bool} {B : Hp} {ca : List Addr} {Hf : Hp} {ρ : List S} {σ : L2.St} {cs : Store} {H : Hp} {P : List Addr → Hp → Hp → Store → S → Prop} (r : Rel B ca ρ cs Hf σ H) (h : Gs X W B ca Hf ρ σ (eIsE i a b ρ cs) P) : σ[i]? = some (some (.ref a)) ∧ P ca Hf H cs (.d (.bool b)) := by
  unfold eIsE at h
  cases e : ρ[i]? with
  | none => rw [e] at h; exact h.elim
  | some s =>
    rw [e] at h
    cases s with
    | fn a' =>
      have h' : Gs X W B ca Hf ρ σ ((if a' = a then ret (.d (.bool b)) else stuck) cs) P := h
      split at h'
      · rename_i q
        subst q
        obtain ⟨v, h1, h2⟩ := r.get e (by simp)
        have h2' : v = .ref a' := h2
        subst h2'
        exact ⟨h1, h'.ret_ r⟩
      · exact h'.elim
    | _ => exact h.elim
end
section
variable {X : Cx} {a D : Addr} {oe : Obj} {pn : List (Addr × Obj)}
theorem de_isE (i : Nat) {en x : Str} {p p1 p2 pos : Pos} {C : Addr} {b : Bool} (hE : ExcC X.K D) (hz : Zc (.ref D) none oe) (hf : ∃ vs, oe.data = .fields vs) (hk : PySem.W.kitOne X.K (.ref D) (.ref C) = some b) (hm : X.mg "isinstance" = none) (hC : X.mg x = some (.ref C)) (hi : X.N[i]? = some en := by rfl)
    (hv : Vis X.env.scope en := by first | exact Or.inl rfl | exact Or.inr (Or.inl rfl) | exact Or.inr (Or.inr rfl)) (hg : Gl X "isinstance" := by rfl) (hgC : Gl X x := by rfl) (hd : (en == ("__debug__" : Str)) = false := by decide) (hcd : (en == ("__classdict__" : Str)) = false := by decide) (hdC : (x == ("__debug__" : Str)) = false := by decide)
    (h1 : starEach [.Name en p1, .Name x p2] X.env = (false, eval (.Name en p1) X.env) :: starEach [.Name x p2] X.env := by rfl) (h2 : starEach [.Name x p2] X.env = (false, eval (.Name x p2) X.env) :: starEach [] X.env := by rfl) (h3 : (backTo pos (starEach [.Name x p2] X.env)).any (·.1) = false := by rfl) :
    DE (X.suite a ((a, oe) :: pn)) Wf (.Call (.Name "isinstance" p) [.Name en p1, .Name x p2] [] pos) (eIsE i a b) := by
  refine ⟨_, pe_callB (X := X.suite a ((a, oe) :: pn)) (call_isE hE hz hf) hg hm (by decide +kernel) (pa_cons (pe_var hi hv hd hcd) (pa_cons (pe_glob (v := .ref C) hgC hC rfl hdC) pa_nil h2) h1) (by decide) (by decide) h1 h3, fun B ca ρ cs Hf σ H Q r h => ?_⟩
  obtain ⟨e1, q⟩ := isE_run r h
  refine ⟨_, e1, ?_⟩
  exact ⟨.ref C, .ref C, b, rfl, fun u ru => ru, hk, q _ (.bl b)⟩
theorem de_isET (i : Nat) {en x : Str} {p p1 p2 pos : Pos} {T : String} {b : Bool} (hE : ExcC X.K D) (hz : Zc (.ref D) none oe) (hf : ∃ vs, oe.data = .fields vs) (hk : PySem.W.kitOne X.K (.ref D) (.type T) = some b) (hm : X.mg "isinstance" = none) (hC : X.mg x = none) (hbt : bootBuiltins x = some (.type T)) (hi : X.N[i]? = some en := by rfl)
    (hv : Vis X.env.scope en := by first | exact Or.inl rfl | exact Or.inr (Or.inl rfl) | exact Or.inr (Or.inr rfl)) (hg : Gl X "isinstance" := by rfl) (hgC : Gl X x := by rfl) (hd : (en == ("__debug__" : Str)) = false := by decide) (hcd : (en == ("__classdict__" : Str)) = false := by decide) (hn : x ≠ "__name__" := by decide) (hdC : (x == ("__debug__" : Str)) = false := by decide)
    (h1 : starEach [.Name en p1, .Name x p2] X.env = (false, eval (.Name en p1) X.env) :: starEach [.Name x p2] X.env := by rfl) (h2 : starEach [.Name x p2] X.env = (false, eval (.Name x p2) X.env) :: starEach [] X.env := by rfl) (h3 : (backTo pos (starEach [.Name x p2] X.env)).any (·.1) = false := by rfl) :
    DE (X.suite a ((a, oe) :: pn)) Wf (.Call (.Name "isinstance" p) [.Name en p1, .Name x p2] [] pos) (eIsE i a b) := by
  refine ⟨_, pe_callB (X := X.suite a ((a, oe) :: pn)) (call_isE hE hz hf) hg hm (by decide +kernel) (pa_cons (pe_var hi hv hd hcd) (pa_cons (pe_bltn (v := .ty T) hgC hC hbt rfl hn hdC) pa_nil h2) h1) (by decide) (by decide) h1 h3, fun B ca ρ cs Hf σ H Q r h => ?_⟩
  obtain ⟨e1, q⟩ := isE_run r h
  refine ⟨_, e1, ?_⟩
  exact ⟨.ty T, .type T, b, rfl, fun u ru => ru, hk, q _ (.bl b)⟩
end
/-! facts of exception classes, as the head is looked at -/
def excB (K : PySem.W.Frag) (x : Str) : Bool :=
  decide (PySem.W.findIn K (.ref (He.ga K x)) "__getattribute__" = some (some (.builtin "BaseException.__getattribute__"))) && (decide (PySem.W.findIn K (.ref (He.ga K x)) "__getattr__" = some none) &&
    (decide (PySem.W.subIn K (.ref (He.ga K x)) (.type "BaseException") = some true) && (PySem.W.hasDictIn K (He.ga K x) && (decide (PySem.W.findIn K (.ref (He.ga K x)) "__class__" = some (some (.builtin "object.__class__"))) &&
      (decide (PySem.W.specialIn K (.builtin "object.__class__") "__get__" = some (some (.builtin "getset_descriptor.__get__"))) && (decide (PySem.W.takesIn K (.builtin "object.__class__") = some true) && decide (PySem.W.mroIn K (He.ga K x) (.type "object") = some true)))))))
theorem excB_ok {K : PySem.W.Frag} {x : Str} (h : excB K x = true) : ExcC K (He.ga K x) := by
  unfold excB at h
  simp only [Bool.and_eq_true, decide_eq_true_eq] at h
  obtain ⟨h1, h2, h3, h4, h5, h6, h7, h8⟩ := h
  exact ⟨h1, h2, h3, h4, h5, h6, h7, h8⟩
def kitB (K : PySem.W.Frag) (x y : Str) (b : Bool) : Bool := decide (PySem.W.kitOne K (.ref (He.ga K x)) (.ref (He.ga K y)) = some b)
def kitTB (K : PySem.W.Frag) (x : Str) (T : String) (b : Bool) : Bool := decide (PySem.W.kitOne K (.ref (He.ga K x)) (.type T) = some b)
theorem kitB_ok {K : PySem.W.Frag} {x y : Str} {b : Bool} (h : kitB K x y b = true) : PySem.W.kitOne K (.ref (He.ga K x)) (.ref (He.ga K y)) = some b := of_decide_eq_true h
theorem kitTB_ok {K : PySem.W.Frag} {x : Str} {T : String} {b : Bool} (h : kitTB K x T b = true) : PySem.W.kitOne K (.ref (He.ga K x)) (.type T) = some b := of_decide_eq_true h
def strG : List D → Option D
  | [.int i] => if i.natAbs.log2 < 1920 then some (.str (toString i)) else none
  | [.str x] => some (.str x)
  | _ => none
theorem str_ok {X : Cx} : CallR X (.type "str") (rCd strG) := by
  intro pins s σ H xs us Q I r h
  obtain ⟨Hf, ds, d, e, ex, hl, q⟩ := h
  unfold strG at e
  split at e
  · split at e
    · rename_i hz
      cases e
      obtain ⟨v, rfl, h1⟩ := lvs_one hl
      have := h1.int_; subst this
      exact call_str_int pins s σ H _ us Q I r ⟨_, rfl, hz, q _ _ _ (Gw.refl ex) (.str _)⟩
    · cases e
  · cases e
    obtain ⟨v, rfl, h1⟩ := lvs_one hl
    have := h1.str_; subst this
    exact SkE.call_str_str pins s σ H _ us Q I r ⟨_, rfl, q _ _ _ (Gw.refl ex) (.str _)⟩
  · cases e
theorem bt_ValueError : bootBuiltins "ValueError" = some (.type "ValueError") := by decide +kernel
end Dn

set_option Elab.async false
set_option linter.all false
set_option maxRecDepth 100000
set_option maxHeartbeats 4000000
/-! Dn13: lists and tuples times an int. -/
namespace Dn
open PySem L2
open AutoSeq1 (wpAny_loadPart')
theorem tupSame (l : Addr) (items : Array Value) (n : Nat) (dd : Option Addr) (sl : Array (Option Value)) (x : Int) (u : Tok) (c0 : (decide (x < -(2 ^ 63)) || decide (x ≥ 2 ^ 63)) = false) (c1 : (items.isEmpty || x == 1) = true) :
    Meets (Builtin.«tuple.__mul__» ⟨[.ref l, .int x u], []⟩) (fun _ R s => s.heap.get? l = some { cls := .type "tuple", dict := dd, data := .seq items n, slots := sl } ∧ R (.ok (.ret (Value.ref l))) s) :=
  .of_wp fun prog w A R s h => by
    obtain ⟨hp, g, d, tk, os⟩ := s
    obtain ⟨hl, h⟩ := h
    have f1 := AutoSeq1.idx_int
    wp_walk using wpAny_loadPart' hl
    repeat (first
      | (refine wpAny_ite_false (decide_eq_false (by rw [c0]; exact Bool.false_ne_true)) ?_; wp_walk using wpAny_loadPart' hl)
      | (refine wpAny_ite_true (decide_eq_true c1) ?_; wp_walk using wpAny_loadPart' hl))
    exact ⟨_, rfl, h⟩
theorem tupNone (l : Addr) (items : Array Value) (n : Nat) (dd : Option Addr) (sl : Array (Option Value)) (x : Int) (u : Tok) (c0 : (decide (x < -(2 ^ 63)) || decide (x ≥ 2 ^ 63)) = false) (c1 : (items.isEmpty || x == 1) = false) (c2 : (decide (x ≤ 0) || items.isEmpty) = true) :
    Meets (Builtin.«tuple.__mul__» ⟨[.ref l, .int x u], []⟩) (fun _ R s => s.heap.get? l = some { cls := .type "tuple", dict := dd, data := .seq items n, slots := sl } ∧
      R (.ok (.ret (Value.ref s.heap.objs.size))) { s with heap := s.heap.push { cls := Value.type "tuple", data := Data.seq #[] }, toks := s.toks }) :=
  .of_wp fun prog w A R s h => by
    obtain ⟨hp, g, d, tk, os⟩ := s
    obtain ⟨hl, h⟩ := h
    have f1 := AutoSeq1.idx_int
    wp_walk using wpAny_loadPart' hl
    repeat (first
      | (refine wpAny_ite_false (decide_eq_false (by rw [c0]; exact Bool.false_ne_true)) ?_; wp_walk using wpAny_loadPart' hl)
      | (refine wpAny_ite_false (decide_eq_false (by rw [c1]; exact Bool.false_ne_true)) ?_; wp_walk using wpAny_loadPart' hl)
      | (refine wpAny_ite_true (decide_eq_true c2) ?_; wp_walk using wpAny_loadPart' hl))
    exact ⟨_, rfl, h⟩
def mulE (a b : D) : Option D := match a, b with
  | .list xs, .int k => if -1000000000 ≤ k ∧ k ≤ 1000000000 ∧ xs.length * k.toNat ≤ sizeLine then some (.list (List.replicate k.toNat xs).flatten) else none
  | .tuple xs, .int k => if -1000000000 ≤ k ∧ k ≤ 1000000000 ∧ xs.length * k.toNat ≤ 1000000 then some (.tuple (List.replicate k.toNat xs).flatten) else none
  | a, b => mulD a b
theorem dps_rep {H : Hp} {vs : List V} {ds : List D} (h : Dds H vs ds) : ∀ k : Nat, Dds H (List.replicate k vs).flatten (List.replicate k ds).flatten
  | 0 => .nil
  | k + 1 => by
    rw [List.replicate_succ, List.replicate_succ, List.flatten_cons, List.flatten_cons]
    exact dps_app h (dps_rep h k)
theorem rep_len {α : Type} (k : Nat) (l : List α) : (List.replicate k l).flatten.length = l.length * k := by
  induction k with
  | zero => simp
  | succ k ih => rw [List.replicate_succ, List.flatten_cons, List.length_append, ih, Nat.mul_succ]; omega
section
variable {X : Cx}
theorem mulE_ok : OpR X (binaryOp .Mult) (rD mulE) := by
  intro pins s σ H x y v u Q I rx ry h
  obtain ⟨Hf, da, db, d, e, ex, ha, hb, q⟩ := h
  unfold mulE at e
  split at e
  · rename_i ds k
    split at e
    · rename_i hz
      obtain ⟨k1, k2, k3⟩ := hz
      cases e
      obtain ⟨l, vs, rfl, h1, h2⟩ := ha.lst
      have := hb.int_; subst this
      have l1 := dps_len h2
      cases rx
      obtain ⟨t, rfl⟩ := ry
      obtain ⟨z, its, n, r, hl, e⟩ := Inv.rdl I h1
      have hlen : its.toArray.size * k.toNat ≤ sizeLine := by rw [List.size_toArray, ← hl, l1]; exact k3
      have c1 : ¬ its.toArray.size * k.toNat > (2 ^ 63 - 1) / 8 := by
        have : (sizeLine : Nat) ≤ (2 ^ 63 - 1) / 8 := by decide
        omega
      have c2 : ¬ (!Builtin.List.listFitsIndex k) = true := by
        rw [fitsIndex_both (by omega) (by omega)]
        exact Bool.false_ne_true
      have c3 : ¬ Builtin.List.listTooLong (its.toArray.size * k.toNat) = true := by
        rw [notLongL hlen]
        exact Bool.false_ne_true
      have c4 : List.foldl (fun x1 x2 => x1 ++ x2) #[] (List.replicate (if its.toArray.isEmpty = true then 0 else k.toNat) its.toArray) = (List.replicate k.toNat its).flatten.toArray := by
        rw [size_rep]
        cases its with
        | nil => simp
        | cons a r' => rw [if_neg (by simp)]
      refine wpAny_binaryOp_repeat_ref (T := "list") (U := "int") (by decide) ⟨_, e, rfl⟩ (fun s' => typeIs_int s' k t) noFill_list_mul F.fills_int_mul F.slot_int_rmul repeat_list F.slot_int_index.lookup
        (call_meets F.slot_int_rmul (typeIs_int s k t) F.entry_int_rmul (F.args_int_rmul_2 _ _) (int___rmul___int_list k t l its.toArray n)
          ⟨e, rfl, ⟨_, e, rfl⟩, call_meets F.slot_list_mul ⟨_, e, rfl⟩ F.entry_list_mul (F.args_list_mul_2 _ _) (AutoListH.list___mul___list_int_3 l its.toArray n k t c2 c1 c3) ⟨e, ?_⟩⟩)
      rw [c4]
      have g := Gw.new (o := .lst (List.replicate k.toNat vs).flatten) ex I.fresh
      exact ⟨.ref _, _, I.lnew (t' := s.toks) (r.rep k.toNat) (by rw [rep_len, l1]; exact k3), rfl, q _ _ _ g (.lst (.inl upd_same) (dps_ex g.ex (dps_rep h2 _)))⟩
    · cases e
  · rename_i ds k
    split at e
    · rename_i hz
      obtain ⟨k1, k2, k3⟩ := hz
      cases e
      obtain ⟨l, vs, rfl, h1, h2⟩ := ha.tup
      have := hb.int_; subst this
      have l1 := dps_len h2
      cases rx
      obtain ⟨t, rfl⟩ := ry
      obtain ⟨its, r, ⟨⟨cls, dd, data, sl⟩, ho, hc, n, hd⟩, hs⟩ := I.tuple (.inl h1)
      simp only at hc hd
      subst hc hd
      have hle : its.length = vs.length := r.length.symm
      have c0 : (decide (k < -(2 ^ 63)) || decide (k ≥ 2 ^ 63)) = false := by
        rw [decide_eq_false (by omega), decide_eq_false (by omega)] <;> rfl
      have road : ∀ {Q' : Value → Shared → Prop}, wpAny (model X.prog X.w) X.A (call (.builtin "tuple.__mul__") [.ref l, .int k t]) Q' X.xe s → wpAny (model X.prog X.w) X.A (binaryOp .Mult (.ref l) (.int k t)) Q' X.xe s := fun {Q'} hh =>
        wpAny_binaryOp_repeat_ref (T := "tuple") (U := "int") (by decide) ⟨_, ho, rfl⟩ (fun s' => typeIs_int s' k t) noFill_tuple_mul F.fills_int_mul F.slot_int_rmul repeat_tuple F.slot_int_index.lookup
          (call_meets F.slot_int_rmul (typeIs_int s k t) F.entry_int_rmul (F.args_int_rmul_2 _ _) (int_rmul_tuple k t l its.toArray n dd sl) ⟨ho, rfl, ⟨_, ho, rfl⟩, hh⟩)
      refine road ?_
      by_cases hsame : (its.toArray.isEmpty || k == 1) = true
      · refine call_meets F.slot_tuple_mul ⟨_, ho, rfl⟩ F.entry_tuple_mul (F.args_tuple_mul_2 _ _) (tupSame l its.toArray n dd sl k t c0 hsame) ⟨ho, ?_⟩
        refine ⟨.ref l, H, I, rfl, q _ _ _ (Gw.refl ex) ?_⟩
        have same : (List.replicate k.toNat ds).flatten = ds := by
          rcases Bool.or_eq_true_iff.mp hsame with z | z
          · have e0 : its = [] := by
              cases its with
              | nil => rfl
              | cons a b => simp at z
            subst e0
            have : ds = [] := List.length_eq_zero_iff.mp (by rw [← l1, ← hle]; rfl)
            subst this
            simp
          · have : k = 1 := by simpa using z
            subst this
            simp
        rw [same]
        exact ha.flat fun _ z => nomatch z
      · have c1 : (its.toArray.isEmpty || k == 1) = false := by simpa using hsame
        by_cases hnone : (decide (k ≤ 0) || its.toArray.isEmpty) = true
        · refine call_meets F.slot_tuple_mul ⟨_, ho, rfl⟩ F.entry_tuple_mul (F.args_tuple_mul_2 _ _) (tupNone l its.toArray n dd sl k t c0 c1 hnone) ⟨ho, ?_⟩
          have k0 : k ≤ 0 := by
            rcases Bool.or_eq_true_iff.mp hnone with z | z
            · exact of_decide_eq_true z
            · rw [z] at c1; simp at c1
          have e0 : k.toNat = 0 := by omega
          rw [e0] at q
          have g := Gw.new (o := .tup []) ex (I.hok.fresh (Nat.le_refl _))
          exact ⟨.ref s.heap.objs.size, _, I.laid (t' := s.toks) (o := .tup []) (fun b ob q => Heap.get?_push_of_some _ q) (Nat.le_refl _) ⟨Nat.zero_le _, [], .nil, PyProof.Rows.IsTup.new _ _⟩, rfl, q _ _ _ g (.tup (.inl upd_same) .nil)⟩
        · have c2 : (decide (k ≤ 0) || its.toArray.isEmpty) = false := by simpa using hnone
          have kp : 0 < k := by
            have := (Bool.or_eq_false_iff.mp c2).1
            have := of_decide_eq_false this
            omega
          have km : (k.toNat : Int) = k := by omega
          have hm : ((its.toArray.size : Nat) : Int) * k ≤ 1000000 := by
            have k4 : ((ds.length * k.toNat : Nat) : Int) ≤ 1000000 := Int.ofNat_le.mpr k3
            rw [Int.natCast_mul, km] at k4
            rw [List.size_toArray, hle, l1]
            exact k4
          have flen : (List.replicate k.toNat its).flatten.length ≤ sizeLine := by
            rw [rep_len, hle, l1, sizeLine_eq]
            omega
          have c4 : Builtin.Tuple.tupleTooMany (((its.toArray.size : Nat) : Int) * k) = false := by
            unfold Builtin.Tuple.tupleTooMany
            rw [sizeLine_eq]
            exact decide_eq_false (by omega)
          refine call_meets F.slot_tuple_mul ⟨_, ho, rfl⟩ F.entry_tuple_mul (F.args_tuple_mul_2 _ _) (tuple_mulW l its.toArray n dd sl k t c0 c1 c2 (by omega) c4 (by rw [size_rep, List.size_toArray]; exact flen)) ⟨ho, ?_⟩
          rw [size_rep]
          have g := Gw.new (o := .tup (List.replicate k.toNat vs).flatten) ex (I.hok.fresh (Nat.le_refl _))
          exact ⟨.ref s.heap.objs.size, _, I.laid (t' := s.toks) (o := .tup (List.replicate k.toNat vs).flatten) (fun b ob q => Heap.get?_push_of_some _ q) (Nat.le_refl _) ⟨by rw [rep_len, l1, sizeLine_eq]; omega, _, r.rep k.toNat, PyProof.Rows.IsTup.new _ _⟩, rfl, q _ _ _ g (.tup (.inl upd_same) (dps_ex g.ex (dps_rep h2 _)))⟩
    · cases e
  · exact mul_ok pins s σ H x y v u Q I rx ry ⟨Hf, da, db, d, e, ex, ha, hb, q⟩
end
end Dn

set_option Elab.async false
set_option linter.all false
set_option maxRecDepth 100000
set_option maxHeartbeats 4000000
/-! Dn14: sorted(xs), sorted(set(xs)). -/
namespace Dn
open PySem L2
open PySem.Spec PyProof.Rows
/-! ### the order of texts -/
abbrev leS (a b : Str) : Prop := ltCps b.cps.toList a.cps.toList = false
theorem leS_iff (a b : Str) : leS a b ↔ ¬ b.cps.toList < a.cps.toList := by
  unfold leS
  rw [ltCps_eq]
  exact decide_eq_false_iff_not
theorem leS_trans {a b c : Str} (h : leS a b) (k : leS b c) : leS a c := by
  rw [leS_iff] at *
  have h' : a.cps.toList ≤ b.cps.toList := h
  have k' : b.cps.toList ≤ c.cps.toList := k
  exact List.le_trans h' k'
theorem leS_total (a b : Str) : leS a b ∨ leS b a := by
  rw [leS_iff, leS_iff]
  by_cases h : b.cps.toList < a.cps.toList
  · exact .inr (List.lt_asymm h)
  · exact .inl h
theorem leS_antisymm {a b : Str} (h : leS a b) (k : leS b a) : a = b := by
  rw [leS_iff] at *
  have h' : a.cps.toList ≤ b.cps.toList := h
  have k' : b.cps.toList ≤ a.cps.toList := k
  have e : a.cps.toList = b.cps.toList := List.le_antisymm h' k'
  obtain ⟨a⟩ := a
  obtain ⟨b⟩ := b
  simp only at e
  rw [Array.toList_inj.mp e]
def insT (x : Str) : List Str → List Str
  | [] => [x]
  | y :: r => if ltCps y.cps.toList x.cps.toList = true then y :: insT x r else x :: y :: r
def sortT : List Str → List Str
  | [] => []
  | x :: r => insT x (sortT r)
theorem insT_perm (x : Str) : ∀ l, (insT x l).Perm (x :: l)
  | [] => .refl _
  | y :: r => by
    unfold insT
    split
    · exact ((insT_perm x r).cons y).trans (.swap _ _ _)
    · exact .refl _
theorem sortT_perm : ∀ l, (sortT l).Perm l
  | [] => .refl _
  | x :: r => (insT_perm x _).trans ((sortT_perm r).cons x)
theorem insT_up (x : Str) : ∀ l : List Str, l.Pairwise leS → (insT x l).Pairwise leS
  | [], _ => by simp [insT]
  | y :: r, h => by
    obtain ⟨h1, h2⟩ := List.pairwise_cons.mp h
    unfold insT
    split
    · rename_i c
      refine List.pairwise_cons.mpr ⟨fun z hz => ?_, insT_up x r h2⟩
      rcases List.mem_cons.mp ((insT_perm x r).mem_iff.mp hz) with rfl | hz
      · rcases leS_total y z with q | q
        · exact q
        · unfold leS at q; rw [c] at q; cases q
      · exact h1 z hz
    · rename_i c
      have c' : leS x y := by unfold leS; simpa using c
      refine List.pairwise_cons.mpr ⟨fun z hz => ?_, h⟩
      rcases List.mem_cons.mp hz with rfl | hz
      · exact c'
      · exact leS_trans c' (h1 z hz)
theorem sortT_up : ∀ l, (sortT l).Pairwise leS
  | [] => .nil
  | x :: r => insT_up x _ (sortT_up r)
theorem up_of_rising : ∀ (p : Str) (l : List Str), risingS p l = true → (p :: l).Pairwise leS
  | p, [], _ => by simp
  | p, x :: r, h => by
    have h' : (!ltCps x.cps.toList p.cps.toList && risingS x r) = true := h
    rw [Bool.and_eq_true] at h'
    have c : leS p x := by
      have := h'.1
      unfold leS
      simpa using this
    have ih := up_of_rising x r h'.2
    refine List.pairwise_cons.mpr ⟨fun z hz => ?_, ih⟩
    rcases List.mem_cons.mp hz with rfl | hz
    · exact c
    · exact leS_trans c ((List.pairwise_cons.mp ih).1 z hz)
theorem up_of_sortedS : ∀ l : List Str, sortedS l = true → l.Pairwise leS
  | [], _ => .nil
  | x :: r, h => up_of_rising x r h
theorem eq_sortT {l l' : List Str} (hp : l'.Perm l) (hs : l'.Pairwise leS) : l' = sortT l :=
  List.Perm.eq_of_pairwise (fun _ _ _ _ a b => leS_antisymm a b) hs (sortT_up l) (hp.trans (sortT_perm l).symm)
theorem sortT_fix {l : List Str} (h : l.Pairwise leS) : sortT l = l := (eq_sortT (.refl l) h).symm
theorem sortT_congr {l l' : List Str} (p : l.Perm l') : sortT l = sortT l' := eq_sortT ((sortT_perm l).trans p) (sortT_up l)
/-! ### sorted(set) -/
def sortKT : List Key → Option (List Str)
  | [] => some []
  | .inr x :: r => (sortKT r).map (x :: ·)
  | _ => none
def sortKI : List Key → Option (List Int)
  | [] => some []
  | .inl x :: r => (sortKI r).map (x :: ·)
  | _ => none
theorem sortKT_eq : ∀ {ks : List Key} {xs : List Str}, sortKT ks = some xs → ks = xs.map Sum.inr
  | [], xs, h => by cases h; rfl
  | .inl i :: r, xs, h => by cases h
  | .inr x :: r, xs, h => by
    unfold sortKT at h
    cases e : sortKT r with
    | none => rw [e] at h; cases h
    | some ys => rw [e] at h; cases h; rw [sortKT_eq e]; rfl
theorem sortKI_eq : ∀ {ks : List Key} {xs : List Int}, sortKI ks = some xs → ks = xs.map Sum.inl
  | [], xs, h => by cases h; rfl
  | .inr i :: r, xs, h => by cases h
  | .inl x :: r, xs, h => by
    unfold sortKI at h
    cases e : sortKI r with
    | none => rw [e] at h; cases h
    | some ys => rw [e] at h; cases h; rw [sortKI_eq e]; rfl
theorem strsAre_keys : ∀ {vs : List Value} {ks : List Key}, (∀ v ∈ vs, ∃ k, keyIs k v = true) → vs.map kvV = ks → ∀ {xs : List Str}, ks = xs.map Sum.inr → StrsAre vs xs
  | [], _, _, e, xs, h => by
    subst e
    cases xs with
    | nil => exact .nil
    | cons _ _ => cases h
  | v :: vs, _, g, e, xs, h => by
    subst e
    cases xs with
    | nil => cases h
    | cons x xs =>
      rw [List.map_cons, List.map_cons] at h
      injection h with h1 h2
      obtain ⟨k, hk⟩ := g v List.mem_cons_self
      have q := kvV_self hk
      rw [h1] at q
      subst q
      rcases keyIs_shape hk with ⟨i, t, z, _⟩ | ⟨y, t, z, rfl⟩
      · cases z
      · injection z with z
        subst z
        exact .cons x t (strsAre_keys (fun u hu => g u (List.mem_cons_of_mem _ hu)) rfl h2)
theorem intsAre_keys : ∀ {vs : List Value} {ks : List Key}, (∀ v ∈ vs, ∃ k, keyIs k v = true) → vs.map kvV = ks → ∀ {xs : List Int}, ks = xs.map Sum.inl → IntsAre vs xs
  | [], _, _, e, xs, h => by
    subst e
    cases xs with
    | nil => exact .nil
    | cons _ _ => cases h
  | v :: vs, _, g, e, xs, h => by
    subst e
    cases xs with
    | nil => cases h
    | cons x xs =>
      rw [List.map_cons, List.map_cons] at h
      injection h with h1 h2
      obtain ⟨k, hk⟩ := g v List.mem_cons_self
      have q := kvV_self hk
      rw [h1] at q
      subst q
      rcases keyIs_shape hk with ⟨y, t, z, rfl⟩ | ⟨i, t, z, _⟩
      · injection z with z
        subst z
        exact .cons x t (intsAre_keys (fun u hu => g u (List.mem_cons_of_mem _ hu)) rfl h2)
      · cases z
theorem perm_map_inr {ks : List Key} {xs : List Str} (p : ks.Perm (xs.map Sum.inr)) : ∃ ys : List Str, ks = ys.map Sum.inr ∧ ys.Perm xs := by
  have hall : ∀ k ∈ ks, ∃ x, k = Sum.inr x := fun k hk => by
    obtain ⟨x, _, rfl⟩ := List.mem_map.mp (p.mem_iff.mp hk)
    exact ⟨x, rfl⟩
  let f : Key → Str := fun k => match k with
    | .inr x => x
    | _ => ⟨#[]⟩
  refine ⟨ks.map f, ?_, ?_⟩
  · rw [List.map_map]
    conv => lhs; rw [← List.map_id ks]
    refine List.map_congr_left fun k hk => ?_
    obtain ⟨x, rfl⟩ := hall k hk
    rfl
  · have q := p.map f
    rw [List.map_map] at q
    rw [show (f ∘ Sum.inr) = id from rfl, List.map_id] at q
    exact q
theorem perm_map_inl {ks : List Key} {xs : List Int} (p : ks.Perm (xs.map Sum.inl)) : ∃ ys : List Int, ks = ys.map Sum.inl ∧ ys.Perm xs := by
  have hall : ∀ k ∈ ks, ∃ x, k = Sum.inl x := fun k hk => by
    obtain ⟨x, _, rfl⟩ := List.mem_map.mp (p.mem_iff.mp hk)
    exact ⟨x, rfl⟩
  let f : Key → Int := fun k => match k with
    | .inl x => x
    | _ => 0
  refine ⟨ks.map f, ?_, ?_⟩
  · rw [List.map_map]
    conv => lhs; rw [← List.map_id ks]
    refine List.map_congr_left fun k hk => ?_
    obtain ⟨x, rfl⟩ := hall k hk
    rfl
  · have q := p.map f
    rw [List.map_map] at q
    rw [show (f ∘ Sum.inl) = id from rfl, List.map_id] at q
    exact q
section
variable {P : Program} {w : World} {A : Around} {E : Value → Shared → Prop} {s : Shared} {a : Addr} {ks : List Key}
theorem sortX {Q : Value → Shared → Prop} (R : SetX w s.heap a ks) (hh : A.handled = none)
    (hQ : ∀ s' p (out : Array Value) (c : Nat), (∀ b o, s.heap.get? b = some o → s'.heap.get? b = some o) → s'.gens = s.gens → s'.os = s.os → s.heap.objs.size ≤ p →
      s'.heap.get? p = some (seqObj "list" out c) → (∀ xs, ks = xs.map Sum.inr → StrsAre out.toList (sortT xs)) → (∀ xs, ks = xs.map Sum.inl → IntsAre out.toList (PySem.W.sortI xs)) → Q (.ref p) s')
    (hk : (∃ xs : List Str, ks = xs.map Sum.inr) ∨ (∃ xs : List Int, ks = xs.map Sum.inl)) :
    wpAny (model P w) A (call (.builtin "sorted") [.ref a]) Q E s := by
  obtain ⟨o, es, ep, t, ho, hex, hd, g, nd, pk, hb, hf, hr, hl⟩ := R
  refine Calls.call_function_entry kind_sorted plain_sorted entry_sorted (args_sorted1 _) ?_
  unfold Builtin.«sorted»
  refine wpAny_bind (m := checkCount "sorted" 1 1 _) (wpAny_pure ?_)
  refine wpAny_bind (collect_set (A := A.in1) hh ⟨o, ho, hex.1, hd⟩ hf hb hr hl fun s1 vs k1 hz e1 e2 pm => ?_)
  have hgood : ∀ v ∈ vs, ∃ k, keyIs k v = true := fun v hv => by
    obtain ⟨e, he, q⟩ := List.mem_map.mp (pm.mem_iff.mp hv)
    obtain ⟨k, h1, _⟩ := g e he
    exact ⟨k, q ▸ h1⟩
  have hkp : (vs.map kvV).Perm ks := by
    have q := pm.map kvV
    rw [List.map_map] at q
    exact q.trans pk
  have hvl : vs.length < scanBound := by
    have q : vs.length = es.size := by rw [pm.length_eq, List.length_map, Array.length_toList]
    rw [q]; exact hb
  have sb : scanBound = 4096 := rfl
  have hvz : vs.length ≤ sizeLine := by rw [sizeLine_eq]; omega
  refine wpAny_bind (wpAny_newList ?_ hvz)
  have hoL : (s1.heap.push (seqObj "list" vs.toArray 0)).get? s1.heap.objs.size = some (seqObj "list" vs.toArray 0) := Heap.get?_push_size _ rfl
  have keep : ∀ (out : Array Value) b u, s.heap.get? b = some u → (sortedHeap (s1.heap.push (seqObj "list" vs.toArray 0)) s1.heap.objs.size vs out).get? b = some u := fun out b u e => by
    have q := k1 b u e
    have hlt := Heap.lt_size q
    rw [sortedHeap_old (Nat.ne_of_lt hlt) (by rw [size_push']; exact Nat.lt_succ_of_lt hlt)]
    exact Heap.get?_push_of_some _ q
  rcases hk with ⟨xs, rfl⟩ | ⟨xs, rfl⟩
  · obtain ⟨ys, ey, py⟩ := perm_map_inr hkp
    have hS : StrsAre vs ys := strsAre_keys hgood rfl ey
    refine wpAny_bind (wpAny_holding (wpAny_call_entry slot_list_sort ⟨_, hoL, rfl⟩ entry_list_sort
      (list_sort_treeKAny strKind_oneLt hoL hS.keysOf (fun v₁ v₂ rest e => keyKind_strs (by rw [← e]; exact hS)) hvz fun st' hp hs => ⟨_, rfl, ?_⟩) (args_list_sort _)))
    obtain ⟨zs, g1, g2, g3⟩ := sorted_out_str hS hp hs
    have ez : zs = sortT xs := eq_sortT (g2.trans py) (up_of_sortedS zs g3)
    subst ez
    obtain ⟨c, hc⟩ := sortedHeap_at (vs := vs) (out := (arrOf st').map (·.2)) hoL
    refine wpAny_pure ⟨_, rfl, hQ _ s1.heap.objs.size _ c (keep _) e1 e2 hz hc (fun xs' e => ?_) fun xs' e => ?_⟩
    · have : xs = xs' := by
        have q := congrArg (List.map (fun k : Key => match k with | .inr x => x | _ => ⟨#[]⟩)) e
        simp only [List.map_map] at q
        simpa [Function.comp_def] using q
      subst this; exact g1
    · cases xs with
      | nil =>
        cases xs' with
        | nil =>
          have g1' : StrsAre ((arrOf st').map (·.2)).toList [] := g1
          cases h : ((arrOf st').map (·.2)).toList with
          | nil => exact .nil
          | cons _ _ => rw [h] at g1'; cases g1'
        | cons _ _ => cases e
      | cons _ _ => cases xs' <;> cases e
  · obtain ⟨ys, ey, py⟩ := perm_map_inl hkp
    have hS : IntsAre vs ys := intsAre_keys hgood rfl ey
    refine wpAny_bind (wpAny_holding (wpAny_call_entry slot_list_sort ⟨_, hoL, rfl⟩ entry_list_sort
      (list_sort_treeAny hoL hS hvz fun out zs g1 g2 g3 => ⟨_, rfl, ?_⟩) (args_list_sort _)))
    have ez : zs = PySem.W.sortI xs := PySem.W.eq_sortI (g2.trans py) g3
    subst ez
    obtain ⟨c, hc⟩ := sortedHeap_at (vs := vs) (out := out) hoL
    refine wpAny_pure ⟨_, rfl, hQ _ s1.heap.objs.size _ c (keep _) e1 e2 hz hc (fun xs' e => ?_) fun xs' e => ?_⟩
    · cases xs with
      | nil =>
        cases xs' with
        | nil =>
          have g1' : IntsAre out.toList [] := g1
          cases h : out.toList with
          | nil => exact .nil
          | cons _ _ => rw [h] at g1'; cases g1'
        | cons _ _ => cases e
      | cons _ _ => cases xs' <;> cases e
    · have : xs = xs' := by
        have q := congrArg (List.map (fun k : Key => match k with | .inl x => x | _ => 0)) e
        simp only [List.map_map] at q
        simpa [Function.comp_def] using q
      subst this; exact g1
end
/-! ### lists of ints, lists of texts, as data -/
def intsD : List D → Option (List Int)
  | [] => some []
  | .int i :: r => (intsD r).map (i :: ·)
  | _ => none
def txtsD : List D → Option (List Str)
  | [] => some []
  | .str x :: r => (txtsD r).map (x :: ·)
  | _ => none
theorem intsD_vs {Hf : Hp} : ∀ {vs : List V} {xs : List D} {ns : List Int}, Dds Hf vs xs → intsD xs = some ns → vs = ns.map V.int
  | _, _, ns, .nil, e => by
    have : [] = ns := Option.some.inj e
    subst this; rfl
  | _, _, ns, .cons (d := d) (ds := ds) h t, e => by
    cases d with
    | int i =>
      cases h
      cases z : intsD ds with
      | none => simp [intsD, z] at e
      | some r =>
        simp [intsD, z] at e
        subst e
        rw [intsD_vs t z]; rfl
    | _ => cases e
theorem txtsD_vs {Hf : Hp} : ∀ {vs : List V} {xs : List D} {ns : List Str}, Dds Hf vs xs → txtsD xs = some ns → vs = ns.map V.str
  | _, _, ns, .nil, e => by
    have : [] = ns := Option.some.inj e
    subst this; rfl
  | _, _, ns, .cons (d := d) (ds := ds) h t, e => by
    cases d with
    | str i =>
      cases h
      cases z : txtsD ds with
      | none => simp [txtsD, z] at e
      | some r =>
        simp [txtsD, z] at e
        subst e
        rw [txtsD_vs t z]; rfl
    | _ => cases e
theorem dds_ints {Hf : Hp} : ∀ ns : List Int, Dds Hf (ns.map V.int) (ns.map PyData.int)
  | [] => .nil
  | i :: r => .cons (.int i) (dds_ints r)
theorem dds_txts {Hf : Hp} : ∀ ns : List Str, Dds Hf (ns.map V.str) (ns.map PyData.str)
  | [] => .nil
  | i :: r => .cons (.str i) (dds_txts r)
def sortD (xs : List D) : Option D := if xs.length ≤ sizeLine then (match intsD xs with
  | some ns => some (.list ((PySem.W.sortI ns).map .int))
  | none => match txtsD xs with
    | some ys => some (.list ((sortT ys).map .str))
    | none => none) else none
def sortedG : List D → Option D
  | [.list xs] => sortD xs
  | _ => none
def sumG : List D → Option D
  | [.list xs] => (intsD xs).map fun ns => .int ns.sum
  | _ => none
def mostI : List Int → Int
  | [] => 0
  | [a] => a
  | a :: r => max a (mostI r)
def leastI : List Int → Int
  | [] => 0
  | [a] => a
  | a :: r => min a (leastI r)
theorem mostI_is : ∀ {ns : List Int} {m : Int}, m ∈ ns → (∀ y ∈ ns, y ≤ m) → m = mostI ns
  | [], _, h, _ => by cases h
  | [a], m, h, _ => by simpa [mostI] using h
  | a :: b :: r, m, h, k => by
    show m = max a (mostI (b :: r))
    have ka := k a List.mem_cons_self
    have kr : ∀ y ∈ b :: r, y ≤ m := fun y hy => k y (List.mem_cons_of_mem _ hy)
    have all : ∀ y ∈ b :: r, y ≤ mostI (b :: r) ∧ True := fun y hy => ⟨le_most y (b :: r) hy, trivial⟩
    have mem := most_mem (b :: r) (by simp)
    have km := kr _ mem
    rcases List.mem_cons.mp h with rfl | h
    · omega
    · have := (all m h).1
      omega
where
  le_most : ∀ (y : Int) (ns : List Int), y ∈ ns → y ≤ mostI ns
    | y, [], h => by cases h
    | y, [a], h => by have : y = a := by simpa using h
                      subst this; exact Int.le_refl _
    | y, a :: b :: r, h => by
      show y ≤ max a (mostI (b :: r))
      rcases List.mem_cons.mp h with rfl | h
      · omega
      · have := le_most y (b :: r) h
        omega
  most_mem : ∀ (ns : List Int), ns ≠ [] → mostI ns ∈ ns
    | [], h => absurd rfl h
    | [a], _ => by simp [mostI]
    | a :: b :: r, _ => by
      show max a (mostI (b :: r)) ∈ a :: b :: r
      have := most_mem (b :: r) (by simp)
      by_cases h : a ≤ mostI (b :: r)
      · rw [Int.max_eq_right h]; exact List.mem_cons_of_mem _ this
      · rw [Int.max_eq_left (by omega)]; exact List.mem_cons_self
theorem leastI_is : ∀ {ns : List Int} {m : Int}, m ∈ ns → (∀ y ∈ ns, m ≤ y) → m = leastI ns
  | [], _, h, _ => by cases h
  | [a], m, h, _ => by simpa [leastI] using h
  | a :: b :: r, m, h, k => by
    show m = min a (leastI (b :: r))
    have ka := k a List.mem_cons_self
    have kr : ∀ y ∈ b :: r, m ≤ y := fun y hy => k y (List.mem_cons_of_mem _ hy)
    have mem := least_mem (b :: r) (by simp)
    have km := kr _ mem
    rcases List.mem_cons.mp h with rfl | h
    · omega
    · have := least_le m (b :: r) h
      omega
where
  least_le : ∀ (y : Int) (ns : List Int), y ∈ ns → leastI ns ≤ y
    | y, [], h => by cases h
    | y, [a], h => by have : y = a := by simpa using h
                      subst this; exact Int.le_refl _
    | y, a :: b :: r, h => by
      show min a (leastI (b :: r)) ≤ y
      rcases List.mem_cons.mp h with rfl | h
      · omega
      · have := least_le y (b :: r) h
        omega
  least_mem : ∀ (ns : List Int), ns ≠ [] → leastI ns ∈ ns
    | [], h => absurd rfl h
    | [a], _ => by simp [leastI]
    | a :: b :: r, _ => by
      show min a (leastI (b :: r)) ∈ a :: b :: r
      have := least_mem (b :: r) (by simp)
      by_cases h : a ≤ leastI (b :: r)
      · rw [Int.min_eq_left h]; exact List.mem_cons_self
      · rw [Int.min_eq_right (by omega)]; exact List.mem_cons_of_mem _ this
def maxLG : List D → Option D
  | [.list xs] => match intsD xs with
    | some ns => if 0 < ns.length then some (.int (mostI ns)) else none
    | none => none
  | _ => none
def minLG : List D → Option D
  | [.list xs] => match intsD xs with
    | some ns => if 0 < ns.length then some (.int (leastI ns)) else none
    | none => none
  | _ => none
section
variable {X : Cx}
theorem sum_ok (hc : X.calm = true) : CallR X (.builtin "sum") (rCd sumG) := by
  intro pins s σ H xs us Q I r h
  obtain ⟨Hf, ds, d, e, ex, hl, q⟩ := h
  unfold sumG at e
  split at e
  · rename_i zs
    cases z : intsD zs with
    | none => rw [z] at e; cases e
    | some ns =>
      rw [z] at e
      cases e
      obtain ⟨v, rfl, h1⟩ := lvs_one hl
      obtain ⟨a, vs, rfl, g1, g2⟩ := h1.lst
      have ev := intsD_vs g2 z
      subst ev
      exact cr_sum hc pins s σ H _ us Q I r ⟨a, ns, rfl, .inl g1, q _ _ _ (Gw.refl ex) (.int _)⟩
  · cases e
theorem maxL_ok (hc : X.calm = true) : CallR X (.builtin "max") (rCd maxLG) := by
  intro pins s σ H xs us Q I r h
  obtain ⟨Hf, ds, d, e, ex, hl, q⟩ := h
  unfold maxLG at e
  split at e
  · rename_i zs
    split at e
    · rename_i ns z
      split at e
      · rename_i hlt
        cases e
        obtain ⟨v, rfl, h1⟩ := lvs_one hl
        obtain ⟨a, vs, rfl, g1, g2⟩ := h1.lst
        have ev := intsD_vs g2 z
        subst ev
        exact cr_max hc pins s σ H _ us Q I r ⟨a, ns, rfl, .inl g1, hlt, fun m h1 h2 => by rw [mostI_is h1 h2]; exact q _ _ _ (Gw.refl ex) (.int _)⟩
      · cases e
    · cases e
  · cases e
theorem minL_ok (hc : X.calm = true) : CallR X (.builtin "min") (rCd minLG) := by
  intro pins s σ H xs us Q I r h
  obtain ⟨Hf, ds, d, e, ex, hl, q⟩ := h
  unfold minLG at e
  split at e
  · rename_i zs
    split at e
    · rename_i ns z
      split at e
      · rename_i hlt
        cases e
        obtain ⟨v, rfl, h1⟩ := lvs_one hl
        obtain ⟨a, vs, rfl, g1, g2⟩ := h1.lst
        have ev := intsD_vs g2 z
        subst ev
        exact cr_min hc pins s σ H _ us Q I r ⟨a, ns, rfl, .inl g1, hlt, fun m h1 h2 => by rw [leastI_is h1 h2]; exact q _ _ _ (Gw.refl ex) (.int _)⟩
      · cases e
    · cases e
  · cases e
theorem sorted_ok : CallR X (.builtin "sorted") (rCd sortedG) := by
  intro pins s σ H xs us Q I r h
  obtain ⟨Hf, ds, d, e, ex, hl, q⟩ := h
  unfold sortedG at e
  split at e
  · rename_i zs
    obtain ⟨v, rfl, h1⟩ := lvs_one hl
    obtain ⟨a, vs, rfl, g1, g2⟩ := h1.lst
    unfold sortD at e
    split at e
    · rename_i hz
      obtain ⟨its, rv, pl, _⟩ := I.list (.inl g1)
      have hlen : its.length ≤ sizeLine := by rw [← rv.length, dps_len g2]; exact hz
      rw [Vals.ref1 r]
      split at e
      · rename_i ns z
        cases e
        have ev := intsD_vs g2 z
        subst ev
        refine PyProof.Rows.sorted_intsAny pl.isList rv.ints hlen fun out ns' k1 k2 k3 => ?_
        have ez := PySem.W.eq_sortI k2 k3
        subst ez
        obtain ⟨ep, he'⟩ := PyProof.Rows.sortedAll_at s.heap its out
        have hn : ((PySem.W.sortI ns).map V.int).length ≤ sizeLine := by rw [List.length_map, k2.length_eq]; rw [← rv.length, List.length_map] at hlen; exact hlen
        have hp := I.hok.fresh (Nat.le_succ s.heap.objs.size)
        have g := Gw.new (o := .lst ((PySem.W.sortI ns).map V.int)) ex hp
        exact ⟨.ref _, upd H (s.heap.objs.size + 1) (.lst ((PySem.W.sortI ns).map V.int)), I.laid (t' := s.toks) (fun _ _ => PyProof.Rows.sortedAll_old) (Nat.le_succ _) ⟨hn, out.toList, ep, vals_of_ints k1, he'⟩, rfl,
          q _ _ _ g (.lst (.inl upd_same) (dds_ints _))⟩
      · split at e
        · rename_i ys z
          cases e
          have ev := txtsD_vs g2 z
          subst ev
          refine PyProof.Rows.sorted_strsAny pl.isList rv.strs hlen fun out ns' k1 k2 k3 => ?_
          have ez := eq_sortT k2 (up_of_sortedS ns' k3)
          subst ez
          obtain ⟨ep, he'⟩ := PyProof.Rows.sortedAll_at s.heap its out
          have hn : ((sortT ys).map V.str).length ≤ sizeLine := by rw [List.length_map, k2.length_eq]; rw [← rv.length, List.length_map] at hlen; exact hlen
          have hp := I.hok.fresh (Nat.le_succ s.heap.objs.size)
          have g := Gw.new (o := .lst ((sortT ys).map V.str)) ex hp
          exact ⟨.ref _, upd H (s.heap.objs.size + 1) (.lst ((sortT ys).map V.str)), I.laid (t' := s.toks) (fun _ _ => PyProof.Rows.sortedAll_old) (Nat.le_succ _) ⟨hn, out.toList, ep, vals_of_strs k1, he'⟩, rfl,
            q _ _ _ g (.lst (.inl upd_same) (dds_txts _))⟩
        · cases e
    · cases e
  · cases e
end
/-! ### sorted(set(xs)) -/
def sortK (ks : List Key) : Option (List V × List D) := match sortKI ks with
  | some ns => some ((PySem.W.sortI ns).map V.int, (PySem.W.sortI ns).map .int)
  | none => match sortKT ks with
    | some ys => some ((sortT ys).map V.str, (sortT ys).map .str)
    | none => none
theorem sortK_dds {Hf : Hp} {ks : List Key} {vs : List V} {ds : List D} (h : sortK ks = some (vs, ds)) : Dds Hf vs ds := by
  unfold sortK at h
  split at h
  · cases h; exact dds_ints _
  · split at h
    · cases h; exact dds_txts _
    · cases h
def srtSD (xs : List D) : Option D := match kysD xs with
  | some ks => if ks.length < 4000 then (sortK (fmK ks)).map fun p => .list p.2 else none
  | none => none
def sortedSetG : List D → Option D
  | [.list xs] => srtSD xs
  | [.tuple xs] => srtSD xs
  | _ => none
section
variable {X : Cx} {W : WX} {a : Expr} {f : List S → M S}
def tSrS (K : PySem.W.Frag) (ta : TE) : TE := fun σ H Q => ta σ H fun x H1 => ∃ (b : Bool) (l : Addr) (vs : List V) (ks : List Key) (q : List V × List D), x = V.ref l ∧ (if b = true then SqT K H1 l vs else SqL K H1 l vs) ∧ vs = ks.map kV ∧ ks.length + 1 < scanBound ∧ sortK (fmK ks) = some q ∧
  ∀ p, H1 p = none → Q (.ref p) (upd H1 p (.lst q.1))
theorem pe_srS {ta : TE} {p p2 q pos : Pos} (hc : X.calm = true) (hg : Gl X "sorted") (hm : X.mg "sorted" = none) (hg2 : Gl X "set") (hm2 : X.mg "set" = none) (ha : PE X a ta)
    (na : starEach [a] X.env = (false, eval a X.env) :: starEach [] X.env) : PE X (.Call (.Name "sorted" p) [.Call (.Name "set" p2) [a] [] q] [] pos) (tSrS X.K ta) := by
  refine ⟨fun pins s σ H Q I h => ?_⟩
  refine PyProof.Rows.Call_ (ld_blt I hg hm (by decide +kernel : bootBuiltins "sorted" = some (.builtin "sorted")) ?_)
  refine PyProof.Rows.callWith_builtin1 (PyProof.Rows.args_cons ?_ rfl) rfl rfl
  refine PyProof.Rows.Call_ (ld_blt I hg2 hm2 PyProof.Rows.boot_set ?_)
  refine PyProof.Rows.callWith_type1 (PyProof.Rows.args_cons (thn (ha.run pins s σ H _ I h) fun v s1 ⟨x, H1, I1, r1, q1⟩ => PyProof.Rows.args_nil ?_) na) na rfl
  obtain ⟨b, l, vs, ks, z, rfl, hq, rfl, hlt, hs, q1⟩ := q1
  cases r1
  have go : ∀ (its : List Value), Vals (ks.map kV) its → (if b = true then s1.heap.IsTuple l its.toArray else s1.heap.IsList l its.toArray) → wpAny (model X.prog X.w) X.A (call (.type "set") [Value.ref l]) (fun u s2 => wpAny (model X.prog X.w) X.A (spliced (backTo pos (starEach [] X.env))) (fun us s3 => wpAny (model X.prog X.w) X.A (call (.builtin "sorted") (u :: us)) (EP X pins σ Q) X.xe s3) X.xe s2) X.xe s1 := fun its r hit => by
    have hl : ks.length = its.toArray.size := by rw [List.size_toArray, ← r.length, List.length_map]
    refine setCallX b (I1.ok.hd hc) hit hl (fun j v k e1 e2 => vals_keys (P := X.prog) (w := X.w) r j v k (by simpa using e1) e2) hlt fun g tk hS hk => ?_
    refine PyProof.Rows.args_nil ?_
    have I2 : Inv X pins σ H1 { s1 with heap := g, toks := tk } := I1.kept fun b o e => hk b o (Heap.lt_size e) e
    have lt := fmK_le ks
    have sb : scanBound = 4096 := rfl
    have hkk : (∃ xs : List Str, fmK ks = xs.map Sum.inr) ∨ (∃ xs : List Int, fmK ks = xs.map Sum.inl) := by
      unfold sortK at hs
      split at hs
      · rename_i ns e; exact .inr ⟨ns, sortKI_eq e⟩
      · split at hs
        · rename_i ns e; exact .inl ⟨ns, sortKT_eq e⟩
        · cases hs
    refine sortX hS (I2.ok.hd hc) (fun s' p out c k1 k2 k3 k4 k5 k6 k7 => ?_) hkk
    have hn : H1 p = none := I2.hok.fresh k4
    have hv : Vals z.1 out.toList ∧ z.1.length = out.toList.length := by
      unfold sortK at hs
      split at hs
      · rename_i ns e
        cases hs
        have w := vals_of_ints (k7 ns (sortKI_eq e))
        exact ⟨w, w.length⟩
      · split at hs
        · rename_i ns e
          cases hs
          have w := vals_of_strs (k6 ns (sortKT_eq e))
          exact ⟨w, w.length⟩
        · cases hs
    have hz : z.1.length ≤ sizeLine := by
      unfold sortK at hs
      split at hs
      · rename_i ns e
        cases hs
        have e1 := congrArg List.length (sortKI_eq e)
        rw [List.length_map] at e1
        show ((PySem.W.sortI ns).map V.int).length ≤ sizeLine
        rw [List.length_map, (PySem.W.sortI_perm ns).length_eq, sizeLine_eq]
        omega
      · split at hs
        · rename_i ns e
          cases hs
          have e1 := congrArg List.length (sortKT_eq e)
          rw [List.length_map] at e1
          show ((sortT ns).map V.str).length ≤ sizeLine
          rw [List.length_map, (sortT_perm ns).length_eq, sizeLine_eq]
          omega
        · cases hs
    have J : Inv X pins σ (upd H1 p (.lst z.1)) { ({ s1 with heap := g, toks := tk } : Shared) with heap := s'.heap, gens := s'.gens, drawn := s'.drawn, toks := s'.toks } :=
      I2.call (ch := []) (Un.laid k1 k4 hn) (I2.hok.laid k1 k4 ⟨hz, out.toList, c, hv.1, k5⟩) (by rw [k2]; exact I2.bare) (fun _ q => nomatch q)
    have e : s' = { ({ s1 with heap := g, toks := tk } : Shared) with heap := s'.heap, gens := s'.gens, drawn := s'.drawn, toks := s'.toks } := by
      cases s'
      cases k3
      rfl
    rw [e]
    exact ⟨.ref p, _, J, rfl, q1 p hn⟩
  cases b with
  | false =>
    obtain ⟨its, r, pl, hz⟩ := I1.list hq
    exact go its r pl.isList
  | true =>
    obtain ⟨its, r, pl, hz⟩ := I1.tuple hq
    exact go its r pl
theorem de_sortedSet {p p2 q pos : Pos} (hm : X.mg "sorted" = none) (hm2 : X.mg "set" = none) (ha : DE X W a f) (hc : X.calm = true := by rfl) (hg : Gl X "sorted" := by rfl) (hg2 : Gl X "set" := by rfl)
    (na : starEach [a] X.env = (false, eval a X.env) :: starEach [] X.env := by rfl) : DE X W (.Call (.Name "sorted" p) [.Call (.Name "set" p2) [a] [] q] [] pos) (eCd sortedSetG (aCons f aNil)) := by
  obtain ⟨t, pr, k⟩ := ha
  refine ⟨_, pe_srS hc hg hm hg2 hm2 pr na, fun B ca ρ cs Hf σ H Q r h => ?_⟩
  refine k B ca ρ cs Hf σ H _ r (h.bind.bind.mono fun ca1 Hf1 H1 cs1 s n1 r1 h1 v hv => ?_)
  have h2 : Gs X W B ca1 Hf1 ρ σ (bnd (vwsM [s]) (fun ds => bnd (ofO (sortedSetG ds)) fun d => ret (.d d)) cs1) (fun ca' Hf' H' _ s => ∀ v, SvOk ca' Hf' s v → Q v H') := (h1.ret_ r1)
  obtain ⟨ds, e1, h3⟩ := vwsM_ h2
  obtain ⟨d, e2, h4⟩ := ofOb_ h3
  have lv := vws_ok r1 (SvsOk.cons hv .nil) e1
  have sb : scanBound = 4096 := rfl
  have main : ∀ (b : Bool) (xs : List D) (l : Addr) (vs : List V), srtSD xs = some d → (if b = true then SqT X.K H1 l vs else SqL X.K H1 l vs) → Dds Hf1 vs xs →
      ∃ (b : Bool) (l' : Addr) (vs : List V) (ks : List Key) (q : List V × List D), V.ref l = V.ref l' ∧ (if b = true then SqT X.K H1 l' vs else SqL X.K H1 l' vs) ∧ vs = ks.map kV ∧ ks.length + 1 < scanBound ∧ sortK (fmK ks) = some q ∧
        ∀ p, H1 p = none → Q (.ref p) (upd H1 p (.lst q.1)) := fun b xs l vs e hq hd => by
    unfold srtSD at e
    split at e
    · rename_i ks ek
      split at e
      · rename_i hlt
        cases es : sortK (fmK ks) with
        | none => rw [es] at e; cases e
        | some z =>
          rw [es] at e
          cases e
          refine ⟨b, l, vs, ks, z, rfl, hq, kys_vs hd ek, by omega, es, fun p hp => ?_⟩
          have g := Gw.new (o := .lst z.1) r1.ext hp
          obtain ⟨r3, n3⟩ := r1.gw g
          exact h4 ca1 _ _ n3 r3 _ (show Dd _ _ _ from .lst (.inl upd_same) (sortK_dds es))
      · cases e
    · cases e
  match ds, e2, lv with
  | [x], e2, lv =>
    cases x with
    | list xs =>
      obtain ⟨l, vs, rfl, q1, q2⟩ := lv.1.lst
      exact main false xs l vs e2 (.inl q1) q2
    | tuple xs =>
      obtain ⟨l, vs, rfl, q1, q2⟩ := lv.1.tup
      exact main true xs l vs e2 (.inl q1) q2
    | _ => cases e2
  | [], e2, lv => exact absurd e2 (by simp [sortedSetG])
  | _ :: _ :: _, e2, lv => exact absurd e2 (by simp [sortedSetG])
end
end Dn

set_option Elab.async false
set_option linter.all false
set_option maxRecDepth 100000
set_option maxHeartbeats 1000000
/-! Dn15: str(x) of data; defs that stand where nothing is being shown. -/
namespace Dn
open PySem L2
open PySem.Spec PyProof.Rows
/-! ### str(x) of lists and tuples -/
def isSq : D → Bool
  | .list _ => true
  | .tuple _ => true
  | _ => false
def strLG : List D → Option D
  | [d] => if isSq d = true ∧ d.showable = true ∧ d.hasDict = false ∧ d.depth ≤ 100 ∧ d.shown.length ≤ sizeLine then some (.str d.shown) else none
  | _ => none
theorem strL_ok {X : Cx} (hg : X.A.guards = some []) (hu : X.A.units + 200 < cLine) : CallR X (.type "str") (rCd strLG) := by
  intro pins s σ H xs us Q I r h
  obtain ⟨Hf, ds, d, e, ex, hl, q⟩ := h
  unfold strLG at e
  split at e
  · rename_i d0
    split at e
    · rename_i c
      obtain ⟨c1, c2, c3, c4, c5⟩ := c
      cases e
      obtain ⟨v, rfl, hv⟩ := lvs_one hl
      have hd : Dp X.K H v d0 := dd_dp X.K hv.1
      have fin : ∀ (b : Addr), Dp X.K H (.ref b) d0 → Vals [V.ref b] us → (∀ v Hf' H', Gw Hf H Hf' H' → Dd Hf' v (.str d0.shown) → Q v H') → wpAny (model X.prog X.w) X.A (call (.type "str") us) (EP X pins σ Q) X.xe s := fun b hd r q => by
        rw [Vals.ref1 r]
        obtain ⟨as, hr⟩ := Dp.reads I d0 (.ref b) (.ref b) hd rfl
        refine PySem.str_of_reads hr c2 (fun z => by rw [c3] at z; cases z) hg (by omega) (fun _ _ e => e) (fun h' u tk hk => ?_) c5
        exact ⟨.str d0.shown, H, I.kept hk, ⟨u, rfl⟩, q _ _ _ (Gw.refl ex) (.str _)⟩
      cases d0 with
      | list ds0 =>
        obtain ⟨b, vs, rfl, _, _⟩ := hv.lst
        exact fin b hd r q
      | tuple ds0 =>
        obtain ⟨b, vs, rfl, _, _⟩ := hv.tup
        exact fin b hd r q
      | _ => cases c1
    · cases e
  · cases e
/-! ### defs that stand where nothing is being shown -/
structure FnG (P : Program) (w : World) (K : PySem.W.Frag) (mg : Str → Option Value) (base : Heap) (k : Nat) (f : Addr) (fd : FuncData) (ps : List Str) (sp : Sp) : Prop where
  len : ∀ vs H Q E, sp vs H Q E → vs.length = ps.length
  run : ∀ (A : Around) (outer : List Env) (s : Shared) (H : Hp) (args : Args) (us : List Value) (vs : List V) (Q : VK) (E : XK), A.guards = some [] → Room k A → Env0 P w K mg base A outer s H → BindsTo s fd args (ps.zip us) → Vals vs us → sp vs H Q E →
    codeAny (model P w) A (.call (.ref f) args) (CR (L2.CX P w) outer P w H s Q E) s
section
variable {P : Program} {w : World} {K : PySem.W.Frag} {mg : Str → Option Value} {base : Heap} {x qual : Str} {params : Arguments} {body : List Stmt} {scope : Scope} {dvs : List V} {kws : List (Str × V)} {f : Addr} {fd : FuncData} {N ps : List Str} {k : Nat}
theorem FnG.of {sp : Sp} (Fk : FnOk P w K mg base (L2.CX P w) k f fd ps sp) : FnG P w K mg base k f fd ps sp := ⟨Fk.len, fun A outer s H args us vs Q E _ hr => Fk.run A outer s H args us vs Q E hr⟩
/-- a def by its body, from any frame where nothing is being shown -/
theorem fnG_ok {sp : Sp} (Fd : FunD K x qual params body scope dvs kws f fd) (sc : FnScope N ps scope) (hl : ∀ vs H Q E, sp vs H Q E → vs.length = ps.length)
    (hb : ∀ (cdv : Value) (A : Around) (outer : List Env) (s : Shared) (H : Hp) (vs : List V) (Q : VK) (E : XK), A.guards = some [] → Room k (A.deeper (envOfC qual scope s.heap.objs.size f cdv)) → sp vs H Q E →
      ∃ t, PSs (cxOf (L2.CX P w) P w K mg base N qual scope f cdv A outer s H E) body t ∧ t { nx := fun _ H' => Q .non H', rt := Q } (L2.start N vs) H) :
    FnG P w K mg base (k + 1) f fd ps sp := by
  obtain ⟨oc, od, dV, kV, doc, pm, an, cdv, ct, osl, rfl, look, hcd, _, _⟩ := Fd.ex
  refine ⟨hl, fun A outer s H args us vs Q E hg hr e0 hbd rv hsp => ?_⟩
  have inK : K.In s.heap := e0.mod.kin.keeps fun b o e => (e0.bs b o e).1
  have nolim : s.heap.NoLimit := e0.mod.nolimit.keeps fun b o e => (e0.bs b o e).1
  have kinds : ∀ y ∈ ps.zip us, scope.names.lookup y.1 = some .local ∨ (scope.names.lookup y.1 = some .cell ∧ ((cellsFrom (s.heap.objs.size + 1) scope.names []).lookup y.1).isSome = true) := by
    rintro ⟨n, v⟩ hy
    refine (sc.par n (List.of_mem_zip hy).1).imp id fun q => ⟨q, ?_⟩
    exact PySem.W.cellsFrom_some _ _ _ (Or.inl q)
  apply codeAny_call_function hr.depth (inK _ _ look) rfl sc.co sc.gen rfl (PySem.W.codeRec_of inK hcd) (hbd _ _ _ _ ?_)
  apply wpAny_newFunctionEnv_cells sc.kind kinds
  rintro env rfl s1 w1
  refine ⟨nolim.keeps w1.toInCall.keep, codeAny_func ?_⟩
  obtain ⟨t, pt, qt⟩ := hb cdv A outer s H vs Q E hg (hr.deeper _) hsp
  have I0 : Inv (cxOf (L2.CX P w) P w K mg base N qual scope f cdv A outer s H E) [] (L2.start N vs) H s1 := inv_start sc hr.hd e0 (hl _ _ _ _ hsp) rv w1
  refine wpAny_mono (pt.run [] s1 (L2.start N vs) H _ I0 qt) (fun fl s2 hs => ?_) fun e s2 hs => hs
  cases fl with
  | ret u =>
    obtain ⟨v, τ, H2, J, ru, q⟩ := hs
    exact ⟨v, H2, J.os, J.bare, J.base, J.hok, ru, q⟩
  | next =>
    obtain ⟨τ, H2, J, q⟩ := hs
    exact ⟨.non, H2, J.os, J.bare, J.base, J.hok, rfl, q⟩
  | brk => exact (show False from hs.choose_spec.choose_spec.2).elim
  | cont => exact (show False from hs.choose_spec.choose_spec.2).elim
variable {F : List S → M Rv}
theorem body_run {g : G} (m : Nat) (hm : N.length = ps.length + m) {cdv : Value} {A : Around} {outer : List Env} {s : Shared} {H : Hp} {vs : List V} {Q : VK} {E : XK}
    (hd : DSs (BX P w K mg base N qual scope f cdv A outer s H E) (BW E) body g) (h : spE mg ps.length (runG m g) vs H Q E) :
    ∃ t, PSs (cxOf (L2.CX P w) P w K mg base N qual scope f cdv A outer s H E) body t ∧ t { nx := fun _ H' => Q .non H', rt := Q } (L2.start N vs) H := by
  obtain ⟨hl, B, ca, cs, Hf, ss, r, h⟩ := h
  obtain ⟨t, pt, kt⟩ := hd
  refine ⟨t, pt, ?_⟩
  have hss : ss.length = vs.length := by
    have := r.len
    rw [List.length_map] at this
    exact this.symm
  have hst : L2.start N vs = vs.map some ++ List.replicate m none := by
    unfold L2.start
    rw [hm, hl, Nat.add_sub_cancel_left]
  have r1 : Rel B ca (ss ++ List.replicate m .no) cs Hf (L2.start N vs) H := by
    rw [hst]
    refine r.slots (by simp [hss]) fun i sl e => ?_
    by_cases hi : i < ss.length
    · rw [List.getElem?_append_left hi] at e
      rcases r.sl i sl e with z | ⟨v, h1, h2⟩
      · exact .inl z
      · exact .inr ⟨v, by rw [List.getElem?_append_left (by simp; omega)]; exact h1, h2⟩
    · rw [List.getElem?_append_right (by omega), List.getElem?_replicate] at e
      split at e
      · cases e; exact .inl rfl
      · cases e
  refine kt B ca _ cs Hf _ H _ r1 ?_
  have hlc := r.lenc
  unfold runG at h
  cases e : g (ss ++ List.replicate m .no) cs with
  | nx ρ' cs' =>
    rw [e] at h
    exact fun ca' Hf' σ' H' n r' => h Hf' H' .non n.ex (r.cut n r') .non
  | rt rv cs' =>
    rw [e] at h
    intro ca' Hf' ρ' σ' H' v n r' hv
    have rc := r.cut n r'
    cases rv with
    | d x => exact h Hf' H' v n.ex rc (hv.cut (cs := cs) n fun j z => nomatch z)
    | own o => exact h Hf' H' v n.ex rc (hv.cut (cs := cs) n fun j z => nomatch z)
    | cel j =>
      by_cases hj : j < cs.length
      · have h' : match (Res.ok (Rv.cel j) (cs'.take cs.length) : Res Rv) with
          | .ok r cs' => ∀ Hf' H' v, Ex Hf Hf' → Rel B ca ss cs' Hf' (vs.map some) H' → RvOk B ca Hf' H' r v → Q v H'
          | .er c cs' => ∀ Hf' H' cls, Ex Hf Hf' → Rel B ca ss cs' Hf' (vs.map some) H' → mg c = some cls → E cls none H'
          | .no => False := by
          have e2 : fin cs.length (.rt (.cel j) cs') = .ok (.cel j) (cs'.take cs.length) := if_pos hj
          rw [← e2]; exact h
        exact h' Hf' H' v n.ex rc (hv.cut (cs := cs) n fun j' z => by cases z; omega)
      · obtain ⟨a, h1, rfl⟩ := hv
        have hj' : j < cs'.length := by rw [← r'.lenc]; exact (List.getElem?_eq_some_iff.mp h1).1
        obtain ⟨b, g1, g2⟩ := r'.cells j cs'[j] (by simp [hj'])
        rw [h1] at g1; cases g1
        have ma : a ∈ ca' := List.mem_of_getElem? h1
        have h' : match (Res.ok (Rv.own cs'[j]) (cs'.take cs.length) : Res Rv) with
          | .ok r cs' => ∀ Hf' H' v, Ex Hf Hf' → Rel B ca ss cs' Hf' (vs.map some) H' → RvOk B ca Hf' H' r v → Q v H'
          | .er c cs' => ∀ Hf' H' cls, Ex Hf Hf' → Rel B ca ss cs' Hf' (vs.map some) H' → mg c = some cls → E cls none H'
          | .no => False := by
          have e2 : fin cs.length (.rt (.cel j) cs') = .ok (.own cs'[j]) (cs'.take cs.length) := by
            refine Eq.trans (show fin cs.length (.rt (.cel j) cs') = (if j < cs.length then .ok (.cel j) (cs'.take cs.length) else match cs'[j]? with
              | some o => .ok (.own o) (cs'.take cs.length)
              | none => .no) from rfl) ?_
            rw [if_neg hj, List.getElem?_eq_getElem hj']
          rw [← e2]; exact h
        refine h' Hf' H' _ n.ex rc ⟨a, rfl, g2, r'.off a ma, fun z => ?_, ?_⟩
        · obtain ⟨t, ht⟩ := n.pre
          obtain ⟨i, hi, ei⟩ := List.mem_iff_getElem.mp z
          have e3 : ca'[i]? = some a := by rw [← ht, List.getElem?_append_left hi]; simp [hi, ei]
          have := nd_ix r'.nd h1 e3
          omega
        · cases q : B a with
          | none => rfl
          | some u => exact absurd ma (r'.dis a (by rw [q]; simp)).2
  | er c ρ' cs' =>
    rw [e] at h
    exact fun ca' Hf' σ' H' cls n r' hc => h Hf' H' cls n.ex (r.cut n r') hc
  | bk ρ' cs' => rw [e] at h; exact h.elim
  | ct ρ' cs' => rw [e] at h; exact h.elim
  | no => rw [e] at h; exact h.elim
/-- a def by its mirror, from any frame where nothing is being shown -/
theorem def_okG (Fd : FunD K x qual params body scope dvs kws f fd) (sc : FnScope N ps scope) {g : G} (m : Nat) (hm : N.length = ps.length + m)
    (hbody : ∀ (cdv : Value) (A : Around) (outer : List Env) (s : Shared) (H : Hp) (E : XK), A.guards = some [] → Room k (A.deeper (PyProof.Rows.envOfC qual scope s.heap.objs.size f cdv)) → Takes (BX P w K mg base N qual scope f cdv A outer s H E) (BW E) →
      PassesOwn (model P w) (BX P w K mg base N qual scope f cdv A outer s H E).A (BX P w K mg base N qual scope f cdv A outer s H E).env (BX P w K mg base N qual scope f cdv A outer s H E).xe → DSs (BX P w K mg base N qual scope f cdv A outer s H E) (BW E) body g) :
    FnG P w K mg base (k + 1) f fd ps (spE mg ps.length (runG m g)) :=
  fnG_ok Fd sc (fun vs H Q E h => h.1) fun cdv A outer s H vs Q E hg hr h => body_run m hm (hbody cdv A outer s H E hg hr takesB passesB) h
end
/-! ### the law's end, where nothing is being shown -/
theorem Rel0 {H : Hp} {a : Addr} {ns : List Int} (rd : Rd H a (.lst (ns.map V.int))) : Rel (fun _ => none) [] [.d (.list (ns.map .int))] [] H ([V.ref a].map some) H := by
  have dd : Dds H (ns.map V.int) (ns.map PyData.int) := dds_ints ns
  refine ⟨fun _ _ h => h, rfl, fun i s e => ?_, fun j o e => (by simp at e), rfl, List.nodup_nil, fun b z => (by simp at z), fun b o z => (by cases z), fun b z => absurd rfl z⟩
  cases i with
  | zero => simp at e; subst e; exact .inr ⟨.ref a, rfl, .lst rd dd⟩
  | succ i => simp at e
theorem law_callG {P : Program} {w : World} {K : PySem.W.Frag} {mg mb : Str → Option Value} {k : Nat} {fa a : Addr} {fd : FuncData} {x : Str} {F : List S → M Rv} {s1 : Shared} {vs : List Value} {ns : List Int}
    (KX : K.In s1.heap) (nsG : s1.heap.Ns mainGlobals mg) (nsB : s1.heap.Ns builtinsNs mb) (bl : ∀ x : Str, x ≠ "__name__" → mb x = bootBuiltins x) (lim : s1.heap.NoLimit) (g0 : s1.gens = #[])
    (ga : s1.heap.get? a = some { cls := .type "list", data := .seq vs.toArray }) (hi : IntsAre vs ns) (hz : ns.length ≤ sizeLine) (hr : Room k callerA) (hno : ∀ b o, K.lookup b = some o → o.cls ≠ .type "list")
    (hF : ∀ base : Heap, K.In base → base.Ns mainGlobals mg → FnG P w K mg base k fa fd [x] (spE mg 1 F)) (hb : ∀ (s : Shared) (u : Value), BindsTo s fd ⟨[u], []⟩ [(x, u)])
    (hl : ∃ cs', F [.d (.list (ns.map .int))] [] = .ok (.d (.bool true)) cs') :
    codeAny (model P w) callerA (.call (.ref fa) ⟨[.ref a], []⟩) (fun r s' => r = .ok (.ret (.bool true)) ∧ OldK s1.heap s'.heap ∧ s'.os = s1.os ∧ AllBare s'.gens) s1 := by
  have hka : K.lookup a = none := by
    cases q : K.lookup a with
    | none => rfl
    | some o =>
      have e := KX a o q
      rw [ga] at e
      cases e
      exact absurd rfl (hno a _ q)
  let obj : Obj := { cls := .type "list", data := .seq vs.toArray }
  let H : Hp := fun b => if b = a then some (.frz obj (.lst (ns.map V.int))) else none
  have Ha : H a = some (.frz obj (.lst (ns.map V.int))) := if_pos rfl
  have Hn : ∀ b, b ≠ a → H b = none := fun b z => if_neg z
  have Hs : ∀ b u, H b = some u → b = a ∧ u = .frz obj (.lst (ns.map V.int)) := fun b u z => by
    by_cases c : b = a
    · subst c; rw [Ha] at z; cases z; exact ⟨rfl, rfl⟩
    · rw [Hn b c] at z; cases z
  have okA : HOk P w H s1.heap := fun b u z => by
    obtain ⟨rfl, rfl⟩ := Hs b u z
    exact ⟨ga, by rw [List.length_map]; exact hz, vs, _, vals_ints hi, ga⟩
  have atB : ∀ {b : Addr} {o : Obj}, s1.heap.get? b = some o → b ≠ a → (hidT s1.heap H).get? b = some o := fun e c => hidT_get e (Hn _ c)
  have nsK : ∀ {b : Addr} {m : Str → Option Value}, s1.heap.Ns b m → (hidT s1.heap H).Ns b m := by
    rintro b m ⟨o, es, ep, e, d, r⟩
    refine ⟨o, es, ep, atB e ?_, d, r⟩
    rintro rfl
    rw [ga] at e; cases e
    cases (show Data.seq vs.toArray _ = Data.dict es ep from d)
  have KB : K.In (hidT s1.heap H) := fun b o e => atB (KX b o e) (by rintro rfl; rw [hka] at e; cases e)
  have md : Mod K mg (hidT s1.heap H) := ⟨KB, nsK nsG, ⟨mb, nsK nsB, bl⟩, lim.imp fun mc z => ⟨nsK z.1, z.2⟩⟩
  have e0 : Env0 P w K mg (hidT s1.heap H) callerA [] s1 H := ⟨rfl, md, fun b o e => of_hidT e, Nat.le_of_eq (hidT_size _ _), trivial, fun b z => (by cases z), okA, .of_eq g0⟩
  obtain ⟨cs', el⟩ := hl
  have sp : spE mg 1 F [.ref a] H (fun v _ => v = .bl true) fun _ _ _ => False := by
    refine ⟨rfl, fun _ => none, [], [], H, _, Rel0 (.inr ⟨obj, Ha⟩), ?_⟩
    rw [el]
    intro Hf' H' v _ _ hv
    have hv' : Dd Hf' v (.bool true) := hv
    cases hv'
    rfl
  refine codeAny_mono ((hF _ KB (nsK nsG)).run callerA [] s1 H ⟨[.ref a], []⟩ [.ref a] [.ref a] _ _ rfl hr e0 (hb s1 (.ref a)) (.cons rfl .nil) sp) fun r s2 h => ?_
  cases r with
  | error e =>
    obtain ⟨_, _, _, _, _, _, _, z⟩ := h
    exact absurd z (by first | exact id | simp)
  | ok fl =>
    cases fl with
    | ret u =>
      obtain ⟨v, H2, h1, h2, un, ok2, rv, q⟩ := h
      subst q
      have eu : u = Value.bool true := rv
      subst eu
      refine ⟨rfl, OldK.of_keep fun b o e => ?_, h1, h2⟩
      by_cases c : b = a
      · subst c
        rw [ga] at e; cases e
        exact (ok2 b _ (un.frzs b obj _ Ha)).1
      · exact un.keep b o e (Hn b c) (by intro z; cases z) (by simp)
    | _ => exact False.elim h
theorem law_endG {l : PySem.W.OpenLaw} {n k : Nat} {q : Program} {loose : List Str} {d : DefRec} {fa : List He.Fa} {fn : List He.DefD} {fb : PySem.W.Frag → Bool} {m : Nat} {XP : (Str → Option Value) → Heap → Prop} {x : Str} {F : PySem.W.Frag → List S → M Rv}
    (hn : l.most = some n) (hn2 : n ≤ sizeLine) (hdf : d.params.defaults = []) (hr : Room k callerA)
    (hF : ∀ (w : World) (mg : Str → Option Value) (h : Heap) (K : PySem.W.Frag), K.In h → He.SaysD fa fn K → fb K = true → h.Ns mainGlobals mg → ∃ fd : FuncData, mg d.name = some (.ref (He.ga K d.name)) ∧ (∀ (s : Shared) (u : Value), BindsTo s fd ⟨[u], []⟩ [(x, u)]) ∧
      ∀ base : Heap, K.In base → base.Ns mainGlobals mg → FnG l.prog w K mg base k (He.ga K d.name) fd [x] (spE mg 1 (F K)))
    (hl : ∀ (K : PySem.W.Frag) (ns : List Int), ns.length ≤ n → ∃ cs', F K [.d (.list (ns.map .int))] [] = .ok (.d (.bool true)) cs') :
    PySem.W.WalkO q loose XP (hookL m fa fn fb).says l.row.toRowW d [] (fun f vs => PySem.call f vs) := by
  refine Att.attach_call hn hdf fun w s0 s1 mg mb ad o pm cd doc a vs ns G Y ho hd hcd hmg hobj hints hlen hg => ?_
  obtain ⟨K, KX, c, cb, hno⟩ := Y
  obtain ⟨fd, hgf, hb, hF'⟩ := hF w mg s1.heap K KX c cb G.T.g
  cases hmg.symm.trans hgf
  exact law_callG KX G.T.g G.T.b G.T.builtins G.T.nolimit hg hobj hints (Nat.le_trans hlen hn2) hr hno hF' hb (hl K ns hlen)
end Dn
namespace Dn
open PySem L2
theorem hu200 {k : Nat} {A : Around} (r : Room k A) : A.units + 200 < cLine := by have := r.un; omega
end Dn

set_option Elab.async false
set_option linter.all false
set_option maxRecDepth 100000
set_option maxHeartbeats 1000000
/-! DnS: what mirrors come to, by simp. -/
namespace Dn
open PySem L2
section
variable {α β : Type} {cs cs' : Store} {ρ : List S} {i j : Nat}
@[simp] theorem ret_ (a : α) : ret a cs = .ok a cs := rfl
@[simp] theorem stuck_ : (stuck : M α) cs = .no := rfl
@[simp] theorem bnd_ (m : M α) (k : α → M β) : bnd m k cs = match m cs with
  | .ok a cs' => k a cs'
  | .er c cs' => .er c cs'
  | .no => .no := rfl
@[simp] theorem ofO_some (a : α) : ofO (some a) cs = .ok a cs := rfl
@[simp] theorem ofO_none : (ofO (none : Option α)) cs = .no := rfl
@[simp] theorem vw_d (x : D) : vw (.d x) cs = some x := rfl
@[simp] theorem vw_cel : vw (.cel j) cs = match cs[j]? with
    | some (.lst xs) => some (.list xs)
    | _ => none := rfl
@[simp] theorem vwM_d (x : D) : vwM (.d x) cs = .ok x cs := rfl
@[simp] theorem vwM_cel : vwM (.cel j) cs = match cs[j]? with
    | some (.lst xs) => .ok (.list xs) cs
    | _ => .no := by
  show (match vw (.cel j) cs with
    | some d => Res.ok d cs
    | none => .no) = _
  rw [vw_cel]
  cases cs[j]? with
  | none => rfl
  | some o => cases o <;> rfl
@[simp] theorem eV_ : eV i ρ = match ρ[i]? with
  | some (.d x) => ret (.d x)
  | some (.cel j) => ret (.cel j)
  | some (.fn a) => ret (.fn a)
  | _ => stuck := rfl
@[simp] theorem eC_ (d : D) : eC d ρ cs = .ok (.d d) cs := rfl
@[simp] theorem eFn_ (a : Addr) : eFn a ρ cs = .ok (.fn a) cs := rfl
@[simp] theorem op2_ (g : D → D → Option β) (fa fb : List S → M S) : op2 g fa fb ρ cs = bnd (fa ρ) (fun a => bnd (fb ρ) fun b => bnd (vwM a) fun x => bnd (vwM b) fun y => ofO (g x y)) cs := rfl
@[simp] theorem op1_ (g : D → Option β) (fa : List S → M S) : op1 g fa ρ cs = bnd (fa ρ) (fun a => bnd (vwM a) fun x => ofO (g x)) cs := rfl
@[simp] theorem eBin_ (g : D → D → Option D) (fa fb : List S → M S) : eBin g fa fb ρ cs = bnd (op2 g fa fb ρ) (fun d => ret (.d d)) cs := rfl
@[simp] theorem eCmp_ (g : D → D → Option Bool) (fa fb : List S → M S) : eCmp g fa fb ρ cs = bnd (op2 g fa fb ρ) (fun b => ret (.d (.bool b))) cs := rfl
@[simp] theorem eIsN_ (fa : List S → M S) : eIsN fa ρ cs = bnd (op1 isnD fa ρ) (fun b => ret (.d (.bool b))) cs := rfl
@[simp] theorem eIsNN_ (fa : List S → M S) : eIsNN fa ρ cs = bnd (op1 isnD fa ρ) (fun b => ret (.d (.bool (!b)))) cs := rfl
@[simp] theorem tT_ (fa : List S → M S) : tT fa ρ cs = op1 truD fa ρ cs := rfl
@[simp] theorem tNotM_ (f : List S → M Bool) : tNotM f ρ cs = bnd (f ρ) (fun b => ret (!b)) cs := rfl
@[simp] theorem tAndM_ (f g : List S → M Bool) : tAndM f g ρ cs = bnd (f ρ) (fun b => if b = true then g ρ else ret false) cs := rfl
@[simp] theorem tOrM_ (f g : List S → M Bool) : tOrM f g ρ cs = bnd (f ρ) (fun b => if b = true then ret true else g ρ) cs := rfl
@[simp] theorem eAndM_ (f g : List S → M S) : eAndM f g ρ cs = bnd (f ρ) (fun a => bnd (vwM a) fun x => bnd (ofO (truD x)) fun b => if b = true then g ρ else ret a) cs := rfl
@[simp] theorem eOrM_ (f g : List S → M S) : eOrM f g ρ cs = bnd (f ρ) (fun a => bnd (vwM a) fun x => bnd (ofO (truD x)) fun b => if b = true then ret a else g ρ) cs := rfl
@[simp] theorem eNotM_ (f : List S → M S) : eNotM f ρ cs = bnd (op1 truD f ρ) (fun b => ret (.d (.bool (!b)))) cs := rfl
@[simp] theorem eNeg_ (f : List S → M S) : eNeg f ρ cs = bnd (op1 negD f ρ) (fun d => ret (.d d)) cs := rfl
@[simp] theorem eIf_ (t : List S → M Bool) (f g : List S → M S) : eIf t f g ρ cs = bnd (t ρ) (fun b => if b = true then f ρ else g ρ) cs := rfl
@[simp] theorem tChn_ (g g' : D → D → Option Bool) (fa fb fc : List S → M S) : tChn g g' fa fb fc ρ cs = bnd (fa ρ) (fun a => bnd (fb ρ) fun b => bnd (vwM a) fun x => bnd (vwM b) fun y => bnd (ofO (g x y)) fun k => if k = true then bnd (fc ρ) fun c => bnd (vwM b) fun y' => bnd (vwM c) fun z => ofO (g' y' z) else ret false) cs := rfl
@[simp] theorem eChn_ (g g' : D → D → Option Bool) (fa fb fc : List S → M S) : eChn g g' fa fb fc ρ cs = bnd (tChn g g' fa fb fc ρ) (fun b => ret (.d (.bool b))) cs := rfl
@[simp] theorem aNil_ : aNil ρ cs = .ok [] cs := rfl
@[simp] theorem aCons_ (f : List S → M S) (g : List S → M (List S)) : aCons f g ρ cs = bnd (f ρ) (fun a => bnd (g ρ) fun as => ret (a :: as)) cs := rfl
@[simp] theorem asD_nil : asD [] = some [] := rfl
@[simp] theorem asD_d (x : D) (r : List S) : asD (.d x :: r) = (asD r).map (x :: ·) := rfl
@[simp] theorem eTup_ (g : List S → M (List S)) : eTup g ρ cs = bnd (g ρ) (fun as => bnd (ofO (asD as)) fun xs => if xs.length ≤ sizeLine then ret (.d (.tuple xs)) else stuck) cs := rfl
@[simp] theorem eLst_ (g : List S → M (List S)) : eLst g ρ cs = bnd (g ρ) (fun as => bnd (ofO (asD as)) fun xs => if xs.length ≤ sizeLine then ret (.own (.lst xs)) else stuck) cs := rfl
@[simp] theorem frz_d (x : D) : frz (.d x) = ret (.d x) := rfl
@[simp] theorem frz_own (xs : List D) : frz (.own (.lst xs)) = ret (.d (.list xs)) := rfl
@[simp] theorem frz_cel : frz (.cel j) = ret (.cel j) := rfl
@[simp] theorem eFrz_ (f : List S → M Rv) : eFrz f ρ cs = bnd (f ρ) frz cs := rfl
@[simp] theorem sRv_d (x : D) : sRv (.d x) = ret (.d x) := rfl
@[simp] theorem sRv_cel : sRv (.cel j) = ret (.cel j) := rfl
@[simp] theorem eRv_ (f : List S → M S) : eRv f ρ cs = bnd (f ρ) sRv cs := rfl
@[simp] theorem oNone_ : oNone ρ cs = .ok none cs := rfl
@[simp] theorem oSome_ (f : List S → M S) : oSome f ρ cs = bnd (f ρ) (fun a => match a with
  | .d (.int i) => ret (some i)
  | _ => stuck) cs := rfl
@[simp] theorem eSl_ (f : List S → M S) (l h : List S → M (Option Int)) : eSl f l h ρ cs = bnd (f ρ) (fun a => bnd (l ρ) fun lo => bnd (h ρ) fun hi => bnd (vwM a) fun x => bnd (ofO (slD x lo hi)) fun d => ret (.d d)) cs := rfl
@[simp] theorem vws_nil : vws [] cs = some [] := rfl
theorem vws_cons (s : S) (r : List S) : vws (s :: r) cs = match vw s cs, vws r cs with
    | some d, some ds => some (d :: ds)
    | _, _ => none := rfl
@[simp] theorem vws_d (x : D) (r : List S) : vws (.d x :: r) cs = (vws r cs).map (x :: ·) := by
  rw [vws_cons, vw_d]
  cases vws r cs <;> rfl
theorem vws_cel {xs : List D} (r : List S) (h : cs[j]? = some (.lst xs)) : vws (.cel j :: r) cs = (vws r cs).map (.list xs :: ·) := by
  rw [vws_cons, vw_cel, h]
  cases vws r cs <;> rfl
@[simp] theorem vwsM_nil : vwsM [] cs = .ok [] cs := rfl
@[simp] theorem vwsM_d (x : D) (r : List S) : vwsM (.d x :: r) cs = bnd (vwsM r) (fun ds => ret (x :: ds)) cs := by
  unfold vwsM bnd ret
  simp only []
  rw [vws_d]
  cases vws r cs <;> rfl
theorem vwsM_cel {xs : List D} (r : List S) (h : cs[j]? = some (.lst xs)) : vwsM (.cel j :: r) cs = bnd (vwsM r) (fun ds => ret (.list xs :: ds)) cs := by
  unfold vwsM bnd ret
  simp only []
  rw [vws_cel r h]
  cases vws r cs <;> rfl
@[simp] theorem eCd_ (g : List D → Option D) (f : List S → M (List S)) : eCd g f ρ cs = bnd (f ρ) (fun ss => bnd (vwsM ss) fun ds => bnd (ofO (g ds)) fun d => ret (.d d)) cs := rfl
@[simp] theorem eIsa_ (T : String) (fa : List S → M S) : eIsa T fa ρ cs = bnd (op1 (fun d => some (isaD T d)) fa ρ) (fun b => ret (.d (.bool b))) cs := rfl
@[simp] theorem celM_lst {xs : List D} (h : cs[j]? = some (.lst xs)) : celM (.cel j) cs = .ok (j, xs) cs := by
  unfold celM; simp only [h]
@[simp] theorem putM_ (o : OC) : putM j o cs = .ok () (cs.set j o) := rfl
@[simp] theorem fin__ (g : List D → List D → Option (D × List D)) (s : S) (ss : List S) : fin_ g s ss cs = bnd (celM s) (fun p => bnd (ofO (asD ss)) fun ds => bnd (ofO (if p.2.length ≤ sizeLine then g p.2 ds else none)) fun q => bnd (putM p.1 (.lst q.2)) fun _ => ret (.d q.1)) cs := rfl
@[simp] theorem eMt_ (g : List D → List D → Option (D × List D)) (fo : List S → M S) (fa : List S → M (List S)) : eMt g fo fa ρ cs = bnd (fo ρ) (fun s => bnd (celM s) fun _ => bnd (fa ρ) fun ss => fin_ g s ss) cs := rfl
@[simp] theorem eMt0_ (g : List D → List D → Option (D × List D)) (fo : List S → M S) : eMt0 g fo ρ cs = bnd (fo ρ) (fun s => fin_ g s []) cs := rfl
@[simp] theorem appG_ (xs : List D) (d : D) : appG xs [d] = if xs.length < sizeLine then some (.none, xs ++ [d]) else none := rfl
@[simp] theorem extG_ (xs ys : List D) : extG xs [.list ys] = if xs.length + ys.length ≤ sizeLine then some (.none, xs ++ ys) else none := rfl
@[simp] theorem popG_ (xs : List D) (d : D) : popG (xs ++ [d]) [] = some (d, xs) := by
  unfold popG
  simp
/-! statements -/
@[simp] theorem stp_ (m : M α) (k : α → Store → Out) : stp m k ρ cs = match m cs with
  | .ok a cs' => k a cs'
  | .er c cs' => .er c ρ cs'
  | .no => .no := rfl
@[simp] theorem gNil_ : gNil ρ cs = .nx ρ cs := rfl
@[simp] theorem gSeq_ (g h : G) : gSeq g h ρ cs = match g ρ cs with
  | .nx ρ' cs' => h ρ' cs'
  | o => o := rfl
@[simp] theorem sSet_ (f : List S → M S) : sSet i f ρ cs = stp (f ρ) (fun s cs => .nx (ρ.set i s) cs) ρ cs := rfl
@[simp] theorem sNew_ (f : List S → M Rv) : sNew i f ρ cs = stp (f ρ) (fun r cs => match r with
  | .own o => .nx (ρ.set i (.cel cs.length)) (cs ++ [o])
  | .d x => .nx (ρ.set i (.d x)) cs
  | .cel j => .nx (ρ.set i (.cel j)) cs) ρ cs := rfl
@[simp] theorem sRet_ (f : List S → M Rv) : sRet f ρ cs = stp (f ρ) (fun r cs => .rt r cs) ρ cs := rfl
@[simp] theorem sRetN_ : sRetN ρ cs = .rt (.d .none) cs := rfl
@[simp] theorem sExp_ (f : List S → M S) : sExp f ρ cs = stp (f ρ) (fun _ cs => .nx ρ cs) ρ cs := rfl
@[simp] theorem sIf_ (t : List S → M Bool) (g h : G) : sIf t g h ρ cs = stp (t ρ) (fun b cs => if b = true then g ρ cs else h ρ cs) ρ cs := rfl
@[simp] theorem sErr_ (c : Str) : sErr c ρ cs = .er c ρ cs := rfl
@[simp] theorem gPass_ : gPass ρ cs = .nx ρ cs := rfl
@[simp] theorem gBrk_ : gBrk ρ cs = .bk ρ cs := rfl
@[simp] theorem gCon_ : gCon ρ cs = .ct ρ cs := rfl
@[simp] theorem gFor_nil (tg : D → List S → Option (List S)) (body : G) : gFor tg body [] ρ cs = .nx ρ cs := rfl
theorem gFor_cons (tg : D → List S → Option (List S)) (body : G) (x : D) (xs : List D) : gFor tg body (x :: xs) ρ cs = match tg x ρ with
    | none => .no
    | some ρ1 => match body ρ1 cs with
      | .nx ρ' cs' => gFor tg body xs ρ' cs'
      | .ct ρ' cs' => gFor tg body xs ρ' cs'
      | .bk ρ' cs' => .nx ρ' cs'
      | .rt r cs' => .rt r cs'
      | .er c ρ' cs' => .er c ρ' cs'
      | .no => .no := rfl
@[simp] theorem gtN_ (d : D) : gtN i d ρ = some (ρ.set i (.d d)) := rfl
@[simp] theorem sFor_ (tg : D → List S → Option (List S)) (it : List S → M (List D)) (body : G) : sFor tg it body ρ cs = stp (it ρ) (fun xs cs => gFor tg body xs ρ cs) ρ cs := rfl
@[simp] theorem iSeq_ (f : List S → M S) : iSeq f ρ cs = bnd (f ρ) (fun s => match s with
  | .d (.list xs) => ret xs
  | _ => stuck) cs := rfl
@[simp] theorem iTupM_ (f : List S → M S) : iTupM f ρ cs = bnd (f ρ) (fun s => match s with
  | .d (.tuple xs) => ret xs
  | _ => stuck) cs := rfl
@[simp] theorem iRng_ (f : List S → M S) : iRng f ρ cs = bnd (f ρ) (fun s => match s with
  | .d (.int j) => if -(2 ^ 62) ≤ j ∧ j < 2 ^ 62 then ret (rngD 0 j.toNat) else stuck
  | _ => stuck) cs := rfl
theorem gWhile_succ (t : List S → M Bool) (body : G) (n : Nat) : gWhile t body (n + 1) ρ cs = stp (t ρ) (fun b cs => if b = true then (match body ρ cs with
      | .nx ρ' cs' => gWhile t body n ρ' cs'
      | .ct ρ' cs' => gWhile t body n ρ' cs'
      | .bk ρ' cs' => .nx ρ' cs'
      | .rt r cs' => .rt r cs'
      | .er c ρ' cs' => .er c ρ' cs'
      | .no => .no) else .nx ρ cs) ρ cs := rfl
@[simp] theorem sSub_ (fo fi fe : List S → M S) : sSub fo fi fe ρ cs = stp (bnd (fe ρ) fun e => bnd (fo ρ) fun o => bnd (fi ρ) fun i => bnd (celM o) fun p => match e, i with
  | .d x, .d (.int k) => bnd (ofO (ixN p.2.length k)) fun j => putM p.1 (.lst (p.2.set j x))
  | _, _ => stuck) (fun _ cs => .nx ρ cs) ρ cs := rfl
@[simp] theorem runG_ (m : Nat) (g : G) (ss : List S) : runG m g ss cs = fin cs.length (g (ss ++ List.replicate m .no) cs) := rfl
@[simp] theorem fin_nx (n : Nat) : fin n (.nx ρ cs) = .ok (.d .none) (cs.take n) := rfl
@[simp] theorem fin_d (n : Nat) (x : D) : fin n (.rt (.d x) cs) = .ok (.d x) (cs.take n) := rfl
@[simp] theorem fin_own (n : Nat) (o : OC) : fin n (.rt (.own o) cs) = .ok (.own o) (cs.take n) := rfl
@[simp] theorem fin_er (n : Nat) (c : Str) : fin n (.er c ρ cs) = .er c (cs.take n) := rfl
@[simp] theorem fin_no (n : Nat) : fin n .no = .no := rfl
theorem fin_cel (n : Nat) : fin n (.rt (.cel j) cs) = if j < n then .ok (.cel j) (cs.take n) else match cs[j]? with
    | some o => .ok (.own o) (cs.take n)
    | none => .no := rfl
/-! calls -/
@[simp] theorem noCel_nil : noCel [] = true := rfl
@[simp] theorem noCel_d (x : D) (r : List S) : noCel (.d x :: r) = noCel r := rfl
@[simp] theorem noCel_fn (a : Addr) (r : List S) : noCel (.fn a :: r) = noCel r := rfl
@[simp] theorem callP_ (F : List S → M Rv) (ss : List S) : callP F ss cs = if noCel ss = true then (match F ss [] with
  | .ok (.d x) _ => .ok (.d x) cs
  | .ok (.own o) _ => .ok (.own o) cs
  | .ok (.cel _) _ => .no
  | .er c _ => .er c cs
  | .no => .no) else .no := rfl
@[simp] theorem callC_ (F : List S → M Rv) (r : List S) : callC F (.cel j :: r) cs = if noCel r = true then (match cs[j]? with
    | some o => match F (.cel 0 :: r) [o] with
      | .ok (.d x) [o'] => .ok (.d x) (cs.set j o')
      | .ok (.own u) [o'] => .ok (.own u) (cs.set j o')
      | .ok (.cel 0) [o'] => .ok (.cel j) (cs.set j o')
      | .er c [o'] => .er c (cs.set j o')
      | _ => .no
    | none => .no) else .no := rfl
@[simp] theorem eCall_ (F : List S → M Rv) (g : List S → M (List S)) : eCall F g ρ cs = bnd (g ρ) (callP F) cs := rfl
@[simp] theorem eCallC_ (F : List S → M Rv) (g : List S → M (List S)) : eCallC F g ρ cs = bnd (g ρ) (callC F) cs := rfl
@[simp] theorem eCallL_ (a : Addr) (F : List S → M Rv) (g : List S → M (List S)) : eCallL i a F g ρ cs = match ρ[i]? with
  | some (.fn b) => if b = a then bnd (g ρ) (fun ss cs => match callP F ss cs with
    | .er _ _ => .no
    | o => o) cs else .no
  | _ => .no := rfl
/-! data -/
@[simp] theorem addD_int (x y : Int) : addD (.int x) (.int y) = some (.int (x + y)) := rfl
@[simp] theorem subD_int (x y : Int) : subD (.int x) (.int y) = some (.int (x - y)) := rfl
@[simp] theorem mulD_int (x y : Int) : mulD (.int x) (.int y) = if x.natAbs.log2 + y.natAbs.log2 < 1000000 then some (.int (x * y)) else none := rfl
@[simp] theorem fdivD_int (x y : Int) : fdivD (.int x) (.int y) = if 0 < y ∧ y.natAbs.log2 < 9000 then some (.int (x / y)) else none := rfl
@[simp] theorem modD_int (x y : Int) : modD (.int x) (.int y) = if 0 < y then some (.int (x % y)) else none := rfl
@[simp] theorem powD_int (x y : Int) : powD (.int x) (.int y) = if 0 ≤ y ∧ y ≤ 1000000 ∧ x.natAbs < 2 ^ 64 then some (.int (x ^ y.toNat)) else none := rfl
@[simp] theorem negD_int (x : Int) : negD (.int x) = some (.int (-x)) := rfl
@[simp] theorem ltD_int (x y : Int) : ltD (.int x) (.int y) = some (decide (x < y)) := rfl
@[simp] theorem leD_int (x y : Int) : leD (.int x) (.int y) = some (decide (x ≤ y)) := rfl
@[simp] theorem gtD_int (x y : Int) : gtD (.int x) (.int y) = some (decide (y < x)) := rfl
@[simp] theorem geD_int (x y : Int) : geD (.int x) (.int y) = some (decide (y ≤ x)) := rfl
@[simp] theorem eqD_int (x y : Int) : eqD (.int x) (.int y) = some (x == y) := by simp [eqD, scalD, PyData.eqv]
@[simp] theorem eqD_str (x y : Str) : eqD (.str x) (.str y) = some (x == y) := by simp [eqD, scalD, PyData.eqv]
@[simp] theorem eqD_bool (x y : Bool) : eqD (.bool x) (.bool y) = some (x == y) := by simp [eqD, scalD, PyData.eqv]
@[simp] theorem eqD_str_int (x : Str) (y : Int) : eqD (.str x) (.int y) = some false := by simp [eqD, scalD, PyData.eqv]
@[simp] theorem eqD_int_str (x : Str) (y : Int) : eqD (.int y) (.str x) = some false := by simp [eqD, scalD, PyData.eqv]
@[simp] theorem neD_int (x y : Int) : neD (.int x) (.int y) = some (!(x == y)) := by simp [neD]
@[simp] theorem neD_str (x y : Str) : neD (.str x) (.str y) = some (!(x == y)) := by simp [neD]
@[simp] theorem isnD_none : isnD .none = some true := rfl
@[simp] theorem isnD_bool (b : Bool) : isnD (.bool b) = some false := rfl
@[simp] theorem isnD_int (b : Int) : isnD (.int b) = some false := rfl
@[simp] theorem isnD_str (b : Str) : isnD (.str b) = some false := rfl
@[simp] theorem isnD_list (b : List D) : isnD (.list b) = some false := rfl
@[simp] theorem isnD_tuple (b : List D) : isnD (.tuple b) = some false := rfl
@[simp] theorem truD_bool (b : Bool) : truD (.bool b) = some b := rfl
@[simp] theorem truD_none : truD .none = some false := rfl
@[simp] theorem truD_list (b : List D) : truD (.list b) = some (!b.isEmpty) := rfl
@[simp] theorem truD_tuple (b : List D) : truD (.tuple b) = some (!b.isEmpty) := rfl
@[simp] theorem lenG_list (b : List D) : lenG [.list b] = some (.int b.length) := rfl
@[simp] theorem lenG_tuple (b : List D) : lenG [.tuple b] = some (.int b.length) := rfl
@[simp] theorem minG_ (x y : Int) : minG [.int x, .int y] = some (.int (if y < x then y else x)) := rfl
@[simp] theorem maxG_ (x y : Int) : maxG [.int x, .int y] = some (.int (if y > x then y else x)) := rfl
@[simp] theorem intG_int (x : Int) : intG [.int x] = some (.int x) := rfl
@[simp] theorem intG_bool (x : Bool) : intG [.bool x] = some (.int (if x then 1 else 0)) := rfl
@[simp] theorem listG_list (x : List D) : listG [.list x] = some (.list x) := rfl
@[simp] theorem listG_tuple (x : List D) : listG [.tuple x] = some (.list x) := rfl
@[simp] theorem tupleG_list (x : List D) : tupleG [.list x] = some (.tuple x) := rfl
@[simp] theorem tupleG_tuple (x : List D) : tupleG [.tuple x] = some (.tuple x) := rfl
@[simp] theorem ixD_list (xs : List D) (k : Int) : ixD (.list xs) (.int k) = atI xs k := rfl
@[simp] theorem ixD_tuple (xs : List D) (k : Int) : ixD (.tuple xs) (.int k) = atI xs k := rfl
@[simp] theorem slD_list (xs : List D) (lo hi : Option Int) : slD (.list xs) lo hi = some (.list (cutD xs lo hi)) := rfl
@[simp] theorem slD_tuple (xs : List D) (lo hi : Option Int) : slD (.tuple xs) lo hi = some (.tuple (cutD xs lo hi)) := rfl
/-- an item at a place -/
theorem atI_of {α : Type} {xs : List α} {k : Int} {n : Nat} {x : α} (hk : k = (n : Int)) (h : xs[n]? = some x) : atI xs k = some x := by
  subst hk; exact atI_nat h
@[simp] theorem atI0 {α : Type} (x : α) (xs : List α) : atI (x :: xs) 0 = some x := atI_of (n := 0) rfl rfl
@[simp] theorem atI1 {α : Type} (x y : α) (xs : List α) : atI (x :: y :: xs) 1 = some y := atI_of (n := 1) rfl rfl
@[simp] theorem atI2 {α : Type} (x y z : α) (xs : List α) : atI (x :: y :: z :: xs) 2 = some z := atI_of (n := 2) rfl rfl
@[simp] theorem atI3 {α : Type} (x y z u : α) (xs : List α) : atI (x :: y :: z :: u :: xs) 3 = some u := atI_of (n := 3) rfl rfl
@[simp] theorem atI4 {α : Type} (x y z u v : α) (xs : List α) : atI (x :: y :: z :: u :: v :: xs) 4 = some v := atI_of (n := 4) rfl rfl
@[simp] theorem atI5 {α : Type} (x y z u v w : α) (xs : List α) : atI (x :: y :: z :: u :: v :: w :: xs) 5 = some w := atI_of (n := 5) rfl rfl
@[simp] theorem atI6 {α : Type} (x y z u v w p : α) (xs : List α) : atI (x :: y :: z :: u :: v :: w :: p :: xs) 6 = some p := atI_of (n := 6) rfl rfl
/-- xs[k:] -/
theorem cutD_from (xs : List D) (k : Nat) : cutD xs (some (k : Int)) none = xs.drop k := by
  unfold cutD
  rw [HT.sIx_nat, HT.sIx_none, List.take_of_length_le (by simp)]
  by_cases h : k ≤ xs.length
  · rw [Nat.min_eq_left h]
  · rw [Nat.min_eq_right (by omega), List.drop_of_length_le (Nat.le_refl _), List.drop_of_length_le (by omega)]
@[simp] theorem cutD1 (xs : List D) : cutD xs (some 1) none = xs.drop 1 := cutD_from xs 1
@[simp] theorem cutD2 (xs : List D) : cutD xs (some 2) none = xs.drop 2 := cutD_from xs 2
@[simp] theorem cutD3 (xs : List D) : cutD xs (some 3) none = xs.drop 3 := cutD_from xs 3
theorem size_ok {n : Nat} (h : n ≤ 16000000) : n ≤ sizeLine := by rw [sizeLine_eq]; omega
theorem size_lt {n : Nat} (h : n < 16000000) : n < sizeLine := by rw [sizeLine_eq]; omega
@[simp] theorem size0 : (0 : Nat) ≤ sizeLine := Nat.zero_le _
@[simp] theorem size1 : (1 : Nat) ≤ sizeLine := size_ok (by omega)
@[simp] theorem size2 : (2 : Nat) ≤ sizeLine := size_ok (by omega)
@[simp] theorem size3 : (3 : Nat) ≤ sizeLine := size_ok (by omega)
@[simp] theorem size4 : (4 : Nat) ≤ sizeLine := size_ok (by omega)
@[simp] theorem size5 : (5 : Nat) ≤ sizeLine := size_ok (by omega)
@[simp] theorem size6 : (6 : Nat) ≤ sizeLine := size_ok (by omega)
@[simp] theorem size7 : (7 : Nat) ≤ sizeLine := size_ok (by omega)
@[simp] theorem size8 : (8 : Nat) ≤ sizeLine := size_ok (by omega)
@[simp] theorem size9 : (9 : Nat) ≤ sizeLine := size_ok (by omega)
@[simp] theorem size10 : (10 : Nat) ≤ sizeLine := size_ok (by omega)
@[simp] theorem size11 : (11 : Nat) ≤ sizeLine := size_ok (by omega)
@[simp] theorem size12 : (12 : Nat) ≤ sizeLine := size_ok (by omega)
@[simp] theorem size13 : (13 : Nat) ≤ sizeLine := size_ok (by omega)
@[simp] theorem size14 : (14 : Nat) ≤ sizeLine := size_ok (by omega)
@[simp] theorem size15 : (15 : Nat) ≤ sizeLine := size_ok (by omega)
@[simp] theorem size16 : (16 : Nat) ≤ sizeLine := size_ok (by omega)
@[simp] theorem size17 : (17 : Nat) ≤ sizeLine := size_ok (by omega)
@[simp] theorem size18 : (18 : Nat) ≤ sizeLine := size_ok (by omega)
@[simp] theorem size19 : (19 : Nat) ≤ sizeLine := size_ok (by omega)
@[simp] theorem size20 : (20 : Nat) ≤ sizeLine := size_ok (by omega)
@[simp] theorem size21 : (21 : Nat) ≤ sizeLine := size_ok (by omega)
@[simp] theorem size22 : (22 : Nat) ≤ sizeLine := size_ok (by omega)
@[simp] theorem size23 : (23 : Nat) ≤ sizeLine := size_ok (by omega)
@[simp] theorem size24 : (24 : Nat) ≤ sizeLine := size_ok (by omega)
@[simp] theorem size25 : (25 : Nat) ≤ sizeLine := size_ok (by omega)
@[simp] theorem size26 : (26 : Nat) ≤ sizeLine := size_ok (by omega)
@[simp] theorem size27 : (27 : Nat) ≤ sizeLine := size_ok (by omega)
@[simp] theorem size28 : (28 : Nat) ≤ sizeLine := size_ok (by omega)
@[simp] theorem size29 : (29 : Nat) ≤ sizeLine := size_ok (by omega)
@[simp] theorem size30 : (30 : Nat) ≤ sizeLine := size_ok (by omega)
@[simp] theorem size31 : (31 : Nat) ≤ sizeLine := size_ok (by omega)
@[simp] theorem size32 : (32 : Nat) ≤ sizeLine := size_ok (by omega)
@[simp] theorem size33 : (33 : Nat) ≤ sizeLine := size_ok (by omega)
@[simp] theorem size34 : (34 : Nat) ≤ sizeLine := size_ok (by omega)
@[simp] theorem size35 : (35 : Nat) ≤ sizeLine := size_ok (by omega)
@[simp] theorem size36 : (36 : Nat) ≤ sizeLine := size_ok (by omega)
@[simp] theorem size37 : (37 : Nat) ≤ sizeLine := size_ok (by omega)
@[simp] theorem size38 : (38 : Nat) ≤ sizeLine := size_ok (by omega)
@[simp] theorem size39 : (39 : Nat) ≤ sizeLine := size_ok (by omega)
@[simp] theorem size40 : (40 : Nat) ≤ sizeLine := size_ok (by omega)
@[simp] theorem sizeLt0 : (0 : Nat) < sizeLine := size_lt (by omega)
@[simp] theorem flatD_none : flatD .none = true := rfl
@[simp] theorem flatD_bool (b : Bool) : flatD (.bool b) = true := rfl
@[simp] theorem flatD_int (b : Int) : flatD (.int b) = true := rfl
@[simp] theorem flatD_str (b : Str) : flatD (.str b) = true := rfl
@[simp] theorem eqv_str (a b : Str) : PyData.eqv (.str a) (.str b) = (a == b) := by simp [PyData.eqv]
@[simp] theorem eqv_int (a b : Int) : PyData.eqv (.int a) (.int b) = (a == b) := by simp [PyData.eqv]
@[simp] theorem eqv_int_str (a : Int) (b : Str) : PyData.eqv (.int a) (.str b) = false := by simp [PyData.eqv]
@[simp] theorem eqv_str_int (a : Int) (b : Str) : PyData.eqv (.str b) (.int a) = false := by simp [PyData.eqv]
theorem inD_tup (x : D) (ys : List D) : inD x (.tuple ys) = if (flatD x && ys.all flatD) = true then some (ys.any fun y => PyData.eqv y x) else none := rfl
theorem inD_lst (x : D) (ys : List D) : inD x (.list ys) = if (flatD x && ys.all flatD || (SeqAt.shaped x && SeqAt.shaped (.list ys))) = true then some (ys.any fun y => PyData.eqv y x) else none := rfl
@[simp] theorem inD_str (x : Str) (ys : List D) (h : ys.all flatD = true) : inD (.str x) (.tuple ys) = some (ys.any fun y => PyData.eqv y (.str x)) := by
  rw [inD_tup, h]; rfl
@[simp] theorem inD_int (x : Int) (ys : List D) (h : ys.all flatD = true) : inD (.int x) (.tuple ys) = some (ys.any fun y => PyData.eqv y (.int x)) := by
  rw [inD_tup, h]; rfl
@[simp] theorem inD_strL (x : Str) (ys : List D) (h : ys.all flatD = true) : inD (.str x) (.list ys) = some (ys.any fun y => PyData.eqv y (.str x)) := by
  rw [inD_lst, h]; rfl
@[simp] theorem inD_intL (x : Int) (ys : List D) (h : ys.all flatD = true) : inD (.int x) (.list ys) = some (ys.any fun y => PyData.eqv y (.int x)) := by
  rw [inD_lst, h]; rfl
@[simp] theorem isa_int_int (x : Int) : isaD "int" (.int x) = true := rfl
@[simp] theorem isa_bool_int (x : Int) : isaD "bool" (.int x) = false := rfl
@[simp] theorem isa_str_int (x : Int) : isaD "str" (.int x) = false := rfl
@[simp] theorem isa_list_int (x : Int) : isaD "list" (.int x) = false := rfl
@[simp] theorem isa_tuple_int (x : Int) : isaD "tuple" (.int x) = false := rfl
@[simp] theorem isa_int_bool (x : Bool) : isaD "int" (.bool x) = true := rfl
@[simp] theorem isa_bool_bool (x : Bool) : isaD "bool" (.bool x) = true := rfl
@[simp] theorem isa_str_bool (x : Bool) : isaD "str" (.bool x) = false := rfl
@[simp] theorem isa_list_bool (x : Bool) : isaD "list" (.bool x) = false := rfl
@[simp] theorem isa_tuple_bool (x : Bool) : isaD "tuple" (.bool x) = false := rfl
@[simp] theorem isa_int_str (x : Str) : isaD "int" (.str x) = false := rfl
@[simp] theorem isa_bool_str (x : Str) : isaD "bool" (.str x) = false := rfl
@[simp] theorem isa_str_str (x : Str) : isaD "str" (.str x) = true := rfl
@[simp] theorem isa_list_str (x : Str) : isaD "list" (.str x) = false := rfl
@[simp] theorem isa_tuple_str (x : Str) : isaD "tuple" (.str x) = false := rfl
@[simp] theorem isa_int_list (x : List D) : isaD "int" (.list x) = false := rfl
@[simp] theorem isa_bool_list (x : List D) : isaD "bool" (.list x) = false := rfl
@[simp] theorem isa_str_list (x : List D) : isaD "str" (.list x) = false := rfl
@[simp] theorem isa_list_list (x : List D) : isaD "list" (.list x) = true := rfl
@[simp] theorem isa_tuple_list (x : List D) : isaD "tuple" (.list x) = false := rfl
@[simp] theorem isa_int_tuple (x : List D) : isaD "int" (.tuple x) = false := rfl
@[simp] theorem isa_bool_tuple (x : List D) : isaD "bool" (.tuple x) = false := rfl
@[simp] theorem isa_str_tuple (x : List D) : isaD "str" (.tuple x) = false := rfl
@[simp] theorem isa_list_tuple (x : List D) : isaD "list" (.tuple x) = false := rfl
@[simp] theorem isa_tuple_tuple (x : List D) : isaD "tuple" (.tuple x) = true := rfl
@[simp] theorem isa_none (t : String) (h : (t == "NoneType") = false) : isaD t .none = false := h
@[simp] theorem strOk_lit (s : String) : PyData.strOk (Str.ofString s) = true := by
  rw [Str.ofString_eq_toList]
  simp only [PyData.strOk, List.all_toArray, List.all_eq_true, List.mem_map, decide_eq_true_eq]
  rintro n ⟨c, _, rfl⟩
  have h := c.valid
  unfold UInt32.isValidChar Nat.isValidChar at h
  show c.val.toNat < _
  omega
@[simp] theorem shaped_str (x : Str) : SeqAt.shaped (.str x) = PyData.strOk x := by simp [SeqAt.shaped, PyData.canLay0, PyData.depth]
@[simp] theorem shaped_int (x : Int) : SeqAt.shaped (.int x) = true := by simp [SeqAt.shaped, PyData.canLay0, PyData.depth]
@[simp] theorem shaped_bool (x : Bool) : SeqAt.shaped (.bool x) = true := by simp [SeqAt.shaped, PyData.canLay0, PyData.depth]
@[simp] theorem shaped_none : SeqAt.shaped .none = true := by simp [SeqAt.shaped, PyData.canLay0, PyData.depth]
theorem eqD_sh {a b : D} (ha : SeqAt.shaped a = true) (hb : SeqAt.shaped b = true) : eqD a b = some (PyData.eqv a b) := by
  unfold eqD; rw [ha, hb]; simp
@[simp] theorem eqD_tuple_str (x : List D) (y : Str) (ha : SeqAt.shaped (.tuple x) = true) (hb : PyData.strOk y = true) : eqD (.tuple x) (.str y) = some false := by
  rw [eqD_sh ha (by rw [shaped_str]; exact hb)]; simp [PyData.eqv]
@[simp] theorem eqD_list_str (x : List D) (y : Str) (ha : SeqAt.shaped (.list x) = true) (hb : PyData.strOk y = true) : eqD (.list x) (.str y) = some false := by
  rw [eqD_sh ha (by rw [shaped_str]; exact hb)]; simp [PyData.eqv]
@[simp] theorem eqD_none_int (x : Int) : eqD .none (.int x) = some false := by simp [eqD, scalD, PyData.eqv]
@[simp] theorem eqD_int_none (x : Int) : eqD (.int x) .none = some false := by simp [eqD, scalD, PyData.eqv]
@[simp] theorem eqD_none_str (x : Str) : eqD .none (.str x) = some false := by simp [eqD, scalD, PyData.eqv]
@[simp] theorem eqD_str_none (x : Str) : eqD (.str x) .none = some false := by simp [eqD, scalD, PyData.eqv]
@[simp] theorem eqD_none_none : eqD .none .none = some true := by simp [eqD, scalD, PyData.eqv]
theorem log2_lt {x : Int} {k : Nat} (hk : 0 < k) (h : x.natAbs < 2 ^ k) : x.natAbs.log2 < k := PySem.Flt.log2_lt_of hk h
/-! comprehensions, walks, tries -/
@[simp] theorem noEr_ (m : M α) : noEr m cs = match m cs with
  | .ok a cs' => .ok a cs'
  | _ => .no := by
  unfold noEr
  cases m cs <;> rfl
@[simp] theorem eLc_ (it : List S → M (List D)) (tg : D → List S → Option (List S)) (t : List S → M Bool) (f : List S → M S) (vs : List Nat) : eLc it tg t f vs ρ cs = bnd (it ρ) (fun xs => lcL tg t f (wipeS ρ vs) xs []) cs := rfl
@[simp] theorem lcL_nil (tg : D → List S → Option (List S)) (t : List S → M Bool) (f : List S → M S) (acc : List D) : lcL tg t f ρ [] acc cs = .ok (.own (.lst acc)) cs := rfl
theorem lcL_cons (tg : D → List S → Option (List S)) (t : List S → M Bool) (f : List S → M S) (x : D) (xs acc : List D) : lcL tg t f ρ (x :: xs) acc cs = (match tg x ρ with
    | none => stuck
    | some ρ1 => bnd (noEr (t ρ1)) fun b => if b = true then bnd (noEr (f ρ1)) fun y => (match y with
        | .d d => if acc.length < sizeLine then lcL tg t f ρ xs (acc ++ [d]) else stuck
        | _ => stuck)
      else lcL tg t f ρ xs acc) cs := rfl
@[simp] theorem tYesM_ : tYesM ρ cs = .ok true cs := rfl
@[simp] theorem wipeS_nil : wipeS ρ [] = ρ := rfl
@[simp] theorem wipeS_cons (v : Nat) (vs : List Nat) : wipeS ρ (v :: vs) = (wipeS ρ vs).set v .no := rfl
@[simp] theorem iAnyM_ (f : List S → M S) : iAnyM f ρ cs = bnd (f ρ) (fun s => match s with
  | .d x => ofO (itD x)
  | _ => stuck) cs := rfl
@[simp] theorem itD_list (xs : List D) : itD (.list xs) = some xs := rfl
@[simp] theorem itD_tuple (xs : List D) : itD (.tuple xs) = some xs := rfl
@[simp] theorem itD_str (x : Str) : itD (.str x) = some (x.cps.toList.map chD) := rfl
/-- a comprehension whose parts leave the store as it is -/
theorem lcL_pure {tg : D → List S → Option (List S)} {t : List S → M Bool} {f : List S → M S} (ρx : D → List S) (p : D → Bool) (g : D → D) : ∀ (xs acc : List D), (∀ x ∈ xs, tg x ρ = some (ρx x) ∧ t (ρx x) cs = .ok (p x) cs ∧ (p x = true → f (ρx x) cs = .ok (.d (g x)) cs)) → acc.length + xs.length ≤ sizeLine →
    lcL tg t f ρ xs acc cs = .ok (.own (.lst (acc ++ (xs.filter p).map g))) cs
  | [], acc, _, _ => by simp
  | x :: xs, acc, h, hl => by
    obtain ⟨h1, h2, h3⟩ := h x (by simp)
    rw [List.length_cons] at hl
    rw [lcL_cons, h1]
    cases hp : p x with
    | false =>
      simp only [bnd_, noEr_, h2, hp, Bool.false_eq_true, if_false, List.filter_cons]
      exact lcL_pure ρx p g xs acc (fun y hy => h y (by simp [hy])) (by omega)
    | true =>
      have ih := lcL_pure ρx p g xs (acc ++ [g x]) (fun y hy => h y (by simp [hy])) (by simp; omega)
      have hlt : acc.length < sizeLine := by omega
      simp only [bnd_, noEr_, h2, h3 hp, hp, if_true, List.filter_cons, if_pos hlt, ih]
      simp
/-- a walk that ends as soon as a look fails -/
theorem gFor_all {tg : D → List S → Option (List S)} {body : G} (ok : D → Bool) (r : Rv) (P : List S → Prop) : ∀ (xs : List D) (ρ0 : List S), P ρ0 → (∀ x ∈ xs, ∀ ρ1, P ρ1 → ∃ ρ2, tg x ρ1 = some ρ2 ∧ ((ok x = true ∧ ∃ ρ3, body ρ2 cs = .nx ρ3 cs ∧ P ρ3) ∨ (ok x = false ∧ body ρ2 cs = .rt r cs))) →
    (xs.all ok = true ∧ ∃ ρ', gFor tg body xs ρ0 cs = .nx ρ' cs ∧ P ρ') ∨ (xs.all ok = false ∧ gFor tg body xs ρ0 cs = .rt r cs)
  | [], ρ0, h0, _ => .inl ⟨rfl, ρ0, rfl, h0⟩
  | x :: xs, ρ0, h0, h => by
    obtain ⟨ρ2, e1, ⟨e2, ρ3, e3, e4⟩ | ⟨e2, e3⟩⟩ := h x (by simp) ρ0 h0
    · rcases gFor_all ok r P xs ρ3 e4 (fun y hy => h y (by simp [hy])) with ⟨k1, ρ', k2, k3⟩ | ⟨k1, k2⟩
      · refine .inl ⟨by simp [e2, k1], ρ', ?_, k3⟩
        rw [gFor_cons, e1]
        simp only [e3, k2]
      · refine .inr ⟨by simp [e2, k1], ?_⟩
        rw [gFor_cons, e1]
        simp only [e3, k2]
    · refine .inr ⟨by simp [e2], ?_⟩
      rw [gFor_cons, e1]
      simp only [e3]
@[simp] theorem clr_nx (i : Nat) : clr i (.nx ρ cs) = .nx (ρ.set i .no) cs := rfl
@[simp] theorem clr_rt (i : Nat) (r : Rv) : clr i (.rt r cs) = .rt r cs := rfl
theorem hAs_of {i : Nat} {h : Str → Addr → G} {c : Str} {o : Out} (e : ∀ a, clr i (h c a (ρ.set i (.fn a)) cs) = o) : hAs i h c ρ cs = o := by
  unfold hAs
  rw [if_pos (fun a => (e a).trans (e 0).symm), e 0]
@[simp] theorem mulE_int (x y : Int) : mulE (.int x) (.int y) = mulD (.int x) (.int y) := rfl
@[simp] theorem mulE_tuple (xs : List D) (k : Int) : mulE (.tuple xs) (.int k) = if -1000000000 ≤ k ∧ k ≤ 1000000000 ∧ xs.length * k.toNat ≤ 1000000 then some (.tuple (List.replicate k.toNat xs).flatten) else none := rfl
@[simp] theorem mulE_list (xs : List D) (k : Int) : mulE (.list xs) (.int k) = if -1000000000 ≤ k ∧ k ≤ 1000000000 ∧ xs.length * k.toNat ≤ sizeLine then some (.list (List.replicate k.toNat xs).flatten) else none := rfl
@[simp] theorem addD_tuple (xs ys : List D) : addD (.tuple xs) (.tuple ys) = if xs.length + ys.length ≤ sizeLine then some (.tuple (xs ++ ys)) else none := rfl
@[simp] theorem addD_list (xs ys : List D) : addD (.list xs) (.list ys) = if xs.length + ys.length ≤ sizeLine then some (.list (xs ++ ys)) else none := rfl
@[simp] theorem addD_str (x y : Str) : addD (.str x) (.str y) = if x.length + y.length ≤ sizeLine then some (.str (x ++ y)) else none := rfl
@[simp] theorem lenSetG_list (xs : List D) : lenSetG [.list xs] = match kysD xs with
    | some ks => if ks.length < 4000 then some (.int (fmK ks).length) else none
    | none => none := rfl
@[simp] theorem strG_str (x : Str) : strG [.str x] = some (.str x) := rfl
@[simp] theorem strG_int (i : Int) : strG [.int i] = if i.natAbs.log2 < 1920 then some (.str (toString i)) else none := rfl
@[simp] theorem inD_ch (c : Nat) (z : Str) : inD (chD c) (.str z) = some (decide (c ∈ z.cps.toList)) := rfl
theorem ninD_eq (x y : D) : ninD x y = (inD x y).map (!·) := rfl
@[simp] theorem ninD_of {x y : D} {b : Bool} (h : inD x y = some b) : ninD x y = some (!b) := by rw [ninD_eq, h]; rfl
@[simp] theorem vwsM_c0 (xs : List D) (r : List S) (c : Store) : vwsM (.cel 0 :: r) (.lst xs :: c) = bnd (vwsM r) (fun ds => ret (.list xs :: ds)) (.lst xs :: c) := vwsM_cel r rfl
@[simp] theorem vwsM_c1 (o : OC) (xs : List D) (r : List S) (c : Store) : vwsM (.cel 1 :: r) (o :: .lst xs :: c) = bnd (vwsM r) (fun ds => ret (.list xs :: ds)) (o :: .lst xs :: c) := vwsM_cel r rfl
@[simp] theorem vwsM_c2 (o o2 : OC) (xs : List D) (r : List S) (c : Store) : vwsM (.cel 2 :: r) (o :: o2 :: .lst xs :: c) = bnd (vwsM r) (fun ds => ret (.list xs :: ds)) (o :: o2 :: .lst xs :: c) := vwsM_cel r rfl
end
end Dn

set_option Elab.async false
set_option linter.all false
set_option maxRecDepth 100000
set_option maxHeartbeats 4000000
namespace Law
open PySem L2 Dn
noncomputable section
def B_is_number : G :=
    (sRet (eRv (eAndM (eIsa "int" (eV 0)) (eAndM (eNotM (eIsa "bool" (eV 0))) (eChn leD leD (eV 1) (eV 0) (eV 2))))))
def F_is_number : List S → M Rv := runG 0 B_is_number
def B_is_name : G :=
    (gSeq (sIf (tOrM (tNotM (tT (eIsa "str" (eV 0)))) (tOrM (tNotM (tChn leD leD (eC (.int (1))) (eCd lenG (aCons (eV 0) aNil)) (eC (.int (8))))) (op2 ninD (eBin ixD (eV 0) (eC (.int (0)))) (eC (.str "abcdefghijklmnopqrstuvwxyz"))))) (sRet (eRv (eC (.bool false)))) gNil)
    (sRet (eRv (eCmp eqD (eFrz (eLc (iAnyM (eV 0)) (gtN 1) (tAndM (op2 ninD (eV 1) (eC (.str "abcdefghijklmnopqrstuvwxyz"))) (op2 ninD (eV 1) (eC (.str "0123456789")))) (eV 1) [1])) (eFrz (eLst aNil))))))
def F_is_name : List S → M Rv := runG 1 B_is_name
def B_is_day : G :=
    (sRet (eCall F_is_number (aCons (eV 0) (aCons (eC (.int (0))) (aCons (eC (.int (36500))) aNil)))))
def F_is_day : List S → M Rv := runG 0 B_is_day
def B_is_money : G :=
    (sRet (eCall F_is_number (aCons (eV 0) (aCons (eC (.int (0))) (aCons (eC (.int (1000000000000))) aNil)))))
def F_is_money : List S → M Rv := runG 0 B_is_money
def B_is_tuple : G :=
    (sRet (eRv (eAndM (eIsa "tuple" (eV 0)) (eChn leD leD (eV 1) (eCd lenG (aCons (eV 0) aNil)) (eV 2)))))
def F_is_tuple : List S → M Rv := runG 0 B_is_tuple
def B_are_names : G :=
    (sRet (eRv (eAndM (eFrz (eCall F_is_tuple (aCons (eV 0) (aCons (eC (.int (1))) (aCons (eC (.int (12))) aNil))))) (eCmp eqD (eFrz (eLc (iAnyM (eV 0)) (gtN 1) (tNotM (tT (eFrz (eCall F_is_name (aCons (eV 1) aNil))))) (eV 1) [1])) (eFrz (eLst aNil))))))
def F_are_names : List S → M Rv := runG 1 B_are_names
def B_conditions_in : G :=
    (gSeq (sIf (tOrM (tNotM (tT (eIsa "tuple" (eV 0)))) (tOrM (op2 ltD (eCd lenG (aCons (eV 0) aNil)) (eC (.int (1)))) (tNotM (tT (eIsa "str" (eBin ixD (eV 0) (eC (.int (0))))))))) (sRet (eRv (eC .none))) gNil)
    (gSeq (sSet 1 (eBin ixD (eV 0) (eC (.int (0)))))
    (gSeq (sSet 2 (eSl (eV 0) (oSome (eC (.int (1)))) oNone))
    (gSeq (sIf (op2 eqD (eV 1) (eC (.str "always"))) (sSet 3 (eCmp eqD (eCd lenG (aCons (eV 2) aNil)) (eC (.int (0))))) (sIf (op2 inD (eV 1) (eTup (aCons (eC (.str "peril")) (aCons (eC (.str "place")) (aCons (eC (.str "object")) aNil))))) (sSet 3 (eFrz (eCall F_are_names (aCons (eV 2) aNil)))) (sIf (op2 eqD (eV 1) (eC (.str "day"))) (sSet 3 (eAndM (eCmp eqD (eCd lenG (aCons (eV 2) aNil)) (eC (.int (2)))) (eAndM (eFrz (eCall F_is_day (aCons (eBin ixD (eV 2) (eC (.int (0)))) aNil))) (eAndM (eFrz (eCall F_is_day (aCons (eBin ixD (eV 2) (eC (.int (1)))) aNil))) (eCmp leD (eBin ixD (eV 2) (eC (.int (0)))) (eBin ixD (eV 2) (eC (.int (1))))))))) (sIf (op2 eqD (eV 1) (eC (.str "noticed"))) (sSet 3 (eAndM (eCmp eqD (eCd lenG (aCons (eV 2) aNil)) (eC (.int (1)))) (eFrz (eCall F_is_number (aCons (eBin ixD (eV 2) (eC (.int (0)))) (aCons (eC (.int (0))) (aCons (eC (.int (6000))) aNil))))))) (sIf (op2 eqD (eV 1) (eC (.str "says"))) (sSet 3 (eAndM (eCmp eqD (eCd lenG (aCons (eV 2) aNil)) (eC (.int (1)))) (eFrz (eCall F_is_name (aCons (eBin ixD (eV 2) (eC (.int (0)))) aNil))))) (sIf (tOrM (tAndM (op2 eqD (eV 1) (eC (.str "not"))) (op2 eqD (eCd lenG (aCons (eV 2) aNil)) (eC (.int (1))))) (tAndM (op2 inD (eV 1) (eTup (aCons (eC (.str "and")) (aCons (eC (.str "or")) aNil)))) (tChn leD leD (eC (.int (1))) (eCd lenG (aCons (eV 2) aNil)) (eC (.int (12)))))) (sRet (eRv (eCd listG (aCons (eV 2) aNil)))) (sSet 3 (eC (.bool false)))))))))
    (sRet (eRv (eIf (tT (eV 3)) (eFrz (eLst aNil)) (eC .none))))))))
def F_conditions_in : List S → M Rv := runG 3 B_conditions_in
def B_are_few__conditions_in (K : PySem.W.Frag) : G :=
    (gSeq (sNew 2 (eLst (aCons (eV 0) aNil)))
    (gSeq (sSet 3 (eC (.int (0))))
    (gSeq (sWhile (fun _ _ => 100) (tAndM (tT (eV 2)) (op2 leD (eV 3) (eC (.int (60))))) (gSeq (sSet 4 (eFrz (eCallL 1 (He.ga K "conditions_in") F_conditions_in (aCons (eMt0 popG (eV 2)) aNil))))
      (gSeq (sIf (op1 isnD (eV 4)) (sRet (eRv (eC (.bool false)))) gNil)
      (gSeq (sSet 3 (eBin addD (eV 3) (eC (.int (1)))))
      (sExp (eMt extG (eV 2) (aCons (eV 4) aNil)))))))
    (sRet (eRv (eCmp leD (eV 3) (eC (.int (60)))))))))
def F_are_few__conditions_in (K : PySem.W.Frag) : List S → M Rv := runG 3 (B_are_few__conditions_in K)
def B_is_condition (K : PySem.W.Frag) : G :=
    (sRet (eCall (F_are_few__conditions_in K) (aCons (eV 0) (aCons (eFn (He.ga K "conditions_in")) aNil))))
def F_is_condition (K : PySem.W.Frag) : List S → M Rv := runG 0 (B_is_condition K)
def B_is_so (f_is_so : List S → M Rv) : G :=
    (gSeq (sSet 2 (eBin ixD (eV 0) (eC (.int (0)))))
    (gSeq (sIf (op2 eqD (eV 2) (eC (.str "always"))) (sRet (eRv (eC (.bool true)))) gNil)
    (gSeq (sIf (op2 eqD (eV 2) (eC (.str "peril"))) (sRet (eRv (eCmp inD (eBin ixD (eV 1) (eC (.int (3)))) (eSl (eV 0) (oSome (eC (.int (1)))) oNone)))) gNil)
    (gSeq (sIf (op2 eqD (eV 2) (eC (.str "place"))) (sRet (eRv (eCmp inD (eBin ixD (eV 1) (eC (.int (4)))) (eSl (eV 0) (oSome (eC (.int (1)))) oNone)))) gNil)
    (gSeq (sIf (op2 eqD (eV 2) (eC (.str "object"))) (sRet (eRv (eCmp inD (eBin ixD (eV 1) (eC (.int (0)))) (eSl (eV 0) (oSome (eC (.int (1)))) oNone)))) gNil)
    (gSeq (sIf (op2 eqD (eV 2) (eC (.str "day"))) (sRet (eRv (eChn leD leD (eBin ixD (eV 0) (eC (.int (1)))) (eBin ixD (eV 1) (eC (.int (1)))) (eBin ixD (eV 0) (eC (.int (2))))))) gNil)
    (gSeq (sIf (op2 eqD (eV 2) (eC (.str "noticed"))) (sRet (eRv (eCmp leD (eBin subD (eBin ixD (eV 1) (eC (.int (2)))) (eBin ixD (eV 1) (eC (.int (1))))) (eBin ixD (eV 0) (eC (.int (1))))))) gNil)
    (gSeq (sIf (op2 eqD (eV 2) (eC (.str "says"))) (sRet (eRv (eCmp inD (eBin ixD (eV 0) (eC (.int (1)))) (eBin ixD (eV 1) (eC (.int (6))))))) gNil)
    (gSeq (sIf (op2 eqD (eV 2) (eC (.str "not"))) (sRet (eRv (eNotM (eFrz (eCall f_is_so (aCons (eBin ixD (eV 0) (eC (.int (1)))) (aCons (eV 1) aNil))))))) gNil)
    (gSeq (sSet 3 (eFrz (eLc (iAnyM (eSl (eV 0) (oSome (eC (.int (1)))) oNone)) (gtN 4) tYesM (eFrz (eCall f_is_so (aCons (eV 4) (aCons (eV 1) aNil)))) [4])))
    (sRet (eRv (eIf (op2 eqD (eV 2) (eC (.str "and"))) (eNotM (eCmp inD (eC (.bool false)) (eV 3))) (eCmp inD (eC (.bool true)) (eV 3)))))))))))))))
def F_is_so : Nat → List S → M Rv
  | 0 => F0
  | n + 1 => runG 3 (B_is_so (F_is_so n))
def B_is_plain_loss : G :=
    (gSeq (sIf (tOrM (tNotM (tT (eFrz (eCall F_is_tuple (aCons (eV 0) (aCons (eC (.int (7))) (aCons (eC (.int (7))) aNil))))))) (tOrM (tNotM (tT (eFrz (eCall F_is_name (aCons (eBin ixD (eV 0) (eC (.int (0)))) aNil))))) (tOrM (tNotM (tT (eFrz (eCall F_is_day (aCons (eBin ixD (eV 0) (eC (.int (1)))) aNil))))) (tNotM (tT (eFrz (eCall F_is_day (aCons (eBin ixD (eV 0) (eC (.int (2)))) aNil)))))))) (sRet (eRv (eC (.bool false)))) gNil)
    (gSeq (sIf (tOrM (op2 ltD (eBin ixD (eV 0) (eC (.int (2)))) (eBin ixD (eV 0) (eC (.int (1))))) (tOrM (tNotM (tT (eFrz (eCall F_is_name (aCons (eBin ixD (eV 0) (eC (.int (3)))) aNil))))) (tOrM (tNotM (tT (eFrz (eCall F_is_name (aCons (eBin ixD (eV 0) (eC (.int (4)))) aNil))))) (tNotM (tT (eFrz (eCall F_is_money (aCons (eBin ixD (eV 0) (eC (.int (5)))) aNil)))))))) (sRet (eRv (eC (.bool false)))) gNil)
    (gSeq (sIf (tOrM (tNotM (tT (eIsa "tuple" (eBin ixD (eV 0) (eC (.int (6))))))) (tT (eFrz (eLc (iAnyM (eBin ixD (eV 0) (eC (.int (6))))) (gtN 1) (tNotM (tT (eFrz (eCall F_is_name (aCons (eV 1) aNil))))) (eV 1) [1])))) (sRet (eRv (eC (.bool false)))) gNil)
    (sRet (eRv (eCmp eqD (eCd listG (aCons (eBin ixD (eV 0) (eC (.int (6)))) aNil)) (eCd sortedSetG (aCons (eBin ixD (eV 0) (eC (.int (6)))) aNil))))))))
def F_is_plain_loss : List S → M Rv := runG 1 B_is_plain_loss
def B_holds (K : PySem.W.Frag) : G :=
    (gSeq (sIf (tOrM (tNotM (tT (eFrz (eCall (F_is_condition K) (aCons (eV 0) aNil))))) (tNotM (tT (eFrz (eCall F_is_plain_loss (aCons (eV 1) aNil)))))) (sErr "BadWords") gNil)
    (sRet (eCall (F_is_so 12) (aCons (eV 0) (aCons (eV 1) aNil)))))
def F_holds (K : PySem.W.Frag) : List S → M Rv := runG 0 (B_holds K)
def B__law_mixed : G :=
    (gSeq (sSet 2 (eBin modD (eBin addD (eBin addD (eBin mulD (eV 0) (eC (.int (48271)))) (eBin mulD (eV 1) (eC (.int (69621))))) (eC (.int (12345)))) (eC (.int (2147483647)))))
    (sRet (eRv (eBin modD (eBin addD (eBin mulD (eV 2) (eBin addD (eBin fdivD (eV 2) (eC (.int (65536)))) (eC (.int (3))))) (eV 1)) (eC (.int (2147483647)))))))
def F__law_mixed : List S → M Rv := runG 1 B__law_mixed
def B__law_numbers : G :=
    (gSeq (sNew 1 (eLst aNil))
    (gSeq (sFor (gtN 2) (iAnyM (eV 0)) (sIf (op2 geD (eV 2) (eBin powD (eC (.int (10))) (eC (.int (18))))) (gSeq (sSet 3 (eV 2))
        (sFor (gtN 4) (iRng (eC (.int (60)))) (sIf (op2 gtD (eV 3) (eC (.int (0)))) (gSeq (sExp (eMt appG (eV 1) (aCons (eBin modD (eV 3) (eC (.int (1000000)))) aNil)))
            (sSet 3 (eBin fdivD (eV 3) (eC (.int (1000000)))))) gNil))) (gSeq (sExp (eMt appG (eV 1) (aCons (eBin modD (eV 2) (eC (.int (1000000)))) aNil)))
        (sFor (gtN 4) (iRng (eC (.int (5)))) (sExp (eMt appG (eV 1) (aCons (eBin modD (eFrz (eCall F__law_mixed (aCons (eFrz (eCall F__law_mixed (aCons (eBin modD (eV 2) (eC (.int (2147483647)))) (aCons (eV 4) aNil)))) (aCons (eBin addD (eV 4) (eC (.int (7)))) aNil)))) (eC (.int (1000000)))) aNil)))))))
    (sRet (eRv (eV 1)))))
def F__law_numbers : List S → M Rv := runG 4 B__law_numbers
def B__law_draw : G :=
    (gSeq (sSet 1 (eBin ixD (eV 0) (eC (.int (1)))))
    (gSeq (sSub (eV 0) (eC (.int (1))) (eBin addD (eV 1) (eC (.int (1)))))
    (gSeq (sIf (op2 ltD (eV 1) (eCd lenG (aCons (eBin ixD (eV 0) (eC (.int (0)))) aNil))) (sRet (eRv (eBin ixD (eBin ixD (eV 0) (eC (.int (0)))) (eV 1)))) gNil)
    (gSeq (sSet 2 (eBin addD (eC (.int (1))) (eV 1)))
    (gSeq (sIf (op2 gtD (eCd lenG (aCons (eBin ixD (eV 0) (eC (.int (0)))) aNil)) (eC (.int (0)))) (sSet 2 (eBin addD (eV 2) (eBin mulD (eC (.int (1009))) (eBin ixD (eBin ixD (eV 0) (eC (.int (0)))) (eC (.int (0))))))) gNil)
    (sRet (eRv (eBin modD (eFrz (eCall F__law_mixed (aCons (eFrz (eCall F__law_mixed (aCons (eV 2) (aCons (eV 1) aNil)))) (aCons (eC (.int (5))) aNil)))) (eC (.int (1000000)))))))))))
def F__law_draw : List S → M Rv := runG 2 B__law_draw
def B__law_all_equal (f__law_all_equal : List S → M Rv) (f__law_equal : List S → M Rv) : G :=
    (gSeq (sFor (gtN 2) (iRng (eCd lenG (aCons (eV 1) aNil))) (sIf (tNotM (tT (eFrz (eCall f__law_equal (aCons (eBin ixD (eV 0) (eV 2)) (aCons (eBin ixD (eV 1) (eV 2)) aNil)))))) (sRet (eRv (eC (.bool false)))) gNil))
    (sRet (eRv (eC (.bool true)))))
def B__law_equal (f__law_all_equal : List S → M Rv) (f__law_equal : List S → M Rv) : G :=
    (gSeq (sIf (tT (eIsa "list" (eV 1))) (gSeq (sIf (tOrM (tNotM (tT (eIsa "list" (eV 0)))) (op2 neD (eCd lenG (aCons (eV 0) aNil)) (eCd lenG (aCons (eV 1) aNil)))) (sRet (eRv (eC (.bool false)))) gNil)
      (sRet (eCall f__law_all_equal (aCons (eV 0) (aCons (eV 1) aNil))))) gNil)
    (gSeq (sIf (tT (eIsa "tuple" (eV 1))) (gSeq (sIf (tOrM (tNotM (tT (eIsa "tuple" (eV 0)))) (op2 neD (eCd lenG (aCons (eV 0) aNil)) (eCd lenG (aCons (eV 1) aNil)))) (sRet (eRv (eC (.bool false)))) gNil)
      (sRet (eCall f__law_all_equal (aCons (eV 0) (aCons (eV 1) aNil))))) gNil)
    (gSeq (sIf (tT (eIsa "bool" (eV 1))) (sRet (eRv (eAndM (eIsa "bool" (eV 0)) (eCmp eqD (eV 0) (eV 1))))) gNil)
    (gSeq (sIf (tT (eIsa "int" (eV 1))) (sRet (eRv (eAndM (eIsa "int" (eV 0)) (eAndM (eNotM (eIsa "bool" (eV 0))) (eCmp eqD (eV 0) (eV 1)))))) gNil)
    (gSeq (sIf (tT (eIsa "str" (eV 1))) (sRet (eRv (eAndM (eIsa "str" (eV 0)) (eCmp eqD (eV 0) (eV 1))))) gNil)
    (sRet (eRv (eIsN (eV 0)))))))))
mutual
def F__law_all_equal : Nat → List S → M Rv
  | 0 => F0
  | n + 1 => runG 1 (B__law_all_equal (F__law_all_equal n) (F__law_equal n))
def F__law_equal : Nat → List S → M Rv
  | 0 => F0
  | n + 1 => runG 0 (B__law_equal (F__law_all_equal n) (F__law_equal n))
end
def B__law_holds (f__law_holds : List S → M Rv) : G :=
    (gSeq (sSet 2 (eBin ixD (eV 0) (eC (.int (0)))))
    (gSeq (sIf (op2 eqD (eV 2) (eC (.str "always"))) (sRet (eRv (eC (.bool true)))) gNil)
    (gSeq (sIf (op2 eqD (eV 2) (eC (.str "peril"))) (sRet (eRv (eCmp inD (eBin ixD (eV 1) (eC (.int (3)))) (eSl (eV 0) (oSome (eC (.int (1)))) oNone)))) gNil)
    (gSeq (sIf (op2 eqD (eV 2) (eC (.str "place"))) (sRet (eRv (eCmp inD (eBin ixD (eV 1) (eC (.int (4)))) (eSl (eV 0) (oSome (eC (.int (1)))) oNone)))) gNil)
    (gSeq (sIf (op2 eqD (eV 2) (eC (.str "object"))) (sRet (eRv (eCmp inD (eBin ixD (eV 1) (eC (.int (0)))) (eSl (eV 0) (oSome (eC (.int (1)))) oNone)))) gNil)
    (gSeq (sIf (op2 eqD (eV 2) (eC (.str "day"))) (sRet (eRv (eChn leD leD (eBin ixD (eV 0) (eC (.int (1)))) (eBin ixD (eV 1) (eC (.int (1)))) (eBin ixD (eV 0) (eC (.int (2))))))) gNil)
    (gSeq (sIf (op2 eqD (eV 2) (eC (.str "noticed"))) (sRet (eRv (eCmp leD (eBin subD (eBin ixD (eV 1) (eC (.int (2)))) (eBin ixD (eV 1) (eC (.int (1))))) (eBin ixD (eV 0) (eC (.int (1))))))) gNil)
    (gSeq (sIf (op2 eqD (eV 2) (eC (.str "says"))) (sRet (eRv (eCmp inD (eBin ixD (eV 0) (eC (.int (1)))) (eBin ixD (eV 1) (eC (.int (6))))))) gNil)
    (gSeq (sIf (op2 eqD (eV 2) (eC (.str "not"))) (sRet (eRv (eNotM (eFrz (eCall f__law_holds (aCons (eBin ixD (eV 0) (eC (.int (1)))) (aCons (eV 1) aNil))))))) gNil)
    (gSeq (sSet 3 (eFrz (eLc (iAnyM (eSl (eV 0) (oSome (eC (.int (1)))) oNone)) (gtN 4) tYesM (eFrz (eCall f__law_holds (aCons (eV 4) (aCons (eV 1) aNil)))) [4])))
    (sRet (eRv (eIf (op2 eqD (eV 2) (eC (.str "or"))) (eCmp inD (eCmp eqD (eV 2) (eC (.str "or"))) (eV 3)) (eCmp ninD (eC (.bool false)) (eV 3)))))))))))))))
def F__law_holds : Nat → List S → M Rv
  | 0 => F0
  | n + 1 => runG 3 (B__law_holds (F__law_holds n))
def B__law_any_condition (f__law_any_condition : List S → M Rv) : G :=
    (gSeq (sSet 2 (eFrz (eLst (aCons (eC (.str "fire")) (aCons (eC (.str "water")) (aCons (eC (.str "storm")) (aCons (eC (.str "town")) (aCons (eC (.str "hill")) (aCons (eC (.str "house")) (aCons (eC (.str "barn")) (aCons (eC (.str "x1")) (aCons (eC (.str "arson")) (aCons (eC (.str "leak")) aNil)))))))))))))
    (gSeq (sSet 3 (eBin modD (eFrz (eCallC F__law_draw (aCons (eV 0) aNil))) (eC (.int (11)))))
    (gSeq (sIf (tAndM (op2 gtD (eV 3) (eC (.int (7)))) (op2 gtD (eV 1) (eC (.int (0))))) (gSeq (sSet 4 (eCd tupleG (aCons (eFrz (eLc (iRng (eBin addD (eC (.int (1))) (eBin modD (eFrz (eCallC F__law_draw (aCons (eV 0) aNil))) (eC (.int (3)))))) (gtN 7) tYesM (eFrz (eCallC f__law_any_condition (aCons (eV 0) (aCons (eBin subD (eV 1) (eC (.int (1)))) aNil)))) [7])) aNil)))
      (sRet (eRv (eBin ixD (eFrz (eLst (aCons (eTup (aCons (eC (.str "not")) (aCons (eBin ixD (eV 4) (eC (.int (0)))) aNil))) (aCons (eBin addD (eTup (aCons (eC (.str "and")) aNil)) (eV 4)) (aCons (eBin addD (eTup (aCons (eC (.str "or")) aNil)) (eV 4)) aNil))))) (eBin subD (eV 3) (eC (.int (8)))))))) gNil)
    (gSeq (sSet 5 (eCd tupleG (aCons (eFrz (eLc (iRng (eBin addD (eC (.int (1))) (eBin modD (eFrz (eCallC F__law_draw (aCons (eV 0) aNil))) (eC (.int (4)))))) (gtN 7) tYesM (eBin ixD (eV 2) (eBin modD (eFrz (eCallC F__law_draw (aCons (eV 0) aNil))) (eC (.int (10))))) [7])) aNil)))
    (gSeq (sIf (op2 ltD (eV 3) (eC (.int (4)))) (sRet (eRv (eBin addD (eTup (aCons (eBin ixD (eFrz (eLst (aCons (eC (.str "always")) (aCons (eC (.str "peril")) (aCons (eC (.str "place")) (aCons (eC (.str "object")) aNil)))))) (eV 3)) aNil)) (eSl (eV 5) oNone (oSome (eBin mulD (eC (.int (4))) (eCd intG (aCons (eCmp gtD (eV 3) (eC (.int (0)))) aNil)))))))) gNil)
    (gSeq (sIf (tOrM (op2 eqD (eV 3) (eC (.int (4)))) (op2 gtD (eV 3) (eC (.int (7))))) (gSeq (sSet 6 (eBin ixD (eFrz (eLst (aCons (eC (.int (0))) (aCons (eC (.int (5))) (aCons (eC (.int (100))) (aCons (eC (.int (36500))) aNil)))))) (eBin modD (eFrz (eCallC F__law_draw (aCons (eV 0) aNil))) (eC (.int (4))))))
      (sRet (eRv (eTup (aCons (eC (.str "day")) (aCons (eV 6) (aCons (eCd minG (aCons (eC (.int (36500))) (aCons (eBin addD (eV 6) (eBin ixD (eFrz (eLst (aCons (eC (.int (0))) (aCons (eC (.int (1))) (aCons (eC (.int (5))) (aCons (eC (.int (36500))) aNil)))))) (eBin modD (eFrz (eCallC F__law_draw (aCons (eV 0) aNil))) (eC (.int (4)))))) aNil))) aNil))))))) gNil)
    (gSeq (sIf (op2 eqD (eV 3) (eC (.int (5)))) (sRet (eRv (eTup (aCons (eC (.str "noticed")) (aCons (eBin ixD (eFrz (eLst (aCons (eC (.int (0))) (aCons (eC (.int (1))) (aCons (eC (.int (5))) (aCons (eC (.int (30))) (aCons (eC (.int (6000))) aNil))))))) (eBin modD (eFrz (eCallC F__law_draw (aCons (eV 0) aNil))) (eC (.int (5))))) aNil))))) gNil)
    (sRet (eRv (eTup (aCons (eC (.str "says")) (aCons (eBin ixD (eV 5) (eC (.int (0)))) aNil))))))))))))
def F__law_any_condition : Nat → List S → M Rv
  | 0 => F0
  | n + 1 => runG 6 (B__law_any_condition (F__law_any_condition n))
def B__law_any_loss : G :=
    (gSeq (sSet 1 (eFrz (eLst (aCons (eC (.str "fire")) (aCons (eC (.str "water")) (aCons (eC (.str "storm")) (aCons (eC (.str "town")) (aCons (eC (.str "hill")) (aCons (eC (.str "house")) (aCons (eC (.str "barn")) (aCons (eC (.str "x1")) (aCons (eC (.str "arson")) (aCons (eC (.str "leak")) aNil)))))))))))))
    (gSeq (sSet 2 (eBin ixD (eFrz (eLst (aCons (eC (.int (0))) (aCons (eC (.int (4))) (aCons (eC (.int (5))) (aCons (eC (.int (6))) (aCons (eC (.int (10))) (aCons (eC (.int (99))) (aCons (eC (.int (100))) (aCons (eC (.int (101))) (aCons (eC (.int (105))) (aCons (eC (.int (106))) (aCons (eC (.int (36500))) aNil))))))))))))) (eBin modD (eFrz (eCallC F__law_draw (aCons (eV 0) aNil))) (eC (.int (11))))))
    (gSeq (sSet 3 (eCd minG (aCons (eC (.int (36500))) (aCons (eBin addD (eV 2) (eBin ixD (eFrz (eLst (aCons (eC (.int (0))) (aCons (eC (.int (1))) (aCons (eC (.int (2))) (aCons (eC (.int (5))) (aCons (eC (.int (6))) (aCons (eC (.int (30))) (aCons (eC (.int (31))) (aCons (eC (.int (6000))) (aCons (eC (.int (6001))) aNil))))))))))) (eBin modD (eFrz (eCallC F__law_draw (aCons (eV 0) aNil))) (eC (.int (9)))))) aNil))))
    (gSeq (sSet 4 (eCd tupleG (aCons (eCd sortedSetG (aCons (eFrz (eLc (iRng (eBin modD (eFrz (eCallC F__law_draw (aCons (eV 0) aNil))) (eC (.int (3))))) (gtN 6) tYesM (eBin ixD (eV 1) (eBin modD (eFrz (eCallC F__law_draw (aCons (eV 0) aNil))) (eC (.int (10))))) [6])) aNil)) aNil)))
    (gSeq (sSet 5 (eFrz (eLc (iRng (eC (.int (3)))) (gtN 6) tYesM (eBin ixD (eV 1) (eBin modD (eFrz (eCallC F__law_draw (aCons (eV 0) aNil))) (eC (.int (10))))) [6])))
    (sRet (eRv (eTup (aCons (eBin ixD (eV 5) (eC (.int (0)))) (aCons (eV 2) (aCons (eV 3) (aCons (eBin ixD (eV 5) (eC (.int (1)))) (aCons (eBin ixD (eV 5) (eC (.int (2)))) (aCons (eBin addD (eC (.int (1))) (eFrz (eCallC F__law_draw (aCons (eV 0) aNil)))) (aCons (eV 4) aNil)))))))))))))))
def F__law_any_loss : List S → M Rv := runG 6 B__law_any_loss
def B_law (K : PySem.W.Frag) : G :=
    (gSeq (sNew 1 (eLst (aCons (eFrz (eCall F__law_numbers (aCons (eV 0) aNil))) (aCons (eC (.int (0))) aNil))))
    (gSeq (sFor (gtN 2) (iRng (eC (.int (5)))) (gSeq (sSet 3 (eFrz (eCallC (F__law_any_condition 12) (aCons (eV 1) (aCons (eBin modD (eV 2) (eC (.int (4)))) aNil)))))
      (sFor (gtN 4) (iRng (eC (.int (6)))) (gSeq (sSet 5 (eFrz (eCallC F__law_any_loss (aCons (eV 1) aNil))))
        (gSeq (sSet 6 (eCd strLG (aCons (eFrz (eLst (aCons (eV 3) (aCons (eV 5) aNil)))) aNil)))
        (sIf (tOrM (tNotM (tT (eFrz (eCall (F__law_equal 12) (aCons (eFrz (eCall (F_holds K) (aCons (eV 3) (aCons (eV 5) aNil)))) (aCons (eFrz (eCall (F__law_holds 12) (aCons (eV 3) (aCons (eV 5) aNil)))) aNil)))))) (op2 neD (eCd strLG (aCons (eFrz (eLst (aCons (eV 3) (aCons (eV 5) aNil)))) aNil)) (eV 6))) (sRet (eRv (eC (.bool false)))) gNil))))))
    (sRet (eRv (eC (.bool true))))))
def F_law (K : PySem.W.Frag) : List S → M Rv := runG 6 (B_law K)
end
end Law

set_option Elab.async false
set_option linter.all false
set_option maxRecDepth 100000
set_option maxHeartbeats 1000000
namespace Law
open PySem L2 Dn
/-! the law's own helpers -/
theorem mulD_lt {x y : Int} (hx : x.natAbs < 2 ^ 250) (hy : y.natAbs < 2 ^ 250) : mulD (.int x) (.int y) = some (.int (x * y)) := by
  have h1 := log2_lt (x := x) (k := 250) (by omega) hx
  have h2 := log2_lt (x := y) (k := 250) (by omega) hy
  rw [mulD_int, if_pos (by omega)]
theorem fdivD_lt {x y : Int} (hy : 0 < y) (hy2 : y.natAbs < 2 ^ 250) : fdivD (.int x) (.int y) = some (.int (x / y)) := by
  have h2 := log2_lt (x := y) (k := 250) (by omega) hy2
  rw [fdivD_int, if_pos ⟨hy, by omega⟩]
def mx (n k : Int) : Int := ((n * 48271 + k * 69621 + 12345) % 2147483647 * ((n * 48271 + k * 69621 + 12345) % 2147483647 / 65536 + 3) + k) % 2147483647
theorem mx_lo (n k : Int) : 0 ≤ mx n k := Int.emod_nonneg _ (by decide)
theorem mx_hi (n k : Int) : mx n k < 2147483647 := Int.emod_lt_of_pos _ (by decide)
theorem mixed_ {n k : Int} (hn : n.natAbs < 2 ^ 64) (hk : k.natAbs < 2 ^ 64) : F__law_mixed [.d (.int n), .d (.int k)] [] = .ok (.d (.int (mx n k))) [] := by
  have h1 : mulD (.int n) (.int 48271) = some (.int (n * 48271)) := mulD_lt (Nat.lt_trans hn (by decide)) (by decide)
  have h2 : mulD (.int k) (.int 69621) = some (.int (k * 69621)) := mulD_lt (Nat.lt_trans hk (by decide)) (by decide)
  have h3 : ∀ x : Int, fdivD (.int x) (.int 65536) = some (.int (x / 65536)) := fun x => fdivD_lt (by decide) (by decide)
  have h4 : ∀ x y : Int, x.natAbs < 2 ^ 32 → y.natAbs < 2 ^ 32 → mulD (.int x) (.int y) = some (.int (x * y)) := fun x y hx hy => mulD_lt (Nat.lt_trans hx (by decide)) (Nat.lt_trans hy (by decide))
  have h5 : mulD (.int ((n * 48271 + k * 69621 + 12345) % 2147483647)) (.int ((n * 48271 + k * 69621 + 12345) % 2147483647 / 65536 + 3)) = some (.int ((n * 48271 + k * 69621 + 12345) % 2147483647 * ((n * 48271 + k * 69621 + 12345) % 2147483647 / 65536 + 3))) := by
    generalize n * 48271 + k * 69621 + 12345 = z
    have a1 : 0 ≤ z % 2147483647 := Int.emod_nonneg _ (by decide)
    have a2 : z % 2147483647 < 2147483647 := Int.emod_lt_of_pos _ (by decide)
    exact h4 _ _ (by omega) (by omega)
  simp only [F__law_mixed, B__law_mixed, mx]
  simp [h1, h2, h3, h5, -mulD_int, -fdivD_int]
/-- numbers of the law -/
def InR (l : List Int) : Prop := ∀ x ∈ l, 0 ≤ x ∧ x < 1000000
theorem inR_app {l : List Int} {x : Int} (h : InR l) (h1 : 0 ≤ x) (h2 : x < 1000000) : InR (l ++ [x]) := by
  intro y hy
  rcases List.mem_append.1 hy with hy | hy
  · exact h y hy
  · rw [List.mem_singleton.1 hy]; exact ⟨h1, h2⟩
theorem rngD_map (n : Nat) : ∀ (i : Int), rngD i n = ((List.range n).map fun (k : Nat) => i + (k : Int)).map .int := by
  intro i
  simp [rngD]
theorem num_in1 (x a b : S) : ∀ (js : List Int) (rest : Int) (acc : List Int) (c : S), InR acc → acc.length + js.length ≤ 10000 → ∃ acc' rest' c', gFor (gtN 4) (sIf (op2 gtD (eV 3) (eC (.int (0)))) (gSeq (sExp (eMt appG (eV 1) (aCons (eBin modD (eV 3) (eC (.int (1000000)))) aNil)))
            (sSet 3 (eBin fdivD (eV 3) (eC (.int (1000000)))))) gNil) (js.map .int) [x, .cel 0, a, .d (.int rest), c] [.lst (acc.map .int)] = .nx [x, .cel 0, a, .d (.int rest'), c'] [.lst (acc'.map .int)] ∧ InR acc' ∧ acc'.length ≤ acc.length + js.length
  | [], rest, acc, c, h1, h2 => ⟨acc, rest, c, by simp, h1, by simp⟩
  | j :: js, rest, acc, c, h1, h2 => by
    simp at h2
    have h3 : ∀ x : Int, fdivD (.int x) (.int 1000000) = some (.int (x / 1000000)) := fun x => fdivD_lt (by decide) (by decide)
    rw [List.map_cons, gFor_cons]
    by_cases hc : 0 < rest
    · obtain ⟨acc', rest', c', e, e1, e2⟩ := num_in1 x a b js (rest / 1000000) (acc ++ [rest % 1000000]) (.d (.int j)) (inR_app h1 (by omega) (by omega)) (by simp; omega)
      refine ⟨acc', rest', c', ?_, e1, by simp at e2 ⊢; omega⟩
      have l1 : acc.length < sizeLine := size_lt (by omega)
      have l2 : acc.length ≤ sizeLine := size_ok (by omega)
      simp at e
      simp [hc, h3, l1, l2, e, -fdivD_int]
    · obtain ⟨acc', rest', c', e, e1, e2⟩ := num_in1 x a b js rest acc (.d (.int j)) h1 (by omega)
      refine ⟨acc', rest', c', ?_, e1, by simp; omega⟩
      simp [hc, e]
theorem num_in2 (x b : S) (v : Int) : ∀ (js : List Int) (acc : List Int) (c : S), (∀ j ∈ js, 0 ≤ j ∧ j ≤ 10) → InR acc → acc.length + js.length ≤ 10000 → ∃ acc' c', gFor (gtN 4) (sExp (eMt appG (eV 1) (aCons (eBin modD (eFrz (eCall F__law_mixed (aCons (eFrz (eCall F__law_mixed (aCons (eBin modD (eV 2) (eC (.int (2147483647)))) (aCons (eV 4) aNil)))) (aCons (eBin addD (eV 4) (eC (.int (7)))) aNil)))) (eC (.int (1000000)))) aNil))) (js.map .int) [x, .cel 0, .d (.int v), b, c] [.lst (acc.map .int)] = .nx [x, .cel 0, .d (.int v), b, c'] [.lst (acc'.map .int)] ∧ InR acc' ∧ acc'.length ≤ acc.length + js.length
  | [], acc, c, h0, h1, h2 => ⟨acc, c, by simp, h1, by simp⟩
  | j :: js, acc, c, h0, h1, h2 => by
    simp at h2
    rw [List.map_cons, gFor_cons]
    have hj := h0 j (by simp)
    have a1 : 0 ≤ v % 2147483647 := Int.emod_nonneg _ (by decide)
    have a2 : v % 2147483647 < 2147483647 := Int.emod_lt_of_pos _ (by decide)
    have m1 := mixed_ (n := v % 2147483647) (k := j) (by omega) (by omega)
    have b1 := mx_lo (v % 2147483647) j
    have b2 := mx_hi (v % 2147483647) j
    have m2 := mixed_ (n := mx (v % 2147483647) j) (k := j + 7) (by omega) (by omega)
    obtain ⟨acc', c', e, e1, e2⟩ := num_in2 x b v js (acc ++ [mx (mx (v % 2147483647) j) (j + 7) % 1000000]) (.d (.int j)) (fun k hk => h0 k (by simp [hk])) (inR_app h1 (by omega) (by omega)) (by simp; omega)
    refine ⟨acc', c', ?_, e1, by simp at e2 ⊢; omega⟩
    have l1 : acc.length < sizeLine := size_lt (by omega)
    have l2 : acc.length ≤ sizeLine := size_ok (by omega)
    simp at e
    simp [m1, m2, l1, l2, e]
theorem num_out (x : S) : ∀ (ns : List Int) (acc : List Int) (a b c : S), InR acc → acc.length + 60 * ns.length ≤ 10000 → ∃ acc' a' b' c', gFor (gtN 2) (sIf (op2 geD (eV 2) (eBin powD (eC (.int (10))) (eC (.int (18))))) (gSeq (sSet 3 (eV 2))
        (sFor (gtN 4) (iRng (eC (.int (60)))) (sIf (op2 gtD (eV 3) (eC (.int (0)))) (gSeq (sExp (eMt appG (eV 1) (aCons (eBin modD (eV 3) (eC (.int (1000000)))) aNil)))
            (sSet 3 (eBin fdivD (eV 3) (eC (.int (1000000)))))) gNil))) (gSeq (sExp (eMt appG (eV 1) (aCons (eBin modD (eV 2) (eC (.int (1000000)))) aNil)))
        (sFor (gtN 4) (iRng (eC (.int (5)))) (sExp (eMt appG (eV 1) (aCons (eBin modD (eFrz (eCall F__law_mixed (aCons (eFrz (eCall F__law_mixed (aCons (eBin modD (eV 2) (eC (.int (2147483647)))) (aCons (eV 4) aNil)))) (aCons (eBin addD (eV 4) (eC (.int (7)))) aNil)))) (eC (.int (1000000)))) aNil)))))) (ns.map .int) [x, .cel 0, a, b, c] [.lst (acc.map .int)] = .nx [x, .cel 0, a', b', c'] [.lst (acc'.map .int)] ∧ InR acc' ∧ acc'.length ≤ acc.length + 60 * ns.length
  | [], acc, a, b, c, h1, h2 => ⟨acc, a, b, c, by simp, h1, by simp⟩
  | v :: ns, acc, a, b, c, h1, h2 => by
    simp at h2
    rw [List.map_cons, gFor_cons]
    by_cases hc : (1000000000000000000 : Int) ≤ v
    · obtain ⟨acc1, rest1, c1, e, e1, e2⟩ := num_in1 x (.d (.int v)) b ((List.range 60).map fun (k : Nat) => 0 + (k : Int)) v acc c h1 (by simp; omega)
      rw [← rngD_map] at e
      obtain ⟨acc', a', b', c', f, f1, f2⟩ := num_out x ns acc1 (.d (.int v)) (.d (.int rest1)) c1 e1 (by simp at e2; omega)
      refine ⟨acc', a', b', c', ?_, f1, by simp at e2 ⊢; omega⟩
      simp [hc, e, f]
    · have l1 : acc.length < sizeLine := size_lt (by omega)
      have l2 : acc.length ≤ sizeLine := size_ok (by omega)
      obtain ⟨acc1, c1, e, e1, e2⟩ := num_in2 x b v ((List.range 5).map fun (k : Nat) => 0 + (k : Int)) (acc ++ [v % 1000000]) c (by intro j hj; simp at hj; omega) (inR_app h1 (by omega) (by omega)) (by simp; omega)
      rw [← rngD_map] at e
      obtain ⟨acc', a', b', c', f, f1, f2⟩ := num_out x ns acc1 (.d (.int v)) b c1 e1 (by simp at e2; omega)
      refine ⟨acc', a', b', c', ?_, f1, by simp at e2 ⊢; omega⟩
      simp at e
      simp [hc, l1, l2, e, f]
theorem numbers_ (ns : List Int) (h : ns.length ≤ 100) : ∃ nums, F__law_numbers [.d (.list (ns.map .int))] [] = .ok (.own (.lst (nums.map .int))) [] ∧ InR nums ∧ nums.length ≤ 6000 := by
  obtain ⟨acc', a', b', c', f, f1, f2⟩ := num_out (.d (.list (ns.map .int))) ns [] .no .no .no (by intro x hx; cases hx) (by simp; omega)
  refine ⟨acc', ?_, f1, by simp at f2; omega⟩
  simp at f
  simp [F__law_numbers, B__law_numbers, f, fin_cel]
theorem gdI {l : List Int} {k : Nat} {d : Int} (h : k < l.length) : l.getD k d = l[k] := by
  simp [List.getD_eq_getElem?_getD, h]
/-- the draws -/
def DS (nums : List Int) (k : Nat) : Store := [.lst [.list (nums.map .int), .int k]]
def dr (nums : List Int) (k : Nat) : Int := if k < nums.length then nums.getD k 0 else mx (mx (if 0 < nums.length then 1 + (k : Int) + 1009 * nums.getD 0 0 else 1 + (k : Int)) k) 5 % 1000000
theorem dr_lo {nums : List Int} {k : Nat} (h : InR nums) : 0 ≤ dr nums k := by
  unfold dr
  split
  next hk => rw [gdI hk]; exact (h _ (List.getElem_mem hk)).1
  next => exact Int.emod_nonneg _ (by decide)
theorem dr_hi {nums : List Int} {k : Nat} (h : InR nums) : dr nums k < 1000000 := by
  unfold dr
  split
  next hk => rw [gdI hk]; exact (h _ (List.getElem_mem hk)).2
  next => exact Int.emod_lt_of_pos _ (by decide)
theorem draw_ {nums : List Int} {k : Nat} (h : InR nums) (hk : k < 1000000000000) : F__law_draw [.cel 0] (DS nums k) = .ok (.d (.int (dr nums k))) (DS nums (k + 1)) := by
  have i1 : ixN 2 1 = some 1 := rfl
  by_cases c : k < nums.length
  · have c1 : (k : Int) < nums.length := by omega
    have e1 : atI (nums.map PyData.int) (k : Int) = some (.int (dr nums k)) := by
      refine atI_of rfl ?_
      unfold dr
      rw [if_pos c, gdI c]
      simp [c]
    simp [F__law_draw, B__law_draw, DS, i1, c1, e1]
  · have c1 : ¬ (k : Int) < nums.length := by omega
    by_cases c2 : 0 < nums.length
    · have c3 : 0 < (nums.length : Int) := by omega
      have c4 : nums.getD 0 0 = nums[0] := by rw [gdI c2]
      have c5 := h nums[0] (List.getElem_mem c2)
      have e1 : atI (nums.map PyData.int) (0 : Int) = some (.int (nums.getD 0 0)) := by
        refine atI_of (n := 0) rfl ?_
        rw [c4]
        simp [c2]
      have e2 : mulD (.int 1009) (.int (nums.getD 0 0)) = some (.int (1009 * nums.getD 0 0)) := mulD_lt (by decide) (Nat.lt_trans (m := 1000000) (by rw [c4]; omega) (by decide))
      have m1 := mixed_ (n := 1 + (k : Int) + 1009 * nums.getD 0 0) (k := k) (by rw [c4]; omega) (by omega)
      have b1 := mx_lo (1 + (k : Int) + 1009 * nums.getD 0 0) k
      have b2 := mx_hi (1 + (k : Int) + 1009 * nums.getD 0 0) k
      have m2 := mixed_ (n := mx (1 + (k : Int) + 1009 * nums.getD 0 0) k) (k := 5) (by omega) (by decide)
      have d1 : dr nums k = mx (mx (1 + (k : Int) + 1009 * nums.getD 0 0) k) 5 % 1000000 := by
        unfold dr; rw [if_neg c, if_pos c2]
      generalize nums.getD 0 0 = z at e1 e2 m1 m2 d1
      simp [F__law_draw, B__law_draw, DS, i1, c1, c2, e1, e2, m1, m2, d1, -mulD_int]
    · have c3 : nums = [] := by
        cases nums with
        | nil => rfl
        | cons x l => simp at c2
      subst c3
      have m1 := mixed_ (n := 1 + (k : Int)) (k := k) (by omega) (by omega)
      have b1 := mx_lo (1 + (k : Int)) k
      have b2 := mx_hi (1 + (k : Int)) k
      have m2 := mixed_ (n := mx (1 + (k : Int)) k) (k := 5) (by omega) (by decide)
      have c1 : ¬ (k : Int) < 0 := by omega
      simp [F__law_draw, B__law_draw, DS, i1, c1, m1, m2, dr]
/-! data whose texts keep p -/
mutual
def dAll (p : Str → Bool) : D → Bool
  | .str x => p x
  | .list xs => dAlls p xs
  | .tuple xs => dAlls p xs
  | .dict _ => false
  | _ => true
def dAlls (p : Str → Bool) : List D → Bool
  | [] => true
  | x :: xs => dAll p x && dAlls p xs
end
theorem dAlls_iff {p : Str → Bool} : ∀ {xs : List D}, dAlls p xs = true ↔ ∀ x ∈ xs, dAll p x = true
  | [] => by simp [dAlls]
  | x :: xs => by simp [dAlls, dAlls_iff (xs := xs)]
def txOk (x : Str) : Bool := decide (x.length ≤ 1000) && PyData.strOk x
/-- plain data: short texts, not deep, no dict -/
structure Sane (p : Str → Bool) (d : D) : Prop where
  a : dAll (fun x => txOk x && p x) d = true
  d : d.depth ≤ 60
mutual
theorem lay_of {p : Str → Bool} : ∀ d : D, dAll (fun x => txOk x && p x) d = true → d.canLay0 = true
  | .none, _ => by simp [PyData.canLay0]
  | .bool _, _ => by simp [PyData.canLay0]
  | .int _, _ => by simp [PyData.canLay0]
  | .str x, h => by simp [dAll, txOk] at h; simp [PyData.canLay0, h]
  | .list xs, h => by simp only [PyData.canLay0]; exact lays_of xs (by simpa [dAll] using h)
  | .tuple xs, h => by simp only [PyData.canLay0]; exact lays_of xs (by simpa [dAll] using h)
  | .dict _, h => by simp [dAll] at h
theorem lays_of {p : Str → Bool} : ∀ xs : List D, dAlls (fun x => txOk x && p x) xs = true → PyData.canLayAll0 xs = true
  | [], _ => by simp [PyData.canLayAll0]
  | x :: xs, h => by
    simp only [dAlls, Bool.and_eq_true] at h
    simp only [PyData.canLayAll0, Bool.and_eq_true]
    exact ⟨lay_of x h.1, lays_of xs h.2⟩
end
theorem dep_mem : ∀ {xs : List D} {x : D}, x ∈ xs → x.depth ≤ PyData.depthAll xs
  | y :: ys, x, h => by
    simp only [PyData.depthAll]
    rcases List.mem_cons.1 h with h | h
    · subst h; exact Nat.le_max_left _ _
    · exact Nat.le_trans (dep_mem h) (Nat.le_max_right _ _)
theorem dep_le {n : Nat} : ∀ {xs : List D}, (∀ x ∈ xs, x.depth ≤ n) → PyData.depthAll xs ≤ n
  | [], _ => by simp [PyData.depthAll]
  | y :: ys, h => by
    simp only [PyData.depthAll]
    exact Nat.max_le.2 ⟨h y (by simp), dep_le fun x hx => h x (by simp [hx])⟩
section
variable {p : Str → Bool} {d x : D} {xs ys : List D}
theorem Sane.sh (h : Sane p d) : SeqAt.shaped d = true := by
  have := h.d
  simp [SeqAt.shaped, lay_of d h.a]; omega
theorem Sane.mem (h : Sane p (.tuple xs)) (m : x ∈ xs) : Sane p x := by
  have a := h.a
  have b := h.d
  simp only [dAll] at a
  simp only [PyData.depth] at b
  have := dep_mem m
  exact ⟨dAlls_iff.1 a x m, by omega⟩
theorem Sane.memL (h : Sane p (.list xs)) (m : x ∈ xs) : Sane p x := by
  have a := h.a
  have b := h.d
  simp only [dAll] at a
  simp only [PyData.depth] at b
  have := dep_mem m
  exact ⟨dAlls_iff.1 a x m, by omega⟩
theorem sane_of {n : Nat} (hn : n + 1 ≤ 60) (h : ∀ x ∈ xs, Sane p x ∧ x.depth ≤ n) : Sane p (.tuple xs) ∧ Sane p (.list xs) := by
  have a : dAlls (fun x => txOk x && p x) xs = true := dAlls_iff.2 fun x hx => (h x hx).1.a
  have b := dep_le fun x hx => (h x hx).2
  exact ⟨⟨by simpa only [dAll] using a, by simp only [PyData.depth]; omega⟩, ⟨by simpa only [dAll] using a, by simp only [PyData.depth]; omega⟩⟩
theorem Sane.sub (h : Sane p (.tuple xs)) (m : ∀ x ∈ ys, x ∈ xs) : Sane p (.tuple ys) ∧ Sane p (.list ys) := by
  have b := h.d
  simp only [PyData.depth] at b
  exact sane_of (n := PyData.depthAll xs) (by omega) fun x hx => ⟨h.mem (m x hx), dep_mem (m x hx)⟩
theorem Sane.subL (h : Sane p (.list xs)) (m : ∀ x ∈ ys, x ∈ xs) : Sane p (.tuple ys) ∧ Sane p (.list ys) := by
  have b := h.d
  simp only [PyData.depth] at b
  exact sane_of (n := PyData.depthAll xs) (by omega) fun x hx => ⟨h.memL (m x hx), dep_mem (m x hx)⟩
theorem Sane.str {x : Str} (h : Sane p (.str x)) : x.length ≤ 1000 ∧ PyData.strOk x = true ∧ p x = true := by
  have a := h.a
  simp [dAll, txOk] at a
  exact ⟨a.1.1, a.1.2, a.2⟩
theorem Sane.int {i : Int} : Sane p (.int i) := ⟨by simp [dAll], by simp [PyData.depth]⟩
theorem Sane.none : Sane p .none := ⟨by simp [dAll], by simp [PyData.depth]⟩
theorem Sane.bool {b : Bool} : Sane p (.bool b) := ⟨by simp [dAll], by simp [PyData.depth]⟩
theorem eq_nil (h : SeqAt.shaped (.list xs) = true) : eqD (.list xs) (.list []) = some xs.isEmpty := by
  rw [eqD_sh h (by decide)]
  cases xs <;> simp [PyData.eqv, PyData.eqvAll]
end
/-! numbers and names -/
def isNum (d : D) (a b : Int) : Bool := match d with
  | .int x => decide (a ≤ x) && decide (x ≤ b)
  | _ => false
theorem is_number_ (d : D) (a b : Int) : F_is_number [.d d, .d (.int a), .d (.int b)] [] = .ok (.d (.bool (isNum d a b))) [] := by
  cases d with
  | int x =>
    simp [F_is_number, B_is_number, isNum]
    by_cases h : a ≤ x <;> simp [h]
  | _ => simp [F_is_number, B_is_number, isaD, isNum]
def lets : List Nat := ("abcdefghijklmnopqrstuvwxyz" : Str).cps.toList
def figs : List Nat := ("0123456789" : Str).cps.toList
def isName (d : D) : Bool := match d with
  | .str x => match x.cps.toList with
    | [] => false
    | c :: r => decide (r.length ≤ 7) && (decide (c ∈ lets) && (c :: r).all fun k => decide (k ∈ lets) || decide (k ∈ figs))
  | _ => false
theorem len_cps (x : Str) : x.length = x.cps.toList.length := by
  show x.cps.size = _
  simp
theorem ix_str {x : Str} {c : Nat} {r : List Nat} (h : x.cps.toList = c :: r) (hl : x.length ≤ 1000) : ixD (.str x) (.int 0) = some (chD c) := by
  show (if x.length ≤ sizeLine then (atI x.cps.toList 0).map fun c => PyData.str ⟨#[c]⟩ else none) = _
  rw [if_pos (size_ok (by omega)), h, atI0]; rfl
theorem len_str {x : Str} (hl : x.length ≤ 1000) : lenG [.str x] = some (.int x.length) := by
  have h : x.length ≤ sizeLine := size_ok (by omega)
  simp [lenG, lenD, h]
theorem ch_shaped {l : List Nat} (h : ∀ c ∈ l, c < 0x110000) : SeqAt.shaped (.list (l.map chD)) = true := by
  have a : PyData.canLayAll0 (l.map chD) = true ∧ PyData.depthAll (l.map chD) = 0 := by
    induction l with
    | nil => simp [PyData.canLayAll0, PyData.depthAll]
    | cons c l ih =>
      have := ih fun k hk => h k (by simp [hk])
      have hc := h c (by simp)
      simp [PyData.canLayAll0, PyData.depthAll, this, chD, PyData.canLay0, PyData.strOk, PyData.depth, hc]
  simp [SeqAt.shaped, PyData.canLay0, PyData.depth, a]
theorem isa_other {T : String} {d : D} (h : isaD T d = false) : isaD T d = false := h
theorem is_name_ {p : Str → Bool} {d : D} (h : Sane p d) : F_is_name [.d d] [] = .ok (.d (.bool (isName d))) [] := by
  cases d with
  | str x =>
    obtain ⟨h1, h2, _⟩ := h.str
    have hl := len_cps x
    have l1 := len_str h1
    cases e : x.cps.toList with
    | nil =>
      rw [e] at hl
      simp at hl
      simp [F_is_name, B_is_name, l1, hl, isName, e]
    | cons c r =>
      rw [e] at hl
      simp only [List.length_cons] at hl
      have i1 := ix_str e h1
      by_cases q1 : r.length ≤ 7
      · have q2 : (x.length : Int) ≤ 8 := by omega
        have q3 : (1 : Int) ≤ x.length := by omega
        by_cases q4 : c ∈ lets
        · have q5 : c ∈ ("abcdefghijklmnopqrstuvwxyz" : Str).cps.toList := q4
          have lc := lcL_pure (cs := []) (tg := gtN 1) (t := tAndM (op2 ninD (eV 1) (eC (.str "abcdefghijklmnopqrstuvwxyz"))) (op2 ninD (eV 1) (eC (.str "0123456789")))) (f := eV 1) (ρ := [.d (.str x), .no])
            (fun y => [.d (.str x), .d y]) (fun y => match y with
              | .str z => !(decide (z.cps.getD 0 0 ∈ lets)) && !(decide (z.cps.getD 0 0 ∈ figs))
              | _ => false) id (x.cps.toList.map chD) [] (by
              intro y hy
              obtain ⟨k, hk, rfl⟩ := List.mem_map.1 hy
              refine ⟨rfl, ?_, fun _ => by simp⟩
              have n1 : inD (chD k) (.str "abcdefghijklmnopqrstuvwxyz") = some (decide (k ∈ lets)) := inD_ch _ _
              have n2 : inD (chD k) (.str "0123456789") = some (decide (k ∈ figs)) := inD_ch _ _
              have n3 : (chD k) = .str ⟨#[k]⟩ := rfl
              by_cases w1 : k ∈ lets <;> simp [n1, n2, w1, ninD_eq, n3] <;> simp [← n3, n1, n2, w1]) (by simp [e]; exact size_ok (by omega))
          have ef : ((x.cps.toList.map chD).filter fun y => match y with
              | .str z => !(decide (z.cps.getD 0 0 ∈ lets)) && !(decide (z.cps.getD 0 0 ∈ figs))
              | _ => false).map id = (x.cps.toList.filter fun k => !(decide (k ∈ lets)) && !(decide (k ∈ figs))).map chD := by
            rw [List.filter_map, List.map_id]; rfl
          rw [List.nil_append, ef] at lc
          have sh := ch_shaped (l := x.cps.toList.filter fun k => !(decide (k ∈ lets)) && !(decide (k ∈ figs))) (by
            intro k hk
            have hm := (List.mem_filter.1 hk).1
            unfold PyData.strOk at h2
            rw [Array.all_eq_true_iff_forall_mem] at h2
            exact of_decide_eq_true (h2 k (Array.mem_toList_iff.1 hm)))
          have en := eq_nil sh
          have ee : (c :: r).all (fun k => decide (k ∈ lets) || decide (k ∈ figs)) = ((x.cps.toList.filter fun k => !(decide (k ∈ lets)) && !(decide (k ∈ figs))).map chD).isEmpty := by
            rw [e]
            rw [Bool.eq_iff_iff]
            simp [List.filter_eq_nil_iff, Classical.or_iff_not_imp_left]
            refine ⟨fun h a ha hl => ?_, fun h => ⟨fun hl => h c (fun z => absurd rfl z) hl, fun y hy => h y (fun _ => hy)⟩⟩
            by_cases q : a = c
            · subst q; exact h.1 hl
            · exact h.2 a (ha q) hl
          generalize (x.cps.toList.filter fun k => !(decide (k ∈ lets)) && !(decide (k ∈ figs))).map chD = fl at *
          rw [e, List.map_cons] at lc
          have q6 : isName (.str x) = fl.isEmpty := by
            show (match x.cps.toList with
              | [] => false
              | c :: r => decide (r.length ≤ 7) && (decide (c ∈ lets) && (c :: r).all fun k => decide (k ∈ lets) || decide (k ∈ figs))) = _
            rw [e]
            simp only [ee, q1, q4, decide_true, Bool.true_and]
          rw [q6]
          simp [F_is_name, B_is_name, l1, i1, q2, q3, q5, lc, en, ninD_eq, e]
        · have q5 : ¬ c ∈ ("abcdefghijklmnopqrstuvwxyz" : Str).cps.toList := q4
          simp [F_is_name, B_is_name, l1, i1, q2, q3, q5, isName, e, q4, ninD_eq]
      · have q2 : ¬ (x.length : Int) ≤ 8 := by omega
        have q3 : (1 : Int) ≤ x.length := by omega
        simp [F_is_name, B_is_name, l1, i1, q2, q3, isName, e, q1]
  | _ => simp [F_is_name, B_is_name, isaD, isName]
theorem is_day_ (d : D) : F_is_day [.d d] [] = .ok (.d (.bool (isNum d 0 36500))) [] := by
  simp [F_is_day, B_is_day, is_number_]
/-- a tuple of so many -/
def isTup (d : D) (a b : Int) : Bool := match d with
  | .tuple xs => decide (a ≤ (xs.length : Int)) && decide ((xs.length : Int) ≤ b)
  | _ => false
theorem is_tuple_ (d : D) (a b : Int) : F_is_tuple [.d d, .d (.int a), .d (.int b)] [] = .ok (.d (.bool (isTup d a b))) [] := by
  cases d with
  | tuple xs =>
    simp [F_is_tuple, B_is_tuple, isTup]
    by_cases h : a ≤ (xs.length : Int) <;> simp [h]
  | _ => simp [F_is_tuple, B_is_tuple, isaD, isTup]
theorem atI_mod {xs : List D} {P : D → Prop} (v : Int) (n : Int) (hn : n = (xs.length : Int)) (h0 : 0 < xs.length) (h : ∀ x ∈ xs, P x) : ∃ x, P x ∧ atI xs (v % n) = some x := by
  subst hn
  have a1 : 0 ≤ v % (xs.length : Int) := Int.emod_nonneg _ (by omega)
  have a2 : v % (xs.length : Int) < xs.length := Int.emod_lt_of_pos _ (by omega)
  have a3 : (v % (xs.length : Int)).toNat < xs.length := by omega
  refine ⟨xs[(v % (xs.length : Int)).toNat], h _ (List.getElem_mem a3), ?_⟩
  exact atI_of (n := (v % (xs.length : Int)).toNat) (by omega) (by simp [a3])
@[simp] theorem DS_len (nums : List Int) (k : Nat) : (DS nums k).length = 1 := rfl
@[simp] theorem DS_take (nums : List Int) (k : Nat) : (DS nums k).take 1 = DS nums k := rfl
theorem callC_DS {F : List S → M Rv} {r : List S} {nums : List Int} {k k' : Nat} {x : D} (hr : noCel r = true) (e : F (.cel 0 :: r) (DS nums k) = .ok (.d x) (DS nums k')) : callC F (.cel 0 :: r) (DS nums k) = .ok (.d x) (DS nums k') := by
  simp only [DS] at e ⊢
  simp [hr, e]
theorem drc {nums : List Int} {k : Nat} (h : InR nums) (hk : k < 1000000000000) (k' : Nat) (e : k' = k + 1) : callC F__law_draw [.cel 0] (DS nums k) = .ok (.d (.int (dr nums k))) (DS nums k') := by
  subst e; exact callC_DS rfl (draw_ h hk)
theorem lc_draw {nums : List Int} {i st B : Nat} {f : List S → M S} {ρ : List S} (P : D → Prop) (hf : ∀ (k : Nat) (x : D), k + st ≤ B → ∃ y k', f (ρ.set i (.d x)) (DS nums k) = .ok (.d y) (DS nums k') ∧ P y ∧ k ≤ k' ∧ k' ≤ k + st) :
    ∀ (xs acc : List D) (k : Nat), k + st * xs.length ≤ B → acc.length + xs.length ≤ 100000 → ∃ ys k', lcL (gtN i) tYesM f ρ xs acc (DS nums k) = .ok (.own (.lst (acc ++ ys))) (DS nums k') ∧ ys.length = xs.length ∧ (∀ y ∈ ys, P y) ∧ k ≤ k' ∧ k' ≤ k + st * xs.length
  | [], acc, k, _, _ => ⟨[], k, by simp, rfl, by simp, Nat.le_refl _, by simp⟩
  | x :: xs, acc, k, h1, h2 => by
    have e0 : st * (x :: xs).length = st + st * xs.length := by rw [List.length_cons, Nat.mul_succ]; omega
    rw [e0] at h1
    rw [List.length_cons] at h2
    obtain ⟨y, k1, e1, p1, l1, l2⟩ := hf k x (by omega)
    obtain ⟨ys, k2, e2, q1, q2, q3, q4⟩ := lc_draw P hf xs (acc ++ [y]) k1 (by omega) (by simp; omega)
    refine ⟨y :: ys, k2, ?_, by simp [q1], by simpa using ⟨p1, q2⟩, by omega, by rw [e0]; omega⟩
    have hl : acc.length < sizeLine := size_lt (by omega)
    rw [lcL_cons]
    simp only [gtN_, bnd_, noEr_, tYesM_, if_true, e1, if_pos hl, e2]
    simp
@[simp] theorem sp0 : (("always" : Str) == ("peril" : Str)) = false := rfl
@[simp] theorem sq0 : (("always" : Str) = ("peril" : Str)) = False := eq_false (by decide)
@[simp] theorem sp1 : (("always" : Str) == ("place" : Str)) = false := rfl
@[simp] theorem sq1 : (("always" : Str) = ("place" : Str)) = False := eq_false (by decide)
@[simp] theorem sp2 : (("always" : Str) == ("object" : Str)) = false := rfl
@[simp] theorem sq2 : (("always" : Str) = ("object" : Str)) = False := eq_false (by decide)
@[simp] theorem sp3 : (("always" : Str) == ("day" : Str)) = false := rfl
@[simp] theorem sq3 : (("always" : Str) = ("day" : Str)) = False := eq_false (by decide)
@[simp] theorem sp4 : (("always" : Str) == ("noticed" : Str)) = false := rfl
@[simp] theorem sq4 : (("always" : Str) = ("noticed" : Str)) = False := eq_false (by decide)
@[simp] theorem sp5 : (("always" : Str) == ("says" : Str)) = false := rfl
@[simp] theorem sq5 : (("always" : Str) = ("says" : Str)) = False := eq_false (by decide)
@[simp] theorem sp6 : (("always" : Str) == ("not" : Str)) = false := rfl
@[simp] theorem sq6 : (("always" : Str) = ("not" : Str)) = False := eq_false (by decide)
@[simp] theorem sp7 : (("always" : Str) == ("and" : Str)) = false := rfl
@[simp] theorem sq7 : (("always" : Str) = ("and" : Str)) = False := eq_false (by decide)
@[simp] theorem sp8 : (("always" : Str) == ("or" : Str)) = false := rfl
@[simp] theorem sq8 : (("always" : Str) = ("or" : Str)) = False := eq_false (by decide)
@[simp] theorem sp9 : (("peril" : Str) == ("always" : Str)) = false := rfl
@[simp] theorem sq9 : (("peril" : Str) = ("always" : Str)) = False := eq_false (by decide)
@[simp] theorem sp10 : (("peril" : Str) == ("place" : Str)) = false := rfl
@[simp] theorem sq10 : (("peril" : Str) = ("place" : Str)) = False := eq_false (by decide)
@[simp] theorem sp11 : (("peril" : Str) == ("object" : Str)) = false := rfl
@[simp] theorem sq11 : (("peril" : Str) = ("object" : Str)) = False := eq_false (by decide)
@[simp] theorem sp12 : (("peril" : Str) == ("day" : Str)) = false := rfl
@[simp] theorem sq12 : (("peril" : Str) = ("day" : Str)) = False := eq_false (by decide)
@[simp] theorem sp13 : (("peril" : Str) == ("noticed" : Str)) = false := rfl
@[simp] theorem sq13 : (("peril" : Str) = ("noticed" : Str)) = False := eq_false (by decide)
@[simp] theorem sp14 : (("peril" : Str) == ("says" : Str)) = false := rfl
@[simp] theorem sq14 : (("peril" : Str) = ("says" : Str)) = False := eq_false (by decide)
@[simp] theorem sp15 : (("peril" : Str) == ("not" : Str)) = false := rfl
@[simp] theorem sq15 : (("peril" : Str) = ("not" : Str)) = False := eq_false (by decide)
@[simp] theorem sp16 : (("peril" : Str) == ("and" : Str)) = false := rfl
@[simp] theorem sq16 : (("peril" : Str) = ("and" : Str)) = False := eq_false (by decide)
@[simp] theorem sp17 : (("peril" : Str) == ("or" : Str)) = false := rfl
@[simp] theorem sq17 : (("peril" : Str) = ("or" : Str)) = False := eq_false (by decide)
@[simp] theorem sp18 : (("place" : Str) == ("always" : Str)) = false := rfl
@[simp] theorem sq18 : (("place" : Str) = ("always" : Str)) = False := eq_false (by decide)
@[simp] theorem sp19 : (("place" : Str) == ("peril" : Str)) = false := rfl
@[simp] theorem sq19 : (("place" : Str) = ("peril" : Str)) = False := eq_false (by decide)
@[simp] theorem sp20 : (("place" : Str) == ("object" : Str)) = false := rfl
@[simp] theorem sq20 : (("place" : Str) = ("object" : Str)) = False := eq_false (by decide)
@[simp] theorem sp21 : (("place" : Str) == ("day" : Str)) = false := rfl
@[simp] theorem sq21 : (("place" : Str) = ("day" : Str)) = False := eq_false (by decide)
@[simp] theorem sp22 : (("place" : Str) == ("noticed" : Str)) = false := rfl
@[simp] theorem sq22 : (("place" : Str) = ("noticed" : Str)) = False := eq_false (by decide)
@[simp] theorem sp23 : (("place" : Str) == ("says" : Str)) = false := rfl
@[simp] theorem sq23 : (("place" : Str) = ("says" : Str)) = False := eq_false (by decide)
@[simp] theorem sp24 : (("place" : Str) == ("not" : Str)) = false := rfl
@[simp] theorem sq24 : (("place" : Str) = ("not" : Str)) = False := eq_false (by decide)
@[simp] theorem sp25 : (("place" : Str) == ("and" : Str)) = false := rfl
@[simp] theorem sq25 : (("place" : Str) = ("and" : Str)) = False := eq_false (by decide)
@[simp] theorem sp26 : (("place" : Str) == ("or" : Str)) = false := rfl
@[simp] theorem sq26 : (("place" : Str) = ("or" : Str)) = False := eq_false (by decide)
@[simp] theorem sp27 : (("object" : Str) == ("always" : Str)) = false := rfl
@[simp] theorem sq27 : (("object" : Str) = ("always" : Str)) = False := eq_false (by decide)
@[simp] theorem sp28 : (("object" : Str) == ("peril" : Str)) = false := rfl
@[simp] theorem sq28 : (("object" : Str) = ("peril" : Str)) = False := eq_false (by decide)
@[simp] theorem sp29 : (("object" : Str) == ("place" : Str)) = false := rfl
@[simp] theorem sq29 : (("object" : Str) = ("place" : Str)) = False := eq_false (by decide)
@[simp] theorem sp30 : (("object" : Str) == ("day" : Str)) = false := rfl
@[simp] theorem sq30 : (("object" : Str) = ("day" : Str)) = False := eq_false (by decide)
@[simp] theorem sp31 : (("object" : Str) == ("noticed" : Str)) = false := rfl
@[simp] theorem sq31 : (("object" : Str) = ("noticed" : Str)) = False := eq_false (by decide)
@[simp] theorem sp32 : (("object" : Str) == ("says" : Str)) = false := rfl
@[simp] theorem sq32 : (("object" : Str) = ("says" : Str)) = False := eq_false (by decide)
@[simp] theorem sp33 : (("object" : Str) == ("not" : Str)) = false := rfl
@[simp] theorem sq33 : (("object" : Str) = ("not" : Str)) = False := eq_false (by decide)
@[simp] theorem sp34 : (("object" : Str) == ("and" : Str)) = false := rfl
@[simp] theorem sq34 : (("object" : Str) = ("and" : Str)) = False := eq_false (by decide)
@[simp] theorem sp35 : (("object" : Str) == ("or" : Str)) = false := rfl
@[simp] theorem sq35 : (("object" : Str) = ("or" : Str)) = False := eq_false (by decide)
@[simp] theorem sp36 : (("day" : Str) == ("always" : Str)) = false := rfl
@[simp] theorem sq36 : (("day" : Str) = ("always" : Str)) = False := eq_false (by decide)
@[simp] theorem sp37 : (("day" : Str) == ("peril" : Str)) = false := rfl
@[simp] theorem sq37 : (("day" : Str) = ("peril" : Str)) = False := eq_false (by decide)
@[simp] theorem sp38 : (("day" : Str) == ("place" : Str)) = false := rfl
@[simp] theorem sq38 : (("day" : Str) = ("place" : Str)) = False := eq_false (by decide)
@[simp] theorem sp39 : (("day" : Str) == ("object" : Str)) = false := rfl
@[simp] theorem sq39 : (("day" : Str) = ("object" : Str)) = False := eq_false (by decide)
@[simp] theorem sp40 : (("day" : Str) == ("noticed" : Str)) = false := rfl
@[simp] theorem sq40 : (("day" : Str) = ("noticed" : Str)) = False := eq_false (by decide)
@[simp] theorem sp41 : (("day" : Str) == ("says" : Str)) = false := rfl
@[simp] theorem sq41 : (("day" : Str) = ("says" : Str)) = False := eq_false (by decide)
@[simp] theorem sp42 : (("day" : Str) == ("not" : Str)) = false := rfl
@[simp] theorem sq42 : (("day" : Str) = ("not" : Str)) = False := eq_false (by decide)
@[simp] theorem sp43 : (("day" : Str) == ("and" : Str)) = false := rfl
@[simp] theorem sq43 : (("day" : Str) = ("and" : Str)) = False := eq_false (by decide)
@[simp] theorem sp44 : (("day" : Str) == ("or" : Str)) = false := rfl
@[simp] theorem sq44 : (("day" : Str) = ("or" : Str)) = False := eq_false (by decide)
@[simp] theorem sp45 : (("noticed" : Str) == ("always" : Str)) = false := rfl
@[simp] theorem sq45 : (("noticed" : Str) = ("always" : Str)) = False := eq_false (by decide)
@[simp] theorem sp46 : (("noticed" : Str) == ("peril" : Str)) = false := rfl
@[simp] theorem sq46 : (("noticed" : Str) = ("peril" : Str)) = False := eq_false (by decide)
@[simp] theorem sp47 : (("noticed" : Str) == ("place" : Str)) = false := rfl
@[simp] theorem sq47 : (("noticed" : Str) = ("place" : Str)) = False := eq_false (by decide)
@[simp] theorem sp48 : (("noticed" : Str) == ("object" : Str)) = false := rfl
@[simp] theorem sq48 : (("noticed" : Str) = ("object" : Str)) = False := eq_false (by decide)
@[simp] theorem sp49 : (("noticed" : Str) == ("day" : Str)) = false := rfl
@[simp] theorem sq49 : (("noticed" : Str) = ("day" : Str)) = False := eq_false (by decide)
@[simp] theorem sp50 : (("noticed" : Str) == ("says" : Str)) = false := rfl
@[simp] theorem sq50 : (("noticed" : Str) = ("says" : Str)) = False := eq_false (by decide)
@[simp] theorem sp51 : (("noticed" : Str) == ("not" : Str)) = false := rfl
@[simp] theorem sq51 : (("noticed" : Str) = ("not" : Str)) = False := eq_false (by decide)
@[simp] theorem sp52 : (("noticed" : Str) == ("and" : Str)) = false := rfl
@[simp] theorem sq52 : (("noticed" : Str) = ("and" : Str)) = False := eq_false (by decide)
@[simp] theorem sp53 : (("noticed" : Str) == ("or" : Str)) = false := rfl
@[simp] theorem sq53 : (("noticed" : Str) = ("or" : Str)) = False := eq_false (by decide)
@[simp] theorem sp54 : (("says" : Str) == ("always" : Str)) = false := rfl
@[simp] theorem sq54 : (("says" : Str) = ("always" : Str)) = False := eq_false (by decide)
@[simp] theorem sp55 : (("says" : Str) == ("peril" : Str)) = false := rfl
@[simp] theorem sq55 : (("says" : Str) = ("peril" : Str)) = False := eq_false (by decide)
@[simp] theorem sp56 : (("says" : Str) == ("place" : Str)) = false := rfl
@[simp] theorem sq56 : (("says" : Str) = ("place" : Str)) = False := eq_false (by decide)
@[simp] theorem sp57 : (("says" : Str) == ("object" : Str)) = false := rfl
@[simp] theorem sq57 : (("says" : Str) = ("object" : Str)) = False := eq_false (by decide)
@[simp] theorem sp58 : (("says" : Str) == ("day" : Str)) = false := rfl
@[simp] theorem sq58 : (("says" : Str) = ("day" : Str)) = False := eq_false (by decide)
@[simp] theorem sp59 : (("says" : Str) == ("noticed" : Str)) = false := rfl
@[simp] theorem sq59 : (("says" : Str) = ("noticed" : Str)) = False := eq_false (by decide)
@[simp] theorem sp60 : (("says" : Str) == ("not" : Str)) = false := rfl
@[simp] theorem sq60 : (("says" : Str) = ("not" : Str)) = False := eq_false (by decide)
@[simp] theorem sp61 : (("says" : Str) == ("and" : Str)) = false := rfl
@[simp] theorem sq61 : (("says" : Str) = ("and" : Str)) = False := eq_false (by decide)
@[simp] theorem sp62 : (("says" : Str) == ("or" : Str)) = false := rfl
@[simp] theorem sq62 : (("says" : Str) = ("or" : Str)) = False := eq_false (by decide)
@[simp] theorem sp63 : (("not" : Str) == ("always" : Str)) = false := rfl
@[simp] theorem sq63 : (("not" : Str) = ("always" : Str)) = False := eq_false (by decide)
@[simp] theorem sp64 : (("not" : Str) == ("peril" : Str)) = false := rfl
@[simp] theorem sq64 : (("not" : Str) = ("peril" : Str)) = False := eq_false (by decide)
@[simp] theorem sp65 : (("not" : Str) == ("place" : Str)) = false := rfl
@[simp] theorem sq65 : (("not" : Str) = ("place" : Str)) = False := eq_false (by decide)
@[simp] theorem sp66 : (("not" : Str) == ("object" : Str)) = false := rfl
@[simp] theorem sq66 : (("not" : Str) = ("object" : Str)) = False := eq_false (by decide)
@[simp] theorem sp67 : (("not" : Str) == ("day" : Str)) = false := rfl
@[simp] theorem sq67 : (("not" : Str) = ("day" : Str)) = False := eq_false (by decide)
@[simp] theorem sp68 : (("not" : Str) == ("noticed" : Str)) = false := rfl
@[simp] theorem sq68 : (("not" : Str) = ("noticed" : Str)) = False := eq_false (by decide)
@[simp] theorem sp69 : (("not" : Str) == ("says" : Str)) = false := rfl
@[simp] theorem sq69 : (("not" : Str) = ("says" : Str)) = False := eq_false (by decide)
@[simp] theorem sp70 : (("not" : Str) == ("and" : Str)) = false := rfl
@[simp] theorem sq70 : (("not" : Str) = ("and" : Str)) = False := eq_false (by decide)
@[simp] theorem sp71 : (("not" : Str) == ("or" : Str)) = false := rfl
@[simp] theorem sq71 : (("not" : Str) = ("or" : Str)) = False := eq_false (by decide)
@[simp] theorem sp72 : (("and" : Str) == ("always" : Str)) = false := rfl
@[simp] theorem sq72 : (("and" : Str) = ("always" : Str)) = False := eq_false (by decide)
@[simp] theorem sp73 : (("and" : Str) == ("peril" : Str)) = false := rfl
@[simp] theorem sq73 : (("and" : Str) = ("peril" : Str)) = False := eq_false (by decide)
@[simp] theorem sp74 : (("and" : Str) == ("place" : Str)) = false := rfl
@[simp] theorem sq74 : (("and" : Str) = ("place" : Str)) = False := eq_false (by decide)
@[simp] theorem sp75 : (("and" : Str) == ("object" : Str)) = false := rfl
@[simp] theorem sq75 : (("and" : Str) = ("object" : Str)) = False := eq_false (by decide)
@[simp] theorem sp76 : (("and" : Str) == ("day" : Str)) = false := rfl
@[simp] theorem sq76 : (("and" : Str) = ("day" : Str)) = False := eq_false (by decide)
@[simp] theorem sp77 : (("and" : Str) == ("noticed" : Str)) = false := rfl
@[simp] theorem sq77 : (("and" : Str) = ("noticed" : Str)) = False := eq_false (by decide)
@[simp] theorem sp78 : (("and" : Str) == ("says" : Str)) = false := rfl
@[simp] theorem sq78 : (("and" : Str) = ("says" : Str)) = False := eq_false (by decide)
@[simp] theorem sp79 : (("and" : Str) == ("not" : Str)) = false := rfl
@[simp] theorem sq79 : (("and" : Str) = ("not" : Str)) = False := eq_false (by decide)
@[simp] theorem sp80 : (("and" : Str) == ("or" : Str)) = false := rfl
@[simp] theorem sq80 : (("and" : Str) = ("or" : Str)) = False := eq_false (by decide)
@[simp] theorem sp81 : (("or" : Str) == ("always" : Str)) = false := rfl
@[simp] theorem sq81 : (("or" : Str) = ("always" : Str)) = False := eq_false (by decide)
@[simp] theorem sp82 : (("or" : Str) == ("peril" : Str)) = false := rfl
@[simp] theorem sq82 : (("or" : Str) = ("peril" : Str)) = False := eq_false (by decide)
@[simp] theorem sp83 : (("or" : Str) == ("place" : Str)) = false := rfl
@[simp] theorem sq83 : (("or" : Str) = ("place" : Str)) = False := eq_false (by decide)
@[simp] theorem sp84 : (("or" : Str) == ("object" : Str)) = false := rfl
@[simp] theorem sq84 : (("or" : Str) = ("object" : Str)) = False := eq_false (by decide)
@[simp] theorem sp85 : (("or" : Str) == ("day" : Str)) = false := rfl
@[simp] theorem sq85 : (("or" : Str) = ("day" : Str)) = False := eq_false (by decide)
@[simp] theorem sp86 : (("or" : Str) == ("noticed" : Str)) = false := rfl
@[simp] theorem sq86 : (("or" : Str) = ("noticed" : Str)) = False := eq_false (by decide)
@[simp] theorem sp87 : (("or" : Str) == ("says" : Str)) = false := rfl
@[simp] theorem sq87 : (("or" : Str) = ("says" : Str)) = False := eq_false (by decide)
@[simp] theorem sp88 : (("or" : Str) == ("not" : Str)) = false := rfl
@[simp] theorem sq88 : (("or" : Str) = ("not" : Str)) = False := eq_false (by decide)
@[simp] theorem sp89 : (("or" : Str) == ("and" : Str)) = false := rfl
@[simp] theorem sq89 : (("or" : Str) = ("and" : Str)) = False := eq_false (by decide)
/-! names -/
def nms : List Str := ["fire", "water", "storm", "town", "hill", "house", "barn", "x1", "arson", "leak"]
abbrev yes : Str → Bool := fun _ => true
theorem sane_str {x : Str} (h1 : x.length ≤ 1000) (h2 : PyData.strOk x = true) : Sane yes (.str x) := ⟨by simp [dAll, txOk, h1, h2], by simp [PyData.depth]⟩
theorem nms_all : nms.all (fun x => decide (x.length ≤ 8) && (isName (.str x) && PyData.strOk x)) = true := by decide +kernel
theorem nm_ok {x : Str} (h : x ∈ nms) : x.length ≤ 8 ∧ isName (.str x) = true ∧ PyData.strOk x = true := by
  have := List.all_eq_true.1 nms_all x h
  simpa using this
theorem nm_sane {x : Str} (h : x ∈ nms) : Sane yes (.str x) := by
  obtain ⟨h1, _, h3⟩ := nm_ok h
  exact sane_str (by omega) h3
theorem name_ {x : Str} (h : x ∈ nms) : F_is_name [.d (.str x)] [] = .ok (.d (.bool true)) [] := by
  rw [is_name_ (nm_sane h), (nm_ok h).2.1]
theorem are_names_ {ns : List Str} (h : ∀ x ∈ ns, x ∈ nms) (h1 : 1 ≤ ns.length) (h2 : ns.length ≤ 4) : F_are_names [.d (.tuple (ns.map .str))] [] = .ok (.d (.bool true)) [] := by
  have lc := lcL_pure (cs := []) (tg := gtN 1) (t := tNotM (tT (eFrz (eCall F_is_name (aCons (eV 1) aNil))))) (f := eV 1) (ρ := [.d (.tuple (ns.map .str)), .no]) (fun y => [.d (.tuple (ns.map .str)), .d y]) (fun _ => false) id (ns.map .str) [] (fun y hy => by
    obtain ⟨x, hx, rfl⟩ := List.mem_map.1 hy
    refine ⟨rfl, by simp [name_ (h x hx)], fun z => by cases z⟩) (by simp; exact size_ok (by omega))
  have en : eqD (.list []) (.list []) = some true := by
    rw [eqD_sh (by decide) (by decide)]; simp [PyData.eqv, PyData.eqvAll]
  have k1 : (1 : Int) ≤ ns.length := by omega
  have k2 : (ns.length : Int) ≤ 12 := by omega
  have hf : ((ns.map PyData.str).filter fun _ => false) = [] := by simp
  rw [hf] at lc
  simp at lc
  simp [F_are_names, B_are_names, is_tuple_, isTup, k1, k2, lc, en]
/-! conditions -/
def Leaf (d : D) : Prop := d = .tuple [.str "always"] ∨ (∃ (w : Str) (ns : List Str), (w = "peril" ∨ w = "place" ∨ w = "object") ∧ (∀ x ∈ ns, x ∈ nms) ∧ 1 ≤ ns.length ∧ ns.length ≤ 4 ∧ d = .tuple (.str w :: ns.map .str)) ∨
  (∃ a b : Int, 0 ≤ a ∧ a ≤ b ∧ b ≤ 36500 ∧ d = .tuple [.str "day", .int a, .int b]) ∨ (∃ a : Int, 0 ≤ a ∧ a ≤ 6000 ∧ d = .tuple [.str "noticed", .int a]) ∨ ∃ x : Str, x ∈ nms ∧ d = .tuple [.str "says", .str x]
def Ok : Nat → D → Prop
  | 0, d => Leaf d
  | n + 1, d => Leaf d ∨ (∃ c, Ok n c ∧ d = .tuple [.str "not", c]) ∨ ∃ cs, (∀ c ∈ cs, Ok n c) ∧ 1 ≤ cs.length ∧ cs.length ≤ 3 ∧ (d = .tuple (.str "and" :: cs) ∨ d = .tuple (.str "or" :: cs))
def kids (d : D) : List D := match d with
  | .tuple (.str w :: cs) => if w = "not" ∨ w = "and" ∨ w = "or" then cs else []
  | _ => []
theorem leaf_kids {d : D} (h : Leaf d) : kids d = [] := by
  rcases h with rfl | ⟨w, ns, (rfl | rfl | rfl), _, _, _, rfl⟩ | ⟨a, b, _, _, _, rfl⟩ | ⟨a, _, _, rfl⟩ | ⟨x, _, rfl⟩ <;> simp [kids]
def sz : Nat → D → Nat
  | 0, _ => 1
  | n + 1, d => 1 + ((kids d).map (sz n)).sum
theorem ok_kids {n : Nat} {d : D} (h : Ok (n + 1) d) : (∀ c ∈ kids d, Ok n c) ∧ (kids d).length ≤ 3 := by
  rcases h with h | ⟨c, h1, rfl⟩ | ⟨cs, h1, h2, h3, (rfl | rfl)⟩
  · rw [leaf_kids h]; simp
  · simp [kids]; exact h1
  · simp [kids]; exact ⟨h1, h3⟩
  · simp [kids]; exact ⟨h1, h3⟩
theorem leaf_in {d : D} (h : Leaf d) : F_conditions_in [.d d] [] = .ok (.d (.list [])) [] := by
  rcases h with rfl | ⟨w, ns, hw, h1, h2, h3, rfl⟩ | ⟨a, b, h1, h2, h3, rfl⟩ | ⟨a, h1, h2, rfl⟩ | ⟨x, h1, rfl⟩
  · simp [F_conditions_in, B_conditions_in]
  · have e := are_names_ h1 h2 h3
    have k0 : ¬ ((ns.length : Int) + 1 < 1) := by omega
    rcases hw with rfl | rfl | rfl <;> simp [F_conditions_in, B_conditions_in, e, k0]
  · have i1 : isNum (.int a) 0 36500 = true := by simp [isNum]; omega
    have i2 : isNum (.int b) 0 36500 = true := by simp [isNum]; omega
    simp [F_conditions_in, B_conditions_in, is_day_, i1, i2, h2]
  · have i1 : isNum (.int a) 0 6000 = true := by simp [isNum]; omega
    simp [F_conditions_in, B_conditions_in, is_number_, i1]
  · simp [F_conditions_in, B_conditions_in, name_ h1]
theorem ok_in {n : Nat} {d : D} (h : Ok n d) : F_conditions_in [.d d] [] = .ok (.d (.list (kids d))) [] := by
  cases n with
  | zero => rw [leaf_kids h]; exact leaf_in h
  | succ n =>
    rcases h with h | ⟨c, h1, rfl⟩ | ⟨cs, h1, h2, h3, (rfl | rfl)⟩
    · rw [leaf_kids h]; exact leaf_in h
    · simp [F_conditions_in, B_conditions_in, kids]
    · have k0 : ¬ ((cs.length : Int) + 1 < 1) := by omega
      have k1 : (1 : Int) ≤ cs.length := by omega
      have k2 : (cs.length : Int) ≤ 12 := by omega
      simp [F_conditions_in, B_conditions_in, kids, k0, k1, k2]
    · have k0 : ¬ ((cs.length : Int) + 1 < 1) := by omega
      have k1 : (1 : Int) ≤ cs.length := by omega
      have k2 : (cs.length : Int) ≤ 12 := by omega
      simp [F_conditions_in, B_conditions_in, kids, k0, k1, k2]
def Q : Type := Nat × D
def qk (q : Nat × D) : List (Nat × D) := (kids q.2).map fun c => (q.1 - 1, c)
def qs (q : Nat × D) : Nat := sz q.1 q.2
def tot (l : List (Nat × D)) : Nat := (l.map qs).sum
theorem tot_cons (p : Nat × D) (l : List (Nat × D)) : tot (p :: l) = qs p + tot l := by simp [tot]
theorem tot_app (p l : List (Nat × D)) : tot (p ++ l) = tot p + tot l := by simp [tot]
theorem tot_rev (l : List (Nat × D)) : tot l.reverse = tot l := by simp [tot]
theorem qs_pos (q : Nat × D) : 1 ≤ qs q := by
  obtain ⟨n, d⟩ := q
  cases n with
  | zero => exact Nat.le_refl _
  | succ n => show 1 ≤ 1 + _; omega
theorem qs_kids {q : Nat × D} (h : Ok q.1 q.2) : qs q = tot (qk q) + 1 := by
  obtain ⟨n, d⟩ := q
  cases n with
  | zero =>
    have e : kids d = [] := leaf_kids h
    simp [qk, e, tot, qs, sz]
  | succ n =>
    have e : tot (qk (n + 1, d)) = ((kids d).map (sz n)).sum := by unfold tot qk; rw [List.map_map]; rfl
    rw [e]
    show 1 + _ = _ + 1
    exact Nat.add_comm _ _
theorem qk_ok {q : Nat × D} (h : Ok q.1 q.2) : ∀ r ∈ qk q, Ok r.1 r.2 := by
  obtain ⟨n, d⟩ := q
  intro r hr
  obtain ⟨c, hc, rfl⟩ := List.mem_map.1 hr
  cases n with
  | zero =>
    have e : kids d = [] := leaf_kids h
    have hc' : c ∈ kids d := hc
    rw [e] at hc'; cases hc'
  | succ n => exact (ok_kids h).1 c hc
theorem len_tot (l : List (Nat × D)) : l.length ≤ tot l := by
  induction l with
  | nil => simp
  | cons p l ih => have := qs_pos p; rw [tot_cons, List.length_cons]; omega
theorem few_loop (K : PySem.W.Frag) (a : S) : ∀ (n : Nat) (st : List (Nat × D)) (k : Nat) (s : S), tot st < n → k + tot st ≤ 60 → (∀ q ∈ st, Ok q.1 q.2) → ∃ s', gWhile (tAndM (tT (eV 2)) (op2 leD (eV 3) (eC (.int (60))))) (gSeq (sSet 4 (eFrz (eCallL 1 (He.ga K "conditions_in") F_conditions_in (aCons (eMt0 popG (eV 2)) aNil))))
      (gSeq (sIf (op1 isnD (eV 4)) (sRet (eRv (eC (.bool false)))) gNil)
      (gSeq (sSet 3 (eBin addD (eV 3) (eC (.int (1)))))
      (sExp (eMt extG (eV 2) (aCons (eV 4) aNil)))))) n [a, .fn (He.ga K "conditions_in"), .cel 0, .d (.int k), s] [.lst (st.reverse.map (·.2))] = .nx [a, .fn (He.ga K "conditions_in"), .cel 0, .d (.int ((k + tot st : Nat) : Int)), s'] [.lst []] := by
  intro n
  induction n with
  | zero => intro st k s h; omega
  | succ n ih =>
    intro st k s h1 h2 h3
    cases st with
    | nil => rw [gWhile_succ]; simp [tot]
    | cons q st =>
      have hq := h3 q (by simp)
      have e0 := qs_kids hq
      rw [tot_cons] at h1 h2
      have l1 := len_tot st
      have l2 := len_tot (qk q)
      have l3 : (qk q).length = (kids q.2).length := by simp [qk]
      obtain ⟨s', i1⟩ := ih ((qk q).reverse ++ st) (k + 1) (.d (.list (kids q.2))) (by rw [tot_app, tot_rev]; omega) (by rw [tot_app, tot_rev]; omega) (by
        intro x hx
        rcases List.mem_append.1 hx with hx | hx
        · exact qk_ok hq x (List.mem_reverse.1 hx)
        · exact h3 x (by simp [hx]))
      have i2 : ((qk q).reverse ++ st).reverse.map (·.2) = st.reverse.map (·.2) ++ kids q.2 := by simp [qk, Function.comp_def]
      rw [i2] at i1
      have i3 : ((k + 1 + tot ((qk q).reverse ++ st) : Nat) : Int) = ((k + tot (q :: st) : Nat) : Int) := by rw [tot_app, tot_rev, tot_cons]; omega
      rw [i3] at i1
      have i4 : (k : Int) ≤ 60 := by omega
      have i5 : st.length ≤ sizeLine := size_ok (by omega)
      have i6 : st.length + 1 ≤ sizeLine := size_ok (by omega)
      have i7 : st.length + (kids q.2).length ≤ sizeLine := size_ok (by omega)
      have i8 : ((k + 1 : Nat) : Int) = (k : Int) + 1 := by omega
      rw [i8] at i1
      refine ⟨s', ?_⟩
      rw [gWhile_succ]
      have e1 := ok_in hq
      simp at i1
      simp [e1, i1, i4, i5, i6, i7]
theorem sz_le : ∀ (n : Nat) (d : D), n ≤ 3 → Ok n d → sz n d ≤ 40 ∧ (n ≤ 2 → sz n d ≤ 13) ∧ (n ≤ 1 → sz n d ≤ 4) ∧ (n ≤ 0 → sz n d ≤ 1)
  | 0, d, _, _ => by simp [sz]
  | n + 1, d, h, hd => by
    obtain ⟨h1, h2⟩ := ok_kids hd
    have ih : ∀ c ∈ kids d, _ := fun c hc => sz_le n c (by omega) (h1 c hc)
    have sum_le : ∀ (B : Nat) (l : List D), (∀ c ∈ l, sz n c ≤ B) → (l.map (sz n)).sum ≤ B * l.length := by
      intro B l hl
      induction l with
      | nil => simp
      | cons c l ihl =>
        have a := hl c (by simp)
        have b := ihl fun x hx => hl x (by simp [hx])
        simp only [List.map_cons, List.sum_cons, List.length_cons, Nat.mul_succ]
        omega
    have m : ∀ B, (∀ c ∈ kids d, sz n c ≤ B) → sz (n + 1) d ≤ 1 + B * 3 := fun B hB => by
      have := sum_le B (kids d) hB
      have h3 : B * (kids d).length ≤ B * 3 := Nat.mul_le_mul_left _ h2
      show 1 + _ ≤ _
      omega
    refine ⟨?_, fun h => ?_, fun h => ?_, fun h => by omega⟩
    · have := m 13 fun c hc => (ih c hc).2.1 (by omega); omega
    · have := m 4 fun c hc => (ih c hc).2.2.1 (by omega); omega
    · have := m 1 fun c hc => (ih c hc).2.2.2 (by omega); omega
theorem is_condition_ (K : PySem.W.Frag) {n : Nat} {d : D} (h : Ok n d) (hn : n ≤ 3) : F_is_condition K [.d d] [] = .ok (.d (.bool true)) [] := by
  have hs := (sz_le n d hn h).1
  have ht : tot [(n, d)] = sz n d := by simp [tot, qs]
  obtain ⟨s', e⟩ := few_loop K (.d d) 100 [(n, d)] 0 .no (by omega) (by omega) (by simpa using h)
  rw [ht] at e
  have e1 : ((0 + sz n d : Nat) : Int) ≤ 60 := by omega
  simp at e e1
  have few : F_are_few__conditions_in K [.d d, .fn (He.ga K "conditions_in")] [] = .ok (.d (.bool true)) [] := by
    unfold F_are_few__conditions_in B_are_few__conditions_in
    simp [sWhile, e, e1]
  simp [F_is_condition, B_is_condition, few]
open PySem.Spec PyProof.Rows
/-! texts, each once, in their order -/
theorem kysD_str : ∀ xs : List Str, kysD (xs.map .str) = some (xs.map Sum.inr)
  | [] => rfl
  | x :: xs => by
    show (match kyD (.str x), kysD (xs.map .str) with
      | some k, some ks => some (k :: ks)
      | _, _ => none) = _
    rw [kysD_str xs]; rfl
def uqS (l xs : List Str) : List Str := xs.foldl (fun l x => if x ∈ l then l else l ++ [x]) l
theorem fm_uq : ∀ (xs l : List Str), (xs.map Sum.inr).foldl dd1 (l.map Sum.inr) = (uqS l xs).map Sum.inr
  | [], l => rfl
  | x :: xs, l => by
    have hm : mK (l.map Sum.inr) (Sum.inr x) = true ↔ x ∈ l := by rw [mK_iff]; simp
    have e : dd1 (l.map Sum.inr) (Sum.inr x) = (if x ∈ l then l else l ++ [x]).map Sum.inr := by
      unfold dd1
      by_cases h : x ∈ l
      · rw [if_pos (hm.2 h), if_pos h]
      · rw [if_neg (fun z => h (hm.1 z)), if_neg h]; simp
    rw [List.map_cons, List.foldl_cons, e, fm_uq xs]
    rfl
theorem uq_nodup : ∀ (xs l : List Str), l.Nodup → (uqS l xs).Nodup
  | [], l, h => h
  | x :: xs, l, h => by
    show (uqS (if x ∈ l then l else l ++ [x]) xs).Nodup
    refine uq_nodup xs _ ?_
    by_cases c : x ∈ l
    · rw [if_pos c]; exact h
    · rw [if_neg c]
      exact (List.perm_append_singleton x l).nodup_iff.2 (List.nodup_cons.2 ⟨c, h⟩)
theorem uq_mem : ∀ (xs l : List Str) (y : Str), y ∈ uqS l xs → y ∈ l ∨ y ∈ xs
  | [], l, y, h => .inl h
  | x :: xs, l, y, h => by
    have h' : y ∈ uqS (if x ∈ l then l else l ++ [x]) xs := h
    rcases uq_mem xs _ y h' with q | q
    · by_cases c : x ∈ l
      · rw [if_pos c] at q; exact .inl q
      · rw [if_neg c] at q
        rcases List.mem_append.1 q with q | q
        · exact .inl q
        · exact .inr (by rw [List.mem_singleton.1 q]; simp)
    · exact .inr (by simp [q])
theorem uq_self : ∀ (xs l : List Str), (l ++ xs).Nodup → uqS l xs = l ++ xs
  | [], l, h => by simp [uqS]
  | x :: xs, l, h => by
    have c : ¬ x ∈ l := fun z => by
      rw [List.nodup_append] at h
      exact absurd rfl (h.2.2 x z x (by simp))
    show uqS (if x ∈ l then l else l ++ [x]) xs = _
    rw [if_neg c, uq_self xs (l ++ [x]) (by simpa using h)]
    simp
theorem uq_len : ∀ (xs l : List Str), (uqS l xs).length ≤ l.length + xs.length
  | [], l => Nat.le_refl _
  | x :: xs, l => by
    have ih := uq_len xs (if x ∈ l then l else l ++ [x])
    have e : (if x ∈ l then l else l ++ [x]).length ≤ l.length + 1 := by split <;> simp
    show (uqS (if x ∈ l then l else l ++ [x]) xs).length ≤ _
    rw [List.length_cons]; omega
theorem sortKT_map : ∀ ys : List Str, sortKT (ys.map Sum.inr) = some ys
  | [] => rfl
  | y :: ys => by
    show (sortKT (ys.map Sum.inr)).map (y :: ·) = _
    rw [sortKT_map ys]; rfl
theorem sortK_txt (ys : List Str) : (sortK (ys.map Sum.inr)).map (fun p => PyData.list p.2) = some (.list ((sortT ys).map .str)) := by
  cases ys with
  | nil => rfl
  | cons y ys =>
    have e1 : sortKI ((y :: ys).map Sum.inr) = none := rfl
    unfold sortK
    rw [e1, sortKT_map]; rfl
theorem srt_txt {xs : List Str} (h : xs.length < 4000) : srtSD (xs.map .str) = some (.list ((sortT (uqS [] xs)).map .str)) := by
  have e : fmK (xs.map Sum.inr) = (uqS [] xs).map Sum.inr := fm_uq xs []
  have hl : (xs.map (Sum.inr : Str → Key)).length < 4000 := by simpa using h
  unfold srtSD
  rw [kysD_str]
  simp only [if_pos hl]
  rw [e, sortK_txt]
/-! losses -/
theorem shaped_names {l : List Str} (h : ∀ w ∈ l, w ∈ nms) : SeqAt.shaped (.list (l.map .str)) = true := by
  have a : PyData.canLayAll0 (l.map PyData.str) = true ∧ PyData.depthAll (l.map PyData.str) = 0 := by
    induction l with
    | nil => simp [PyData.canLayAll0, PyData.depthAll]
    | cons c l ih =>
      have := ih fun k hk => h k (by simp [hk])
      have hc := (nm_ok (h c (by simp))).2.2
      simp [PyData.canLayAll0, PyData.depthAll, this, PyData.canLay0, PyData.depth, hc]
  simp [SeqAt.shaped, PyData.canLay0, PyData.depth, a]
theorem eqv_names : ∀ l : List Str, PyData.eqvAll (l.map .str) (l.map .str) = true
  | [] => by simp [PyData.eqvAll]
  | x :: l => by simp [PyData.eqvAll, eqv_names l]
structure Lo (o p t : Str) (a b s : Int) (said : List Str) : Prop where
  ho : o ∈ nms
  hp : p ∈ nms
  ht : t ∈ nms
  ha : 0 ≤ a
  hab : a ≤ b
  hb : b ≤ 36500
  hs : 1 ≤ s
  hs2 : s ≤ 1000000
  hn : ∀ x ∈ said, x ∈ nms
  up : said.Pairwise leS
  nd : said.Nodup
  hl : said.length ≤ 3
abbrev encL (o p t : Str) (a b s : Int) (said : List Str) : D := .tuple [.str o, .int a, .int b, .str p, .str t, .int s, .tuple (said.map .str)]
section
variable {o p t : Str} {a b s : Int} {said : List Str}
theorem plain_ (L : Lo o p t a b s said) : F_is_plain_loss [.d (encL o p t a b s said)] [] = .ok (.d (.bool true)) [] := by
  have i1 : isNum (.int a) 0 36500 = true := by have := L.ha; have := L.hab; have := L.hb; simp [isNum]; omega
  have i2 : isNum (.int b) 0 36500 = true := by have := L.ha; have := L.hab; have := L.hb; simp [isNum]; omega
  have i3 : F_is_money [.d (.int s)] [] = .ok (.d (.bool true)) [] := by
    have i : isNum (.int s) 0 1000000000000 = true := by have := L.hs; have := L.hs2; simp [isNum]; omega
    simp [F_is_money, B_is_money, is_number_, i]
  have i4 : ¬ b < a := by have := L.hab; omega
  have lc := lcL_pure (cs := []) (tg := gtN 1) (t := tNotM (tT (eFrz (eCall F_is_name (aCons (eV 1) aNil))))) (f := eV 1) (ρ := [.d (encL o p t a b s said), .no]) (fun y => [.d (encL o p t a b s said), .d y]) (fun _ => false) id (said.map .str) [] (fun y hy => by
    obtain ⟨x, hx, rfl⟩ := List.mem_map.1 hy
    refine ⟨rfl, by simp [name_ (L.hn x hx)], fun z => by cases z⟩) (by have := L.hl; simp; exact size_ok (by omega))
  have hf : ((said.map PyData.str).filter fun _ => false) = [] := by simp
  rw [hf] at lc
  have st : srtSD (said.map .str) = some (.list (said.map .str)) := by
    have := L.hl
    rw [srt_txt (by omega), uq_self said [] (by simpa using L.nd)]
    rw [List.nil_append, sortT_fix L.up]
  have st' : sortedSetG [.tuple (said.map .str)] = some (.list (said.map .str)) := st
  have en : eqD (.list (said.map .str)) (.list (said.map .str)) = some true := by
    rw [eqD_sh (shaped_names L.hn) (shaped_names L.hn)]
    simp [PyData.eqv, eqv_names]
  simp at lc
  simp [F_is_plain_loss, B_is_plain_loss, is_tuple_, isTup, name_ L.ho, name_ L.hp, name_ L.ht, is_day_, i1, i2, i3, i4, lc, st', en]
end
/-! what holds -/
@[simp] theorem eqv_bool (a b : Bool) : PyData.eqv (.bool a) (.bool b) = (a == b) := by simp [PyData.eqv]
theorem inD_bl (x : Bool) (bs : List Bool) : inD (.bool x) (.list (bs.map .bool)) = some (decide (x ∈ bs)) := by
  have e : (bs.map PyData.bool).all flatD = true := by simp
  rw [inD_lst, e]
  simp
  induction bs with
  | nil => simp
  | cons b bs ih => cases x <;> cases b <;> simp [ih]
section
variable {o p t : Str} {a b s : Int} {said : List Str}
theorem leaf_so (L : Lo o p t a b s said) {d : D} (h : Leaf d) (n m : Nat) : ∃ v, F_is_so (n + 1) [.d d, .d (encL o p t a b s said)] [] = .ok (.d (.bool v)) [] ∧ F__law_holds (m + 1) [.d d, .d (encL o p t a b s said)] [] = .ok (.d (.bool v)) [] := by
  rcases h with rfl | ⟨w, ns, hw, h1, h2, h3, rfl⟩ | ⟨c, e, h1, h2, h3, rfl⟩ | ⟨c, h1, h2, rfl⟩ | ⟨x, h1, rfl⟩
  · exact ⟨true, by simp [F_is_so, B_is_so], by simp [F__law_holds, B__law_holds]⟩
  · have fl : (ns.map PyData.str).all flatD = true := by simp
    rcases hw with rfl | rfl | rfl
    · exact ⟨(ns.map PyData.str).any fun y => PyData.eqv y (.str p), by simp [F_is_so, B_is_so, fl], by simp [F__law_holds, B__law_holds, fl]⟩
    · exact ⟨(ns.map PyData.str).any fun y => PyData.eqv y (.str t), by simp [F_is_so, B_is_so, fl], by simp [F__law_holds, B__law_holds, fl]⟩
    · exact ⟨(ns.map PyData.str).any fun y => PyData.eqv y (.str o), by simp [F_is_so, B_is_so, fl], by simp [F__law_holds, B__law_holds, fl]⟩
  · refine ⟨decide (c ≤ a) && decide (a ≤ e), ?_, ?_⟩
    · by_cases q : c ≤ a <;> simp [F_is_so, B_is_so, q]
    · by_cases q : c ≤ a <;> simp [F__law_holds, B__law_holds, q]
  · exact ⟨decide (b - a ≤ c), by simp [F_is_so, B_is_so], by simp [F__law_holds, B__law_holds]⟩
  · have fl : (said.map PyData.str).all flatD = true := by simp
    exact ⟨(said.map PyData.str).any fun y => PyData.eqv y (.str x), by simp [F_is_so, B_is_so, fl], by simp [F__law_holds, B__law_holds, fl]⟩
theorem so_ (L : Lo o p t a b s said) : ∀ (n m : Nat) (d : D), Ok n d → ∃ v, F_is_so (n + 1 + m) [.d d, .d (encL o p t a b s said)] [] = .ok (.d (.bool v)) [] ∧ F__law_holds (n + 1 + m) [.d d, .d (encL o p t a b s said)] [] = .ok (.d (.bool v)) []
  | 0, m, d, h => by
    rw [show 0 + 1 + m = m + 1 by omega]
    exact leaf_so L h m m
  | n + 1, m, d, h => by
    rw [show n + 1 + 1 + m = (n + 1 + m) + 1 by omega]
    rcases h with h | ⟨c, h1, rfl⟩ | ⟨cs, h1, h2, h3, h4⟩
    · exact leaf_so L h _ _
    · obtain ⟨v, e1, e2⟩ := so_ L n m c h1
      exact ⟨!v, by simp [F_is_so, B_is_so, e1], by simp [F__law_holds, B__law_holds, e2]⟩
    · have ih : ∀ c, ∃ v, c ∈ cs → F_is_so (n + 1 + m) [.d c, .d (encL o p t a b s said)] [] = .ok (.d (.bool v)) [] ∧ F__law_holds (n + 1 + m) [.d c, .d (encL o p t a b s said)] [] = .ok (.d (.bool v)) [] := fun c => by
        by_cases q : c ∈ cs
        · obtain ⟨v, e⟩ := so_ L n m c (h1 c q)
          exact ⟨v, fun _ => e⟩
        · exact ⟨false, fun z => absurd z q⟩
      obtain ⟨f, hf⟩ := Classical.axiomOfChoice ih
      have lz : cs.length ≤ sizeLine := size_ok (by omega)
      have l1 := fun w => lcL_pure (cs := []) (tg := gtN 4) (t := tYesM) (f := eFrz (eCall (F_is_so (n + 1 + m)) (aCons (eV 4) (aCons (eV 1) aNil)))) (ρ := [.d (.tuple (.str w :: cs)), .d (encL o p t a b s said), .d (.str w), .no, .no]) (fun y => [.d (.tuple (.str w :: cs)), .d (encL o p t a b s said), .d (.str w), .no, .d y]) (fun _ => true) (fun c => .bool (f c)) cs [] (fun y hy => ⟨rfl, by simp, fun _ => by simp [(hf y hy).1]⟩) (by simpa using lz)
      have l2 := fun w => lcL_pure (cs := []) (tg := gtN 4) (t := tYesM) (f := eFrz (eCall (F__law_holds (n + 1 + m)) (aCons (eV 4) (aCons (eV 1) aNil)))) (ρ := [.d (.tuple (.str w :: cs)), .d (encL o p t a b s said), .d (.str w), .no, .no]) (fun y => [.d (.tuple (.str w :: cs)), .d (encL o p t a b s said), .d (.str w), .no, .d y]) (fun _ => true) (fun c => .bool (f c)) cs [] (fun y hy => ⟨rfl, by simp, fun _ => by simp [(hf y hy).2]⟩) (by simpa using lz)
      have em : (cs.filter fun _ => true).map (fun c => PyData.bool (f c)) = (cs.map f).map .bool := by
        rw [List.filter_eq_self.2 (by simp), List.map_map]; rfl
      simp only [em, List.nil_append] at l1 l2
      have n1 := inD_bl false (cs.map f)
      have n2 := inD_bl true (cs.map f)
      generalize cs.map f = bs at *
      rcases h4 with rfl | rfl
      · refine ⟨!decide (false ∈ bs), ?_, ?_⟩
        · simp [F_is_so, B_is_so, l1, n1]
        · simp [F__law_holds, B__law_holds, l2, n1]
      · refine ⟨decide (true ∈ bs), ?_, ?_⟩
        · simp [F_is_so, B_is_so, l1, n2]
        · simp [F__law_holds, B__law_holds, l2, n2]
theorem equal_bl (n : Nat) (x : Bool) : F__law_equal (n + 1) [.d (.bool x), .d (.bool x)] [] = .ok (.d (.bool true)) [] := by
  simp [F__law_equal, B__law_equal]
theorem holds_ (K : PySem.W.Frag) (L : Lo o p t a b s said) {n : Nat} {d : D} (h : Ok n d) (hn : n ≤ 3) : ∃ v, F_holds K [.d d, .d (encL o p t a b s said)] [] = .ok (.d (.bool v)) [] ∧ F__law_holds 12 [.d d, .d (encL o p t a b s said)] [] = .ok (.d (.bool v)) [] := by
  obtain ⟨v, e1, e2⟩ := so_ L n (11 - n) d h
  rw [show n + 1 + (11 - n) = 12 by omega] at e1 e2
  exact ⟨v, by simp [F_holds, B_holds, is_condition_ K h hn, plain_ L, e1], e2⟩
end
open PySem.Spec PyProof.Rows
/-! shown texts -/
structure Shw (n b : Nat) (d : D) : Prop where
  hs : d.showable = true
  hh : d.hasDict = false
  hd : d.depth ≤ n
  hl : d.leavesShort 13 = true
  hb : d.bulk ≤ b
theorem Shw.mono {n b n' b' : Nat} {d : D} (h : Shw n b d) (hn : n ≤ n') (hb : b ≤ b') : Shw n' b' d := ⟨h.hs, h.hh, Nat.le_trans h.hd hn, h.hl, Nat.le_trans h.hb hb⟩
theorem shw_str {x : Str} (h : x.length ≤ 8) (h2 : PyData.strOk x = true) : Shw 0 8 (.str x) := by
  refine ⟨by simp [PyData.showable], by simp [PyData.hasDict], by simp [PyData.depth], ?_, by simp only [PyData.bulk]; exact h⟩
  simp only [PyData.leavesShort, List.all_eq_true, decide_eq_true_eq]
  intro c hc
  unfold PyData.strOk at h2
  rw [Array.all_eq_true_iff_forall_mem] at h2
  have := of_decide_eq_true (h2 c (Array.mem_toList_iff.1 hc))
  omega
theorem shw_int {i : Int} (h : i.natAbs < 10 ^ 12) : Shw 0 0 (.int i) := by
  refine ⟨?_, by simp [PyData.hasDict], by simp [PyData.depth], ?_, by simp [PyData.bulk]⟩
  · have := log2_lt (x := i) (k := 40) (by omega) (Nat.lt_trans h (by decide))
    simp [PyData.showable]; omega
  · have := PyData.shown_int_le h
    simpa [PyData.leavesShort] using this
theorem shw_all {n b : Nat} : ∀ {xs : List D}, (∀ x ∈ xs, Shw n b x) → PyData.showableAll xs = true ∧ PyData.hasDictAll xs = false ∧ PyData.depthAll xs ≤ n ∧ PyData.leavesShortAll 13 xs = true ∧ PyData.bulkAll xs ≤ (b + 1) * xs.length
  | [], _ => by simp [PyData.showableAll, PyData.hasDictAll, PyData.depthAll, PyData.leavesShortAll, PyData.bulkAll]
  | x :: xs, h => by
    obtain ⟨a1, a2, a3, a4, a5⟩ := shw_all (xs := xs) fun y hy => h y (List.mem_cons_of_mem _ hy)
    have hx := h x (by simp)
    have c1 := hx.hs; have c2 := hx.hh; have c3 := hx.hd; have c4 := hx.hl; have c5 := hx.hb
    simp only [PyData.showableAll, PyData.hasDictAll, PyData.depthAll, PyData.leavesShortAll, PyData.bulkAll, a1, a2, a4, c1, c2, c4, List.length_cons, Nat.mul_succ]
    refine ⟨rfl, rfl, Nat.max_le.2 ⟨c3, a3⟩, by simp, by omega⟩
theorem shw_tup {n b : Nat} {xs : List D} (h : ∀ x ∈ xs, Shw n b x) : Shw (n + 1) ((b + 1) * xs.length) (.tuple xs) ∧ Shw (n + 1) ((b + 1) * xs.length) (.list xs) := by
  obtain ⟨a1, a2, a3, a4, a5⟩ := shw_all h
  refine ⟨⟨?_, ?_, ?_, ?_, ?_⟩, ⟨?_, ?_, ?_, ?_, ?_⟩⟩ <;> simp only [PyData.showable, PyData.hasDict, PyData.depth, PyData.leavesShort, PyData.bulk] <;> first | assumption | omega
theorem str_ {xs : List D} {n b : Nat} (h : Shw n b (.list xs)) (hn : n ≤ 100) (hb : b ≤ 2 ^ 20) : strLG [.list xs] = some (.str (PyData.list xs).shown) := by
  have e : (PyData.list xs).shown.length ≤ sizeLine := PyData.shown_fits_bulk (B := 13) (by omega) (by omega) h.hl (Nat.le_trans h.hb hb)
  show (if _ then _ else _) = _
  rw [if_pos ⟨rfl, h.hs, h.hh, Nat.le_trans h.hd hn, e⟩]
theorem shw_nm {x : Str} (h : x ∈ nms) : Shw 0 8 (.str x) := shw_str (nm_ok h).1 (nm_ok h).2.2
theorem shw_lit {s : String} (h : (Str.ofString s).length ≤ 8) : Shw 0 8 (.str s) := shw_str h (strOk_lit _)
theorem shw_leaf {d : D} (h : Leaf d) : Shw 1 45 d := by
  have nn : ∀ i : Int, 0 ≤ i → i ≤ 36500 → Shw 0 8 (.int i) := fun i h1 h2 => (shw_int (i := i) (by omega)).mono (Nat.le_refl _) (by omega)
  have fin : ∀ xs : List D, (∀ x ∈ xs, Shw 0 8 x) → xs.length ≤ 5 → Shw 1 45 (.tuple xs) := fun xs h1 h2 => (shw_tup h1).1.mono (Nat.le_refl _) (by omega)
  rcases h with rfl | ⟨w, ns, hw, h1, h2, h3, rfl⟩ | ⟨c, e, h1, h2, h3, rfl⟩ | ⟨c, h1, h2, rfl⟩ | ⟨x, h1, rfl⟩
  · exact fin _ (by simpa using shw_lit (s := "always") (by decide)) (by simp)
  · have hw' : Shw 0 8 (.str w) := by rcases hw with rfl | rfl | rfl <;> exact shw_lit (by decide)
    refine fin _ (fun x hx => ?_) (by simp; omega)
    rcases List.mem_cons.1 hx with rfl | hx
    · exact hw'
    · obtain ⟨y, hy, rfl⟩ := List.mem_map.1 hx
      exact shw_nm (h1 y hy)
  · exact fin _ (by simpa using ⟨shw_lit (s := "day") (by decide), nn c h1 (by omega), nn e (by omega) h3⟩) (by simp)
  · exact fin _ (by simpa using ⟨shw_lit (s := "noticed") (by decide), nn c h1 (by omega)⟩) (by simp)
  · exact fin _ (by simpa using ⟨shw_lit (s := "says") (by decide), shw_nm h1⟩) (by simp)
theorem shw_ok : ∀ (n : Nat) (d : D), Ok n d → Shw (n + 1) (100 * 5 ^ n) d
  | 0, d, h => (shw_leaf h).mono (by omega) (by omega)
  | n + 1, d, h => by
    have p5 : 5 ^ (n + 1) = 5 * 5 ^ n := by rw [Nat.pow_succ]; omega
    have p0 : 0 < 5 ^ n := Nat.pow_pos (by decide)
    have wd : ∀ s : String, (Str.ofString s).length ≤ 8 → Shw (n + 1) (100 * 5 ^ n) (.str s) := fun s hs => (shw_lit hs).mono (by omega) (by omega)
    have fin : ∀ xs : List D, (∀ x ∈ xs, Shw (n + 1) (100 * 5 ^ n) x) → xs.length ≤ 4 → Shw (n + 2) (100 * 5 ^ (n + 1)) (.tuple xs) := fun xs h1 h2 => (shw_tup h1).1.mono (by omega) (by
      have := Nat.mul_le_mul_left (100 * 5 ^ n + 1) h2
      omega)
    rcases h with h | ⟨c, h1, rfl⟩ | ⟨cs, h1, h2, h3, h4⟩
    · exact (shw_leaf h).mono (by omega) (by omega)
    · exact fin _ (by simpa using ⟨wd "not" (by decide), shw_ok n c h1⟩) (by simp)
    · rcases h4 with rfl | rfl
      · refine fin _ (fun x hx => ?_) (by simp; omega)
        rcases List.mem_cons.1 hx with rfl | hx
        · exact wd "and" (by decide)
        · exact shw_ok n x (h1 x hx)
      · refine fin _ (fun x hx => ?_) (by simp; omega)
        rcases List.mem_cons.1 hx with rfl | hx
        · exact wd "or" (by decide)
        · exact shw_ok n x (h1 x hx)
section
variable {o p t : Str} {a b s : Int} {said : List Str}
theorem shw_lo (L : Lo o p t a b s said) : Shw 2 196 (encL o p t a b s said) := by
  have h1 := L.ha; have h2 := L.hab; have h3 := L.hb; have h4 := L.hs; have h5 := L.hs2; have h6 := L.hl
  have nn : ∀ i : Int, 0 ≤ i → i ≤ 1000000 → Shw 1 27 (.int i) := fun i h1 h2 => (shw_int (i := i) (by omega)).mono (by omega) (by omega)
  have nm : ∀ x ∈ nms, Shw 1 27 (.str x) := fun x hx => (shw_nm hx).mono (by omega) (by omega)
  have sd : Shw 1 27 (.tuple (said.map .str)) := (shw_tup (n := 0) (b := 8) (xs := said.map .str) (fun x hx => by
    obtain ⟨y, hy, rfl⟩ := List.mem_map.1 hx
    exact shw_nm (L.hn y hy))).1.mono (by omega) (by simp; omega)
  exact (shw_tup (n := 1) (b := 27) (by simpa using ⟨nm o L.ho, nn a h1 (by omega), nn b (by omega) (by omega), nm p L.hp, nm t L.ht, nn s (by omega) h5, sd⟩)).1.mono (by omega) (by simp)
theorem str_pair (L : Lo o p t a b s said) {n : Nat} {d : D} (h : Ok n d) (hn : n ≤ 3) : strLG [.list [d, encL o p t a b s said]] = some (.str (PyData.list [d, encL o p t a b s said]).shown) := by
  have p5 : 5 ^ n ≤ 5 ^ 3 := Nat.pow_le_pow_right (by decide) hn
  have h1 : Shw 4 12500 d := (shw_ok n d h).mono (by omega) (by omega)
  have h2 : Shw 4 12500 (encL o p t a b s said) := (shw_lo L).mono (by omega) (by omega)
  exact str_ (shw_tup (xs := [d, encL o p t a b s said]) (by simpa using ⟨h1, h2⟩)).2 (by omega) (by simp)
end
/-! draws -/
abbrev NL : S := .d (.list [.str "fire", .str "water", .str "storm", .str "town", .str "hill", .str "house", .str "barn", .str "x1", .str "arson", .str "leak"])
theorem nl_ix (v : Int) : ∃ x, x ∈ nms ∧ atI [PyData.str "fire", .str "water", .str "storm", .str "town", .str "hill", .str "house", .str "barn", .str "x1", .str "arson", .str "leak"] (v % 10) = some (.str x) := by
  obtain ⟨_, ⟨x, rfl, hx⟩, e⟩ := atI_mod (xs := nms.map .str) (P := fun y => ∃ x, y = .str x ∧ x ∈ nms) v 10 rfl (by decide) (by simp)
  exact ⟨x, hx, e⟩
theorem txts_of : ∀ {ys : List D}, (∀ y ∈ ys, ∃ x, y = .str x ∧ x ∈ nms) → ∃ xs : List Str, ys = xs.map .str ∧ (∀ x ∈ xs, x ∈ nms) ∧ xs.length = ys.length
  | [], _ => ⟨[], rfl, by simp, rfl⟩
  | y :: ys, h => by
    obtain ⟨xs, e, h1, h2⟩ := txts_of (ys := ys) fun z hz => h z (List.mem_cons_of_mem _ hz)
    obtain ⟨x, rfl, hx⟩ := h y (by simp)
    exact ⟨x :: xs, by rw [e]; rfl, by simpa using ⟨hx, h1⟩, by simp [h2]⟩
theorem rng_len (a : Int) (n : Nat) : (rngD a n).length = n := by simp [rngD]
section
variable {nums : List Int} (hI : InR nums)
include hI
theorem lc_names (i : Nat) (j : Nat) {ρ : List S} (h0 : ∀ x, (ρ.set i x)[0]? = some (.cel 0)) (h2 : ∀ x, (ρ.set i x)[j]? = some NL) (n k : Nat) (hk : k + n < 100000000000) (hn : n ≤ 1000) : ∃ (xs : List Str) (k' : Nat), lcL (gtN i) tYesM (eBin ixD (eV j) (eBin modD (eFrz (eCallC F__law_draw (aCons (eV 0) aNil))) (eC (.int (10))))) ρ (rngD 0 n) [] (DS nums k) = .ok (.own (.lst (xs.map .str))) (DS nums k') ∧ (∀ x ∈ xs, x ∈ nms) ∧ xs.length = n ∧ k ≤ k' ∧ k' ≤ k + n := by
  obtain ⟨ys, k', e, q1, q2, q3, q4⟩ := lc_draw (nums := nums) (i := i) (st := 1) (B := 100000000001) (f := eBin ixD (eV j) (eBin modD (eFrz (eCallC F__law_draw (aCons (eV 0) aNil))) (eC (.int (10))))) (ρ := ρ) (fun y => ∃ x, y = .str x ∧ x ∈ nms) (fun k x hk => by
    obtain ⟨x', hx', e⟩ := nl_ix (dr nums k)
    have d0 := drc (k := k) hI (by omega) (k + 1) rfl
    refine ⟨.str x', k + 1, ?_, ⟨x', rfl, hx'⟩, by omega, by omega⟩
    simp [h0, h2, d0, e, -callC_]) (rngD 0 n) [] k (by rw [rng_len]; omega) (by rw [rng_len]; simp; omega)
  rw [rng_len] at q1 q4
  obtain ⟨xs, rfl, h1, h2⟩ := txts_of q2
  exact ⟨xs, k', by simpa using e, h1, by omega, by omega, by omega⟩
end
open PySem.Spec PyProof.Rows
theorem md {v n : Int} (h : 0 < n) : 0 ≤ v % n ∧ v % n < n := ⟨Int.emod_nonneg _ (by omega), Int.emod_lt_of_pos _ h⟩
theorem cutD_to (xs : List D) (n : Nat) : Dn.cutD xs none (some (n : Int)) = xs.take n := by
  unfold Dn.cutD
  rw [HT.sIx_nat, HT.sIx_none]
  by_cases h : n ≤ xs.length
  · rw [Nat.min_eq_left h]; simp
  · rw [Nat.min_eq_right (by omega)]; simp; exact (List.take_of_length_le (by omega)).symm
theorem cut0 (xs : List D) : Dn.cutD xs none (some 0) = [] := by rw [show (0 : Int) = ((0 : Nat) : Int) from rfl, cutD_to]; rfl
theorem cut4 (xs : List D) (h : xs.length ≤ 4) : Dn.cutD xs none (some 4) = xs := by rw [show (4 : Int) = ((4 : Nat) : Int) from rfl, cutD_to]; exact List.take_of_length_le h
theorem m40 : mulD (.int 4) (.int 0) = some (.int 0) := mulD_lt (by decide) (by decide)
theorem m41 : mulD (.int 4) (.int 1) = some (.int 4) := mulD_lt (by decide) (by decide)
section
variable {nums : List Int} (hI : InR nums)
include hI
theorem leaf_draw (n m k : Nat) (hk : k < 10000000000) (hc : ¬ (7 < dr nums k % 11 ∧ 0 < n)) : ∃ d k', F__law_any_condition (m + 1) [.cel 0, .d (.int n)] (DS nums k) = .ok (.d d) (DS nums k') ∧ Leaf d ∧ k ≤ k' ∧ k' ≤ k + 10 := by
  have d0 := drc (k := k) hI (by omega) (k + 1) rfl
  have d1 := drc (k := k + 1) hI (by omega) (k + 2) rfl
  have a4 := md (v := dr nums (k + 1)) (n := 4) (by decide)
  have a11 := md (v := dr nums k) (n := 11) (by decide)
  obtain ⟨xs, k1, e, q1, q2, q3a, q3⟩ := lc_names hI 7 2 (ρ := [.cel 0, .d (.int n), NL, .d (.int (dr nums k % 11)), .no, .no, .no, .no]) (by simp) (by simp) (1 + dr nums (k + 1) % 4).toNat (k + 2) (by omega) (by omega)
  have q4 : 1 ≤ xs.length ∧ xs.length ≤ 4 := by omega
  have b1 : -4611686018427387904 ≤ 1 + dr nums (k + 1) % 4 := by omega
  have b2 : 1 + dr nums (k + 1) % 4 < 4611686018427387904 := by omega
  have d2 := drc (k := k1) hI (by omega) (k1 + 1) rfl
  have d3 := drc (k := k1 + 1) hI (by omega) (k1 + 2) rfl
  have ht : ¬ 7 < dr nums k % 11 ∨ n = 0 := by omega
  have sz1 : xs.length ≤ sizeLine := size_ok (by omega)
  have sz2 : 1 + xs.length ≤ sizeLine := size_ok (by omega)
  have c4 := cut4 (xs.map .str) (by simpa using q4.2)
  have hx : ∃ x r, xs = x :: r ∧ x ∈ nms := by
    cases xs with
    | nil => simp at q4
    | cons x r => exact ⟨x, r, rfl, q1 x (by simp)⟩
  by_cases c1 : dr nums k % 11 < 4
  · have t7 : ¬ 7 < dr nums k % 11 := by omega
    have wd : ∀ w : Str, (w = "peril" ∨ w = "place" ∨ w = "object") → Leaf (.tuple (.str w :: xs.map .str)) := fun w hw => .inr (.inl ⟨w, xs, hw, q1, q4.1, q4.2, rfl⟩)
    rcases (by omega : dr nums k % 11 = 0 ∨ dr nums k % 11 = 1 ∨ dr nums k % 11 = 2 ∨ dr nums k % 11 = 3) with c | c | c | c
    all_goals rw [c] at e
    · refine ⟨.tuple [.str "always"], k1, ?_, .inl rfl, by omega, by omega⟩
      simp [F__law_any_condition, B__law_any_condition, d0, c, d1, e, b1, b2, m40, m41, cut0, -callC_, -mulD_int]
    · refine ⟨_, k1, ?_, wd "peril" (by simp), by omega, by omega⟩
      simp [F__law_any_condition, B__law_any_condition, d0, c, d1, e, b1, b2, m40, m41, c4, sz2, -callC_, -mulD_int]
    · refine ⟨_, k1, ?_, wd "place" (by simp), by omega, by omega⟩
      simp [F__law_any_condition, B__law_any_condition, d0, c, d1, e, b1, b2, m40, m41, c4, sz2, -callC_, -mulD_int]
    · refine ⟨_, k1, ?_, wd "object" (by simp), by omega, by omega⟩
      simp [F__law_any_condition, B__law_any_condition, d0, c, d1, e, b1, b2, m40, m41, c4, sz2, -callC_, -mulD_int]
  · have n4 : ¬ dr nums k % 11 < 4 := c1
    by_cases c2 : dr nums k % 11 = 4 ∨ 7 < dr nums k % 11
    · obtain ⟨_, ⟨a, rfl, a1, a2⟩, ha⟩ := atI_mod (xs := [.int 0, .int 5, .int 100, .int 36500]) (P := fun x => ∃ i, x = .int i ∧ 0 ≤ i ∧ i ≤ 36500) (dr nums k1) 4 rfl (by decide) (by simp)
      obtain ⟨_, ⟨b, rfl, b3, b4⟩, hb⟩ := atI_mod (xs := [.int 0, .int 1, .int 5, .int 36500]) (P := fun x => ∃ i, x = .int i ∧ 0 ≤ i ∧ i ≤ 36500) (dr nums (k1 + 1)) 4 rfl (by decide) (by simp)
      refine ⟨.tuple [.str "day", .int a, .int (if a + b < 36500 then a + b else 36500)], k1 + 2, ?_, .inr (.inr (.inl ⟨a, _, a1, by split <;> omega, by split <;> omega, rfl⟩)), by omega, by omega⟩
      rcases ht with ht | rfl
      · have c3 : dr nums k % 11 = 4 := by omega
        rw [c3] at e
        simp [F__law_any_condition, B__law_any_condition, d0, c3, d1, e, b1, b2, d2, d3, ha, hb, -callC_]
      · rcases c2 with c3 | c3
        · rw [c3, show ((0 : Nat) : Int) = 0 from rfl] at e
          simp [F__law_any_condition, B__law_any_condition, d0, c3, d1, e, b1, b2, d2, d3, ha, hb, -callC_]
        · have c4 : ¬ dr nums k % 11 = 4 := by omega
          rw [show ((0 : Nat) : Int) = 0 from rfl] at e
          simp [F__law_any_condition, B__law_any_condition, d0, c3, c4, n4, d1, e, b1, b2, d2, d3, ha, hb, -callC_]
    · have c3 : ¬ dr nums k % 11 = 4 ∧ ¬ 7 < dr nums k % 11 := by omega
      by_cases c5 : dr nums k % 11 = 5
      · obtain ⟨_, ⟨a, rfl, a1, a2⟩, ha⟩ := atI_mod (xs := [.int 0, .int 1, .int 5, .int 30, .int 6000]) (P := fun x => ∃ i, x = .int i ∧ 0 ≤ i ∧ i ≤ 6000) (dr nums k1) 5 rfl (by decide) (by simp)
        refine ⟨.tuple [.str "noticed", .int a], k1 + 1, ?_, .inr (.inr (.inr (.inl ⟨a, a1, a2, rfl⟩))), by omega, by omega⟩
        rw [c5] at e
        simp [F__law_any_condition, B__law_any_condition, d0, c5, d1, e, b1, b2, d2, ha, -callC_]
      · obtain ⟨x, r, rfl, hx⟩ := hx
        refine ⟨.tuple [.str "says", .str x], k1, ?_, .inr (.inr (.inr (.inr ⟨x, hx, rfl⟩))), by omega, by omega⟩
        simp [F__law_any_condition, B__law_any_condition, d0, c3, c5, n4, d1, e, b1, b2, -callC_]
end
open PySem.Spec PyProof.Rows
section
variable {nums : List Int} (hI : InR nums)
include hI
theorem any_cond_ : ∀ (n m k : Nat), n ≤ 3 → k + 100 * 5 ^ n < 10000000000 → ∃ d k', F__law_any_condition (n + 1 + m) [.cel 0, .d (.int n)] (DS nums k) = .ok (.d d) (DS nums k') ∧ Ok n d ∧ k ≤ k' ∧ k' ≤ k + 100 * 5 ^ n := by
  intro n
  induction n with
  | zero =>
    intro m k _ hk
    rw [show 0 + 1 + m = m + 1 by omega]
    obtain ⟨d, k', e, h1, h2, h3⟩ := leaf_draw hI 0 m k (by omega) (by omega)
    exact ⟨d, k', e, h1, h2, by omega⟩
  | succ n ih =>
    intro m k hn hk
    rw [show n + 1 + 1 + m = (n + 1 + m) + 1 by omega]
    have p5 : 5 ^ (n + 1) = 5 * 5 ^ n := by rw [Nat.pow_succ]; omega
    have p0 : 0 < 5 ^ n := Nat.pow_pos (by decide)
    by_cases c1 : 7 < dr nums k % 11
    · have d0 := drc (k := k) hI (by omega) (k + 1) rfl
      have d1 := drc (k := k + 1) hI (by omega) (k + 2) rfl
      have a11 := md (v := dr nums k) (n := 11) (by decide)
      have a3 := md (v := dr nums (k + 1)) (n := 3) (by decide)
      obtain ⟨cs, k', e, q1, q2, q3, q4⟩ := lc_draw (nums := nums) (i := 7) (st := 100 * 5 ^ n) (B := 9999999999) (f := eFrz (eCallC (F__law_any_condition (n + 1 + m)) (aCons (eV 0) (aCons (eBin subD (eV 1) (eC (.int (1)))) aNil)))) (ρ := [.cel 0, .d (.int ((n : Int) + 1)), NL, .d (.int (dr nums k % 11)), .no, .no, .no, .no]) (Ok n) (fun k x hk => by
        obtain ⟨d, k', e1, h1, h2, h3⟩ := ih m k (by omega) (by omega)
        have e1' := callC_DS rfl e1
        have en : (n : Int) + 1 - 1 = n := by omega
        refine ⟨d, k', ?_, h1, h2, h3⟩
        simp [en, e1', -callC_]) (rngD 0 (1 + dr nums (k + 1) % 3).toNat) [] (k + 2) (by
          have b : (1 + dr nums (k + 1) % 3).toNat ≤ 3 := by omega
          have c := Nat.mul_le_mul_left (100 * 5 ^ n) b
          rw [rng_len]; omega) (by
          rw [rng_len]; simp; omega)
      rw [rng_len] at q1 q4
      have q5 : (100 * 5 ^ n) * (1 + dr nums (k + 1) % 3).toNat ≤ (100 * 5 ^ n) * 3 := Nat.mul_le_mul_left _ (by omega)
      have b1 : -4611686018427387904 ≤ 1 + dr nums (k + 1) % 3 := by omega
      have b2 : 1 + dr nums (k + 1) % 3 < 4611686018427387904 := by omega
      have cn : ((n + 1 : Nat) : Int) = (n : Int) + 1 := by omega
      have cp : (0 : Int) < (n : Int) + 1 := by omega
      obtain ⟨c, r, rfl⟩ : ∃ c r, cs = c :: r := by
        cases cs with
        | nil => simp at q1; omega
        | cons c r => exact ⟨c, r, rfl⟩
      rw [List.length_cons] at q1
      have sz1 : 1 + (r.length + 1) ≤ sizeLine := size_ok (by omega)
      simp only [List.nil_append] at e
      rw [cn]
      rcases (by omega : dr nums k % 11 = 8 ∨ dr nums k % 11 = 9 ∨ dr nums k % 11 = 10) with c3 | c3 | c3
      all_goals rw [c3] at e
      · refine ⟨.tuple [.str "not", c], k', ?_, .inr (.inl ⟨c, q2 c (by simp), rfl⟩), by omega, by omega⟩
        simp [F__law_any_condition, B__law_any_condition, d0, d1, c3, cp, b1, b2, e, sz1, -callC_]
      · refine ⟨.tuple (.str "and" :: c :: r), k', ?_, .inr (.inr ⟨c :: r, q2, by simp, by simp; omega, .inl rfl⟩), by omega, by omega⟩
        simp [F__law_any_condition, B__law_any_condition, d0, d1, c3, cp, b1, b2, e, sz1, -callC_]
      · refine ⟨.tuple (.str "or" :: c :: r), k', ?_, .inr (.inr ⟨c :: r, q2, by simp, by simp; omega, .inr rfl⟩), by omega, by omega⟩
        simp [F__law_any_condition, B__law_any_condition, d0, d1, c3, cp, b1, b2, e, sz1, -callC_]
    · obtain ⟨d, k', e, h1, h2, h3⟩ := leaf_draw hI (n + 1) (n + 1 + m) k (by omega) (by omega)
      exact ⟨d, k', e, .inl h1, h2, by omega⟩
theorem any_loss_ (k : Nat) (hk : k < 1000000000) : ∃ (o p t : Str) (a b s : Int) (said : List Str) (k' : Nat), F__law_any_loss [.cel 0] (DS nums k) = .ok (.d (encL o p t a b s said)) (DS nums k') ∧ Lo o p t a b s said ∧ k ≤ k' ∧ k' ≤ k + 20 := by
  have d0 := drc (k := k) hI (by omega) (k + 1) rfl
  have d1 := drc (k := k + 1) hI (by omega) (k + 2) rfl
  have d2 := drc (k := k + 2) hI (by omega) (k + 3) rfl
  have a3 := md (v := dr nums (k + 2)) (n := 3) (by decide)
  obtain ⟨_, ⟨a, rfl, a1, a2⟩, ha⟩ := atI_mod (xs := [.int 0, .int 4, .int 5, .int 6, .int 10, .int 99, .int 100, .int 101, .int 105, .int 106, .int 36500]) (P := fun x => ∃ i, x = .int i ∧ 0 ≤ i ∧ i ≤ 36500) (dr nums k) 11 rfl (by decide) (by simp)
  obtain ⟨_, ⟨c, rfl, c1, c2⟩, hc⟩ := atI_mod (xs := [.int 0, .int 1, .int 2, .int 5, .int 6, .int 30, .int 31, .int 6000, .int 6001]) (P := fun x => ∃ i, x = .int i ∧ 0 ≤ i ∧ i ≤ 36500) (dr nums (k + 1)) 9 rfl (by decide) (by simp)
  obtain ⟨xs, k1, e, q1, q2, q3a, q3⟩ := lc_names hI 6 1 (ρ := [.cel 0, NL, .d (.int a), .d (.int (if a + c < 36500 then a + c else 36500)), .no, .no, .no]) (by simp) (by simp) (dr nums (k + 2) % 3).toNat (k + 3) (by omega) (by omega)
  have b1 : -4611686018427387904 ≤ dr nums (k + 2) % 3 := by omega
  have b2 : dr nums (k + 2) % 3 < 4611686018427387904 := by omega
  have st : sortedSetG [.list (xs.map .str)] = some (.list ((sortT (uqS [] xs)).map .str)) := srt_txt (by omega)
  have um := uq_mem xs []
  have ul := uq_len xs []
  have un := uq_nodup xs [] (by simp)
  generalize hy : sortT (uqS [] xs) = said at st
  have pm : said.Perm (uqS [] xs) := hy ▸ sortT_perm _
  have up : said.Pairwise leS := hy ▸ sortT_up _
  obtain ⟨ys, k2, e2, r1, r2, r3a, r3⟩ := lc_names hI 6 1 (ρ := [.cel 0, NL, .d (.int a), .d (.int (if a + c < 36500 then a + c else 36500)), .d (.tuple (said.map .str)), .no, .no]) (by simp) (by simp) 3 k1 (by omega) (by omega)
  have d3 := drc (k := k2) hI (by omega) (k2 + 1) rfl
  have l1 := dr_lo (k := k2) hI
  have l2 := dr_hi (k := k2) hI
  match ys, r2, e2, r1 with
  | [o, p, t], _, e2, r1 =>
    refine ⟨o, p, t, a, if a + c < 36500 then a + c else 36500, 1 + dr nums k2, said, k2 + 1, ?_, ⟨r1 o (by simp), r1 p (by simp), r1 t (by simp), a1, by split <;> omega, by split <;> omega, by omega, by omega, fun x hx => ?_, up, pm.nodup_iff.2 un, ?_⟩, by omega, by omega⟩
    · simp only [List.map_cons, List.map_nil] at e2
      simp [F__law_any_loss, B__law_any_loss, d0, d1, d2, ha, hc, b1, b2, e, st, e2, d3, -callC_]
    · rcases um x (pm.mem_iff.1 hx) with z | z
      · cases z
      · exact q1 x z
    · rw [pm.length_eq]; simp at ul; omega
  | [], h, _, _ => simp at h
  | [_], h, _, _ => simp at h
  | [_, _], h, _, _ => simp at h
  | _ :: _ :: _ :: _ :: _, h, _, _ => simp at h
/-- the losses of a turn -/
theorem loss_loop (K : PySem.W.Frag) {n : Nat} {d : D} (h : Ok n d) (hn : n ≤ 3) (s0 s2 : S) : ∀ (js : List Int) (k : Nat) (x4 x5 x6 : S), k + 20 * js.length < 1000000000 → ∃ y4 y5 y6 k', gFor (gtN 4) (gSeq (sSet 5 (eFrz (eCallC F__law_any_loss (aCons (eV 1) aNil))))
        (gSeq (sSet 6 (eCd strLG (aCons (eFrz (eLst (aCons (eV 3) (aCons (eV 5) aNil)))) aNil)))
        (sIf (tOrM (tNotM (tT (eFrz (eCall (F__law_equal 12) (aCons (eFrz (eCall (F_holds K) (aCons (eV 3) (aCons (eV 5) aNil)))) (aCons (eFrz (eCall (F__law_holds 12) (aCons (eV 3) (aCons (eV 5) aNil)))) aNil)))))) (op2 neD (eCd strLG (aCons (eFrz (eLst (aCons (eV 3) (aCons (eV 5) aNil)))) aNil)) (eV 6))) (sRet (eRv (eC (.bool false)))) gNil))) (js.map .int) [s0, .cel 0, s2, .d d, x4, x5, x6] (DS nums k) = .nx [s0, .cel 0, s2, .d d, y4, y5, y6] (DS nums k') ∧ k' ≤ k + 20 * js.length
  | [], k, x4, x5, x6, _ => ⟨_, _, _, k, rfl, by simp⟩
  | j :: js, k, x4, x5, x6, hk => by
    rw [List.length_cons] at hk
    obtain ⟨o, p, t, a, b, s, said, k1, e1, L, h1, h2⟩ := any_loss_ hI k (by omega)
    have e1' := callC_DS (F := F__law_any_loss) (r := []) rfl e1
    obtain ⟨v, e2, e3⟩ := holds_ K L h hn
    have e4 := str_pair L h hn
    have e5 := equal_bl 11 v
    obtain ⟨y4, y5, y6, k', e6, h3⟩ := loss_loop K h hn s0 s2 js k1 (.d (.int j)) (.d (encL o p t a b s said)) (.d (.str (PyData.list [d, encL o p t a b s said]).shown)) (by omega)
    refine ⟨y4, y5, y6, k', ?_, by rw [List.length_cons]; omega⟩
    rw [List.map_cons, gFor_cons]
    generalize encL o p t a b s said = l at *
    simp [e1', e2, e3, e4, e5, e6, -callC_]
theorem turn_loop (K : PySem.W.Frag) (s0 : S) : ∀ (js : List Int) (k : Nat) (x2 x3 x4 x5 x6 : S), (∀ j ∈ js, 0 ≤ j ∧ j ≤ 100) → k + 100000 * js.length < 100000000 → ∃ ρ' cs', gFor (gtN 2) (gSeq (sSet 3 (eFrz (eCallC (F__law_any_condition 12) (aCons (eV 1) (aCons (eBin modD (eV 2) (eC (.int (4)))) aNil)))))
      (sFor (gtN 4) (iRng (eC (.int (6)))) (gSeq (sSet 5 (eFrz (eCallC F__law_any_loss (aCons (eV 1) aNil))))
        (gSeq (sSet 6 (eCd strLG (aCons (eFrz (eLst (aCons (eV 3) (aCons (eV 5) aNil)))) aNil)))
        (sIf (tOrM (tNotM (tT (eFrz (eCall (F__law_equal 12) (aCons (eFrz (eCall (F_holds K) (aCons (eV 3) (aCons (eV 5) aNil)))) (aCons (eFrz (eCall (F__law_holds 12) (aCons (eV 3) (aCons (eV 5) aNil)))) aNil)))))) (op2 neD (eCd strLG (aCons (eFrz (eLst (aCons (eV 3) (aCons (eV 5) aNil)))) aNil)) (eV 6))) (sRet (eRv (eC (.bool false)))) gNil))))) (js.map .int) [s0, .cel 0, x2, x3, x4, x5, x6] (DS nums k) = .nx ρ' cs'
  | [], k, x2, x3, x4, x5, x6, _, _ => ⟨_, _, rfl⟩
  | j :: js, k, x2, x3, x4, x5, x6, hj, hk => by
    rw [List.length_cons] at hk
    have hj0 := hj j (by simp)
    have p5 : 5 ^ (j % 4).toNat ≤ 5 ^ 3 := Nat.pow_le_pow_right (by decide) (by omega)
    obtain ⟨d, k1, e1, g1, g2, g3⟩ := any_cond_ hI (j % 4).toNat (11 - (j % 4).toNat) k (by omega) (by omega)
    rw [show (j % 4).toNat + 1 + (11 - (j % 4).toNat) = 12 by omega, show (((j % 4).toNat : Nat) : Int) = j % 4 by omega] at e1
    have e1' := callC_DS rfl e1
    obtain ⟨y4, y5, y6, k2, e2, h3⟩ := loss_loop hI K g1 (by omega) s0 (.d (.int j)) ((List.range 6).map fun (k : Nat) => 0 + (k : Int)) k1 x4 x5 x6 (by simp; omega)
    rw [← rngD_map] at e2
    simp at h3
    obtain ⟨ρ', cs', e3⟩ := turn_loop K s0 js k2 (.d (.int j)) (.d d) y4 y5 y6 (fun y hy => hj y (by simp [hy])) (by omega)
    refine ⟨ρ', cs', ?_⟩
    rw [List.map_cons, gFor_cons]
    simp [e1', e2, e3, -callC_]
end
theorem law_true (K : PySem.W.Frag) (ns : List Int) (h : ns.length ≤ 63) : ∃ cs', F_law K [.d (.list (ns.map .int))] [] = .ok (.d (.bool true)) cs' := by
  obtain ⟨nums, e, h1, h2⟩ := numbers_ ns (by omega)
  obtain ⟨ρ', cs', f⟩ := turn_loop h1 K (.d (.list (ns.map .int))) ((List.range 5).map fun (k : Nat) => 0 + (k : Int)) 0 .no .no .no .no .no (by intro j hj; simp at hj; omega) (by simp)
  rw [← rngD_map] at f
  rw [show DS nums 0 = [.lst [.list (nums.map .int), .int 0]] from rfl] at f
  simp [F_law, B_law, e, f, -callC_]
end Law

set_option Elab.async false
set_option linter.all false
set_option maxRecDepth 100000
set_option maxHeartbeats 4000000
namespace Law
open PySem L2 Dn
/-! the text by places -/
def top (i : Nat) : Stmt := PySem.Challenge.pw_whatbefell_k07_conditions_hold.main.body.getD i (.Pass ⟨0, 0, 0, 0⟩)
abbrev st_is_number : Stmt := top 8
abbrev st_is_name : Stmt := top 9
abbrev st_is_day : Stmt := top 10
abbrev st_is_money : Stmt := top 11
abbrev st_is_tuple : Stmt := top 12
abbrev st_are_names : Stmt := top 14
abbrev st_conditions_in : Stmt := top 15
abbrev st_is_condition : Stmt := top 16
abbrev st_are_few : Stmt := top 17
abbrev st_is_so : Stmt := top 18
abbrev st_is_plain_loss : Stmt := top 19
abbrev st_holds : Stmt := top 20
abbrev st__law_mixed : Stmt := top 22
abbrev st__law_numbers : Stmt := top 23
abbrev st__law_draw : Stmt := top 24
abbrev st__law_equal : Stmt := top 25
abbrev st__law_all_equal : Stmt := top 26
abbrev st__law_holds : Stmt := top 27
abbrev st__law_any_condition : Stmt := top 28
abbrev st__law_any_loss : Stmt := top 29
abbrev st_law : Stmt := top 30
structure Tx (K : PySem.W.Frag) (mg : PySem.Str → Option Value) : Prop where
  z_bool : mg "bool" = none
  z_int : mg "int" = none
  z_isinstance : mg "isinstance" = none
  z_len : mg "len" = none
  z_list : mg "list" = none
  z_min : mg "min" = none
  z_range : mg "range" = none
  z_set : mg "set" = none
  z_sorted : mg "sorted" = none
  z_str : mg "str" = none
  z_tuple : mg "tuple" = none
  m_LETTERS : ∃ t, mg "LETTERS" = some (.str "abcdefghijklmnopqrstuvwxyz" t)
  m_FIGURES : ∃ t, mg "FIGURES" = some (.str "0123456789" t)
  m_MONEY : ∃ t, mg "MONEY" = some (.int (1000000000000) t)
  m_LAST : ∃ t, mg "LAST" = some (.int (36500) t)
  x_WhatbefellError : Exf K mg "WhatbefellError"
  x_BadWords : Exf K mg "BadWords"
  d_is_number : Dfn K mg "is_number" st_is_number ["value", "low", "high"]
  d_is_name : Dfn K mg "is_name" st_is_name ["value"]
  d_is_day : Dfn K mg "is_day" st_is_day ["value"]
  d_is_money : Dfn K mg "is_money" st_is_money ["value"]
  d_is_tuple : Dfn K mg "is_tuple" st_is_tuple ["value", "low", "high"]
  d_are_names : Dfn K mg "are_names" st_are_names ["value"]
  d_conditions_in : Dfn K mg "conditions_in" st_conditions_in ["value"]
  d_is_condition : Dfn K mg "is_condition" st_is_condition ["value"]
  d_are_few : Dfn K mg "are_few" st_are_few ["value", "parts_in"]
  d_is_so : Dfn K mg "is_so" st_is_so ["condition", "loss"]
  d_is_plain_loss : Dfn K mg "is_plain_loss" st_is_plain_loss ["loss"]
  d_holds : Dfn K mg "holds" st_holds ["condition", "loss"]
  d__law_mixed : Dfn K mg "_law_mixed" st__law_mixed ["number", "k"]
  d__law_numbers : Dfn K mg "_law_numbers" st__law_numbers ["script"]
  d__law_draw : Dfn K mg "_law_draw" st__law_draw ["draws"]
  d__law_equal : Dfn K mg "_law_equal" st__law_equal ["actual", "due"]
  d__law_all_equal : Dfn K mg "_law_all_equal" st__law_all_equal ["actual", "due"]
  d__law_holds : Dfn K mg "_law_holds" st__law_holds ["condition", "loss"]
  d__law_any_condition : Dfn K mg "_law_any_condition" st__law_any_condition ["draws", "depth"]
  d__law_any_loss : Dfn K mg "_law_any_loss" st__law_any_loss ["draws"]
  d_law : Dfn K mg "law" st_law ["script"]
theorem sc_is_number : FnScope ["value", "low", "high"] ["value", "low", "high"] (defScope st_is_number) := ⟨rfl, rfl, rfl, by decide +kernel, rfl, by decide +kernel, by decide +kernel⟩
theorem sc_is_name : FnScope ["value", "sign"] ["value"] (defScope st_is_name) := ⟨rfl, rfl, rfl, by decide +kernel, rfl, by decide +kernel, by decide +kernel⟩
theorem sc_is_day : FnScope ["value"] ["value"] (defScope st_is_day) := ⟨rfl, rfl, rfl, by decide +kernel, rfl, by decide +kernel, by decide +kernel⟩
theorem sc_is_money : FnScope ["value"] ["value"] (defScope st_is_money) := ⟨rfl, rfl, rfl, by decide +kernel, rfl, by decide +kernel, by decide +kernel⟩
theorem sc_is_tuple : FnScope ["value", "low", "high"] ["value", "low", "high"] (defScope st_is_tuple) := ⟨rfl, rfl, rfl, by decide +kernel, rfl, by decide +kernel, by decide +kernel⟩
theorem sc_are_names : FnScope ["value", "one"] ["value"] (defScope st_are_names) := ⟨rfl, rfl, rfl, by decide +kernel, rfl, by decide +kernel, by decide +kernel⟩
theorem sc_conditions_in : FnScope ["value", "word", "rest", "right"] ["value"] (defScope st_conditions_in) := ⟨rfl, rfl, rfl, by decide +kernel, rfl, by decide +kernel, by decide +kernel⟩
theorem sc_is_condition : FnScope ["value"] ["value"] (defScope st_is_condition) := ⟨rfl, rfl, rfl, by decide +kernel, rfl, by decide +kernel, by decide +kernel⟩
theorem sc_are_few : FnScope ["value", "parts_in", "waiting", "total", "parts"] ["value", "parts_in"] (defScope st_are_few) := ⟨rfl, rfl, rfl, by decide +kernel, rfl, by decide +kernel, by decide +kernel⟩
theorem sc_is_so : FnScope ["condition", "loss", "word", "parts", "part"] ["condition", "loss"] (defScope st_is_so) := ⟨rfl, rfl, rfl, by decide +kernel, rfl, by decide +kernel, by decide +kernel⟩
theorem sc_is_plain_loss : FnScope ["loss", "one"] ["loss"] (defScope st_is_plain_loss) := ⟨rfl, rfl, rfl, by decide +kernel, rfl, by decide +kernel, by decide +kernel⟩
theorem sc_holds : FnScope ["condition", "loss"] ["condition", "loss"] (defScope st_holds) := ⟨rfl, rfl, rfl, by decide +kernel, rfl, by decide +kernel, by decide +kernel⟩
theorem sc__law_mixed : FnScope ["number", "k", "step"] ["number", "k"] (defScope st__law_mixed) := ⟨rfl, rfl, rfl, by decide +kernel, rfl, by decide +kernel, by decide +kernel⟩
theorem sc__law_numbers : FnScope ["script", "numbers", "cell", "rest", "k"] ["script"] (defScope st__law_numbers) := ⟨rfl, rfl, rfl, by decide +kernel, rfl, by decide +kernel, by decide +kernel⟩
theorem sc__law_draw : FnScope ["draws", "at", "first"] ["draws"] (defScope st__law_draw) := ⟨rfl, rfl, rfl, by decide +kernel, rfl, by decide +kernel, by decide +kernel⟩
theorem sc__law_equal : FnScope ["actual", "due"] ["actual", "due"] (defScope st__law_equal) := ⟨rfl, rfl, rfl, by decide +kernel, rfl, by decide +kernel, by decide +kernel⟩
theorem sc__law_all_equal : FnScope ["actual", "due", "k"] ["actual", "due"] (defScope st__law_all_equal) := ⟨rfl, rfl, rfl, by decide +kernel, rfl, by decide +kernel, by decide +kernel⟩
theorem sc__law_holds : FnScope ["condition", "loss", "word", "told", "one"] ["condition", "loss"] (defScope st__law_holds) := ⟨rfl, rfl, rfl, by decide +kernel, rfl, by decide +kernel, by decide +kernel⟩
theorem sc__law_any_condition : FnScope ["draws", "depth", "names", "pick", "parts", "some", "low", "k"] ["draws", "depth"] (defScope st__law_any_condition) := ⟨rfl, rfl, rfl, by decide +kernel, rfl, by decide +kernel, by decide +kernel⟩
theorem sc__law_any_loss : FnScope ["draws", "names", "day", "noticed", "said", "row", "k"] ["draws"] (defScope st__law_any_loss) := ⟨rfl, rfl, rfl, by decide +kernel, rfl, by decide +kernel, by decide +kernel⟩
theorem sc_law : FnScope ["script", "draws", "turn", "condition", "k", "loss", "kept"] ["script"] (defScope st_law) := ⟨rfl, rfl, rfl, by decide +kernel, rfl, by decide +kernel, by decide +kernel⟩
section
variable {P : Program} {w : World} {K : PySem.W.Frag} {mg : PySem.Str → Option Value} {base : Heap}
theorem ok_is_number (T : Tx K mg) : Okf P w K mg base 1 "is_number" ["value", "low", "high"] F_is_number :=
  T.d_is_number.ok sc_is_number 0 rfl fun cdv A outer s H E hr tk po =>
    (dss_one (dst_ret ((de_and (de_isa (de_name 0) T.z_isinstance T.z_int (.inl rfl) bt_int) (de_and (de_not (de_isa (de_name 0) T.z_isinstance T.z_bool (.inr (.inl rfl)) bt_bool)) (de_one (de_chn le_ok le_ok (de_name 1) (de_name 0) (de_name 2)))))).rv))
theorem ok_is_name (T : Tx K mg) : Okf P w K mg base 1 "is_name" ["value"] F_is_name :=
  T.d_is_name.ok sc_is_name 1 rfl fun cdv A outer s H E hr tk po =>
    (dss_cons (dst_if (dw_or (dt_not (dt_tru (de_isa (de_name 0) T.z_isinstance T.z_str (.inr (.inr (.inl rfl))) bt_str))) (dw_or (dt_not (dt_chn le_ok le_ok de_int (de_callB len_ok T.z_len bt_len (da_cons (de_name 0) da_nil)) de_int)) (dw_or1 (dt_cmp (nin_ok (hu65 hr)) (de_ix (de_name 0) de_int) (de_gS T.m_LETTERS))))).dt (dss_one (dst_ret (de_bl).rv)) dss_nil)
    (dss_one (dst_ret ((de_cmp (eq_ok hr.units) ((do_lc [("sign", 1)] sc_is_name.nd (di_any (de_name 0)) (fun _ _ _ _ _ => (dgb_name 1 sc_is_name.nd)) (fun _ _ _ _ _ => (dts_one (dw_and (dt_cmp (nin_ok (hu65 hr)) (de_name 1) (de_gS T.m_LETTERS)) (dw_and1 (dt_cmp (nin_ok (hu65 hr)) (de_name 1) (de_gS T.m_FIGURES)))).dt)) (fun _ _ _ _ _ => (de_name 1)))).frz ((do_lst da_nil)).frz)).rv)))
theorem ok_is_day (T : Tx K mg) : Okf P w K mg base 2 "is_day" ["value"] F_is_day :=
  T.d_is_day.ok sc_is_day 0 rfl fun cdv A outer s H E hr tk po =>
    (dss_one (dst_ret (do_f (ok_is_number T) (hr.mono (by decide)) tk (da_cons (de_name 0) (da_cons de_int (da_cons (de_gI T.m_LAST) da_nil))) (alenS (alenS (alenS alen0))))))
theorem ok_is_money (T : Tx K mg) : Okf P w K mg base 2 "is_money" ["value"] F_is_money :=
  T.d_is_money.ok sc_is_money 0 rfl fun cdv A outer s H E hr tk po =>
    (dss_one (dst_ret (do_f (ok_is_number T) (hr.mono (by decide)) tk (da_cons (de_name 0) (da_cons de_int (da_cons (de_gI T.m_MONEY) da_nil))) (alenS (alenS (alenS alen0))))))
theorem ok_is_tuple (T : Tx K mg) : Okf P w K mg base 1 "is_tuple" ["value", "low", "high"] F_is_tuple :=
  T.d_is_tuple.ok sc_is_tuple 0 rfl fun cdv A outer s H E hr tk po =>
    (dss_one (dst_ret ((de_and (de_isa (de_name 0) T.z_isinstance T.z_tuple (.inr (.inr (.inr (.inr (.inl rfl))))) bt_tuple) (de_one (de_chn le_ok le_ok (de_name 1) (de_callB len_ok T.z_len bt_len (da_cons (de_name 0) da_nil)) (de_name 2))))).rv))
theorem ok_are_names (T : Tx K mg) : Okf P w K mg base 2 "are_names" ["value"] F_are_names :=
  T.d_are_names.ok sc_are_names 1 rfl fun cdv A outer s H E hr tk po =>
    (dss_one (dst_ret ((de_and ((do_f (ok_is_tuple T) (hr.mono (by decide)) tk (da_cons (de_name 0) (da_cons de_int (da_cons de_int da_nil))) (alenS (alenS (alenS alen0))))).frz (de_one (de_cmp (eq_ok hr.units) ((do_lc [("one", 1)] sc_are_names.nd (di_any (de_name 0)) (fun _ _ _ _ _ => (dgb_name 1 sc_are_names.nd)) (fun _ _ _ _ _ => (dts_one (dt_not (dt_tru ((do_f (ok_is_name T) (hr.mono (by decide)) takesWf (da_cons (de_name 1) da_nil) (alenS alen0))).frz)))) (fun _ _ _ _ _ => (de_name 1)))).frz ((do_lst da_nil)).frz)))).rv))
theorem ok_conditions_in (T : Tx K mg) : Okf P w K mg base 3 "conditions_in" ["value"] F_conditions_in :=
  T.d_conditions_in.ok sc_conditions_in 3 rfl fun cdv A outer s H E hr tk po =>
    (dss_cons (dst_if (dw_or (dt_not (dt_tru (de_isa (de_name 0) T.z_isinstance T.z_tuple (.inr (.inr (.inr (.inr (.inl rfl))))) bt_tuple))) (dw_or (dt_cmp lt_ok (de_callB len_ok T.z_len bt_len (da_cons (de_name 0) da_nil)) de_int) (dw_or1 (dt_not (dt_tru (de_isa (de_ix (de_name 0) de_int) T.z_isinstance T.z_str (.inr (.inr (.inl rfl))) bt_str)))))).dt (dss_one (dst_ret (de_non).rv)) dss_nil)
    (dss_cons (dst_set 1 sc_conditions_in.nd (de_ix (de_name 0) de_int))
    (dss_cons (dst_set 2 sc_conditions_in.nd (de_sl (de_name 0) (dpo_some de_int) dpo_none))
    (dss_cons (dst_if (dt_cmp (eq_ok hr.units) (de_name 1) de_str) (dss_one (dst_set 3 sc_conditions_in.nd (de_cmp (eq_ok hr.units) (de_callB len_ok T.z_len bt_len (da_cons (de_name 2) da_nil)) de_int))) (dss_one (dst_if (dt_cmp (in_ok (hu65 hr)) (de_name 1) (de_tup (da_cons de_str (da_cons de_str (da_cons de_str da_nil))))) (dss_one (dst_set 3 sc_conditions_in.nd ((do_f (ok_are_names T) (hr.mono (by decide)) tk (da_cons (de_name 2) da_nil) (alenS alen0))).frz)) (dss_one (dst_if (dt_cmp (eq_ok hr.units) (de_name 1) de_str) (dss_one (dst_set 3 sc_conditions_in.nd (de_and (de_cmp (eq_ok hr.units) (de_callB len_ok T.z_len bt_len (da_cons (de_name 2) da_nil)) de_int) (de_and ((do_f (ok_is_day T) (hr.mono (by decide)) tk (da_cons (de_ix (de_name 2) de_int) da_nil) (alenS alen0))).frz (de_and ((do_f (ok_is_day T) (hr.mono (by decide)) tk (da_cons (de_ix (de_name 2) de_int) da_nil) (alenS alen0))).frz (de_one (de_cmp le_ok (de_ix (de_name 2) de_int) (de_ix (de_name 2) de_int)))))))) (dss_one (dst_if (dt_cmp (eq_ok hr.units) (de_name 1) de_str) (dss_one (dst_set 3 sc_conditions_in.nd (de_and (de_cmp (eq_ok hr.units) (de_callB len_ok T.z_len bt_len (da_cons (de_name 2) da_nil)) de_int) (de_one ((do_f (ok_is_number T) (hr.mono (by decide)) tk (da_cons (de_ix (de_name 2) de_int) (da_cons de_int (da_cons de_int da_nil))) (alenS (alenS (alenS alen0))))).frz)))) (dss_one (dst_if (dt_cmp (eq_ok hr.units) (de_name 1) de_str) (dss_one (dst_set 3 sc_conditions_in.nd (de_and (de_cmp (eq_ok hr.units) (de_callB len_ok T.z_len bt_len (da_cons (de_name 2) da_nil)) de_int) (de_one ((do_f (ok_is_name T) (hr.mono (by decide)) tk (da_cons (de_ix (de_name 2) de_int) da_nil) (alenS alen0))).frz)))) (dss_one (dst_if (dw_or (dw_and (dt_cmp (eq_ok hr.units) (de_name 1) de_str) (dw_and1 (dt_cmp (eq_ok hr.units) (de_callB len_ok T.z_len bt_len (da_cons (de_name 2) da_nil)) de_int))).dt (dw_or1 (dw_and (dt_cmp (in_ok (hu65 hr)) (de_name 1) (de_tup (da_cons de_str (da_cons de_str da_nil)))) (dw_and1 (dt_chn le_ok le_ok de_int (de_callB len_ok T.z_len bt_len (da_cons (de_name 2) da_nil)) de_int))).dt)).dt (dss_one (dst_ret ((de_callT list_ok T.z_list bt_list (da_cons (de_name 2) da_nil))).rv)) (dss_one (dst_set 3 sc_conditions_in.nd de_bl)))))))))))))
    (dss_one (dst_ret ((de_if (dt_tru (de_name 3)) ((do_lst da_nil)).frz de_non)).rv))))))
theorem ok_are_few__conditions_in (T : Tx K mg) : Okf P w K mg base 4 "are_few" ["value", "parts_in"] (F_are_few__conditions_in K) :=
  T.d_are_few.ok sc_are_few 3 rfl fun cdv A outer s H E hr tk po =>
    (dss_cons (dst_new 2 sc_are_few.nd (do_lst (da_cons (de_name 0) da_nil)))
    (dss_cons (dst_set 3 sc_are_few.nd de_int)
    (dss_cons (dst_while (fun _ _ => 100) po (dw_and (dt_tru (de_name 2)) (dw_and1 (dt_cmp le_ok (de_name 3) de_int))).dt (dss_cons (dst_set 4 sc_are_few.nd ((do_fL 1 (y := "conditions_in") (ok_conditions_in T) (hr.mono (by decide)) (da_cons (de_mt0 PySem.F.slot_list_pop PySem.F.type_list_pop pop_ok (de_name 2)) da_nil) (alenS alen0))).frz)
      (dss_cons (dst_if (dt_isn (de_name 4)) (dss_one (dst_ret (de_bl).rv)) dss_nil)
      (dss_cons (dst_set 3 sc_are_few.nd (de_op add_ok (de_name 3) de_int))
      (dss_one (dst_exp (de_mt PySem.F.slot_list_extend PySem.F.type_list_extend ext_ok (de_name 2) (da_cons (de_name 4) da_nil))))))))
    (dss_one (dst_ret ((de_cmp le_ok (de_name 3) de_int)).rv)))))
theorem ok_is_condition (T : Tx K mg) : Okf P w K mg base 5 "is_condition" ["value"] (F_is_condition K) :=
  T.d_is_condition.ok sc_is_condition 0 rfl fun cdv A outer s H E hr tk po =>
    (dss_one (dst_ret (do_f (ok_are_few__conditions_in T) (hr.mono (by decide)) tk (da_cons (de_name 0) (da_cons (de_globF T.d_conditions_in.g) da_nil)) (alenS (alenS alen0)))))
theorem st_ok_is_so {k : Nat} (hk : 0 ≤ k) {f_is_so : List S → M Rv} (T : Tx K mg) (h_is_so : Okf P w K mg base k "is_so" ["condition", "loss"] f_is_so) : Okf P w K mg base (k + 1) "is_so" ["condition", "loss"] (runG 3 (B_is_so f_is_so)) :=
  T.d_is_so.ok sc_is_so 3 rfl fun cdv A outer s H E hr tk po =>
    (dss_cons (dst_set 2 sc_is_so.nd (de_ix (de_name 0) de_int))
    (dss_cons (dst_if (dt_cmp (eq_ok hr.units) (de_name 2) de_str) (dss_one (dst_ret (de_bl).rv)) dss_nil)
    (dss_cons (dst_if (dt_cmp (eq_ok hr.units) (de_name 2) de_str) (dss_one (dst_ret ((de_cmp (in_ok (hu65 hr)) (de_ix (de_name 1) de_int) (de_sl (de_name 0) (dpo_some de_int) dpo_none))).rv)) dss_nil)
    (dss_cons (dst_if (dt_cmp (eq_ok hr.units) (de_name 2) de_str) (dss_one (dst_ret ((de_cmp (in_ok (hu65 hr)) (de_ix (de_name 1) de_int) (de_sl (de_name 0) (dpo_some de_int) dpo_none))).rv)) dss_nil)
    (dss_cons (dst_if (dt_cmp (eq_ok hr.units) (de_name 2) de_str) (dss_one (dst_ret ((de_cmp (in_ok (hu65 hr)) (de_ix (de_name 1) de_int) (de_sl (de_name 0) (dpo_some de_int) dpo_none))).rv)) dss_nil)
    (dss_cons (dst_if (dt_cmp (eq_ok hr.units) (de_name 2) de_str) (dss_one (dst_ret ((de_chn le_ok le_ok (de_ix (de_name 0) de_int) (de_ix (de_name 1) de_int) (de_ix (de_name 0) de_int))).rv)) dss_nil)
    (dss_cons (dst_if (dt_cmp (eq_ok hr.units) (de_name 2) de_str) (dss_one (dst_ret ((de_cmp le_ok (de_op sub_ok (de_ix (de_name 1) de_int) (de_ix (de_name 1) de_int)) (de_ix (de_name 0) de_int))).rv)) dss_nil)
    (dss_cons (dst_if (dt_cmp (eq_ok hr.units) (de_name 2) de_str) (dss_one (dst_ret ((de_cmp (in_ok (hu65 hr)) (de_ix (de_name 0) de_int) (de_ix (de_name 1) de_int))).rv)) dss_nil)
    (dss_cons (dst_if (dt_cmp (eq_ok hr.units) (de_name 2) de_str) (dss_one (dst_ret ((de_not ((do_f h_is_so hr tk (da_cons (de_ix (de_name 0) de_int) (da_cons (de_name 1) da_nil)) (alenS (alenS alen0)))).frz)).rv)) dss_nil)
    (dss_cons (dst_setLc 3 [("part", 4)] sc_is_so.nd (di_any (de_sl (de_name 0) (dpo_some de_int) dpo_none)) (fun _ _ _ _ _ => (dgb_name 4 sc_is_so.nd)) (fun _ _ _ _ _ => dts_nil) (fun _ _ _ _ _ => ((do_f h_is_so hr takesWf (da_cons (de_name 4) (da_cons (de_name 1) da_nil)) (alenS (alenS alen0)))).frz))
    (dss_one (dst_ret ((de_if (dt_cmp (eq_ok hr.units) (de_name 2) de_str) (de_not (de_cmp (in_ok (hu65 hr)) de_bl (de_name 3))) (de_cmp (in_ok (hu65 hr)) de_bl (de_name 3)))).rv))))))))))))
theorem ok_is_so (T : Tx K mg) : ∀ n, Okf P w K mg base (0 + n) "is_so" ["condition", "loss"] (F_is_so n)
  | 0 => T.d_is_so.ok0
  | n + 1 => st_ok_is_so (Nat.le_add_right _ _) T (ok_is_so T n)
theorem ok_is_plain_loss (T : Tx K mg) : Okf P w K mg base 3 "is_plain_loss" ["loss"] F_is_plain_loss :=
  T.d_is_plain_loss.ok sc_is_plain_loss 1 rfl fun cdv A outer s H E hr tk po =>
    (dss_cons (dst_if (dw_or (dt_not (dt_tru ((do_f (ok_is_tuple T) (hr.mono (by decide)) tk (da_cons (de_name 0) (da_cons de_int (da_cons de_int da_nil))) (alenS (alenS (alenS alen0))))).frz)) (dw_or (dt_not (dt_tru ((do_f (ok_is_name T) (hr.mono (by decide)) tk (da_cons (de_ix (de_name 0) de_int) da_nil) (alenS alen0))).frz)) (dw_or (dt_not (dt_tru ((do_f (ok_is_day T) (hr.mono (by decide)) tk (da_cons (de_ix (de_name 0) de_int) da_nil) (alenS alen0))).frz)) (dw_or1 (dt_not (dt_tru ((do_f (ok_is_day T) (hr.mono (by decide)) tk (da_cons (de_ix (de_name 0) de_int) da_nil) (alenS alen0))).frz)))))).dt (dss_one (dst_ret (de_bl).rv)) dss_nil)
    (dss_cons (dst_if (dw_or (dt_cmp lt_ok (de_ix (de_name 0) de_int) (de_ix (de_name 0) de_int)) (dw_or (dt_not (dt_tru ((do_f (ok_is_name T) (hr.mono (by decide)) tk (da_cons (de_ix (de_name 0) de_int) da_nil) (alenS alen0))).frz)) (dw_or (dt_not (dt_tru ((do_f (ok_is_name T) (hr.mono (by decide)) tk (da_cons (de_ix (de_name 0) de_int) da_nil) (alenS alen0))).frz)) (dw_or1 (dt_not (dt_tru ((do_f (ok_is_money T) (hr.mono (by decide)) tk (da_cons (de_ix (de_name 0) de_int) da_nil) (alenS alen0))).frz)))))).dt (dss_one (dst_ret (de_bl).rv)) dss_nil)
    (dss_cons (dst_if (dw_or (dt_not (dt_tru (de_isa (de_ix (de_name 0) de_int) T.z_isinstance T.z_tuple (.inr (.inr (.inr (.inr (.inl rfl))))) bt_tuple))) (dw_or1 (dt_tru ((do_lc [("one", 1)] sc_is_plain_loss.nd (di_any (de_ix (de_name 0) de_int)) (fun _ _ _ _ _ => (dgb_name 1 sc_is_plain_loss.nd)) (fun _ _ _ _ _ => (dts_one (dt_not (dt_tru ((do_f (ok_is_name T) (hr.mono (by decide)) takesWf (da_cons (de_name 1) da_nil) (alenS alen0))).frz)))) (fun _ _ _ _ _ => (de_name 1)))).frz))).dt (dss_one (dst_ret (de_bl).rv)) dss_nil)
    (dss_one (dst_ret ((de_cmp (eq_ok hr.units) (de_callT list_ok T.z_list bt_list (da_cons (de_ix (de_name 0) de_int) da_nil)) (de_sortedSet T.z_sorted T.z_set (de_ix (de_name 0) de_int)))).rv)))))
theorem ok_holds (T : Tx K mg) : Okf P w K mg base 13 "holds" ["condition", "loss"] (F_holds K) :=
  T.d_holds.ok sc_holds 0 rfl fun cdv A outer s H E hr tk po =>
    (dss_cons (dst_if (dw_or (dt_not (dt_tru ((do_f (ok_is_condition T) (hr.mono (by decide)) tk (da_cons (de_name 0) da_nil) (alenS alen0))).frz)) (dw_or1 (dt_not (dt_tru ((do_f (ok_is_plain_loss T) (hr.mono (by decide)) tk (da_cons (de_name 1) da_nil) (alenS alen0))).frz)))).dt (dss_one (dst_rs T.x_BadWords tk)) dss_nil)
    (dss_one (dst_ret (do_f (ok_is_so T 12) (hr.mono (by decide)) tk (da_cons (de_name 0) (da_cons (de_name 1) da_nil)) (alenS (alenS alen0))))))
theorem ok__law_mixed (T : Tx K mg) : Okf P w K mg base 1 "_law_mixed" ["number", "k"] F__law_mixed :=
  T.d__law_mixed.ok sc__law_mixed 1 rfl fun cdv A outer s H E hr tk po =>
    (dss_cons (dst_set 2 sc__law_mixed.nd (de_op mod_ok (de_op add_ok (de_op add_ok (de_op mul_ok (de_name 0) de_int) (de_op mul_ok (de_name 1) de_int)) de_int) de_int))
    (dss_one (dst_ret ((de_op mod_ok (de_op add_ok (de_op mul_ok (de_name 2) (de_op add_ok (de_op fdiv_ok (de_name 2) de_int) de_int)) (de_name 1)) de_int)).rv)))
theorem ok__law_numbers (T : Tx K mg) : Okf P w K mg base 2 "_law_numbers" ["script"] F__law_numbers :=
  T.d__law_numbers.ok sc__law_numbers 4 rfl fun cdv A outer s H E hr tk po =>
    (dss_cons (dst_new 1 sc__law_numbers.nd (do_lst da_nil))
    (dss_cons (dst_for po (di_any (de_name 0)) (dg_name 2 sc__law_numbers.nd) (dss_one (dst_if (dt_cmp ge_ok (de_name 2) (de_op pow_ok de_int de_int)) (dss_cons (dst_set 3 sc__law_numbers.nd (de_name 2))
        (dss_one (dst_for po (di_rng de_int T.z_range) (dg_name 4 sc__law_numbers.nd) (dss_one (dst_if (dt_cmp gt_ok (de_name 3) de_int) (dss_cons (dst_exp (de_mt PySem.F.slot_list_append PySem.F.type_list_append app_ok (de_name 1) (da_cons (de_op mod_ok (de_name 3) de_int) da_nil)))
            (dss_one (dst_set 3 sc__law_numbers.nd (de_op fdiv_ok (de_name 3) de_int)))) dss_nil))))) (dss_cons (dst_exp (de_mt PySem.F.slot_list_append PySem.F.type_list_append app_ok (de_name 1) (da_cons (de_op mod_ok (de_name 2) de_int) da_nil)))
        (dss_one (dst_for po (di_rng de_int T.z_range) (dg_name 4 sc__law_numbers.nd) (dss_one (dst_exp (de_mt PySem.F.slot_list_append PySem.F.type_list_append app_ok (de_name 1) (da_cons (de_op mod_ok ((do_f (ok__law_mixed T) (hr.mono (by decide)) tk (da_cons ((do_f (ok__law_mixed T) (hr.mono (by decide)) tk (da_cons (de_op mod_ok (de_name 2) de_int) (da_cons (de_name 4) da_nil)) (alenS (alenS alen0)))).frz (da_cons (de_op add_ok (de_name 4) de_int) da_nil)) (alenS (alenS alen0)))).frz de_int) da_nil))))))))))
    (dss_one (dst_ret ((de_name 1)).rv))))
theorem ok__law_draw (T : Tx K mg) : Okf P w K mg base 2 "_law_draw" ["draws"] F__law_draw :=
  T.d__law_draw.ok sc__law_draw 2 rfl fun cdv A outer s H E hr tk po =>
    (dss_cons (dst_set 1 sc__law_draw.nd (de_ix (de_name 0) de_int))
    (dss_cons (dst_sub (de_op add_ok (de_name 1) de_int) (de_name 0) de_int)
    (dss_cons (dst_if (dt_cmp lt_ok (de_name 1) (de_callB len_ok T.z_len bt_len (da_cons (de_ix (de_name 0) de_int) da_nil))) (dss_one (dst_ret ((de_ix (de_ix (de_name 0) de_int) (de_name 1))).rv)) dss_nil)
    (dss_cons (dst_set 2 sc__law_draw.nd (de_op add_ok de_int (de_name 1)))
    (dss_cons (dst_if (dt_cmp gt_ok (de_callB len_ok T.z_len bt_len (da_cons (de_ix (de_name 0) de_int) da_nil)) de_int) (dss_one (dst_set 2 sc__law_draw.nd (de_op add_ok (de_name 2) (de_op mul_ok de_int (de_ix (de_ix (de_name 0) de_int) de_int))))) dss_nil)
    (dss_one (dst_ret ((de_op mod_ok ((do_f (ok__law_mixed T) (hr.mono (by decide)) tk (da_cons ((do_f (ok__law_mixed T) (hr.mono (by decide)) tk (da_cons (de_name 2) (da_cons (de_name 1) da_nil)) (alenS (alenS alen0)))).frz (da_cons de_int da_nil)) (alenS (alenS alen0)))).frz de_int)).rv)))))))
theorem st_ok__law_all_equal {k : Nat} (hk : 0 ≤ k) {f__law_all_equal : List S → M Rv} {f__law_equal : List S → M Rv} (T : Tx K mg) (h__law_all_equal : Okf P w K mg base k "_law_all_equal" ["actual", "due"] f__law_all_equal) (h__law_equal : Okf P w K mg base k "_law_equal" ["actual", "due"] f__law_equal) : Okf P w K mg base (k + 1) "_law_all_equal" ["actual", "due"] (runG 1 (B__law_all_equal f__law_all_equal f__law_equal)) :=
  T.d__law_all_equal.ok sc__law_all_equal 1 rfl fun cdv A outer s H E hr tk po =>
    (dss_cons (dst_for po (di_rng (de_callB len_ok T.z_len bt_len (da_cons (de_name 1) da_nil)) T.z_range) (dg_name 2 sc__law_all_equal.nd) (dss_one (dst_if (dt_not (dt_tru ((do_f h__law_equal hr tk (da_cons (de_ix (de_name 0) (de_name 2)) (da_cons (de_ix (de_name 1) (de_name 2)) da_nil)) (alenS (alenS alen0)))).frz)) (dss_one (dst_ret (de_bl).rv)) dss_nil)))
    (dss_one (dst_ret (de_bl).rv)))
theorem st_ok__law_equal {k : Nat} (hk : 0 ≤ k) {f__law_all_equal : List S → M Rv} {f__law_equal : List S → M Rv} (T : Tx K mg) (h__law_all_equal : Okf P w K mg base k "_law_all_equal" ["actual", "due"] f__law_all_equal) (h__law_equal : Okf P w K mg base k "_law_equal" ["actual", "due"] f__law_equal) : Okf P w K mg base (k + 1) "_law_equal" ["actual", "due"] (runG 0 (B__law_equal f__law_all_equal f__law_equal)) :=
  T.d__law_equal.ok sc__law_equal 0 rfl fun cdv A outer s H E hr tk po =>
    (dss_cons (dst_if (dt_tru (de_isa (de_name 1) T.z_isinstance T.z_list (.inr (.inr (.inr (.inl rfl)))) bt_list)) (dss_cons (dst_if (dw_or (dt_not (dt_tru (de_isa (de_name 0) T.z_isinstance T.z_list (.inr (.inr (.inr (.inl rfl)))) bt_list))) (dw_or1 (dt_cmp (ne_ok hr.units) (de_callB len_ok T.z_len bt_len (da_cons (de_name 0) da_nil)) (de_callB len_ok T.z_len bt_len (da_cons (de_name 1) da_nil))))).dt (dss_one (dst_ret (de_bl).rv)) dss_nil)
      (dss_one (dst_ret (do_f h__law_all_equal hr tk (da_cons (de_name 0) (da_cons (de_name 1) da_nil)) (alenS (alenS alen0)))))) dss_nil)
    (dss_cons (dst_if (dt_tru (de_isa (de_name 1) T.z_isinstance T.z_tuple (.inr (.inr (.inr (.inr (.inl rfl))))) bt_tuple)) (dss_cons (dst_if (dw_or (dt_not (dt_tru (de_isa (de_name 0) T.z_isinstance T.z_tuple (.inr (.inr (.inr (.inr (.inl rfl))))) bt_tuple))) (dw_or1 (dt_cmp (ne_ok hr.units) (de_callB len_ok T.z_len bt_len (da_cons (de_name 0) da_nil)) (de_callB len_ok T.z_len bt_len (da_cons (de_name 1) da_nil))))).dt (dss_one (dst_ret (de_bl).rv)) dss_nil)
      (dss_one (dst_ret (do_f h__law_all_equal hr tk (da_cons (de_name 0) (da_cons (de_name 1) da_nil)) (alenS (alenS alen0)))))) dss_nil)
    (dss_cons (dst_if (dt_tru (de_isa (de_name 1) T.z_isinstance T.z_bool (.inr (.inl rfl)) bt_bool)) (dss_one (dst_ret ((de_and (de_isa (de_name 0) T.z_isinstance T.z_bool (.inr (.inl rfl)) bt_bool) (de_one (de_cmp (eq_ok hr.units) (de_name 0) (de_name 1))))).rv)) dss_nil)
    (dss_cons (dst_if (dt_tru (de_isa (de_name 1) T.z_isinstance T.z_int (.inl rfl) bt_int)) (dss_one (dst_ret ((de_and (de_isa (de_name 0) T.z_isinstance T.z_int (.inl rfl) bt_int) (de_and (de_not (de_isa (de_name 0) T.z_isinstance T.z_bool (.inr (.inl rfl)) bt_bool)) (de_one (de_cmp (eq_ok hr.units) (de_name 0) (de_name 1)))))).rv)) dss_nil)
    (dss_cons (dst_if (dt_tru (de_isa (de_name 1) T.z_isinstance T.z_str (.inr (.inr (.inl rfl))) bt_str)) (dss_one (dst_ret ((de_and (de_isa (de_name 0) T.z_isinstance T.z_str (.inr (.inr (.inl rfl))) bt_str) (de_one (de_cmp (eq_ok hr.units) (de_name 0) (de_name 1))))).rv)) dss_nil)
    (dss_one (dst_ret ((de_isn (de_name 0))).rv)))))))
theorem oks__law_all_equal__law_equal (T : Tx K mg) : ∀ n, Okf P w K mg base (0 + n) "_law_all_equal" ["actual", "due"] (F__law_all_equal n) ∧ Okf P w K mg base (0 + n) "_law_equal" ["actual", "due"] (F__law_equal n)
  | 0 => ⟨T.d__law_all_equal.ok0, T.d__law_equal.ok0⟩
  | n + 1 => have ih := oks__law_all_equal__law_equal T n; ⟨st_ok__law_all_equal (Nat.le_add_right _ _) T ih.1 ih.2, st_ok__law_equal (Nat.le_add_right _ _) T ih.1 ih.2⟩
theorem ok__law_all_equal (T : Tx K mg) (n : Nat) : Okf P w K mg base (0 + n) "_law_all_equal" ["actual", "due"] (F__law_all_equal n) := (oks__law_all_equal__law_equal T n).1
theorem ok__law_equal (T : Tx K mg) (n : Nat) : Okf P w K mg base (0 + n) "_law_equal" ["actual", "due"] (F__law_equal n) := (oks__law_all_equal__law_equal T n).2
theorem st_ok__law_holds {k : Nat} (hk : 0 ≤ k) {f__law_holds : List S → M Rv} (T : Tx K mg) (h__law_holds : Okf P w K mg base k "_law_holds" ["condition", "loss"] f__law_holds) : Okf P w K mg base (k + 1) "_law_holds" ["condition", "loss"] (runG 3 (B__law_holds f__law_holds)) :=
  T.d__law_holds.ok sc__law_holds 3 rfl fun cdv A outer s H E hr tk po =>
    (dss_cons (dst_set 2 sc__law_holds.nd (de_ix (de_name 0) de_int))
    (dss_cons (dst_if (dt_cmp (eq_ok hr.units) (de_name 2) de_str) (dss_one (dst_ret (de_bl).rv)) dss_nil)
    (dss_cons (dst_if (dt_cmp (eq_ok hr.units) (de_name 2) de_str) (dss_one (dst_ret ((de_cmp (in_ok (hu65 hr)) (de_ix (de_name 1) de_int) (de_sl (de_name 0) (dpo_some de_int) dpo_none))).rv)) dss_nil)
    (dss_cons (dst_if (dt_cmp (eq_ok hr.units) (de_name 2) de_str) (dss_one (dst_ret ((de_cmp (in_ok (hu65 hr)) (de_ix (de_name 1) de_int) (de_sl (de_name 0) (dpo_some de_int) dpo_none))).rv)) dss_nil)
    (dss_cons (dst_if (dt_cmp (eq_ok hr.units) (de_name 2) de_str) (dss_one (dst_ret ((de_cmp (in_ok (hu65 hr)) (de_ix (de_name 1) de_int) (de_sl (de_name 0) (dpo_some de_int) dpo_none))).rv)) dss_nil)
    (dss_cons (dst_if (dt_cmp (eq_ok hr.units) (de_name 2) de_str) (dss_one (dst_ret ((de_chn le_ok le_ok (de_ix (de_name 0) de_int) (de_ix (de_name 1) de_int) (de_ix (de_name 0) de_int))).rv)) dss_nil)
    (dss_cons (dst_if (dt_cmp (eq_ok hr.units) (de_name 2) de_str) (dss_one (dst_ret ((de_cmp le_ok (de_op sub_ok (de_ix (de_name 1) de_int) (de_ix (de_name 1) de_int)) (de_ix (de_name 0) de_int))).rv)) dss_nil)
    (dss_cons (dst_if (dt_cmp (eq_ok hr.units) (de_name 2) de_str) (dss_one (dst_ret ((de_cmp (in_ok (hu65 hr)) (de_ix (de_name 0) de_int) (de_ix (de_name 1) de_int))).rv)) dss_nil)
    (dss_cons (dst_if (dt_cmp (eq_ok hr.units) (de_name 2) de_str) (dss_one (dst_ret ((de_not ((do_f h__law_holds hr tk (da_cons (de_ix (de_name 0) de_int) (da_cons (de_name 1) da_nil)) (alenS (alenS alen0)))).frz)).rv)) dss_nil)
    (dss_cons (dst_setLc 3 [("one", 4)] sc__law_holds.nd (di_any (de_sl (de_name 0) (dpo_some de_int) dpo_none)) (fun _ _ _ _ _ => (dgb_name 4 sc__law_holds.nd)) (fun _ _ _ _ _ => dts_nil) (fun _ _ _ _ _ => ((do_f h__law_holds hr takesWf (da_cons (de_name 4) (da_cons (de_name 1) da_nil)) (alenS (alenS alen0)))).frz))
    (dss_one (dst_ret ((de_if (dt_cmp (eq_ok hr.units) (de_name 2) de_str) (de_cmp (in_ok (hu65 hr)) (de_cmp (eq_ok hr.units) (de_name 2) de_str) (de_name 3)) (de_cmp (nin_ok (hu65 hr)) de_bl (de_name 3)))).rv))))))))))))
theorem ok__law_holds (T : Tx K mg) : ∀ n, Okf P w K mg base (0 + n) "_law_holds" ["condition", "loss"] (F__law_holds n)
  | 0 => T.d__law_holds.ok0
  | n + 1 => st_ok__law_holds (Nat.le_add_right _ _) T (ok__law_holds T n)
theorem st_ok__law_any_condition {k : Nat} (hk : 2 ≤ k) {f__law_any_condition : List S → M Rv} (T : Tx K mg) (h__law_any_condition : Okf P w K mg base k "_law_any_condition" ["draws", "depth"] f__law_any_condition) : Okf P w K mg base (k + 1) "_law_any_condition" ["draws", "depth"] (runG 6 (B__law_any_condition f__law_any_condition)) :=
  T.d__law_any_condition.ok sc__law_any_condition 6 rfl fun cdv A outer s H E hr tk po =>
    (dss_cons (dst_set 2 sc__law_any_condition.nd ((do_lst (da_cons de_str (da_cons de_str (da_cons de_str (da_cons de_str (da_cons de_str (da_cons de_str (da_cons de_str (da_cons de_str (da_cons de_str (da_cons de_str da_nil)))))))))))).frz)
    (dss_cons (dst_set 3 sc__law_any_condition.nd (de_op mod_ok ((do_fC (ok__law_draw T) (hr.mono (by omega)) tk (da_cons (de_name 0) da_nil) (alenS alen0))).frz de_int))
    (dss_cons (dst_if (dw_and (dt_cmp gt_ok (de_name 3) de_int) (dw_and1 (dt_cmp gt_ok (de_name 1) de_int))).dt (dss_cons (dst_set 4 sc__law_any_condition.nd (de_callT tuple_ok T.z_tuple bt_tuple (da_cons ((do_lc [("k", 7)] sc__law_any_condition.nd (di_rng (de_op add_ok de_int (de_op mod_ok ((do_fC (ok__law_draw T) (hr.mono (by omega)) tk (da_cons (de_name 0) da_nil) (alenS alen0))).frz de_int)) T.z_range) (fun _ _ _ _ _ => (dgb_name 7 sc__law_any_condition.nd)) (fun _ _ _ _ _ => dts_nil) (fun _ _ _ _ _ => ((do_fC h__law_any_condition hr takesWf (da_cons (de_name 0) (da_cons (de_op sub_ok (de_name 1) de_int) da_nil)) (alenS (alenS alen0)))).frz))).frz da_nil)))
      (dss_one (dst_ret ((de_ix ((do_lst (da_cons (de_tup (da_cons de_str (da_cons (de_ix (de_name 4) de_int) da_nil))) (da_cons (de_op add_ok (de_tup (da_cons de_str da_nil)) (de_name 4)) (da_cons (de_op add_ok (de_tup (da_cons de_str da_nil)) (de_name 4)) da_nil))))).frz (de_op sub_ok (de_name 3) de_int))).rv))) dss_nil)
    (dss_cons (dst_set 5 sc__law_any_condition.nd (de_callT tuple_ok T.z_tuple bt_tuple (da_cons ((do_lc [("k", 7)] sc__law_any_condition.nd (di_rng (de_op add_ok de_int (de_op mod_ok ((do_fC (ok__law_draw T) (hr.mono (by omega)) tk (da_cons (de_name 0) da_nil) (alenS alen0))).frz de_int)) T.z_range) (fun _ _ _ _ _ => (dgb_name 7 sc__law_any_condition.nd)) (fun _ _ _ _ _ => dts_nil) (fun _ _ _ _ _ => (de_ix (de_name 2) (de_op mod_ok ((do_fC (ok__law_draw T) (hr.mono (by omega)) takesWf (da_cons (de_name 0) da_nil) (alenS alen0))).frz de_int))))).frz da_nil)))
    (dss_cons (dst_if (dt_cmp lt_ok (de_name 3) de_int) (dss_one (dst_ret ((de_op add_ok (de_tup (da_cons (de_ix ((do_lst (da_cons de_str (da_cons de_str (da_cons de_str (da_cons de_str da_nil)))))).frz (de_name 3)) da_nil)) (de_sl (de_name 5) dpo_none (dpo_some (de_op mul_ok de_int (de_callT int_ok T.z_int bt_int (da_cons (de_cmp gt_ok (de_name 3) de_int) da_nil))))))).rv)) dss_nil)
    (dss_cons (dst_if (dw_or (dt_cmp (eq_ok hr.units) (de_name 3) de_int) (dw_or1 (dt_cmp gt_ok (de_name 3) de_int))).dt (dss_cons (dst_set 6 sc__law_any_condition.nd (de_ix ((do_lst (da_cons de_int (da_cons de_int (da_cons de_int (da_cons de_int da_nil)))))).frz (de_op mod_ok ((do_fC (ok__law_draw T) (hr.mono (by omega)) tk (da_cons (de_name 0) da_nil) (alenS alen0))).frz de_int)))
      (dss_one (dst_ret ((de_tup (da_cons de_str (da_cons (de_name 6) (da_cons (de_callB (min_ok rfl) T.z_min bt_min (da_cons de_int (da_cons (de_op add_ok (de_name 6) (de_ix ((do_lst (da_cons de_int (da_cons de_int (da_cons de_int (da_cons de_int da_nil)))))).frz (de_op mod_ok ((do_fC (ok__law_draw T) (hr.mono (by omega)) tk (da_cons (de_name 0) da_nil) (alenS alen0))).frz de_int))) da_nil))) da_nil))))).rv))) dss_nil)
    (dss_cons (dst_if (dt_cmp (eq_ok hr.units) (de_name 3) de_int) (dss_one (dst_ret ((de_tup (da_cons de_str (da_cons (de_ix ((do_lst (da_cons de_int (da_cons de_int (da_cons de_int (da_cons de_int (da_cons de_int da_nil))))))).frz (de_op mod_ok ((do_fC (ok__law_draw T) (hr.mono (by omega)) tk (da_cons (de_name 0) da_nil) (alenS alen0))).frz de_int)) da_nil)))).rv)) dss_nil)
    (dss_one (dst_ret ((de_tup (da_cons de_str (da_cons (de_ix (de_name 5) de_int) da_nil)))).rv)))))))))
theorem ok__law_any_condition (T : Tx K mg) : ∀ n, Okf P w K mg base (2 + n) "_law_any_condition" ["draws", "depth"] (F__law_any_condition n)
  | 0 => T.d__law_any_condition.ok0
  | n + 1 => st_ok__law_any_condition (Nat.le_add_right _ _) T (ok__law_any_condition T n)
theorem ok__law_any_loss (T : Tx K mg) : Okf P w K mg base 3 "_law_any_loss" ["draws"] F__law_any_loss :=
  T.d__law_any_loss.ok sc__law_any_loss 6 rfl fun cdv A outer s H E hr tk po =>
    (dss_cons (dst_set 1 sc__law_any_loss.nd ((do_lst (da_cons de_str (da_cons de_str (da_cons de_str (da_cons de_str (da_cons de_str (da_cons de_str (da_cons de_str (da_cons de_str (da_cons de_str (da_cons de_str da_nil)))))))))))).frz)
    (dss_cons (dst_set 2 sc__law_any_loss.nd (de_ix ((do_lst (da_cons de_int (da_cons de_int (da_cons de_int (da_cons de_int (da_cons de_int (da_cons de_int (da_cons de_int (da_cons de_int (da_cons de_int (da_cons de_int (da_cons de_int da_nil))))))))))))).frz (de_op mod_ok ((do_fC (ok__law_draw T) (hr.mono (by decide)) tk (da_cons (de_name 0) da_nil) (alenS alen0))).frz de_int)))
    (dss_cons (dst_set 3 sc__law_any_loss.nd (de_callB (min_ok rfl) T.z_min bt_min (da_cons de_int (da_cons (de_op add_ok (de_name 2) (de_ix ((do_lst (da_cons de_int (da_cons de_int (da_cons de_int (da_cons de_int (da_cons de_int (da_cons de_int (da_cons de_int (da_cons de_int (da_cons de_int da_nil))))))))))).frz (de_op mod_ok ((do_fC (ok__law_draw T) (hr.mono (by decide)) tk (da_cons (de_name 0) da_nil) (alenS alen0))).frz de_int))) da_nil))))
    (dss_cons (dst_set 4 sc__law_any_loss.nd (de_callT tuple_ok T.z_tuple bt_tuple (da_cons (de_sortedSet T.z_sorted T.z_set ((do_lc [("k", 6)] sc__law_any_loss.nd (di_rng (de_op mod_ok ((do_fC (ok__law_draw T) (hr.mono (by decide)) tk (da_cons (de_name 0) da_nil) (alenS alen0))).frz de_int) T.z_range) (fun _ _ _ _ _ => (dgb_name 6 sc__law_any_loss.nd)) (fun _ _ _ _ _ => dts_nil) (fun _ _ _ _ _ => (de_ix (de_name 1) (de_op mod_ok ((do_fC (ok__law_draw T) (hr.mono (by decide)) takesWf (da_cons (de_name 0) da_nil) (alenS alen0))).frz de_int))))).frz) da_nil)))
    (dss_cons (dst_setLc 5 [("k", 6)] sc__law_any_loss.nd (di_rng de_int T.z_range) (fun _ _ _ _ _ => (dgb_name 6 sc__law_any_loss.nd)) (fun _ _ _ _ _ => dts_nil) (fun _ _ _ _ _ => (de_ix (de_name 1) (de_op mod_ok ((do_fC (ok__law_draw T) (hr.mono (by decide)) takesWf (da_cons (de_name 0) da_nil) (alenS alen0))).frz de_int))))
    (dss_one (dst_ret ((de_tup (da_cons (de_ix (de_name 5) de_int) (da_cons (de_name 2) (da_cons (de_name 3) (da_cons (de_ix (de_name 5) de_int) (da_cons (de_ix (de_name 5) de_int) (da_cons (de_op add_ok de_int ((do_fC (ok__law_draw T) (hr.mono (by decide)) tk (da_cons (de_name 0) da_nil) (alenS alen0))).frz) (da_cons (de_name 4) da_nil))))))))).rv)))))))
theorem law_fn {fd : FuncData} (T : Tx K mg) (Fd : FunD K "law" "law" (defArgs st_law) (defBody st_law) (defScope st_law) [] [] (He.ga K "law") fd) : FnG P w K mg base 15 (He.ga K "law") fd ["script"] (spE mg 1 (F_law K)) :=
  def_okG Fd sc_law 6 rfl fun cdv A outer s H E hg hr tk po =>
    (dss_cons (dst_new 1 sc_law.nd (do_lst (da_cons ((do_f (ok__law_numbers T) (hr.mono (by decide)) tk (da_cons (de_name 0) da_nil) (alenS alen0))).frz (da_cons de_int da_nil))))
    (dss_cons (dst_for po (di_rng de_int T.z_range) (dg_name 2 sc_law.nd) (dss_cons (dst_set 3 sc_law.nd ((do_fC (ok__law_any_condition T 12) (hr.mono (by decide)) tk (da_cons (de_name 1) (da_cons (de_op mod_ok (de_name 2) de_int) da_nil)) (alenS (alenS alen0)))).frz)
      (dss_one (dst_for po (di_rng de_int T.z_range) (dg_name 4 sc_law.nd) (dss_cons (dst_set 5 sc_law.nd ((do_fC (ok__law_any_loss T) (hr.mono (by decide)) tk (da_cons (de_name 1) da_nil) (alenS alen0))).frz)
        (dss_cons (dst_set 6 sc_law.nd (de_callT (strL_ok hg (hu200 hr)) T.z_str bt_str (da_cons ((do_lst (da_cons (de_name 3) (da_cons (de_name 5) da_nil)))).frz da_nil)))
        (dss_one (dst_if (dw_or (dt_not (dt_tru ((do_f (ok__law_equal T 12) (hr.mono (by decide)) tk (da_cons ((do_f (ok_holds T) (hr.mono (by decide)) tk (da_cons (de_name 3) (da_cons (de_name 5) da_nil)) (alenS (alenS alen0)))).frz (da_cons ((do_f (ok__law_holds T 12) (hr.mono (by decide)) tk (da_cons (de_name 3) (da_cons (de_name 5) da_nil)) (alenS (alenS alen0)))).frz da_nil)) (alenS (alenS alen0)))).frz)) (dw_or1 (dt_cmp (ne_ok hr.units) (de_callT (strL_ok hg (hu200 hr)) T.z_str bt_str (da_cons ((do_lst (da_cons (de_name 3) (da_cons (de_name 5) da_nil)))).frz da_nil)) (de_name 6)))).dt (dss_one (dst_ret (de_bl).rv)) dss_nil))))))))
    (dss_one (dst_ret (de_bl).rv))))
end
end Law

set_option Elab.async false
set_option linter.all false
set_option maxRecDepth 100000
set_option maxHeartbeats 4000000
namespace Law
open PySem L2 Dn
def fan : List He.Fa := [.glo "is_number", .glo "is_name", .glo "is_day", .glo "is_money", .glo "is_tuple", .glo "are_names", .glo "conditions_in", .glo "is_condition", .glo "are_few", .glo "is_so", .glo "is_plain_loss", .glo "holds", .glo "_law_mixed", .glo "_law_numbers", .glo "_law_draw", .glo "_law_equal", .glo "_law_all_equal", .glo "_law_holds", .glo "_law_any_condition", .glo "_law_any_loss", .glo "law", .free "bool", .free "int", .free "isinstance", .free "len", .free "list", .free "min", .free "range", .free "set", .free "sorted", .free "str", .free "tuple", .str "LETTERS" "abcdefghijklmnopqrstuvwxyz", .str "FIGURES" "0123456789", .int "MONEY" (1000000000000), .int "LAST" (36500), .glo "WhatbefellError", .exc "WhatbefellError", .glo "BadWords", .exc "BadWords"]
def fbn (_ : PySem.W.Frag) : Bool := true
def fnn : List He.DefD := [dfd "is_number" st_is_number, dfd "is_name" st_is_name, dfd "is_day" st_is_day, dfd "is_money" st_is_money, dfd "is_tuple" st_is_tuple, dfd "are_names" st_are_names, dfd "conditions_in" st_conditions_in, dfd "is_condition" st_is_condition, dfd "are_few" st_are_few, dfd "is_so" st_is_so, dfd "is_plain_loss" st_is_plain_loss, dfd "holds" st_holds, dfd "_law_mixed" st__law_mixed, dfd "_law_numbers" st__law_numbers, dfd "_law_draw" st__law_draw, dfd "_law_equal" st__law_equal, dfd "_law_all_equal" st__law_all_equal, dfd "_law_holds" st__law_holds, dfd "_law_any_condition" st__law_any_condition, dfd "_law_any_loss" st__law_any_loss, dfd "law" st_law]
abbrev R : PySem.W.OpenRow := PySem.W.OpenLaw.row PySem.Challenge.rw_whatbefell_k07_conditions_hold
def loo0 : List PySem.Str := ["WhatbefellError", "BadWords", "LETTERS", "FIGURES", "MONEY", "LAST", "is_number", "is_name", "is_day", "is_money", "is_tuple", "are_names", "conditions_in", "is_condition", "are_few", "is_so", "is_plain_loss", "holds", "_law_mixed", "_law_numbers"]
def loo1 : List PySem.Str := ["_law_draw", "_law_equal", "_law_all_equal", "_law_holds", "_law_any_condition", "_law_any_loss"]
def loo : List PySem.Str := loo0 ++ loo1
theorem run (w : World) : HandSHeadRun.RunEq R (PySem.W.view R.prog [30]) (hookL 5 fan fnn fbn) (obL 5 fan fnn fbn) 6000 loo w := by
  intro os
  kernel_rfl
theorem tx_of {K : PySem.W.Frag} {mg : PySem.Str → Option Value} {h : Heap} (X : K.In h) (G : h.Ns mainGlobals mg) (c : He.SaysD fan fnn K) (cb : fbn K = true) : Tx K mg where
  z_bool := He.free_ok X G (c.fact 21 rfl)
  z_int := He.free_ok X G (c.fact 22 rfl)
  z_isinstance := He.free_ok X G (c.fact 23 rfl)
  z_len := He.free_ok X G (c.fact 24 rfl)
  z_list := He.free_ok X G (c.fact 25 rfl)
  z_min := He.free_ok X G (c.fact 26 rfl)
  z_range := He.free_ok X G (c.fact 27 rfl)
  z_set := He.free_ok X G (c.fact 28 rfl)
  z_sorted := He.free_ok X G (c.fact 29 rfl)
  z_str := He.free_ok X G (c.fact 30 rfl)
  z_tuple := He.free_ok X G (c.fact 31 rfl)
  m_LETTERS := He.str_ok X G (c.fact 32 rfl)
  m_FIGURES := He.str_ok X G (c.fact 33 rfl)
  m_MONEY := He.int_ok X G (c.fact 34 rfl)
  m_LAST := He.int_ok X G (c.fact 35 rfl)
  x_WhatbefellError := exf_of X G c 36 37 rfl rfl
  x_BadWords := exf_of X G c 38 39 rfl rfl
  d_is_number := dfn_of X G c 0 0 rfl rfl fun _ _ _ _ _ _ us hl => match us, hl with | [_, _, _], _ => rfl
  d_is_name := dfn_of X G c 1 1 rfl rfl fun _ _ _ _ _ _ us hl => match us, hl with | [_], _ => rfl
  d_is_day := dfn_of X G c 2 2 rfl rfl fun _ _ _ _ _ _ us hl => match us, hl with | [_], _ => rfl
  d_is_money := dfn_of X G c 3 3 rfl rfl fun _ _ _ _ _ _ us hl => match us, hl with | [_], _ => rfl
  d_is_tuple := dfn_of X G c 4 4 rfl rfl fun _ _ _ _ _ _ us hl => match us, hl with | [_, _, _], _ => rfl
  d_are_names := dfn_of X G c 5 5 rfl rfl fun _ _ _ _ _ _ us hl => match us, hl with | [_], _ => rfl
  d_conditions_in := dfn_of X G c 6 6 rfl rfl fun _ _ _ _ _ _ us hl => match us, hl with | [_], _ => rfl
  d_is_condition := dfn_of X G c 7 7 rfl rfl fun _ _ _ _ _ _ us hl => match us, hl with | [_], _ => rfl
  d_are_few := dfn_of X G c 8 8 rfl rfl fun _ _ _ _ _ _ us hl => match us, hl with | [_, _], _ => rfl
  d_is_so := dfn_of X G c 9 9 rfl rfl fun _ _ _ _ _ _ us hl => match us, hl with | [_, _], _ => rfl
  d_is_plain_loss := dfn_of X G c 10 10 rfl rfl fun _ _ _ _ _ _ us hl => match us, hl with | [_], _ => rfl
  d_holds := dfn_of X G c 11 11 rfl rfl fun _ _ _ _ _ _ us hl => match us, hl with | [_, _], _ => rfl
  d__law_mixed := dfn_of X G c 12 12 rfl rfl fun _ _ _ _ _ _ us hl => match us, hl with | [_, _], _ => rfl
  d__law_numbers := dfn_of X G c 13 13 rfl rfl fun _ _ _ _ _ _ us hl => match us, hl with | [_], _ => rfl
  d__law_draw := dfn_of X G c 14 14 rfl rfl fun _ _ _ _ _ _ us hl => match us, hl with | [_], _ => rfl
  d__law_equal := dfn_of X G c 15 15 rfl rfl fun _ _ _ _ _ _ us hl => match us, hl with | [_, _], _ => rfl
  d__law_all_equal := dfn_of X G c 16 16 rfl rfl fun _ _ _ _ _ _ us hl => match us, hl with | [_, _], _ => rfl
  d__law_holds := dfn_of X G c 17 17 rfl rfl fun _ _ _ _ _ _ us hl => match us, hl with | [_, _], _ => rfl
  d__law_any_condition := dfn_of X G c 18 18 rfl rfl fun _ _ _ _ _ _ us hl => match us, hl with | [_, _], _ => rfl
  d__law_any_loss := dfn_of X G c 19 19 rfl rfl fun _ _ _ _ _ _ us hl => match us, hl with | [_], _ => rfl
  d_law := dfn_of X G c 20 20 rfl rfl fun _ _ _ _ _ _ us hl => match us, hl with | [_], _ => rfl
end Law
open PySem PySem.W PySem.Calls PyProof.Rows
set_option maxHeartbeats 0 in
theorem PySem.Challenge.cw_whatbefell_k07_conditions_hold_holds : PySem.Challenge.rw_whatbefell_k07_conditions_hold.Holds := by
  w_on; o_law
  refine HandSHeadRun.head_any (r := OpenLaw.row PySem.Challenge.rw_whatbefell_k07_conditions_hold) (q := view (OpenLaw.row PySem.Challenge.rw_whatbefell_k07_conditions_hold).prog [30]) (H := Dn.hookL 5 Law.fan Law.fnn Law.fbn) (ob := Dn.obL 5 Law.fan Law.fnn Law.fbn) (M := 6000) (loose := Law.loo) (d := HandSHeadRun.topDef (OpenLaw.row PySem.Challenge.rw_whatbefell_k07_conditions_hold).prog 30) (kwd := []) (Dn.obL_eq 5 Law.fan Law.fnn Law.fbn)
    (by kernel_rfl) (fun s => by kernel_rfl) Law.run (by kernel_rfl) (by kernel_rfl) (by kernel_rfl) (by rfl) (by first | assumption | decide +kernel) (by decide +kernel) ⟨rfl, rfl, rfl, rfl, rfl, by decide +kernel⟩ ?hw ?hc
  case hw => w_witness2
  case hc =>
    refine Dn.law_endG (l := PySem.Challenge.rw_whatbefell_k07_conditions_hold) (n := 63) (k := 15) (x := "script") (F := fun K => Law.F_law K) rfl (by decide) (by kernel_rfl) ⟨rfl, by decide, by decide⟩ ?_ (fun K ns h => Law.law_true K ns h)
    intro w mg h K X c cb G
    have T : Law.Tx K mg := Law.tx_of X G c cb
    have e : (HandSHeadRun.topDef (OpenLaw.row PySem.Challenge.rw_whatbefell_k07_conditions_hold).prog 30).name = ("law" : PySem.Str) := by kernel_rfl
    rw [e]
    obtain ⟨fd, F⟩ := c.def_ 20 (d := Dn.dfd "law" Law.st_law) rfl
    have b := L2.FunD.bindsA (ps := ["script"]) F fun _ _ _ _ _ _ us hl => match us, hl with | [_], _ => rfl
    refine ⟨fd, T.d_law.g, fun s v => b s [v] rfl, fun base _ _ => ?_⟩
    exact Law.law_fn T F
