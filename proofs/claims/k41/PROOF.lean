import PyProof.Rows.All
import Wide.All
import OpenK.AllK
import Wide.FinOn
import HandS.ForMost
import HandS.ForExc
import HandS.IsInst
import HandS.Flow
import HandS.Wide
import HandS.Evl
import HandS.TupAny
import HandS.Deep
import HandS.CallLocal
import HandS.Rev
import HandS.Defaults
import HandS.Exc
import HandS.ExcOwn
import HandS.TryOnly
import HandS.WordsExc
import KE.KStateDown
import HandS.Head0
import HandS.Head1
import HandS.Head2
import HandS.HeadEnd
import HandS.HeadHook1
import HandS.HeadHook2
import HandS.HeadHook4
import HandS.Comp
import HandS.SetKeys
import HandS.Set
import HandS.SetFor
import PyProof.Rows.SortShellAny
import HandS.TupSets
import HandS.Iter
import HandS.ExcIs
import HandS.RaiseMore
import HandS.TupMul
import HandS.List
import PyProof.ReprRoads
import PyProof.ReprBulk
import HandS.Dict
import HandS.More
import HandS.Style
import PySem.Challenge.RW_whatbefell_k41_treaties_are_checked
set_option Elab.async false
set_option linter.all false
set_option maxRecDepth 100000
set_option maxHeartbeats 1000000
/-! Dn1: a def's body as a shallow Lean function over data and a small store: the relation, the judgements. -/
namespace Dn
open PySem L2

abbrev D := PyData
abbrev Ex (H H' : Hp) : Prop := ∀ a o, H a = some o → H' a = some o

/-- a slot: nothing, data, a cell of the store, a def -/
inductive S where
  | no
  | d (x : D)
  | cel (j : Nat)
  | fn (a : Addr)
/-- what a cell holds -/
inductive OC where
  | lst (xs : List D)
  | dK (kvs : List (Key × D))
/-- a result: data, a new object, a cell -/
inductive Rv where
  | d (x : D)
  | own (o : OC)
  | cel (j : Nat)
abbrev Store := List OC
inductive Res (α : Type) where
  | ok (a : α) (cs : Store)
  | er (c : Str) (cs : Store)
  | no
abbrev M (α : Type) := Store → Res α
section
variable {α β : Type}
def ret (a : α) : M α := fun cs => .ok a cs
def stuck : M α := fun _ => .no
def bnd (m : M α) (k : α → M β) : M β := fun cs => match m cs with
  | .ok a cs' => k a cs'
  | .er c cs' => .er c cs'
  | .no => .no
def ofO : Option α → M α
  | some a => ret a
  | none => stuck
theorem bnd_ok {m : M α} {k : α → M β} {cs cs' : Store} {a : α} (h : m cs = .ok a cs') : bnd m k cs = k a cs' := by
  unfold bnd; rw [h]
theorem bnd_ret {a : α} {k : α → M β} : bnd (ret a) k = k a := rfl
end

/-! ### data in the heap -/
mutual
inductive Dd (H : Hp) : V → D → Prop
  | non : Dd H .non .none
  | bl (b : Bool) : Dd H (.bl b) (.bool b)
  | int (i : Int) : Dd H (.int i) (.int i)
  | str (x : Str) : Dd H (.str x) (.str x)
  | lst {a : Addr} {xs : List V} {ds : List D} : Rd H a (.lst xs) → Dds H xs ds → Dd H (.ref a) (.list ds)
  | tup {a : Addr} {xs : List V} {ds : List D} : Rd H a (.tup xs) → Dds H xs ds → Dd H (.ref a) (.tuple ds)
inductive Dds (H : Hp) : List V → List D → Prop
  | nil : Dds H [] []
  | cons {v : V} {vs : List V} {d : D} {ds : List D} : Dd H v d → Dds H vs ds → Dds H (v :: vs) (d :: ds)
end
theorem rd_ex {H H' : Hp} (e : Ex H H') {a : Addr} {u : HO} (h : Rd H a u) : Rd H' a u := by
  rcases h with h | ⟨o, h⟩
  · exact .inl (e a _ h)
  · exact .inr ⟨o, e a _ h⟩
mutual
theorem dp_ex {H H' : Hp} (e : Ex H H') : ∀ {v : V} {d : D}, Dd H v d → Dd H' v d
  | _, _, .non => .non
  | _, _, .bl b => .bl b
  | _, _, .int i => .int i
  | _, _, .str x => .str x
  | _, _, .lst h a => .lst (rd_ex e h) (dps_ex e a)
  | _, _, .tup h a => .tup (rd_ex e h) (dps_ex e a)
theorem dps_ex {H H' : Hp} (e : Ex H H') : ∀ {vs : List V} {ds : List D}, Dds H vs ds → Dds H' vs ds
  | _, _, .nil => .nil
  | _, _, .cons h t => .cons (dp_ex e h) (dps_ex e t)
end
mutual
theorem dd_dp (K : PySem.W.Frag) {H : Hp} : ∀ {v : V} {d : D}, Dd H v d → Dp K H v d
  | _, _, .non => .non
  | _, _, .bl b => .bl b
  | _, _, .int i => .int i
  | _, _, .str x => .str x
  | _, _, .lst h a => .lst (.inl h) (dds_dp K a)
  | _, _, .tup h a => .tup (.inl h) (dds_dp K a)
theorem dds_dp (K : PySem.W.Frag) {H : Hp} : ∀ {vs : List V} {ds : List D}, Dds H vs ds → DpAll K H vs ds
  | _, _, .nil => .nil
  | _, _, .cons h t => .cons (dd_dp K h) (dds_dp K t)
end
section
variable {H H' Hf : Hp} {vs ws : List V} {ds es : List D} {v : V} {d : D}
theorem dps_len : ∀ {vs : List V} {ds : List D}, Dds H vs ds → vs.length = ds.length
  | _, _, .nil => rfl
  | _, _, .cons _ t => by rw [List.length_cons, List.length_cons, dps_len t]
theorem dps_get : ∀ {vs : List V} {ds : List D} {i : Nat} {d : D}, Dds H vs ds → ds[i]? = some d → ∃ v, vs[i]? = some v ∧ Dd H v d
  | _, _, _, _, .nil, e => by simp at e
  | _, _, 0, _, .cons h _, e => by simp at e; subst e; exact ⟨_, rfl, h⟩
  | _, _, i + 1, _, .cons _ t, e => by
    obtain ⟨v, h1, h2⟩ := dps_get (i := i) t (by simpa using e)
    exact ⟨v, by simpa using h1, h2⟩
theorem dps_get' : ∀ {vs : List V} {ds : List D} {i : Nat} {v : V}, Dds H vs ds → vs[i]? = some v → ∃ d, ds[i]? = some d ∧ Dd H v d
  | _, _, _, _, .nil, e => by simp at e
  | _, _, 0, _, .cons h _, e => by simp at e; subst e; exact ⟨_, rfl, h⟩
  | _, _, i + 1, _, .cons _ t, e => by
    obtain ⟨v, h1, h2⟩ := dps_get' (i := i) t (by simpa using e)
    exact ⟨v, by simpa using h1, h2⟩
theorem dps_app : ∀ {vs ws : List V} {ds es : List D}, Dds H vs ds → Dds H ws es → Dds H (vs ++ ws) (ds ++ es)
  | _, _, _, _, .nil, s => s
  | _, _, _, _, .cons h t, s => .cons h (dps_app t s)
theorem dps_take : ∀ (n : Nat) {vs : List V} {ds : List D}, Dds H vs ds → Dds H (vs.take n) (ds.take n)
  | 0, _, _, _ => .nil
  | _ + 1, _, _, .nil => .nil
  | n + 1, _, _, .cons h t => .cons h (dps_take n t)
theorem dps_drop : ∀ (n : Nat) {vs : List V} {ds : List D}, Dds H vs ds → Dds H (vs.drop n) (ds.drop n)
  | 0, _, _, h => h
  | _ + 1, _, _, .nil => .nil
  | n + 1, _, _, .cons _ t => dps_drop n t
theorem dps_set : ∀ {vs : List V} {ds : List D} {v : V} {d : D} (i : Nat), Dds H vs ds → Dd H v d → Dds H (vs.set i v) (ds.set i d)
  | _, _, _, _, _, .nil, _ => .nil
  | _, _, _, _, 0, .cons _ t, h => .cons h t
  | _, _, _, _, i + 1, .cons h' t, h => .cons h' (dps_set i t h)
theorem dps_dropLast (h : Dds H vs ds) : Dds H vs.dropLast ds.dropLast := by
  rw [List.dropLast_eq_take, List.dropLast_eq_take, dps_len h]
  exact dps_take _ h
end

/-- the content of a cell at a -/
def CellOk (Hf H : Hp) (a : Addr) : OC → Prop
  | .lst xs => ∃ vs, H a = some (.lst vs) ∧ Dds Hf vs xs
  | .dK kvs => ∃ ws, H a = some (.dK ws) ∧ Paired (fun (p : Key × V) (q : Key × D) => p.1 = q.1 ∧ Dd Hf p.2 q.2) ws kvs
def SvOk (ca : List Addr) (Hf : Hp) : S → V → Prop
  | .no, _ => False
  | .d x, v => Dd Hf v x
  | .cel j, v => ∃ a, ca[j]? = some a ∧ v = .ref a
  | .fn a, v => v = .ref a
/-- B: what is banned: the callers' things that are not ours -/
def RvOk (B : Hp) (ca : List Addr) (Hf H : Hp) : Rv → V → Prop
  | .d x, v => Dd Hf v x
  | .own o, v => ∃ a, v = .ref a ∧ CellOk Hf H a o ∧ Hf a = none ∧ a ∉ ca ∧ B a = none
  | .cel j, v => ∃ a, ca[j]? = some a ∧ v = .ref a
inductive SvsOk (ca : List Addr) (Hf : Hp) : List S → List V → Prop
  | nil : SvsOk ca Hf [] []
  | cons {s : S} {ss : List S} {v : V} {vs : List V} : SvOk ca Hf s v → SvsOk ca Hf ss vs → SvsOk ca Hf (s :: ss) (v :: vs)

structure Rel (B : Hp) (ca : List Addr) (ρ : List S) (cs : Store) (Hf : Hp) (σ : L2.St) (H : Hp) : Prop where
  ext : Ex Hf H
  len : σ.length = ρ.length
  sl : ∀ (i : Nat) (s : S), ρ[i]? = some s → s = .no ∨ ∃ v, σ[i]? = some (some v) ∧ SvOk ca Hf s v
  cells : ∀ (j : Nat) (o : OC), cs[j]? = some o → ∃ a, ca[j]? = some a ∧ CellOk Hf H a o
  lenc : ca.length = cs.length
  nd : ca.Nodup
  off : ∀ a ∈ ca, Hf a = none
  exb : Ex B H
  dis : ∀ a, B a ≠ none → Hf a = none ∧ a ∉ ca

structure Nx (ca : List Addr) (Hf : Hp) (ca' : List Addr) (Hf' : Hp) : Prop where
  pre : ca <+: ca'
  ex : Ex Hf Hf'
section
variable {B : Hp} {ca ca' ca'' : List Addr} {ρ : List S} {cs cs' : Store} {Hf Hf' Hf'' : Hp} {σ : L2.St} {H H' H'' : Hp} {s : S} {v : V} {r : Rv} {a : Addr} {o : OC}
theorem CellOk.some (h : CellOk Hf H a o) : H a ≠ none := by
  cases o with
  | lst xs => obtain ⟨vs, e, _⟩ := h; rw [e]; simp
  | dK kvs => obtain ⟨vs, e, _⟩ := h; rw [e]; simp
theorem CellOk.at (h : CellOk Hf H a o) (e : H' a = H a) (x : Ex Hf Hf') : CellOk Hf' H' a o := by
  cases o with
  | lst xs => obtain ⟨vs, q, p⟩ := h; exact ⟨vs, e.trans q, dps_ex x p⟩
  | dK kvs => obtain ⟨vs, q, p⟩ := h; exact ⟨vs, e.trans q, Paired.mapP p fun _ _ z => ⟨z.1, dp_ex x z.2⟩⟩
theorem Rel.there (r : Rel B ca ρ cs Hf σ H) (ha : a ∈ ca) : H a ≠ none := by
  obtain ⟨j, hj, e⟩ := List.mem_iff_getElem.mp ha
  have hj' : j < cs.length := by rw [← r.lenc]; exact hj
  obtain ⟨b, h1, h2⟩ := r.cells j cs[j] (by simp [hj'])
  have : b = a := by
    rw [List.getElem?_eq_getElem hj] at h1
    rw [← e]; exact (Option.some.inj h1).symm
  subst this
  exact h2.some
theorem Nx.refl : Nx ca Hf ca Hf := ⟨List.prefix_refl _, fun _ _ h => h⟩
theorem Nx.trans (x : Nx ca Hf ca' Hf') (y : Nx ca' Hf' ca'' Hf'') : Nx ca Hf ca'' Hf'' := ⟨x.pre.trans y.pre, fun a o h => y.ex a o (x.ex a o h)⟩
theorem SvOk.nx (h : SvOk ca Hf s v) (x : Nx ca Hf ca' Hf') : SvOk ca' Hf' s v := by
  cases s with
  | no => exact h
  | d d => exact dp_ex x.ex h
  | fn a => exact h
  | cel j =>
    obtain ⟨a, e, z⟩ := h
    exact ⟨a, by
      obtain ⟨t, rfl⟩ := x.pre
      rw [List.getElem?_append_left (List.getElem?_eq_some_iff.mp e).1]
      exact e, z⟩
theorem SvsOk.nx {ss : List S} {vs : List V} (h : SvsOk ca Hf ss vs) (x : Nx ca Hf ca' Hf') : SvsOk ca' Hf' ss vs := by
  induction h with
  | nil => exact .nil
  | cons h _ ih => exact .cons (h.nx x) ih
theorem SvsOk.len {ss : List S} {vs : List V} (h : SvsOk ca Hf ss vs) : ss.length = vs.length := by
  induction h with
  | nil => rfl
  | cons _ _ ih => simp [ih]
theorem SvsOk.get {ss : List S} {vs : List V} (h : SvsOk ca Hf ss vs) {i : Nat} {s : S} (e : ss[i]? = some s) : ∃ v, vs[i]? = some v ∧ SvOk ca Hf s v := by
  induction h generalizing i with
  | nil => simp at e
  | cons h _ ih =>
    cases i with
    | zero => simp at e; subst e; exact ⟨_, rfl, h⟩
    | succ i =>
      obtain ⟨v, h1, h2⟩ := ih (i := i) (by simpa using e)
      exact ⟨v, by simpa using h1, h2⟩
/-- slots of another kind over the same heap -/
theorem Rel.slots {ρ' : List S} {σ' : L2.St} (r : Rel B ca ρ cs Hf σ H) (hl : σ'.length = ρ'.length) (h : ∀ (i : Nat) (s : S), ρ'[i]? = some s → s = .no ∨ ∃ v, σ'[i]? = some (some v) ∧ SvOk ca Hf s v) : Rel B ca ρ' cs Hf σ' H :=
  ⟨r.ext, hl, h, r.cells, r.lenc, r.nd, r.off, r.exb, r.dis⟩
/-- the slots of an earlier state -/
theorem Rel.back {ρ' : List S} {σ' : L2.St} {cs0 : Store} (r0 : Rel B ca ρ' cs0 Hf σ' H) (x : Nx ca Hf ca' Hf') (r : Rel B ca' ρ cs' Hf' σ H') : Rel B ca' ρ' cs' Hf' σ' H' :=
  r.slots r0.len fun i s e => by
    rcases r0.sl i s e with z | ⟨v, h1, h2⟩
    · exact .inl z
    · exact .inr ⟨v, h1, h2.nx x⟩
theorem Rel.get (r : Rel B ca ρ cs Hf σ H) {i : Nat} {s : S} (e : ρ[i]? = some s) (n : s ≠ .no) : ∃ v, σ[i]? = some (some v) ∧ SvOk ca Hf s v := by
  rcases r.sl i s e with z | z
  · exact absurd z n
  · exact z
theorem Rel.set (r : Rel B ca ρ cs Hf σ H) (i : Nat) (h : SvOk ca Hf s v) : Rel B ca (ρ.set i s) cs Hf (σ.set i (some v)) H :=
  r.slots (by simp [r.len]) fun j t e => by
    by_cases hj : i = j
    · subst hj
      by_cases hi : i < ρ.length
      · rw [List.getElem?_set_self hi] at e
        cases e
        exact .inr ⟨v, List.getElem?_set_self (by rw [r.len]; exact hi), h⟩
      · rw [List.getElem?_eq_none (by simpa using hi)] at e; cases e
    · rw [List.getElem?_set_ne hj] at e
      rcases r.sl j t e with z | ⟨w, h1, h2⟩
      · exact .inl z
      · exact .inr ⟨w, by rw [List.getElem?_set_ne hj]; exact h1, h2⟩
/-- a slot forgotten -/
theorem Rel.lose (r : Rel B ca ρ cs Hf σ H) (i : Nat) (x : Option V) : Rel B ca (ρ.set i .no) cs Hf (σ.set i x) H :=
  r.slots (by simp [r.len]) fun j t e => by
    by_cases hj : i = j
    · subst hj
      by_cases hi : i < ρ.length
      · rw [List.getElem?_set_self hi] at e; cases e; exact .inl rfl
      · rw [List.getElem?_eq_none (by simpa using hi)] at e; cases e
    · rw [List.getElem?_set_ne hj] at e
      rcases r.sl j t e with z | ⟨w, h1, h2⟩
      · exact .inl z
      · exact .inr ⟨w, by rw [List.getElem?_set_ne hj]; exact h1, h2⟩
/-- an object of the heap is frozen -/
theorem Rel.freeze {o : HO} {p : Addr} (r : Rel B ca ρ cs Hf σ H) (hp : H p = some o) (n : Hf p = none) (hc : p ∉ ca) (hb : B p = none) : Rel B ca ρ cs (upd Hf p o) σ H ∧ Ex Hf (upd Hf p o) := by
  have e : Ex Hf (upd Hf p o) := fun a u h => by
    by_cases q : a = p
    · subst q; rw [n] at h; cases h
    · rw [upd_ne q]; exact h
  refine ⟨⟨fun a u h => ?_, r.len, fun i s q => ?_, fun j u q => ?_, r.lenc, r.nd, fun a m => ?_, r.exb, fun a m => ?_⟩, e⟩
  · by_cases q : a = p
    · subst q; rw [upd_same] at h; cases h; exact hp
    · rw [upd_ne q] at h; exact r.ext a u h
  · rcases r.sl i s q with z | ⟨v, h1, h2⟩
    · exact .inl z
    · exact .inr ⟨v, h1, h2.nx ⟨List.prefix_refl _, e⟩⟩
  · obtain ⟨a, h1, h2⟩ := r.cells j u q
    exact ⟨a, h1, h2.at rfl e⟩
  · rw [upd_ne (fun (z : a = p) => hc (z ▸ m))]; exact r.off a m
  · obtain ⟨h1, h2⟩ := r.dis a m
    exact ⟨by rw [upd_ne (fun (z : a = p) => m (z ▸ hb))]; exact h1, h2⟩
theorem Rel.newIn (r : Rel B ca ρ cs Hf σ H) {p : Addr} (hp : H p = none) : Hf p = none ∧ p ∉ ca ∧ B p = none := by
  refine ⟨?_, fun m => r.there m hp, ?_⟩
  · cases q : Hf p with
    | none => rfl
    | some u => rw [r.ext p u q] at hp; cases hp
  · cases q : B p with
    | none => rfl
    | some u => rw [r.exb p u q] at hp; cases hp
/-- the heap grows -/
theorem Rel.grow (r : Rel B ca ρ cs Hf σ H) (e : Ex H H') : Rel B ca ρ cs Hf σ H' :=
  ⟨fun a u h => e a u (r.ext a u h), r.len, r.sl, fun j u q => by
    obtain ⟨a, h1, h2⟩ := r.cells j u q
    refine ⟨a, h1, h2.at ?_ fun _ _ h => h⟩
    cases z : H a with
    | none => exact absurd z h2.some
    | some w => exact e a w z, r.lenc, r.nd, r.off, fun a u h => e a u (r.exb a u h), r.dis⟩
theorem ex_new {o : HO} {p : Addr} (hp : H p = none) : Ex H (upd H p o) := fun a u h => by rw [upd_ne (ne_of_none h hp)]; exact h
/-- a new object, frozen -/
theorem Rel.news {o : HO} {p : Addr} (r : Rel B ca ρ cs Hf σ H) (hp : H p = none) : Rel B ca ρ cs (upd Hf p o) σ (upd H p o) ∧ Nx ca Hf ca (upd Hf p o) := by
  obtain ⟨n1, n2, n3⟩ := r.newIn hp
  obtain ⟨r2, e2⟩ := (r.grow (ex_new (o := o) hp)).freeze (p := p) (o := o) upd_same n1 n2 n3
  exact ⟨r2, List.prefix_refl _, e2⟩
/-- an own object is frozen -/
theorem Rel.own {xs : List D} (r : Rel B ca ρ cs Hf σ H) (h : RvOk B ca Hf H (.own (.lst xs)) v) : ∃ Hf', Rel B ca ρ cs Hf' σ H ∧ Nx ca Hf ca Hf' ∧ Dd Hf' v (.list xs) := by
  obtain ⟨a, rfl, ⟨vs, h1, h2⟩, h3, h4, h5⟩ := h
  obtain ⟨r', e⟩ := r.freeze h1 h3 h4 h5
  exact ⟨_, r', ⟨List.prefix_refl _, e⟩, .lst (.inl upd_same) (dps_ex e h2)⟩
/-- an own object becomes a cell -/
theorem Rel.alloc (r : Rel B ca ρ cs Hf σ H) (h : RvOk B ca Hf H (.own o) v) : ∃ a, v = .ref a ∧ Rel B (ca ++ [a]) ρ (cs ++ [o]) Hf σ H ∧ (ca ++ [a])[cs.length]? = some a := by
  obtain ⟨a, rfl, h1, h2, h3, h4⟩ := h
  refine ⟨a, rfl, ⟨r.ext, r.len, fun i s q => ?_, fun j u q => ?_, by simp [r.lenc], ?_, fun b m => ?_, r.exb, fun b m => ?_⟩, by rw [← r.lenc]; simp⟩
  · rcases r.sl i s q with z | ⟨v, g1, g2⟩
    · exact .inl z
    · exact .inr ⟨v, g1, g2.nx ⟨List.prefix_append _ _, fun _ _ h => h⟩⟩
  · by_cases hj : j < cs.length
    · rw [List.getElem?_append_left hj] at q
      obtain ⟨b, g1, g2⟩ := r.cells j u q
      exact ⟨b, by rw [List.getElem?_append_left (by rw [r.lenc]; exact hj)]; exact g1, g2⟩
    · have hj2 : j = cs.length := by
        have := (List.getElem?_eq_some_iff.mp q).1
        simp at this; omega
      subst hj2
      simp at q; subst q
      exact ⟨a, by rw [← r.lenc]; simp, h1⟩
  · rw [List.nodup_append]
    refine ⟨r.nd, by simp, fun x hx y hy => ?_⟩
    simp at hy; subst hy
    exact fun z => h3 (z ▸ hx)
  · rcases List.mem_append.mp m with z | z
    · exact r.off b z
    · simp at z; subst z; exact h2
  · obtain ⟨g1, g2⟩ := r.dis b m
    refine ⟨g1, fun q => ?_⟩
    rcases List.mem_append.mp q with z | z
    · exact g2 z
    · simp at z; subst z; exact m h4
/-- a cell is written -/
theorem Rel.write {j : Nat} {u : HO} (r : Rel B ca ρ cs Hf σ H) (hj : ca[j]? = some a) (h : CellOk Hf (upd H a u) a o) : Rel B ca ρ (cs.set j o) Hf σ (upd H a u) := by
  have ma : a ∈ ca := List.mem_of_getElem? hj
  refine ⟨fun b w q => ?_, r.len, r.sl, fun i w q => ?_, by simp [r.lenc], r.nd, r.off, fun b w q => ?_, r.dis⟩
  · by_cases e : b = a
    · subst e; rw [r.off b ma] at q; cases q
    · rw [upd_ne e]; exact r.ext b w q
  · by_cases e : j = i
    · subst e
      have hi : j < cs.length := by rw [← r.lenc]; exact (List.getElem?_eq_some_iff.mp hj).1
      rw [List.getElem?_set_self hi] at q
      cases q
      exact ⟨a, hj, h⟩
    · rw [List.getElem?_set_ne e] at q
      obtain ⟨b, g1, g2⟩ := r.cells i w q
      refine ⟨b, g1, g2.at (upd_ne ?_) fun _ _ h => h⟩
      intro z
      subst z
      exact e (nd_ix r.nd hj g1)
  · by_cases e : b = a
    · subst e
      exact absurd ma (r.dis b (by rw [q]; simp)).2
    · rw [upd_ne e]; exact r.exb b w q
theorem Rel.cell (r : Rel B ca ρ cs Hf σ H) {j : Nat} (e : cs[j]? = some o) (h : ca[j]? = some a) : CellOk Hf H a o := by
  obtain ⟨b, g1, g2⟩ := r.cells j o e
  rw [h] at g1; cases g1; exact g2
end

/-! ### what is wanted of an expression's result -/
section
variable (X : Cx) (W : WX)
def Gs {α : Type} (B : Hp) (ca : List Addr) (Hf : Hp) (ρ : List S) (σ : L2.St) (res : Res α) (P : List Addr → Hp → Hp → Store → α → Prop) : Prop :=
  match res with
  | .ok a cs' => ∀ ca' Hf' H', Nx ca Hf ca' Hf' → Rel B ca' ρ cs' Hf' σ H' → P ca' Hf' H' cs' a
  | .er c cs' => ∀ ca' Hf' H' cls, Nx ca Hf ca' Hf' → Rel B ca' ρ cs' Hf' σ H' → X.mg c = some cls → W cls none σ H'
  | .no => False
/-- an expression -/
def DE (e : Expr) (f : List S → M S) : Prop := ∃ t : TE, PE X e t ∧ ∀ (B : Hp) (ca : List Addr) (ρ : List S) (cs : Store) (Hf : Hp) (σ : L2.St) (H : Hp) (Q : VK), Rel B ca ρ cs Hf σ H →
  Gs X W B ca Hf ρ σ (f ρ cs) (fun ca' Hf' H' _ s => ∀ v, SvOk ca' Hf' s v → Q v H') → t σ H Q
/-- an expression whose value may be a new object -/
def DO (e : Expr) (f : List S → M Rv) : Prop := ∃ t : TE, PE X e t ∧ ∀ (B : Hp) (ca : List Addr) (ρ : List S) (cs : Store) (Hf : Hp) (σ : L2.St) (H : Hp) (Q : VK), Rel B ca ρ cs Hf σ H →
  Gs X W B ca Hf ρ σ (f ρ cs) (fun ca' Hf' H' _ r => ∀ v, RvOk B ca' Hf' H' r v → Q v H') → t σ H Q
def DT (e : Expr) (f : List S → M Bool) : Prop := ∃ t : TT, PT X e t ∧ ∀ (B : Hp) (ca : List Addr) (ρ : List S) (cs : Store) (Hf : Hp) (σ : L2.St) (H : Hp) (Q : Bool → Hp → Prop), Rel B ca ρ cs Hf σ H →
  Gs X W B ca Hf ρ σ (f ρ cs) (fun _ _ H' _ b => Q b H') → t σ H Q
def DW (e : Expr) (f : List S → M Bool) : Prop := ∃ t : TT, PW X e t ∧ ∀ (B : Hp) (ca : List Addr) (ρ : List S) (cs : Store) (Hf : Hp) (σ : L2.St) (H : Hp) (Q : Bool → Hp → Prop), Rel B ca ρ cs Hf σ H →
  Gs X W B ca Hf ρ σ (f ρ cs) (fun _ _ H' _ b => Q b H') → t σ H Q
def DA (es : List Expr) (f : List S → M (List S)) : Prop := ∃ t : TA, PA X es t ∧ ∀ (B : Hp) (ca : List Addr) (ρ : List S) (cs : Store) (Hf : Hp) (σ : L2.St) (H : Hp) (Q : List V → Hp → Prop), Rel B ca ρ cs Hf σ H →
  Gs X W B ca Hf ρ σ (f ρ cs) (fun ca' Hf' H' _ ss => ∀ vs, SvsOk ca' Hf' ss vs → Q vs H') → t σ H Q
end
section
variable {X : Cx} {W : WX} {B : Hp} {ca : List Addr} {Hf H : Hp} {ρ : List S} {σ : L2.St} {cs : Store} {α β : Type} {P P' : List Addr → Hp → Hp → Store → α → Prop}
theorem Gs.mono {res : Res α} (h : Gs X W B ca Hf ρ σ res P) (m : ∀ ca' Hf' H' cs' a, Nx ca Hf ca' Hf' → Rel B ca' ρ cs' Hf' σ H' → P ca' Hf' H' cs' a → P' ca' Hf' H' cs' a) : Gs X W B ca Hf ρ σ res P' := by
  cases res with
  | ok a cs' => exact fun ca' Hf' H' n r => m _ _ _ _ _ n r (h ca' Hf' H' n r)
  | er c cs' => exact h
  | no => exact h
theorem Gs.fwd {res : Res α} {ca1 : List Addr} {Hf1 : Hp} (h : Gs X W B ca Hf ρ σ res P) (n : Nx ca Hf ca1 Hf1) : Gs X W B ca1 Hf1 ρ σ res P := by
  cases res with
  | ok a cs' => exact fun ca' Hf' H' n' r => h ca' Hf' H' (n.trans n') r
  | er c cs' => exact fun ca' Hf' H' cls n' r => h ca' Hf' H' cls (n.trans n') r
  | no => exact h
theorem Gs.bind {m : M α} {k : α → M β} {P : List Addr → Hp → Hp → Store → β → Prop} (h : Gs X W B ca Hf ρ σ (bnd m k cs) P) :
    Gs X W B ca Hf ρ σ (m cs) (fun ca1 Hf1 _ cs1 a => Gs X W B ca1 Hf1 ρ σ (k a cs1) P) := by
  unfold bnd at h
  cases e : m cs with
  | ok a cs1 => rw [e] at h; exact fun ca1 Hf1 H1 n r => Gs.fwd h n
  | er c cs1 => rw [e] at h; exact h
  | no => rw [e] at h; exact h
theorem Gs.ret_ {a : α} (h : Gs X W B ca Hf ρ σ (ret a cs) P) (r : Rel B ca ρ cs Hf σ H) : P ca Hf H cs a := h ca Hf H Nx.refl r
theorem Gs.ofO_ {o : Option α} (h : Gs X W B ca Hf ρ σ (ofO o cs) P) (r : Rel B ca ρ cs Hf σ H) : ∃ a, o = some a ∧ P ca Hf H cs a := by
  cases o with
  | none => exact h.elim
  | some a => exact ⟨a, rfl, h ca Hf H Nx.refl r⟩
end
end Dn

set_option Elab.async false
set_option linter.all false
set_option maxRecDepth 100000
set_option maxHeartbeats 1000000
/-! Dn2: expressions. -/
namespace Dn
open PySem L2

/-! ### views of operands -/
def Lv (Hf H : Hp) (v : V) (d : D) : Prop := Dd H v d ∧ match d with
  | .list xs => ∃ a vs, v = .ref a ∧ Rd H a (.lst vs) ∧ Dds Hf vs xs
  | .tuple xs => (∃ a vs, v = .ref a ∧ Rd H a (.tup vs) ∧ Dds Hf vs xs) ∧ Dd Hf v d
  | _ => Dd Hf v d
def vw : S → Store → Option D
  | .d x, _ => some x
  | .cel j, cs => match cs[j]? with
    | some (.lst xs) => some (.list xs)
    | _ => none
  | _, _ => none
def vwM (s : S) : M D := fun cs => match vw s cs with
  | some d => .ok d cs
  | none => .no
section
variable {B : Hp} {ca ca' : List Addr} {ρ : List S} {cs : Store} {Hf Hf' : Hp} {σ : L2.St} {H H' : Hp} {s : S} {v w : V} {d : D} {o : OC}
theorem Lv.of (e : Ex Hf H) (h : Dd Hf v d) : Lv Hf H v d := by
  refine ⟨dp_ex e h, ?_⟩
  cases h with
  | lst h a => exact ⟨_, _, rfl, rd_ex e h, a⟩
  | tup h a => exact ⟨⟨_, _, rfl, rd_ex e h, a⟩, .tup h a⟩
  | non => exact .non
  | bl b => exact .bl b
  | int i => exact .int i
  | str x => exact .str x
theorem vw_ok (r : Rel B ca ρ cs Hf σ H) (h : SvOk ca Hf s v) (e : vw s cs = some d) : Lv Hf H v d := by
  cases s with
  | no => exact h.elim
  | fn a => cases e
  | d x =>
    have : x = d := Option.some.inj e
    subst this
    exact Lv.of r.ext h
  | cel j =>
    obtain ⟨a, h1, rfl⟩ := h
    have e' : (match cs[j]? with
      | some (.lst xs) => some (.list xs)
      | _ => none) = some d := e
    split at e'
    · rename_i xs q
      cases e'
      obtain ⟨vs, g1, g2⟩ := r.cell q h1
      exact ⟨.lst (.inl g1) (dps_ex r.ext g2), a, vs, rfl, .inl g1, g2⟩
    · cases e'
theorem Lv.flat (h : Lv Hf H v d) (n : ∀ xs, d ≠ .list xs) : Dd Hf v d := by
  obtain ⟨_, h⟩ := h
  cases d with
  | list xs => exact absurd rfl (n xs)
  | tuple xs => exact h.2
  | _ => exact h
theorem Lv.lst {xs : List D} (h : Lv Hf H v (.list xs)) : ∃ a vs, v = .ref a ∧ Rd H a (.lst vs) ∧ Dds Hf vs xs := h.2
theorem Lv.tup {xs : List D} (h : Lv Hf H v (.tuple xs)) : ∃ a vs, v = .ref a ∧ Rd H a (.tup vs) ∧ Dds Hf vs xs := h.2.1
theorem Lv.int_ {i : Int} (h : Lv Hf H v (.int i)) : v = .int i := by cases h.1; rfl
theorem Lv.str_ {x : Str} (h : Lv Hf H v (.str x)) : v = .str x := by cases h.1; rfl
theorem Lv.bl_ {x : Bool} (h : Lv Hf H v (.bool x)) : v = .bl x := by cases h.1; rfl
theorem Lv.non_ (h : Lv Hf H v .none) : v = .non := by cases h.1; rfl

/-- the heap grows by frozen things -/
structure Gw (Hf H Hf' H' : Hp) : Prop where
  ex : Ex Hf Hf'
  kp : Ex H H'
  ext : Ex Hf' H'
  nhf : ∀ a, Hf' a ≠ none → Hf a ≠ none ∨ H a = none
theorem Gw.refl (e : Ex Hf H) : Gw Hf H Hf H := ⟨fun _ _ h => h, fun _ _ h => h, e, fun _ h => .inl h⟩
theorem Gw.new {o : HO} {p : Addr} (e : Ex Hf H) (hp : H p = none) : Gw Hf H (upd Hf p o) (upd H p o) := by
  have nf : Hf p = none := by
    cases q : Hf p with
    | none => rfl
    | some u => rw [e p u q] at hp; cases hp
  refine ⟨ex_new nf, ex_new hp, fun a u h => ?_, fun a h => ?_⟩
  · by_cases q : a = p
    · subst q; rw [upd_same] at h ⊢; exact h
    · rw [upd_ne q] at h ⊢; exact e a u h
  · by_cases q : a = p
    · exact .inr (q ▸ hp)
    · rw [upd_ne q] at h; exact .inl h
theorem Rel.gw (r : Rel B ca ρ cs Hf σ H) (g : Gw Hf H Hf' H') : Rel B ca ρ cs Hf' σ H' ∧ Nx ca Hf ca Hf' := by
  have n : Nx ca Hf ca Hf' := ⟨List.prefix_refl _, g.ex⟩
  have no : ∀ a, H a ≠ none → Hf a = none → Hf' a = none := fun a h1 h2 => by
    cases q : Hf' a with
    | none => rfl
    | some u =>
      rcases g.nhf a (by rw [q]; simp) with z | z
      · exact absurd h2 z
      · exact absurd z h1
  refine ⟨⟨g.ext, r.len, fun i s q => ?_, fun j u q => ?_, r.lenc, r.nd, fun a m => no a (r.there m) (r.off a m), fun a u h => g.kp a u (r.exb a u h), fun a m => ?_⟩, n⟩
  · rcases r.sl i s q with z | ⟨v, h1, h2⟩
    · exact .inl z
    · exact .inr ⟨v, h1, h2.nx n⟩
  · obtain ⟨a, h1, h2⟩ := (r.grow g.kp).cells j u q
    exact ⟨a, h1, h2.at rfl g.ex⟩
  · obtain ⟨h1, h2⟩ := r.dis a m
    refine ⟨no a ?_ h1, h2⟩
    cases q : B a with
    | none => exact absurd q m
    | some u => rw [r.exb a u q]; simp
end

/-! ### operators over data -/
def rD (g : D → D → Option D) : R2 := fun x y H Q => ∃ Hf da db d, g da db = some d ∧ Ex Hf H ∧ Lv Hf H x da ∧ Lv Hf H y db ∧ ∀ v Hf' H', Gw Hf H Hf' H' → Dd Hf' v d → Q v H'
def rDb (g : D → D → Option Bool) : R2 := fun x y H Q => ∃ Hf da db b, g da db = some b ∧ Ex Hf H ∧ Lv Hf H x da ∧ Lv Hf H y db ∧ Q (.bl b) H
def addD : D → D → Option D
  | .int i, .int j => some (.int (i + j))
  | .str x, .str y => if x.length + y.length ≤ sizeLine then some (.str (x ++ y)) else none
  | .tuple xs, .tuple ys => if xs.length + ys.length ≤ sizeLine then some (.tuple (xs ++ ys)) else none
  | .list xs, .list ys => if xs.length + ys.length ≤ sizeLine then some (.list (xs ++ ys)) else none
  | _, _ => none
def subD : D → D → Option D
  | .int i, .int j => some (.int (i - j))
  | _, _ => none
def mulD : D → D → Option D
  | .int i, .int j => if i.natAbs.log2 + j.natAbs.log2 < 1000000 then some (.int (i * j)) else none
  | _, _ => none
def fdivD : D → D → Option D
  | .int i, .int j => if 0 < j ∧ j.natAbs.log2 < 9000 then some (.int (i / j)) else none
  | _, _ => none
def modD : D → D → Option D
  | .int i, .int j => if 0 < j then some (.int (i % j)) else none
  | _, _ => none
def powD : D → D → Option D
  | .int i, .int j => if 0 ≤ j ∧ j ≤ 1000000 ∧ i.natAbs < 2 ^ 64 then some (.int (i ^ j.toNat)) else none
  | _, _ => none
def scalD : D → D → Bool
  | .none, .none => true | .none, .int _ => true | .int _, .none => true | .none, .bool _ => true | .bool _, .none => true | .none, .str _ => true | .str _, .none => true
  | .int _, .int _ => true | .bool _, .bool _ => true | .str _, .str _ => true
  | .int _, .str _ => true | .str _, .int _ => true | .bool _, .str _ => true | .str _, .bool _ => true
  | _, _ => false
def eqD (a b : D) : Option Bool := if scalD a b || (SeqAt.shaped a && SeqAt.shaped b) then some (PyData.eqv a b) else none
def neD (a b : D) : Option Bool := (eqD a b).map (!·)
def ltD : D → D → Option Bool
  | .int i, .int j => some (decide (i < j))
  | .str x, .str y => some (decide (x.cps.toList < y.cps.toList))
  | _, _ => none
def leD : D → D → Option Bool
  | .int i, .int j => some (decide (i ≤ j))
  | _, _ => none
def gtD : D → D → Option Bool
  | .int i, .int j => some (decide (j < i))
  | _, _ => none
def geD : D → D → Option Bool
  | .int i, .int j => some (decide (j ≤ i))
  | _, _ => none
def flatD : D → Bool
  | .none => true | .bool _ => true | .int _ => true | .str _ => true
  | _ => false
def inD (x : D) : D → Option Bool
  | .list ys => if flatD x && ys.all flatD || (SeqAt.shaped x && SeqAt.shaped (.list ys)) then some (ys.any fun y => PyData.eqv y x) else none
  | .tuple ys => if flatD x && ys.all flatD then some (ys.any fun y => PyData.eqv y x) else none
  | .str z => match x with
    | .str c => if c.length = 1 then some (decide (c.cps.getD 0 0 ∈ z.cps.toList)) else none
    | _ => none
  | _ => none
def ninD (x ys : D) : Option Bool := (inD x ys).map (!·)
def isnD : D → Option Bool
  | .none => some true
  | _ => some false
def lenD : D → Option Nat
  | .str x => if x.length ≤ sizeLine then some x.length else none
  | .list xs => some xs.length
  | .tuple xs => some xs.length
  | _ => none
def ixD : D → D → Option D
  | .list xs, .int i => atI xs i
  | .tuple xs, .int i => atI xs i
  | .str z, .int i => if z.length ≤ sizeLine then (atI z.cps.toList i).map fun c => .str ⟨#[c]⟩ else none
  | _, _ => none
def truD : D → Option Bool
  | .none => some false
  | .bool b => some b
  | .int i => some (i != 0)
  | .str x => if x.length ≤ sizeLine then some (x.length != 0) else none
  | .list xs => some (!xs.isEmpty)
  | .tuple xs => some (!xs.isEmpty)
  | .dict _ => none
def cutD (xs : List D) (lo hi : Option Int) : List D := (xs.drop (HT.sIx xs.length 0 lo)).take (HT.sIx xs.length xs.length hi - HT.sIx xs.length 0 lo)
/-- the types' names -/
def tyD : D → String
  | .none => "NoneType" | .bool _ => "bool" | .int _ => "int" | .str _ => "str" | .list _ => "list" | .tuple _ => "tuple" | .dict _ => "dict"
def isaD (T : String) : D → Bool
  | .none => T == "NoneType" | .bool _ => T == "bool" || T == "int" | .int _ => T == "int" | .str _ => T == "str" | .list _ => T == "list" | .tuple _ => T == "tuple" | .dict _ => T == "dict"

section
variable {X : Cx} {pins : List (Addr × Obj)} {σ : L2.St} {H Hf Hf' : Hp} {s : Shared} {l b : Addr} {xs ys zs : List V} {v : V} {d : D} {ds : List D}
theorem Inv.rdl (I : Inv X pins σ H s) (h : Rd H l (.lst xs)) : xs.length ≤ sizeLine ∧ ∃ (its : List Value) (n : Nat), Vals xs its ∧ xs.length = its.length ∧ s.heap.get? l = some { cls := .type "list", data := .seq its.toArray n } := by
  obtain ⟨z, its, n, r, e⟩ := h.ok I.hok
  exact ⟨z, its, n, r, r.length, e⟩
theorem add_ok : OpR X (binaryOp .Add) (rD addD) := by
  intro pins s σ H x y v u Q I rx ry h
  obtain ⟨Hf, da, db, d, e, ex, ha, hb, q⟩ := h
  unfold addD at e
  split at e
  · cases e
    have := ha.int_; subst this
    have := hb.int_; subst this
    exact op_add pins s σ H _ _ v u Q I rx ry ⟨_, _, rfl, rfl, q _ _ _ (Gw.refl ex) (.int _)⟩
  · split at e
    · cases e
      have := ha.str_; subst this
      have := hb.str_; subst this
      exact op_add_str pins s σ H _ _ v u Q I rx ry ⟨_, _, rfl, rfl, by assumption, q _ _ _ (Gw.refl ex) (.str _)⟩
    · cases e
  · rename_i ds es
    split at e
    · rename_i hz
      cases e
      obtain ⟨a, vs, rfl, h1, h2⟩ := ha.tup
      obtain ⟨a', vs', rfl, h1', h2'⟩ := hb.tup
      have l1 := dps_len h2
      have l2 := dps_len h2'
      refine op_catA pins s σ H _ _ v u Q I rx ry ⟨a, a', vs, vs', rfl, rfl, .inl h1, .inl h1', by omega, fun z => ?_, fun z z' => ?_, fun z z' p hp => ?_⟩
      · have : ds = [] := by rw [z] at l1; exact List.length_eq_zero_iff.mp l1.symm
        subst this
        exact q _ _ _ (Gw.refl ex) (hb.flat fun _ z => nomatch z)
      · have : es = [] := by rw [z'] at l2; exact List.length_eq_zero_iff.mp l2.symm
        subst this
        rw [List.append_nil] at q
        exact q _ _ _ (Gw.refl ex) (ha.flat fun _ z => nomatch z)
      · have g := Gw.new (o := .tup (vs ++ vs')) ex hp
        exact q _ _ _ g (.tup (.inl upd_same) (dps_ex g.ex (dps_app h2 h2')))
    · cases e
  · rename_i ds es
    split at e
    · rename_i hz
      cases e
      obtain ⟨a, vs, rfl, h1, h2⟩ := ha.lst
      obtain ⟨a', vs', rfl, h1', h2'⟩ := hb.lst
      cases rx
      cases ry
      have l1 := dps_len h2
      have l2 := dps_len h2'
      obtain ⟨z, its, n, r, hl, e⟩ := Inv.rdl I h1
      obtain ⟨z2, its2, n2, r2, hl2, e2⟩ := Inv.rdl I h1'
      refine PySem.P.add_list e e2 ?_ (by rw [List.size_toArray, List.size_toArray]; omega)
      have ea : its.toArray ++ its2.toArray = (its ++ its2).toArray := by simp
      rw [ea]
      have g := Gw.new (o := .lst (vs ++ vs')) ex I.fresh
      exact ⟨.ref _, _, I.lnew (t' := s.toks) (r.append r2) (by rw [List.length_append]; omega), rfl, q _ _ _ g (.lst (.inl upd_same) (dps_ex g.ex (dps_app h2 h2')))⟩
    · cases e
  · cases e
theorem sub_ok : OpR X (binaryOp .Sub) (rD subD) := by
  intro pins s σ H x y v u Q I rx ry h
  obtain ⟨Hf, da, db, d, e, ex, ha, hb, q⟩ := h
  unfold subD at e
  split at e
  · cases e
    have := ha.int_; subst this
    have := hb.int_; subst this
    exact op_sub pins s σ H _ _ v u Q I rx ry ⟨_, _, rfl, rfl, q _ _ _ (Gw.refl ex) (.int _)⟩
  · cases e
theorem mul_ok : OpR X (binaryOp .Mult) (rD mulD) := by
  intro pins s σ H x y v u Q I rx ry h
  obtain ⟨Hf, da, db, d, e, ex, ha, hb, q⟩ := h
  unfold mulD at e
  split at e
  · split at e
    · cases e
      have := ha.int_; subst this
      have := hb.int_; subst this
      exact op_mulW pins s σ H _ _ v u Q I rx ry ⟨_, _, rfl, rfl, by assumption, q _ _ _ (Gw.refl ex) (.int _)⟩
    · cases e
  · cases e
theorem fdiv_ok : OpR X (binaryOp .FloorDiv) (rD fdivD) := by
  intro pins s σ H x y v u Q I rx ry h
  obtain ⟨Hf, da, db, d, e, ex, ha, hb, q⟩ := h
  unfold fdivD at e
  split at e
  · split at e
    · cases e
      have := ha.int_; subst this
      have := hb.int_; subst this
      exact op_fdivW pins s σ H _ _ v u Q I rx ry ⟨_, _, rfl, rfl, by assumption, q _ _ _ (Gw.refl ex) (.int _)⟩
    · cases e
  · cases e
theorem mod_ok : OpR X (binaryOp .Mod) (rD modD) := by
  intro pins s σ H x y v u Q I rx ry h
  obtain ⟨Hf, da, db, d, e, ex, ha, hb, q⟩ := h
  unfold modD at e
  split at e
  · split at e
    · cases e
      have := ha.int_; subst this
      have := hb.int_; subst this
      exact op_mod pins s σ H _ _ v u Q I rx ry ⟨_, _, rfl, rfl, by assumption, q _ _ _ (Gw.refl ex) (.int _)⟩
    · cases e
  · cases e
theorem pow_ok : OpR X (binaryOp .Pow) (rD powD) := by
  intro pins s σ H x y v u Q I rx ry h
  obtain ⟨Hf, da, db, d, e, ex, ha, hb, q⟩ := h
  unfold powD at e
  split at e
  · split at e
    · cases e
      have := ha.int_; subst this
      have := hb.int_; subst this
      exact op_pow pins s σ H _ _ v u Q I rx ry ⟨_, _, rfl, rfl, by assumption, q _ _ _ (Gw.refl ex) (.int _)⟩
    · cases e
  · cases e

/-! ### comparisons -/
theorem scal_eq {x y : V} {da db : D} (h : scalD da db = true) (ha : Dd H x da) (hb : Dd H y db) : scal x y = true ∧ decide (x = y) = PyData.eqv da db := by
  cases ha <;> cases hb <;> first
    | (exact absurd (show false = true from h) Bool.false_ne_true)
    | (refine ⟨rfl, ?_⟩; rw [PyData.eqv]; first | exact dec_int | exact dec_bl | exact dec_str)
    | (refine ⟨rfl, ?_⟩; simp [PyData.eqv]; done)
theorem eq_ok (hu : X.A.units + 64 < cLine) : OpR X (compareOp .Eq) (rDb eqD) := by
  intro pins s σ H x y v u Q I rx ry h
  obtain ⟨Hf, da, db, d, e, ex, ha, hb, q⟩ := h
  unfold eqD at e
  split at e
  · rename_i hs
    cases e
    by_cases hc : scalD da db = true
    · obtain ⟨s1, s2⟩ := scal_eq hc ha.1 hb.1
      exact op_eq pins s σ H x y v u Q I rx ry ⟨s1, by rw [s2]; exact q⟩
    · rw [Bool.or_eq_true, Bool.and_eq_true] at hs
      rcases hs with z | ⟨z1, z2⟩
      · exact absurd z hc
      · exact op_eqD hu pins s σ H x y v u Q I rx ry ⟨da, db, dd_dp _ ha.1, dd_dp _ hb.1, z1, z2, q⟩
  · cases e
theorem ne_ok (hu : X.A.units + 64 < cLine) : OpR X (compareOp .NotEq) (rDb neD) := by
  intro pins s σ H x y v u Q I rx ry h
  obtain ⟨Hf, da, db, d, e, ex, ha, hb, q⟩ := h
  unfold neD eqD at e
  split at e
  · rename_i hs
    cases e
    by_cases hc : scalD da db = true
    · obtain ⟨s1, s2⟩ := scal_eq hc ha.1 hb.1
      exact op_ne pins s σ H x y v u Q I rx ry ⟨s1, by rw [s2]; exact q⟩
    · rw [Bool.or_eq_true, Bool.and_eq_true] at hs
      rcases hs with z | ⟨z1, z2⟩
      · exact absurd z hc
      · exact op_neD hu pins s σ H x y v u Q I rx ry ⟨da, db, dd_dp _ ha.1, dd_dp _ hb.1, z1, z2, q⟩
  · cases e
theorem lt_ok : OpR X (compareOp .Lt) (rDb ltD) := by
  intro pins s σ H x y v u Q I rx ry h
  obtain ⟨Hf, da, db, d, e, ex, ha, hb, q⟩ := h
  unfold ltD at e
  split at e
  · cases e
    have := ha.int_; subst this
    have := hb.int_; subst this
    exact op_lt pins s σ H _ _ v u Q I rx ry ⟨_, _, rfl, rfl, q⟩
  · cases e
    have := ha.str_; subst this
    have := hb.str_; subst this
    exact op_lt_str pins s σ H _ _ v u Q I rx ry ⟨_, _, rfl, rfl, q⟩
  · cases e
theorem le_ok : OpR X (compareOp .LtE) (rDb leD) := by
  intro pins s σ H x y v u Q I rx ry h
  obtain ⟨Hf, da, db, d, e, ex, ha, hb, q⟩ := h
  unfold leD at e
  split at e
  · cases e
    have := ha.int_; subst this
    have := hb.int_; subst this
    exact op_le pins s σ H _ _ v u Q I rx ry ⟨_, _, rfl, rfl, q⟩
  · cases e
theorem gt_ok : OpR X (compareOp .Gt) (rDb gtD) := by
  intro pins s σ H x y v u Q I rx ry h
  obtain ⟨Hf, da, db, d, e, ex, ha, hb, q⟩ := h
  unfold gtD at e
  split at e
  · cases e
    have := ha.int_; subst this
    have := hb.int_; subst this
    exact op_gt pins s σ H _ _ v u Q I rx ry ⟨_, _, rfl, rfl, q⟩
  · cases e
theorem ge_ok : OpR X (compareOp .GtE) (rDb geD) := by
  intro pins s σ H x y v u Q I rx ry h
  obtain ⟨Hf, da, db, d, e, ex, ha, hb, q⟩ := h
  unfold geD at e
  split at e
  · cases e
    have := ha.int_; subst this
    have := hb.int_; subst this
    exact op_ge pins s σ H _ _ v u Q I rx ry ⟨_, _, rfl, rfl, q⟩
  · cases e
theorem flat_V (f : flatD d = true) (h : Dd H v d) : flatV v = true := by
  cases h <;> first | rfl | (exact absurd (show false = true from f) Bool.false_ne_true)
theorem eqV_eqv {x y : V} {da db : D} (fa : flatD da = true) (fb : flatD db = true) (ha : Dd H x da) (hb : Dd H y db) : eqV x y = PyData.eqv da db := by
  cases ha <;> cases hb <;> first
    | (exact absurd (show false = true from fa) Bool.false_ne_true)
    | (exact absurd (show false = true from fb) Bool.false_ne_true)
    | rfl
    | (unfold eqV; simp [PyData.eqv])
theorem flat_all : ∀ {xs : List V} {ds : List D}, ds.all flatD = true → Dds H xs ds → xs.all flatV = true
  | _, _, _, .nil => rfl
  | _, _, f, .cons h t => by
    rw [List.all_cons, Bool.and_eq_true] at f
    rw [List.all_cons, Bool.and_eq_true]
    exact ⟨flat_V f.1 h, flat_all f.2 t⟩
theorem inV_any {x : V} (fx : flatD d = true) (hx : Dd H x d) : ∀ {xs : List V} {ds : List D}, ds.all flatD = true → Dds H xs ds → inV x xs = ds.any fun y => PyData.eqv y d
  | _, _, _, .nil => rfl
  | _, _, f, .cons h t => by
    rw [List.all_cons, Bool.and_eq_true] at f
    have ih := inV_any fx hx f.2 t
    unfold inV at ih ⊢
    rw [List.any_cons, List.any_cons, ih, eqV_eqv f.1 fx h hx]
end
end Dn

set_option Elab.async false
set_option linter.all false
set_option maxRecDepth 100000
set_option maxHeartbeats 1000000
/-! Dn3: expressions' rules. -/
namespace Dn
open PySem L2
section
variable {X : Cx} {pins : List (Addr × Obj)} {σ : L2.St} {H Hf Hf' : Hp} {s : Shared} {v : V} {d : D}
theorem sign_of {c : Str} (h : c.length = 1) : c = ⟨#[c.cps.getD 0 0]⟩ := by
  obtain ⟨⟨l⟩⟩ := c
  match l, h with
  | [a], _ => rfl
  | [], h => exact absurd h (by decide)
  | a :: b :: r, h => exact absurd (show (a :: b :: r).length = 1 from h) (by simp)
theorem in_ok (hu : X.A.units + 65 < cLine) : OpR X (compareOp .In) (rDb inD) := by
  intro pins s σ H x y v u Q I rx ry h
  obtain ⟨Hf, da, db, d, e, ex, ha, hb, q⟩ := h
  unfold inD at e
  split at e
  · rename_i ys
    split at e
    · rename_i hs
      cases e
      obtain ⟨a, vs, rfl, h1, h2⟩ := hb.lst
      by_cases hf : (flatD da && ys.all flatD) = true
      · rw [Bool.and_eq_true] at hf
        have h2' := dps_ex ex h2
        refine op_in_seq pins s σ H _ _ v u Q I rx ry ⟨a, vs, rfl, .inl (.inl h1), flat_V hf.1 ha.1, flat_all hf.2 h2', ?_⟩
        show Q (.bl (inV x vs)) H
        rw [inV_any hf.1 ha.1 hf.2 h2']
        exact q
      · rw [Bool.or_eq_true] at hs
        rcases hs with z | z
        · exact absurd z hf
        · rw [Bool.and_eq_true] at z
          exact op_inD hu pins s σ H _ _ v u Q I rx ry ⟨da, ys, dd_dp _ ha.1, dd_dp _ hb.1, z.1, z.2, q⟩
    · cases e
  · rename_i ys
    split at e
    · rename_i hf
      cases e
      rw [Bool.and_eq_true] at hf
      obtain ⟨a, vs, rfl, h1, h2⟩ := hb.tup
      have h2' := dps_ex ex h2
      refine op_in_seq pins s σ H _ _ v u Q I rx ry ⟨a, vs, rfl, .inr (.inl h1), flat_V hf.1 ha.1, flat_all hf.2 h2', ?_⟩
      show Q (.bl (inV x vs)) H
      rw [inV_any hf.1 ha.1 hf.2 h2']
      exact q
    · cases e
  · split at e
    · rename_i c
      split at e
      · rename_i hc
        cases e
        have := ha.str_; subst this
        have := hb.str_; subst this
        exact op_in_sign pins s σ H _ _ v u Q I rx ry ⟨_, _, by rw [← sign_of hc], rfl, q⟩
      · cases e
    · cases e
  · cases e
theorem nin_ok (hu : X.A.units + 65 < cLine) : OpR X (compareOp .NotIn) (rDb ninD) := by
  intro pins s σ H x y v u Q I rx ry h
  obtain ⟨Hf, da, db, d, e, ex, ha, hb, q⟩ := h
  unfold ninD inD at e
  split at e
  · rename_i ys
    split at e
    · rename_i hs
      cases e
      obtain ⟨a, vs, rfl, h1, h2⟩ := hb.lst
      by_cases hf : (flatD da && ys.all flatD) = true
      · rw [Bool.and_eq_true] at hf
        have h2' := dps_ex ex h2
        refine op_notIn_seq pins s σ H _ _ v u Q I rx ry ⟨a, vs, rfl, .inl (.inl h1), flat_V hf.1 ha.1, flat_all hf.2 h2', ?_⟩
        show Q (.bl (!inV x vs)) H
        rw [inV_any hf.1 ha.1 hf.2 h2']
        exact q
      · rw [Bool.or_eq_true] at hs
        rcases hs with z | z
        · exact absurd z hf
        · rw [Bool.and_eq_true] at z
          exact op_notInD hu pins s σ H _ _ v u Q I rx ry ⟨da, ys, dd_dp _ ha.1, dd_dp _ hb.1, z.1, z.2, q⟩
    · cases e
  · rename_i ys
    split at e
    · rename_i hf
      cases e
      rw [Bool.and_eq_true] at hf
      obtain ⟨a, vs, rfl, h1, h2⟩ := hb.tup
      have h2' := dps_ex ex h2
      refine op_notIn_seq pins s σ H _ _ v u Q I rx ry ⟨a, vs, rfl, .inr (.inl h1), flat_V hf.1 ha.1, flat_all hf.2 h2', ?_⟩
      show Q (.bl (!inV x vs)) H
      rw [inV_any hf.1 ha.1 hf.2 h2']
      exact q
    · cases e
  · split at e
    · rename_i c
      split at e
      · rename_i hc
        cases e
        have := ha.str_; subst this
        have := hb.str_; subst this
        exact op_notIn_sign pins s σ H _ _ v u Q I rx ry ⟨_, _, by rw [← sign_of hc], rfl, q⟩
      · cases e
    · cases e
  · cases e
theorem ix_ok : IxR X (rD ixD) := by
  intro value slice pins s σ H x y v u Q I rx ry h hs
  obtain ⟨Hf, da, db, d, e, ex, ha, hb, q⟩ := h
  unfold ixD at e
  split at e
  · obtain ⟨a, vs, rfl, h1, h2⟩ := ha.lst
    have := hb.int_; subst this
    obtain ⟨j, g1, g2, g3, g4, g5⟩ := atI_get e
    obtain ⟨w, k1, k2⟩ := dps_get h2 g2
    refine ix_list value slice pins s σ H _ _ v u Q I rx ry ⟨a, vs, _, w, rfl, rfl, .inl h1, ?_, q _ _ _ (Gw.refl ex) k2⟩ hs
    unfold atI at e ⊢
    rw [dps_len h2]
    cases z : ixN _ _ with
    | none => rw [z] at e; cases e
    | some j' =>
      rw [z] at e
      have e' : _ = some d := e
      obtain ⟨hs', _⟩ := ixN_seq z
      rw [g1] at hs'; cases hs'
      exact k1
  · obtain ⟨a, vs, rfl, h1, h2⟩ := ha.tup
    have := hb.int_; subst this
    obtain ⟨j, g1, g2, g3, g4, g5⟩ := atI_get e
    obtain ⟨w, k1, k2⟩ := dps_get h2 g2
    refine ix_tup value slice pins s σ H _ _ v u Q I rx ry ⟨a, vs, _, w, rfl, rfl, .inl h1, ?_, q _ _ _ (Gw.refl ex) k2⟩ hs
    unfold atI at e ⊢
    rw [dps_len h2]
    cases z : ixN _ _ with
    | none => rw [z] at e; cases e
    | some j' =>
      rw [z] at e
      have e' : _ = some d := e
      obtain ⟨hs', _⟩ := ixN_seq z
      rw [g1] at hs'; cases hs'
      exact k1
  · split at e
    · rename_i hz
      have := ha.str_; subst this
      have := hb.int_; subst this
      cases z : atI _ _ with
      | none => rw [z] at e; cases e
      | some c =>
        rw [z] at e
        cases e
        exact ix_str value slice pins s σ H _ _ v u Q I rx ry ⟨_, _, c, rfl, rfl, hz, z, q _ _ _ (Gw.refl ex) (.str _)⟩ hs
    · cases e
  · cases e
/-- xs[lo:hi] -/
def slD (d : D) (lo hi : Option Int) : Option D := match d with
  | .list xs => some (.list (cutD xs lo hi))
  | .tuple xs => some (.tuple (cutD xs lo hi))
  | _ => none
theorem cut_dds {xs : List D} {vs : List V} (h : Dds Hf vs xs) (lo hi : Option Int) : Dds Hf (cutV vs lo hi) (cutD xs lo hi) := by
  unfold cutV cutD
  rw [dps_len h]
  exact dps_take _ (dps_drop _ h)
def rSl (x : V) (lo hi : Option Int) (H : Hp) (Q : VK) : Prop := ∃ Hf d e, slD d lo hi = some e ∧ Ex Hf H ∧ Lv Hf H x d ∧ ∀ v Hf' H', Gw Hf H Hf' H' → Dd Hf' v e → Q v H'
theorem sl_ok : SlR X rSl := by
  intro pins s σ H x v vl vu lo hi sl Q I rx hs pl pu h
  obtain ⟨Hf, d, e, he, ex, hx, q⟩ := h
  unfold slD at he
  split at he
  · rename_i xs
    cases he
    obtain ⟨a, vs, rfl, h1, h2⟩ := hx.lst
    refine sl_list pins s σ H _ v vl vu lo hi sl Q I rx hs pl pu ⟨a, vs, rfl, .inl h1, fun p hp => ?_⟩
    have g := Gw.new (o := .lst (cutV vs lo hi)) ex hp
    exact q _ _ _ g (.lst (.inl upd_same) (dps_ex g.ex (cut_dds h2 lo hi)))
  · rename_i xs
    cases he
    obtain ⟨a, vs, rfl, h1, h2⟩ := hx.tup
    refine sl_tupA pins s σ H _ v vl vu lo hi sl Q I rx hs pl pu ⟨a, vs, rfl, .inl h1, fun z => ?_, fun z p hp => ?_⟩
    · rw [dps_len h2] at z
      have : cutD xs lo hi = xs := by
        unfold cutD
        rw [z.1, z.2, List.drop_zero, Nat.sub_zero, List.take_length]
      rw [this] at q
      exact q _ _ _ (Gw.refl ex) (hx.flat fun _ z => nomatch z)
    · have g := Gw.new (o := .tup (cutV vs lo hi)) ex hp
      exact q _ _ _ g (.tup (.inl upd_same) (dps_ex g.ex (cut_dds h2 lo hi)))
  · cases he
theorem tru_dd {K : PySem.W.Frag} {b : Bool} (h : Dd H v d) (e : truD d = some b) : TruV K v H b := by
  cases h with
  | non => cases e; rfl
  | bl x => cases e; rfl
  | int i => cases e; rfl
  | str x =>
    have e' : (if x.length ≤ sizeLine then some (x.length != 0) else none) = some b := e
    split at e'
    · rename_i hz
      cases e'
      refine ⟨hz, ?_⟩
      rw [Bool.eq_iff_iff]
      simp
    · cases e'
  | lst h a =>
    cases e
    refine .inl ⟨_, .inl h, ?_⟩
    cases a <;> rfl
  | tup h a =>
    cases e
    refine .inr (.inl ⟨_, .inl h, ?_⟩)
    cases a <;> rfl
theorem ty_dd {K : PySem.W.Frag} (h : Dd H v d) : TyX K H v (.type (tyD d)) := by
  cases h with
  | non => exact .base .non
  | bl x => exact .base (.bl x)
  | int i => exact .base (.int i)
  | str x => exact .base (.str x)
  | lst h a =>
    rcases h with h | ⟨o, h⟩
    · exact .base (.lst h)
    · exact .base (.frz h)
  | tup h a =>
    rcases h with h | ⟨o, h⟩
    · exact .base (.tup h)
    · exact .fTuple h
end

/-! ### the mirrors of expressions -/
def eV (i : Nat) (ρ : List S) : M S := match ρ[i]? with
  | some (.d x) => ret (.d x)
  | some (.cel j) => ret (.cel j)
  | some (.fn a) => ret (.fn a)
  | _ => stuck
def eFn (a : Addr) (_ : List S) : M S := ret (.fn a)
def eC (d : D) (_ : List S) : M S := ret (.d d)
def op2 {β : Type} (g : D → D → Option β) (fa fb : List S → M S) (ρ : List S) : M β := bnd (fa ρ) fun a => bnd (fb ρ) fun b => bnd (vwM a) fun x => bnd (vwM b) fun y => ofO (g x y)
def op1 {β : Type} (g : D → Option β) (fa : List S → M S) (ρ : List S) : M β := bnd (fa ρ) fun a => bnd (vwM a) fun x => ofO (g x)
def eBin (g : D → D → Option D) (fa fb : List S → M S) (ρ : List S) : M S := bnd (op2 g fa fb ρ) fun d => ret (.d d)
def eCmp (g : D → D → Option Bool) (fa fb : List S → M S) (ρ : List S) : M S := bnd (op2 g fa fb ρ) fun b => ret (.d (.bool b))
def eIsN (fa : List S → M S) (ρ : List S) : M S := bnd (op1 isnD fa ρ) fun b => ret (.d (.bool b))
def eIsNN (fa : List S → M S) (ρ : List S) : M S := bnd (op1 isnD fa ρ) fun b => ret (.d (.bool (!b)))
def tT (fa : List S → M S) (ρ : List S) : M Bool := op1 truD fa ρ
def tNotM (f : List S → M Bool) (ρ : List S) : M Bool := bnd (f ρ) fun b => ret (!b)
def tAndM (f g : List S → M Bool) (ρ : List S) : M Bool := bnd (f ρ) fun b => if b = true then g ρ else ret false
def tOrM (f g : List S → M Bool) (ρ : List S) : M Bool := bnd (f ρ) fun b => if b = true then ret true else g ρ
def eAndM (f g : List S → M S) (ρ : List S) : M S := bnd (f ρ) fun a => bnd (vwM a) fun x => bnd (ofO (truD x)) fun b => if b = true then g ρ else ret a
def eOrM (f g : List S → M S) (ρ : List S) : M S := bnd (f ρ) fun a => bnd (vwM a) fun x => bnd (ofO (truD x)) fun b => if b = true then ret a else g ρ
def eNotM (f : List S → M S) (ρ : List S) : M S := bnd (op1 truD f ρ) fun b => ret (.d (.bool (!b)))
def eIf (t : List S → M Bool) (f g : List S → M S) (ρ : List S) : M S := bnd (t ρ) fun b => if b = true then f ρ else g ρ
def tChn (g g' : D → D → Option Bool) (fa fb fc : List S → M S) (ρ : List S) : M Bool := bnd (fa ρ) fun a => bnd (fb ρ) fun b => bnd (vwM a) fun x => bnd (vwM b) fun y => bnd (ofO (g x y)) fun k => if k = true then bnd (fc ρ) fun c => bnd (vwM b) fun y' => bnd (vwM c) fun z => ofO (g' y' z) else ret false
def eChn (g g' : D → D → Option Bool) (fa fb fc : List S → M S) (ρ : List S) : M S := bnd (tChn g g' fa fb fc ρ) fun b => ret (.d (.bool b))
def aNil (_ : List S) : M (List S) := ret []
def aCons (f : List S → M S) (g : List S → M (List S)) (ρ : List S) : M (List S) := bnd (f ρ) fun a => bnd (g ρ) fun as => ret (a :: as)
def asD : List S → Option (List D)
  | [] => some []
  | .d x :: r => (asD r).map (x :: ·)
  | _ :: _ => none
def eTup (g : List S → M (List S)) (ρ : List S) : M S := bnd (g ρ) fun as => bnd (ofO (asD as)) fun xs => if xs.length ≤ sizeLine then ret (.d (.tuple xs)) else stuck
def eLst (g : List S → M (List S)) (ρ : List S) : M Rv := bnd (g ρ) fun as => bnd (ofO (asD as)) fun xs => if xs.length ≤ sizeLine then ret (.own (.lst xs)) else stuck
def frz : Rv → M S
  | .d x => ret (.d x)
  | .own (.lst xs) => ret (.d (.list xs))
  | .cel j => ret (.cel j)
  | _ => stuck
def eFrz (f : List S → M Rv) (ρ : List S) : M S := bnd (f ρ) frz
def sRv : S → M Rv
  | .d x => ret (.d x)
  | .cel j => ret (.cel j)
  | _ => stuck
def eRv (f : List S → M S) (ρ : List S) : M Rv := bnd (f ρ) sRv
def oNone (_ : List S) : M (Option Int) := ret none
def oSome (f : List S → M S) (ρ : List S) : M (Option Int) := bnd (f ρ) fun a => match a with
  | .d (.int i) => ret (some i)
  | _ => stuck
def eSl (f : List S → M S) (l h : List S → M (Option Int)) (ρ : List S) : M S := bnd (f ρ) fun a => bnd (l ρ) fun lo => bnd (h ρ) fun hi => bnd (vwM a) fun x => bnd (ofO (slD x lo hi)) fun d => ret (.d d)

section
variable {X : Cx} {W : WX} {B : Hp} {ca : List Addr} {Hf H : Hp} {ρ : List S} {σ : L2.St} {cs : Store} {α β : Type} {P : List Addr → Hp → Hp → Store → β → Prop}
theorem vwM_ {a : S} {k : D → M β} (r : Rel B ca ρ cs Hf σ H) (h : Gs X W B ca Hf ρ σ (bnd (vwM a) k cs) P) : ∃ d, vw a cs = some d ∧ Gs X W B ca Hf ρ σ (k d cs) P := by
  unfold bnd vwM at h
  cases e : vw a cs with
  | none => rw [e] at h; exact h.elim
  | some d => rw [e] at h; exact ⟨d, rfl, h⟩
theorem ofOb_ {o : Option α} {k : α → M β} (h : Gs X W B ca Hf ρ σ (bnd (ofO o) k cs) P) : ∃ d, o = some d ∧ Gs X W B ca Hf ρ σ (k d cs) P := by
  cases o with
  | none => exact h.elim
  | some d => exact ⟨d, rfl, h⟩
abbrev KE (X : Cx) (W : WX) (t : TE) (f : List S → M S) : Prop := ∀ (B : Hp) (ca : List Addr) (ρ : List S) (cs : Store) (Hf : Hp) (σ : L2.St) (H : Hp) (Q : VK), Rel B ca ρ cs Hf σ H →
  Gs X W B ca Hf ρ σ (f ρ cs) (fun ca' Hf' H' _ s => ∀ v, SvOk ca' Hf' s v → Q v H') → t σ H Q
theorem op2_run {γ : Type} {g : D → D → Option γ} {fa fb : List S → M S} {ta tb : TE} {P : List Addr → Hp → Hp → Store → β → Prop} {k : γ → M β} (ka : KE X W ta fa) (kb : KE X W tb fb) (r : Rel B ca ρ cs Hf σ H)
    (h : Gs X W B ca Hf ρ σ (bnd (op2 g fa fb ρ) k cs) P) {R : V → V → Hp → Prop}
    (hR : ∀ ca2 Hf2 H2 cs2 x y da db z, Nx ca Hf ca2 Hf2 → Rel B ca2 ρ cs2 Hf2 σ H2 → Lv Hf2 H2 x da → Lv Hf2 H2 y db → g da db = some z → Gs X W B ca2 Hf2 ρ σ (k z cs2) P → R x y H2) :
    ta σ H fun x H1 => tb σ H1 fun y H2 => R x y H2 := by
  have h' : Gs X W B ca Hf ρ σ (bnd (fa ρ) (fun a => bnd (fb ρ) fun b => bnd (vwM a) fun x => bnd (vwM b) fun y => bnd (ofO (g x y)) k) cs) P := by
    have e : bnd (op2 g fa fb ρ) k cs = bnd (fa ρ) (fun a => bnd (fb ρ) fun b => bnd (vwM a) fun x => bnd (vwM b) fun y => bnd (ofO (g x y)) k) cs := by
      unfold op2 bnd
      cases fa ρ cs with
      | ok a c1 =>
        dsimp only
        cases fb ρ c1 with
        | ok b c2 =>
          dsimp only
          cases vwM a c2 with
          | ok x c3 =>
            dsimp only
            cases vwM b c3 with
            | ok y c4 => rfl
            | er _ _ => rfl
            | no => rfl
          | er _ _ => rfl
          | no => rfl
        | er _ _ => rfl
        | no => rfl
      | er _ _ => rfl
      | no => rfl
    rw [← e]; exact h
  refine ka B ca ρ cs Hf σ H _ r (h'.bind.mono fun ca1 Hf1 H1 cs1 a n1 r1 h1 x hx => ?_)
  refine kb B ca1 ρ cs1 Hf1 σ H1 _ r1 (h1.bind.mono fun ca2 Hf2 H2 cs2 b n2 r2 h2 y hy => ?_)
  obtain ⟨da, e1, h3⟩ := vwM_ r2 h2
  obtain ⟨db, e2, h4⟩ := vwM_ r2 h3
  obtain ⟨z, e3, h5⟩ := ofOb_ h4
  exact hR ca2 Hf2 H2 cs2 x y da db z (n1.trans n2) r2 (vw_ok r2 (hx.nx n2) e1) (vw_ok r2 hy e2) e3 h5
theorem op1_run {γ : Type} {g : D → Option γ} {fa : List S → M S} {ta : TE} {k : γ → M β} (ka : KE X W ta fa) (r : Rel B ca ρ cs Hf σ H)
    (h : Gs X W B ca Hf ρ σ (bnd (op1 g fa ρ) k cs) P) {R : V → Hp → Prop}
    (hR : ∀ ca2 Hf2 H2 cs2 x da z, Nx ca Hf ca2 Hf2 → Rel B ca2 ρ cs2 Hf2 σ H2 → Lv Hf2 H2 x da → g da = some z → Gs X W B ca2 Hf2 ρ σ (k z cs2) P → R x H2) :
    ta σ H fun x H1 => R x H1 := by
  have h' : Gs X W B ca Hf ρ σ (bnd (fa ρ) (fun a => bnd (vwM a) fun x => bnd (ofO (g x)) k) cs) P := by
    have e : bnd (op1 g fa ρ) k cs = bnd (fa ρ) (fun a => bnd (vwM a) fun x => bnd (ofO (g x)) k) cs := by
      unfold op1 bnd
      cases fa ρ cs with
      | ok a c1 =>
        dsimp only
        cases vwM a c1 with
        | ok x c3 => rfl
        | er _ _ => rfl
        | no => rfl
      | er _ _ => rfl
      | no => rfl
    rw [← e]; exact h
  refine ka B ca ρ cs Hf σ H _ r (h'.bind.mono fun ca1 Hf1 H1 cs1 a n1 r1 h1 x hx => ?_)
  obtain ⟨da, e1, h3⟩ := vwM_ r1 h1
  obtain ⟨z, e3, h5⟩ := ofOb_ h3
  exact hR ca1 Hf1 H1 cs1 x da z n1 r1 (vw_ok r1 hx e1) e3 h5
/-- a Gs without a rest -/
theorem Gs.rest {res : M β} (h : Gs X W B ca Hf ρ σ (res cs) P) : Gs X W B ca Hf ρ σ (bnd res ret cs) P := by
  have e : bnd res ret cs = res cs := by
    unfold bnd
    cases res cs <;> rfl
  rw [e]; exact h
end

section
variable {X : Cx} {W : WX} {a b c : Expr} {fa fb fc : List S → M S} {pos : Pos}
theorem de_name (i : Nat) {x : Str} (hN : X.N[i]? = some x := by rfl) (hv : Vis X.env.scope x := by first | exact Or.inl rfl | exact Or.inr (Or.inl rfl) | exact Or.inr (Or.inr rfl)) (hd : (x == ("__debug__" : Str)) = false := by decide)
    (hcd : (x == ("__classdict__" : Str)) = false := by decide) : DE X W (.Name x pos) (eV i) := by
  refine ⟨_, pe_var hN hv hd hcd, fun B ca ρ cs Hf σ H Q r h => ?_⟩
  unfold eV at h
  cases e : ρ[i]? with
  | none => rw [e] at h; exact h.elim
  | some s =>
    rw [e] at h
    cases s with
    | no => exact h.elim
    | d x =>
      obtain ⟨v, h1, h2⟩ := r.get e (fun z => nomatch z)
      exact ⟨v, h1, h.ret_ r v h2⟩
    | cel j =>
      obtain ⟨v, h1, h2⟩ := r.get e (fun z => nomatch z)
      exact ⟨v, h1, h.ret_ r v h2⟩
    | fn a =>
      obtain ⟨v, h1, h2⟩ := r.get e (fun z => nomatch z)
      exact ⟨v, h1, h.ret_ r v h2⟩
theorem de_int {i j} : DE X W (.Constant (.int i) j pos) (eC (.int i)) := ⟨_, pe_int, fun B ca ρ cs Hf σ H Q r h => h.ret_ r _ (.int i)⟩
theorem de_bl {i j} : DE X W (.Constant (.bool i) j pos) (eC (.bool i)) := ⟨_, pe_bl, fun B ca ρ cs Hf σ H Q r h => h.ret_ r _ (.bl i)⟩
theorem de_str {i j} : DE X W (.Constant (.str i) j pos) (eC (.str i)) := ⟨_, pe_str, fun B ca ρ cs Hf σ H Q r h => h.ret_ r _ (.str i)⟩
theorem de_non {j} : DE X W (.Constant .none j pos) (eC .none) := ⟨_, pe_non, fun B ca ρ cs Hf σ H Q r h => h.ret_ r _ .non⟩
theorem de_globI {x : Str} {i : Int} {t : Tok} (hm : X.mg x = some (.int i t)) (hg : Gl X x := by rfl) (hd : (x == ("__debug__" : Str)) = false := by decide) : DE X W (.Name x pos) (eC (.int i)) :=
  ⟨_, pe_glob (v := .int i) hg hm ⟨t, rfl⟩ hd, fun B ca ρ cs Hf σ H Q r h => h.ret_ r _ (.int i)⟩
theorem de_globF {x : Str} {a : Addr} (hm : X.mg x = some (.ref a)) (hg : Gl X x := by rfl) (hd : (x == ("__debug__" : Str)) = false := by decide) : DE X W (.Name x pos) (eFn a) :=
  ⟨_, pe_glob (v := .ref a) hg hm rfl hd, fun B ca ρ cs Hf σ H Q r h => h.ret_ r _ rfl⟩
theorem de_globS {x y : Str} {t : Tok} (hm : X.mg x = some (.str y t)) (hg : Gl X x := by rfl) (hd : (x == ("__debug__" : Str)) = false := by decide) : DE X W (.Name x pos) (eC (.str y)) :=
  ⟨_, pe_glob (v := .str y) hg hm ⟨t, rfl⟩ hd, fun B ca ρ cs Hf σ H Q r h => h.ret_ r _ (.str y)⟩
theorem DO.frz {f : List S → M Rv} (h : DO X W a f) : DE X W a (eFrz f) := by
  obtain ⟨t, p, k⟩ := h
  refine ⟨t, p, fun B ca ρ cs Hf σ H Q r h => ?_⟩
  refine k B ca ρ cs Hf σ H Q r (h.bind.mono fun ca1 Hf1 H1 cs1 rv n1 r1 h1 v hv => ?_)
  cases rv with
  | d x => exact h1.ret_ r1 v hv
  | cel j => exact h1.ret_ r1 v hv
  | own o =>
    cases o with
    | lst xs =>
      obtain ⟨Hf2, r2, n2, dp⟩ := r1.own hv
      exact h1 ca1 Hf2 H1 n2 r2 v dp
    | dK kvs => exact h1.elim
theorem DE.rv (h : DE X W a fa) : DO X W a (eRv fa) := by
  obtain ⟨t, p, k⟩ := h
  refine ⟨t, p, fun B ca ρ cs Hf σ H Q r h => ?_⟩
  refine k B ca ρ cs Hf σ H Q r (h.bind.mono fun ca1 Hf1 H1 cs1 s n1 r1 h1 v hv => ?_)
  cases s with
  | d x => exact h1.ret_ r1 v hv
  | cel j => exact h1.ret_ r1 v hv
  | fn a => exact h1.elim
  | no => exact h1.elim
theorem de_op {op : Operator} {g : D → D → Option D} (ho : OpR X (binaryOp op) (rD g)) (ha : DE X W a fa) (hb : DE X W b fb) : DE X W (.BinOp a op b pos) (eBin g fa fb) := by
  obtain ⟨ta, pa, ka⟩ := ha
  obtain ⟨tb, pb, kb⟩ := hb
  refine ⟨_, pe_op ho pa pb, fun B ca ρ cs Hf σ H Q r h => ?_⟩
  refine op2_run ka kb r h fun ca2 Hf2 H2 cs2 x y da db z n2 r2 hx hy hz h2 => ?_
  refine ⟨Hf2, da, db, z, hz, r2.ext, hx, hy, fun v Hf3 H3 g3 dv => ?_⟩
  obtain ⟨r3, n3⟩ := r2.gw g3
  exact h2 ca2 Hf3 H3 n3 r3 v dv
theorem de_cmp {op : CmpOp} {g : D → D → Option Bool} (ho : OpR X (compareOp op) (rDb g)) (ha : DE X W a fa) (hb : DE X W b fb) (hm : behindInMarks op b = false := by rfl) : DE X W (.Compare a [op] [b] pos) (eCmp g fa fb) := by
  obtain ⟨ta, pa, ka⟩ := ha
  obtain ⟨tb, pb, kb⟩ := hb
  refine ⟨_, pe_cmpR ho pa pb hm, fun B ca ρ cs Hf σ H Q r h => ?_⟩
  refine op2_run ka kb r h fun ca2 Hf2 H2 cs2 x y da db z n2 r2 hx hy hz h2 => ?_
  exact ⟨Hf2, da, db, z, hz, r2.ext, hx, hy, h2.ret_ r2 _ (.bl z)⟩
theorem dt_cmp {op : CmpOp} {g : D → D → Option Bool} (ho : OpR X (compareOp op) (rDb g)) (ha : DE X W a fa) (hb : DE X W b fb) (hm : behindInMarks op b = false := by rfl) : DT X W (.Compare a [op] [b] pos) (op2 g fa fb) := by
  obtain ⟨ta, pa, ka⟩ := ha
  obtain ⟨tb, pb, kb⟩ := hb
  refine ⟨_, pt_cmpR ho pa pb hm, fun B ca ρ cs Hf σ H Q r h => ?_⟩
  refine op2_run ka kb r h.rest fun ca2 Hf2 H2 cs2 x y da db z n2 r2 hx hy hz h2 => ?_
  exact ⟨Hf2, da, db, z, hz, r2.ext, hx, hy, z, rfl, h2.ret_ r2⟩
theorem isn_dec {da : D} {x : V} {k : Bool} (hx : Dd H x da) (hz : isnD da = some k) : decide (x = V.non) = k := by
  cases hx <;> (unfold isnD at hz; cases hz; first | rfl | simp)
theorem de_isn {j p} (ha : DE X W a fa) : DE X W (.Compare a [.Is] [.Constant .none j p] pos) (eIsN fa) := by
  obtain ⟨ta, pa, ka⟩ := ha
  refine ⟨_, pe_cmpR op_isN pa pe_non rfl, fun B ca ρ cs Hf σ H Q r h => ?_⟩
  refine op1_run ka r h fun ca2 Hf2 H2 cs2 x da z n2 r2 hx hz h2 => ?_
  refine ⟨rfl, ?_⟩
  rw [isn_dec hx.1 hz]
  exact h2.ret_ r2 _ (.bl z)
theorem de_isnn {j p} (ha : DE X W a fa) : DE X W (.Compare a [.IsNot] [.Constant .none j p] pos) (eIsNN fa) := by
  obtain ⟨ta, pa, ka⟩ := ha
  refine ⟨_, pe_cmpR op_notN pa pe_non rfl, fun B ca ρ cs Hf σ H Q r h => ?_⟩
  refine op1_run ka r h fun ca2 Hf2 H2 cs2 x da z n2 r2 hx hz h2 => ?_
  refine ⟨rfl, ?_⟩
  rw [isn_dec hx.1 hz]
  exact h2.ret_ r2 _ (.bl (!z))
theorem dt_isn {j p} (ha : DE X W a fa) : DT X W (.Compare a [.Is] [.Constant .none j p] pos) (op1 isnD fa) := by
  obtain ⟨ta, pa, ka⟩ := ha
  refine ⟨_, pt_cmpR op_isN pa pe_non rfl, fun B ca ρ cs Hf σ H Q r h => ?_⟩
  refine op1_run ka r h.rest fun ca2 Hf2 H2 cs2 x da z n2 r2 hx hz h2 => ?_
  refine ⟨rfl, z, by rw [isn_dec hx.1 hz], h2.ret_ r2⟩
theorem dt_isnn {j p} (ha : DE X W a fa) : DT X W (.Compare a [.IsNot] [.Constant .none j p] pos) (tNotM (op1 isnD fa)) := by
  obtain ⟨ta, pa, ka⟩ := ha
  refine ⟨_, pt_cmpR op_notN pa pe_non rfl, fun B ca ρ cs Hf σ H Q r h => ?_⟩
  refine op1_run ka r h fun ca2 Hf2 H2 cs2 x da z n2 r2 hx hz h2 => ?_
  refine ⟨rfl, !z, by rw [isn_dec hx.1 hz], h2.ret_ r2⟩
/-- an expression's truth as a test -/
theorem dt_tru (ha : DE X W a fa) (he : ∀ whole, isTrue a X.env whole = (do let v ← whole; standAt a.pos; holding [v] (truthy v)) := by intro _; rfl) : DT X W a (tT fa) := by
  obtain ⟨ta, pa, ka⟩ := ha
  refine ⟨_, pt_truth pa he, fun B ca ρ cs Hf σ H Q r h => ?_⟩
  refine op1_run ka r h.rest fun ca2 Hf2 H2 cs2 x da z n2 r2 hx hz h2 => ?_
  exact ⟨z, tru_dd hx.1 hz, h2.ret_ r2⟩
theorem dt_not {f : List S → M Bool} (ha : DT X W a f) : DT X W (.UnaryOp .Not a pos) (tNotM f) := by
  obtain ⟨ta, pa, ka⟩ := ha
  refine ⟨_, pt_not pa, fun B ca ρ cs Hf σ H Q r h => ?_⟩
  exact ka B ca ρ cs Hf σ H _ r (h.bind.mono fun ca1 Hf1 H1 cs1 z n1 r1 h1 => h1.ret_ r1)
theorem DW.dt {f : List S → M Bool} (h : DW X W a f) : DT X W a f := let ⟨t, p, k⟩ := h; ⟨t, p.pt, k⟩
variable {f g : List S → M Bool} {rest : List Expr}
theorem dw_and1 (h : DT X W a f) : DW X W (.BoolOp .And [a] pos) f := let ⟨t, p, k⟩ := h; ⟨t, pw_and1 p, k⟩
theorem dw_or1 (h : DT X W a f) : DW X W (.BoolOp .Or [a] pos) f := let ⟨t, p, k⟩ := h; ⟨t, pw_or1 p, k⟩
theorem dw_and (ha : DT X W a f) (hb : DW X W (.BoolOp .And (b :: rest) pos) g) : DW X W (.BoolOp .And (a :: b :: rest) pos) (tAndM f g) := by
  obtain ⟨ta, pa, ka⟩ := ha
  obtain ⟨tb, pb, kb⟩ := hb
  refine ⟨_, pw_and pa pb, fun B ca ρ cs Hf σ H Q r h => ?_⟩
  refine ka B ca ρ cs Hf σ H _ r (h.bind.mono fun ca1 Hf1 H1 cs1 z n1 r1 h1 => ?_)
  cases z with
  | true => exact kb B ca1 ρ cs1 Hf1 σ H1 Q r1 h1
  | false => exact h1.ret_ r1
theorem dw_or (ha : DT X W a f) (hb : DW X W (.BoolOp .Or (b :: rest) pos) g) : DW X W (.BoolOp .Or (a :: b :: rest) pos) (tOrM f g) := by
  obtain ⟨ta, pa, ka⟩ := ha
  obtain ⟨tb, pb, kb⟩ := hb
  refine ⟨_, pw_or pa pb, fun B ca ρ cs Hf σ H Q r h => ?_⟩
  refine ka B ca ρ cs Hf σ H _ r (h.bind.mono fun ca1 Hf1 H1 cs1 z n1 r1 h1 => ?_)
  cases z with
  | true => exact h1.ret_ r1
  | false => exact kb B ca1 ρ cs1 Hf1 σ H1 Q r1 h1
theorem de_one {op} (h : DE X W a fa) : DE X W (.BoolOp op [a] pos) fa := let ⟨t, p, k⟩ := h; ⟨t, pe_one p, k⟩
theorem de_and (ha : DE X W a fa) (hb : DE X W (.BoolOp .And (b :: rest) pos) fb) : DE X W (.BoolOp .And (a :: b :: rest) pos) (eAndM fa fb) := by
  obtain ⟨ta, pa, ka⟩ := ha
  obtain ⟨tb, pb, kb⟩ := hb
  refine ⟨_, pe_andT pa pb, fun B ca ρ cs Hf σ H Q r h => ?_⟩
  refine ka B ca ρ cs Hf σ H _ r (h.bind.mono fun ca1 Hf1 H1 cs1 s n1 r1 h1 v hv => ?_)
  obtain ⟨d, e1, h2⟩ := vwM_ r1 h1
  obtain ⟨z, e2, h3⟩ := ofOb_ h2
  refine ⟨z, tru_dd (vw_ok r1 hv e1).1 e2, ?_⟩
  cases z with
  | true => exact kb B ca1 ρ cs1 Hf1 σ H1 Q r1 h3
  | false => exact h3.ret_ r1 v hv
theorem de_or (ha : DE X W a fa) (hb : DE X W (.BoolOp .Or (b :: rest) pos) fb) : DE X W (.BoolOp .Or (a :: b :: rest) pos) (eOrM fa fb) := by
  obtain ⟨ta, pa, ka⟩ := ha
  obtain ⟨tb, pb, kb⟩ := hb
  refine ⟨_, pe_orT pa pb, fun B ca ρ cs Hf σ H Q r h => ?_⟩
  refine ka B ca ρ cs Hf σ H _ r (h.bind.mono fun ca1 Hf1 H1 cs1 s n1 r1 h1 v hv => ?_)
  obtain ⟨d, e1, h2⟩ := vwM_ r1 h1
  obtain ⟨z, e2, h3⟩ := ofOb_ h2
  refine ⟨z, tru_dd (vw_ok r1 hv e1).1 e2, ?_⟩
  cases z with
  | true => exact h3.ret_ r1 v hv
  | false => exact kb B ca1 ρ cs1 Hf1 σ H1 Q r1 h3
theorem de_not (ha : DE X W a fa) : DE X W (.UnaryOp .Not a pos) (eNotM fa) := by
  obtain ⟨ta, pa, ka⟩ := ha
  refine ⟨_, pe_notT pa, fun B ca ρ cs Hf σ H Q r h => ?_⟩
  refine op1_run ka r h fun ca2 Hf2 H2 cs2 x da z n2 r2 hx hz h2 => ?_
  exact ⟨z, tru_dd hx.1 hz, h2.ret_ r2 _ (.bl (!z))⟩
theorem de_if (hc : DT X W c f) (ha : DE X W a fa) (hb : DE X W b fb) : DE X W (.IfExp c a b pos) (eIf f fa fb) := by
  obtain ⟨tc, pc, kc⟩ := hc
  obtain ⟨ta, pa, ka⟩ := ha
  obtain ⟨tb, pb, kb⟩ := hb
  refine ⟨_, pe_ifExp pc pa pb, fun B ca ρ cs Hf σ H Q r h => ?_⟩
  refine kc B ca ρ cs Hf σ H _ r (h.bind.mono fun ca1 Hf1 H1 cs1 z n1 r1 h1 => ?_)
  cases z with
  | true => exact ka B ca1 ρ cs1 Hf1 σ H1 Q r1 h1
  | false => exact kb B ca1 ρ cs1 Hf1 σ H1 Q r1 h1
theorem chn_run {ta tb tc : TE} {g g' : D → D → Option Bool} (ka : KE X W ta fa) (kb : KE X W tb fb) (kc : KE X W tc fc) {B : Hp} {ca : List Addr} {ρ : List S} {cs : Store} {Hf : Hp} {σ : L2.St} {H : Hp} (r : Rel B ca ρ cs Hf σ H) {R : Bool → Hp → Prop}
    (h : Gs X W B ca Hf ρ σ (tChn g g' fa fb fc ρ cs) (fun _ _ H' _ b => R b H')) : tChain (rDb g) (rDb g') ta tb tc σ H fun x H' => ∃ k, x = .bl k ∧ R k H' := by
  refine ka B ca ρ cs Hf σ H _ r (h.bind.mono fun ca1 Hf1 H1 cs1 s n1 r1 h1 x hx => ?_)
  refine kb B ca1 ρ cs1 Hf1 σ H1 _ r1 (h1.bind.mono fun ca2 Hf2 H2 cs2 s2 n2 r2 h2 y hy => ?_)
  obtain ⟨da, e1, h3⟩ := vwM_ r2 h2
  obtain ⟨db, e2, h4⟩ := vwM_ r2 h3
  obtain ⟨z, e3, h5⟩ := ofOb_ h4
  refine ⟨Hf2, da, db, z, e3, r2.ext, vw_ok r2 (hx.nx n2) e1, vw_ok r2 hy e2, z, rfl, ?_⟩
  cases z with
  | false => exact iteF ⟨false, rfl, h5.ret_ r2⟩
  | true =>
    refine iteT ?_
    have h5' : Gs X W B ca2 Hf2 ρ σ (bnd (fc ρ) (fun c => bnd (vwM s2) fun y' => bnd (vwM c) fun z => ofO (g' y' z)) cs2) (fun _ _ H' _ b => R b H') := h5
    refine kc B ca2 ρ cs2 Hf2 σ H2 _ r2 (h5'.bind.mono fun ca3 Hf3 H3 cs3 s3 n3 r3 h6 w hw => ?_)
    obtain ⟨db', e4, h7⟩ := vwM_ r3 h6
    obtain ⟨dc, e5, h8⟩ := vwM_ r3 h7
    obtain ⟨k, e6, h9⟩ := h8.ofO_ r3
    exact ⟨Hf3, db', dc, k, e6, r3.ext, vw_ok r3 (hy.nx n3) e4, vw_ok r3 hw e5, k, rfl, h9⟩
theorem dt_chn {op op' : CmpOp} {g g' : D → D → Option Bool} (ho : OpR X (compareOp op) (rDb g)) (ho' : OpR X (compareOp op') (rDb g')) (ha : DE X W a fa) (hb : DE X W b fb) (hc : DE X W c fc)
    (hm : lastMarks [op, op'] [b, c] = false := by with_unfolding_all rfl) : DT X W (.Compare a [op, op'] [b, c] pos) (tChn g g' fa fb fc) := by
  obtain ⟨ta, pa, ka⟩ := ha
  obtain ⟨tb, pb, kb⟩ := hb
  obtain ⟨tc, pc, kc⟩ := hc
  exact ⟨_, pt_chain ho ho' pa pb pc hm, fun B ca ρ cs Hf σ H Q r h => chn_run ka kb kc r h⟩
theorem de_chn {op op' : CmpOp} {g g' : D → D → Option Bool} (ho : OpR X (compareOp op) (rDb g)) (ho' : OpR X (compareOp op') (rDb g')) (ha : DE X W a fa) (hb : DE X W b fb) (hc : DE X W c fc)
    (hm : lastMarks [op, op'] [b, c] = false := by with_unfolding_all rfl) : DE X W (.Compare a [op, op'] [b, c] pos) (eChn g g' fa fb fc) := by
  obtain ⟨ta, pa, ka⟩ := ha
  obtain ⟨tb, pb, kb⟩ := hb
  obtain ⟨tc, pc, kc⟩ := hc
  have mono : ∀ {σ : L2.St} {H : Hp} {Q Q' : VK}, tChain (rDb g) (rDb g') ta tb tc σ H Q → tChain (rDb g) (rDb g') ta tb tc σ H Q := fun h => h
  refine ⟨_, pe_chain ho ho' pa pb pc hm, fun B ca ρ cs Hf σ H Q r h => ?_⟩
  refine ka B ca ρ cs Hf σ H _ r ?_
  have h0 : Gs X W B ca Hf ρ σ (bnd (fa ρ) (fun s => bnd (fun cs => bnd (fb ρ) (fun b => bnd (vwM s) fun x => bnd (vwM b) fun y => bnd (ofO (g x y)) fun k => if k = true then bnd (fc ρ) fun c => bnd (vwM b) fun y' => bnd (vwM c) fun z => ofO (g' y' z) else ret false) cs) fun b => ret (.d (.bool b))) cs) (fun ca' Hf' H' _ s => ∀ v, SvOk ca' Hf' s v → Q v H') := by
    have e : ∀ (m : M S) (k : S → M Bool) (k2 : Bool → M S), bnd (bnd m k) k2 cs = bnd m (fun s => bnd (k s) k2) cs := fun m k k2 => by
      unfold bnd
      cases m cs <;> rfl
    have h' := h
    unfold eChn tChn at h'
    rw [e] at h'
    exact h'
  refine h0.bind.mono fun ca1 Hf1 H1 cs1 s n1 r1 h1 x hx => ?_
  have h1' := h1.bind
  refine kb B ca1 ρ cs1 Hf1 σ H1 _ r1 (h1'.bind.mono fun ca2 Hf2 H2 cs2 s2 n2 r2 h2 y hy => ?_)
  obtain ⟨da, e1, h3⟩ := vwM_ r2 h2
  obtain ⟨db, e2, h4⟩ := vwM_ r2 h3
  obtain ⟨z, e3, h5⟩ := ofOb_ h4
  refine ⟨Hf2, da, db, z, e3, r2.ext, vw_ok r2 (hx.nx n2) e1, vw_ok r2 hy e2, z, rfl, ?_⟩
  cases z with
  | false => exact iteF ((h5.ret_ r2).ret_ r2 _ (.bl false))
  | true =>
    refine iteT ?_
    have h5' : Gs X W B ca2 Hf2 ρ σ (bnd (fc ρ) (fun c => bnd (vwM s2) fun y' => bnd (vwM c) fun z => ofO (g' y' z)) cs2) _ := h5
    refine kc B ca2 ρ cs2 Hf2 σ H2 _ r2 (h5'.bind.mono fun ca3 Hf3 H3 cs3 s3 n3 r3 h6 w hw => ?_)
    obtain ⟨db', e4, h7⟩ := vwM_ r3 h6
    obtain ⟨dc, e5, h8⟩ := vwM_ r3 h7
    obtain ⟨k, e6, h9⟩ := h8.ofO_ r3
    exact ⟨Hf3, db', dc, k, e6, r3.ext, vw_ok r3 (hy.nx n3) e4, vw_ok r3 hw e5, h9.ret_ r3 _ (.bl k)⟩
end
end Dn

set_option Elab.async false
set_option linter.all false
set_option maxRecDepth 100000
set_option maxHeartbeats 1000000
/-! Dn4: arguments, displays, subscripts, calls of built-ins. -/
namespace Dn
open PySem L2
abbrev KA (X : Cx) (W : WX) (t : TA) (f : List S → M (List S)) : Prop := ∀ (B : Hp) (ca : List Addr) (ρ : List S) (cs : Store) (Hf : Hp) (σ : L2.St) (H : Hp) (Q : List V → Hp → Prop), Rel B ca ρ cs Hf σ H →
  Gs X W B ca Hf ρ σ (f ρ cs) (fun ca' Hf' H' _ ss => ∀ vs, SvsOk ca' Hf' ss vs → Q vs H') → t σ H Q
section
variable {Hf H : Hp} {ca : List Addr}
theorem asD_dds : ∀ {ss : List S} {xs : List D} {vs : List V}, asD ss = some xs → SvsOk ca Hf ss vs → Dds Hf vs xs
  | [], xs, vs, e, h => by
    have : [] = xs := Option.some.inj e
    subst this
    cases h
    exact .nil
  | .d x :: r, xs, vs, e, h => by
    unfold asD at e
    cases q : asD r with
    | none => rw [q] at e; cases e
    | some ys =>
      rw [q] at e
      have : x :: ys = xs := Option.some.inj e
      subst this
      cases h with
      | cons h t => exact .cons h (asD_dds q t)
  | .cel j :: r, xs, vs, e, h => by cases e
  | .fn a :: r, xs, vs, e, h => by cases e
  | .no :: r, xs, vs, e, h => by cases e
end
section
variable {X : Cx} {W : WX} {a b e : Expr} {es : List Expr} {fa fb : List S → M S} {g : List S → M (List S)} {pos : Pos}
theorem da_nil : DA X W [] aNil := ⟨_, pa_nil, fun B ca ρ cs Hf σ H Q r h => h.ret_ r _ .nil⟩
theorem da_cons (ha : DE X W e fa) (hr : DA X W es g) (hs : starEach (e :: es) X.env = (false, eval e X.env) :: starEach es X.env := by rfl) : DA X W (e :: es) (aCons fa g) := by
  obtain ⟨ta, pa, ka⟩ := ha
  obtain ⟨tr, pr, kr⟩ := hr
  refine ⟨_, pa_cons pa pr hs, fun B ca ρ cs Hf σ H Q r h => ?_⟩
  refine ka B ca ρ cs Hf σ H _ r (h.bind.mono fun ca1 Hf1 H1 cs1 s n1 r1 h1 v hv => ?_)
  refine kr B ca1 ρ cs1 Hf1 σ H1 _ r1 (h1.bind.mono fun ca2 Hf2 H2 cs2 ss n2 r2 h2 vs hvs => ?_)
  exact h2.ret_ r2 _ (.cons (hv.nx n2) hvs)
theorem de_tup {k} (hr : DA X W es g) : DE X W (.Tuple es k pos) (eTup g) := by
  obtain ⟨tr, pr, kr⟩ := hr
  refine ⟨_, pe_tup pr, fun B ca ρ cs Hf σ H Q r h => ?_⟩
  refine kr B ca ρ cs Hf σ H _ r (h.bind.mono fun ca1 Hf1 H1 cs1 ss n1 r1 h1 vs hvs => ?_)
  obtain ⟨xs, e1, h2⟩ := ofOb_ h1
  have dd := asD_dds e1 hvs
  split at h2
  · rename_i hz
    refine ⟨by rw [dps_len dd]; exact hz, fun p hp => ?_⟩
    obtain ⟨r2, n2⟩ := r1.news (o := .tup vs) hp
    exact h2 ca1 _ _ n2 r2 _ (.tup (.inl upd_same) (dps_ex n2.ex dd))
  · exact h2.elim
theorem do_lst (hr : DA X W es g) : DO X W (.List es pos) (eLst g) := by
  obtain ⟨tr, pr, kr⟩ := hr
  refine ⟨_, pe_lst pr, fun B ca ρ cs Hf σ H Q r h => ?_⟩
  refine kr B ca ρ cs Hf σ H _ r (h.bind.mono fun ca1 Hf1 H1 cs1 ss n1 r1 h1 vs hvs => ?_)
  obtain ⟨xs, e1, h2⟩ := ofOb_ h1
  have dd := asD_dds e1 hvs
  split at h2
  · rename_i hz
    refine ⟨by rw [dps_len dd]; exact hz, fun p hp => ?_⟩
    obtain ⟨m1, m2, m3⟩ := r1.newIn hp
    exact h2 ca1 Hf1 _ Nx.refl (r1.grow (ex_new hp)) _ ⟨p, rfl, ⟨vs, upd_same, dd⟩, m1, m2, m3⟩
  · exact h2.elim
theorem de_ix (ha : DE X W a fa) (hb : DE X W b fb) (hs : PlainIx b := by exact fun _ _ => rfl) : DE X W (.Subscript a b pos) (eBin ixD fa fb) := by
  obtain ⟨ta, pa, ka⟩ := ha
  obtain ⟨tb, pb, kb⟩ := hb
  refine ⟨_, pe_ix ix_ok pa pb hs, fun B ca ρ cs Hf σ H Q r h => ?_⟩
  refine op2_run ka kb r h fun ca2 Hf2 H2 cs2 x y da db z n2 r2 hx hy hz h2 => ?_
  refine ⟨Hf2, da, db, z, hz, r2.ext, hx, hy, fun v Hf3 H3 g3 dv => ?_⟩
  obtain ⟨r3, n3⟩ := r2.gw g3
  exact h2 ca2 Hf3 H3 n3 r3 v dv
/-- a part of a slice -/
def DPo (X : Cx) (W : WX) (e : Option Expr) (f : List S → M (Option Int)) : Prop := ∃ t : TO, PO X e t ∧ ∀ (B : Hp) (ca : List Addr) (ρ : List S) (cs : Store) (Hf : Hp) (σ : L2.St) (H : Hp) (Q : Option Int → Hp → Prop), Rel B ca ρ cs Hf σ H →
  Gs X W B ca Hf ρ σ (f ρ cs) (fun ca' Hf' H' _ o => Q o H') → t σ H Q
theorem dpo_none : DPo X W none oNone := ⟨_, po_none, fun B ca ρ cs Hf σ H Q r h => h.ret_ r⟩
theorem dpo_some (ha : DE X W a fa) : DPo X W (some a) (oSome fa) := by
  obtain ⟨ta, pa, ka⟩ := ha
  refine ⟨_, po_some pa, fun B ca ρ cs Hf σ H Q r h => ?_⟩
  refine ka B ca ρ cs Hf σ H _ r (h.bind.mono fun ca1 Hf1 H1 cs1 s n1 r1 h1 v hv => ?_)
  cases s with
  | d x =>
    cases x with
    | int i =>
      have hv' : Dd Hf1 v (.int i) := hv
      cases hv'
      exact ⟨i, rfl, h1.ret_ r1⟩
    | _ => exact h1.elim
  | _ => exact h1.elim
theorem de_sl {lo hi : Option Expr} {p2 : Pos} {fl fh : List S → M (Option Int)} (ha : DE X W a fa) (hl : DPo X W lo fl) (hh : DPo X W hi fh) : DE X W (.Subscript a (.Slice lo hi none p2) pos) (eSl fa fl fh) := by
  obtain ⟨ta, pa, ka⟩ := ha
  obtain ⟨tl, pl, kl⟩ := hl
  obtain ⟨th, ph, kh⟩ := hh
  refine ⟨_, pe_slice sl_ok pa pl ph, fun B ca ρ cs Hf σ H Q r h => ?_⟩
  refine ka B ca ρ cs Hf σ H _ r (h.bind.mono fun ca1 Hf1 H1 cs1 s n1 r1 h1 v hv => ?_)
  refine kl B ca1 ρ cs1 Hf1 σ H1 _ r1 (h1.bind.mono fun ca2 Hf2 H2 cs2 o n2 r2 h2 => ?_)
  refine kh B ca2 ρ cs2 Hf2 σ H2 _ r2 (h2.bind.mono fun ca3 Hf3 H3 cs3 o' n3 r3 h3 => ?_)
  obtain ⟨d, e1, h4⟩ := vwM_ r3 h3
  obtain ⟨d', e2, h5⟩ := ofOb_ h4
  refine ⟨Hf3, d, d', e2, r3.ext, vw_ok r3 (hv.nx (n2.trans n3)) e1, fun w Hf4 H4 g4 dw => ?_⟩
  obtain ⟨r4, n4⟩ := r3.gw g4
  exact h5 ca3 Hf4 H4 n4 r4 w dw
end

/-! ### built-in functions of data -/
def rCd (g : List D → Option D) : List V → Hp → VK → Prop := fun vs H Q => ∃ Hf ds d, g ds = some d ∧ Ex Hf H ∧ Lvs Hf H vs ds ∧ ∀ v Hf' H', Gw Hf H Hf' H' → Dd Hf' v d → Q v H'
where Lvs (Hf H : Hp) : List V → List D → Prop
  | [], [] => True
  | v :: vs, d :: ds => Lv Hf H v d ∧ Lvs Hf H vs ds
  | _, _ => False
def vws : List S → Store → Option (List D)
  | [], _ => some []
  | s :: r, cs => match vw s cs, vws r cs with
    | some d, some ds => some (d :: ds)
    | _, _ => none
def vwsM (ss : List S) : M (List D) := fun cs => match vws ss cs with
  | some ds => .ok ds cs
  | none => .no
def eCd (g : List D → Option D) (f : List S → M (List S)) (ρ : List S) : M S := bnd (f ρ) fun ss => bnd (vwsM ss) fun ds => bnd (ofO (g ds)) fun d => ret (.d d)
theorem vwsM_ {X : Cx} {W : WX} {B : Hp} {ca : List Addr} {Hf : Hp} {ρ : List S} {σ : L2.St} {cs : Store} {β : Type} {P : List Addr → Hp → Hp → Store → β → Prop} {a : List S} {k : List D → M β} (h : Gs X W B ca Hf ρ σ (bnd (vwsM a) k cs) P) : ∃ d, vws a cs = some d ∧ Gs X W B ca Hf ρ σ (k d cs) P := by
  unfold bnd vwsM at h
  cases e : vws a cs with
  | none => rw [e] at h; exact h.elim
  | some d => rw [e] at h; exact ⟨d, rfl, h⟩
theorem vws_ok {B : Hp} {ca : List Addr} {ρ : List S} {cs : Store} {Hf : Hp} {σ : L2.St} {H : Hp} (r : Rel B ca ρ cs Hf σ H) : ∀ {ss : List S} {vs : List V} {ds : List D}, SvsOk ca Hf ss vs → vws ss cs = some ds → rCd.Lvs Hf H vs ds
  | [], _, ds, h, e => by
    have : [] = ds := Option.some.inj e
    subst this
    cases h
    trivial
  | s :: ss, _, ds, h, e => by
    cases h with
    | cons h t =>
      unfold vws at e
      split at e
      · rename_i d ds' e1 e2
        cases e
        exact ⟨vw_ok r h e1, vws_ok r t e2⟩
      · cases e
section
variable {X : Cx} {W : WX} {a b e : Expr} {es : List Expr} {fa fb : List S → M S} {g : List S → M (List S)} {pos : Pos}
theorem eCd_run {gd : List D → Option D} {t : TA} (k : KA X W t g) {B : Hp} {ca : List Addr} {ρ : List S} {cs : Store} {Hf : Hp} {σ : L2.St} {H : Hp} {Q : VK} (r : Rel B ca ρ cs Hf σ H)
    (h : Gs X W B ca Hf ρ σ (eCd gd g ρ cs) (fun ca' Hf' H' _ s => ∀ v, SvOk ca' Hf' s v → Q v H')) : tCB (rCd gd) t σ H Q := by
  refine k B ca ρ cs Hf σ H _ r (h.bind.mono fun ca1 Hf1 H1 cs1 ss n1 r1 h1 vs hvs => ?_)
  obtain ⟨ds, e1, h2⟩ := vwsM_ h1
  obtain ⟨d, e2, h3⟩ := ofOb_ h2
  refine ⟨Hf1, ds, d, e2, r1.ext, vws_ok r1 hvs e1, fun v Hf2 H2 g2 dv => ?_⟩
  obtain ⟨r3, n3⟩ := r1.gw g2
  exact h3 ca1 Hf2 H2 n3 r3 v dv
theorem de_callB {x : Str} {id : String} {p : Pos} {gd : List D → Option D} (hc : CallR X (.builtin id) (rCd gd)) (hm : X.mg x = none) (hv : bootBuiltins x = some (.builtin id)) (ha : DA X W (e :: es) g) (hg : Gl X x := by rfl) (hn : x ≠ "__name__" := by decide) (hdb : (x == ("__debug__" : Str)) = false := by decide)
    (he : starEach (e :: es) X.env = (false, eval e X.env) :: starEach es X.env := by rfl) (hpl : (backTo pos (starEach es X.env)).any (·.1) = false := by rfl) : DE X W (.Call (.Name x p) (e :: es) [] pos) (eCd gd g) := by
  obtain ⟨tr, pr, kr⟩ := ha
  exact ⟨_, pe_callB hc hg hm hv pr hn hdb he hpl, fun B ca ρ cs Hf σ H Q r h => eCd_run kr r h⟩
theorem de_callT {x : Str} {T : String} {p : Pos} {gd : List D → Option D} (hc : CallR X (.type T) (rCd gd)) (hm : X.mg x = none) (hv : bootBuiltins x = some (.type T)) (ha : DA X W (e :: es) g) (hg : Gl X x := by rfl) (hn : x ≠ "__name__" := by decide) (hdb : (x == ("__debug__" : Str)) = false := by decide)
    (he : starEach (e :: es) X.env = (false, eval e X.env) :: starEach es X.env := by rfl) (hpl : (backTo pos (starEach es X.env)).any (·.1) = false := by rfl) : DE X W (.Call (.Name x p) (e :: es) [] pos) (eCd gd g) := by
  obtain ⟨tr, pr, kr⟩ := ha
  exact ⟨_, pe_callTy hc hg hm hv pr hn hdb he hpl, fun B ca ρ cs Hf σ H Q r h => eCd_run kr r h⟩
end
def lenG : List D → Option D
  | [d] => (lenD d).map fun n => .int n
  | _ => none
def minG : List D → Option D
  | [.int i, .int j] => some (.int (if j < i then j else i))
  | _ => none
def maxG : List D → Option D
  | [.int i, .int j] => some (.int (if j > i then j else i))
  | _ => none
def absG : List D → Option D
  | [.int i] => some (.int (if i < 0 then -i else i))
  | _ => none
def intG : List D → Option D
  | [.int i] => some (.int i)
  | [.bool b] => some (.int (if b then 1 else 0))
  | _ => none
def listG : List D → Option D
  | [.list xs] => some (.list xs)
  | [.tuple xs] => some (.list xs)
  | _ => none
def tupleG : List D → Option D
  | [.list xs] => some (.tuple xs)
  | [.tuple xs] => some (.tuple xs)
  | _ => none
section
variable {X : Cx}
theorem lvs_one {Hf H : Hp} {vs : List V} {d : D} (h : rCd.Lvs Hf H vs [d]) : ∃ v, vs = [v] ∧ Lv Hf H v d := by
  match vs, h with
  | [v], h => exact ⟨v, rfl, h.1⟩
  | v :: _ :: _, h => exact h.2.elim
theorem lvs_two {Hf H : Hp} {vs : List V} {d d' : D} (h : rCd.Lvs Hf H vs [d, d']) : ∃ v v', vs = [v, v'] ∧ Lv Hf H v d ∧ Lv Hf H v' d' := by
  match vs, h with
  | [v, v'], h => exact ⟨v, v', rfl, h.1, h.2.1⟩
  | [_], h => exact h.2.elim
  | _ :: _ :: _ :: _, h => exact h.2.2.elim
theorem len_ok : CallR X (.builtin "len") (rCd lenG) := by
  intro pins s σ H xs us Q I r h
  obtain ⟨Hf, ds, d, e, ex, hl, q⟩ := h
  unfold lenG at e
  split at e
  · rename_i d0
    obtain ⟨v, rfl, hv⟩ := lvs_one hl
    cases z : lenD d0 with
    | none => rw [z] at e; cases e
    | some n =>
      rw [z] at e
      cases e
      refine call_len pins s σ H _ us Q I r ⟨v, n, rfl, ?_, q _ _ _ (Gw.refl ex) (.int _)⟩
      have d1 := hv.1
      cases d1 with
      | str x =>
        have z' : (if x.length ≤ sizeLine then some x.length else none) = some n := z
        split at z'
        · cases z'; exact ⟨by assumption, rfl⟩
        · cases z'
      | lst h a => cases z; exact .inl ⟨_, .inl h, (dps_len a).symm⟩
      | tup h a => cases z; exact .inr ⟨_, .inl h, (dps_len a).symm⟩
      | _ => cases z
  · cases e
theorem min_ok (hc : X.calm = true) : CallR X (.builtin "min") (rCd minG) := by
  intro pins s σ H xs us Q I r h
  obtain ⟨Hf, ds, d, e, ex, hl, q⟩ := h
  unfold minG at e
  split at e
  · cases e
    obtain ⟨v, v', rfl, h1, h2⟩ := lvs_two hl
    have := h1.int_; subst this
    have := h2.int_; subst this
    exact call_min2 hc pins s σ H _ us Q I r ⟨_, _, rfl, q _ _ _ (Gw.refl ex) (.int _)⟩
  · cases e
theorem max_ok (hc : X.calm = true) : CallR X (.builtin "max") (rCd maxG) := by
  intro pins s σ H xs us Q I r h
  obtain ⟨Hf, ds, d, e, ex, hl, q⟩ := h
  unfold maxG at e
  split at e
  · cases e
    obtain ⟨v, v', rfl, h1, h2⟩ := lvs_two hl
    have := h1.int_; subst this
    have := h2.int_; subst this
    exact call_max2 hc pins s σ H _ us Q I r ⟨_, _, rfl, q _ _ _ (Gw.refl ex) (.int _)⟩
  · cases e
theorem abs_ok : CallR X (.builtin "abs") (rCd absG) := by
  intro pins s σ H xs us Q I r h
  obtain ⟨Hf, ds, d, e, ex, hl, q⟩ := h
  unfold absG at e
  split at e
  · cases e
    obtain ⟨v, rfl, h1⟩ := lvs_one hl
    have := h1.int_; subst this
    exact call_abs pins s σ H _ us Q I r ⟨_, rfl, q _ _ _ (Gw.refl ex) (.int _)⟩
  · cases e
theorem int_ok : CallR X (.type "int") (rCd intG) := by
  intro pins s σ H xs us Q I r h
  obtain ⟨Hf, ds, d, e, ex, hl, q⟩ := h
  unfold intG at e
  split at e
  · cases e
    obtain ⟨v, rfl, h1⟩ := lvs_one hl
    have := h1.int_; subst this
    exact call_int1 pins s σ H _ us Q I r (.inl ⟨_, rfl, q _ _ _ (Gw.refl ex) (.int _)⟩)
  · cases e
    obtain ⟨v, rfl, h1⟩ := lvs_one hl
    have := h1.bl_; subst this
    exact call_int1 pins s σ H _ us Q I r (.inr ⟨_, rfl, q _ _ _ (Gw.refl ex) (.int _)⟩)
  · cases e
theorem list_ok : CallR X (.type "list") (rCd listG) := by
  intro pins s σ H xs us Q I r h
  obtain ⟨Hf, ds, d, e, ex, hl, q⟩ := h
  unfold listG at e
  split at e
  · cases e
    obtain ⟨v, rfl, h1⟩ := lvs_one hl
    obtain ⟨a, vs, rfl, g1, g2⟩ := h1.lst
    refine call_list_of pins s σ H _ us Q I r ⟨a, vs, rfl, .inl (.inl g1), fun l hl => ?_⟩
    have g := Gw.new (o := .lst vs) ex hl
    exact q _ _ _ g (.lst (.inl upd_same) (dps_ex g.ex g2))
  · cases e
    obtain ⟨v, rfl, h1⟩ := lvs_one hl
    obtain ⟨a, vs, rfl, g1, g2⟩ := h1.tup
    refine call_list_of pins s σ H _ us Q I r ⟨a, vs, rfl, .inr (.inl g1), fun l hl => ?_⟩
    have g := Gw.new (o := .lst vs) ex hl
    exact q _ _ _ g (.lst (.inl upd_same) (dps_ex g.ex g2))
  · cases e
theorem tuple_ok : CallR X (.type "tuple") (rCd tupleG) := by
  intro pins s σ H xs us Q I r h
  obtain ⟨Hf, ds, d, e, ex, hl, q⟩ := h
  unfold tupleG at e
  split at e
  · cases e
    obtain ⟨v, rfl, h1⟩ := lvs_one hl
    obtain ⟨a, vs, rfl, g1, g2⟩ := h1.lst
    refine call_tuple_of pins s σ H _ us Q I r ⟨a, vs, rfl, .inl ⟨.inl g1, fun l hl => ?_⟩⟩
    have g := Gw.new (o := .tup vs) ex hl
    exact q _ _ _ g (.tup (.inl upd_same) (dps_ex g.ex g2))
  · cases e
    obtain ⟨v, rfl, h1⟩ := lvs_one hl
    obtain ⟨a, vs, rfl, g1, g2⟩ := h1.tup
    exact call_tuple_of pins s σ H _ us Q I r ⟨a, vs, rfl, .inr ⟨.inl g1, q _ _ _ (Gw.refl ex) (h1.flat fun _ z => nomatch z)⟩⟩
  · cases e
/-- isinstance(x, T), T a built-in class -/
def eIsa (T : String) (fa : List S → M S) (ρ : List S) : M S := bnd (op1 (fun d => some (isaD T d)) fa ρ) fun b => ret (.d (.bool b))
theorem kit_isa {K : PySem.W.Frag} {H : Hp} {v : V} {d : D} {T : String} (h : Dd H v d) (hT : T = "int" ∨ T = "bool" ∨ T = "str" ∨ T = "list" ∨ T = "tuple" ∨ T = "dict") : PySem.W.kitOne K (.type (tyD d)) (.type T) = some (isaD T d) := by
  cases h <;> rcases hT with rfl | rfl | rfl | rfl | rfl | rfl <;> (refine kit_ty ?_; first | decide +kernel | rfl)
theorem de_isa {W : WX} {a : Expr} {fa : List S → M S} {p p2 pos : Pos} {T : String} {TS : Str} (ha : DE X W a fa) (hm : X.mg "isinstance" = none) (hmT : X.mg TS = none) (hT : T = "int" ∨ T = "bool" ∨ T = "str" ∨ T = "list" ∨ T = "tuple" ∨ T = "dict") (hv : bootBuiltins TS = some (.type T)) (hg : Gl X "isinstance" := by rfl) (hgT : Gl X TS := by rfl)
    (hn : TS ≠ "__name__" := by decide) (hdb : (TS == ("__debug__" : Str)) = false := by decide)
    (h1 : starEach [a, .Name TS p2] X.env = (false, eval a X.env) :: starEach [.Name TS p2] X.env := by rfl) (h2 : starEach [.Name TS p2] X.env = (false, eval (.Name TS p2) X.env) :: starEach [] X.env := by rfl) (h3 : (backTo pos (starEach [.Name TS p2] X.env)).any (·.1) = false := by rfl) :
    DE X W (.Call (.Name "isinstance" p) [a, .Name TS p2] [] pos) (eIsa T fa) := by
  obtain ⟨ta, pa, ka⟩ := ha
  refine ⟨_, pe_callB call_isi hg hm (by decide +kernel) (pa_cons pa (pa_cons (pe_bltn (v := .ty T) hgT hmT hv rfl hn hdb) pa_nil h2) h1) (by decide) (by decide) h1 h3, fun B ca ρ cs Hf σ H Q r h => ?_⟩
  refine op1_run ka r h fun ca2 Hf2 H2 cs2 x da z n2 r2 hx hz h2 => ?_
  cases hz
  exact ⟨x, .ty T, _, _, _, rfl, .ty T, ty_dd hx.1, kit_isa hx.1 hT, h2.ret_ r2 _ (.bl _)⟩
end
end Dn

set_option Elab.async false
set_option linter.all false
set_option maxRecDepth 100000
set_option maxHeartbeats 1000000
/-! Dn5: statements, loops, defs, calls. -/
namespace Dn
open PySem L2
inductive Out where
  | nx (ρ : List S) (cs : Store)
  | rt (r : Rv) (cs : Store)
  | bk (ρ : List S) (cs : Store)
  | ct (ρ : List S) (cs : Store)
  | er (c : Str) (ρ : List S) (cs : Store)
  | no
abbrev G := List S → Store → Out
section
variable (X : Cx) (W : WX)
def GO (B : Hp) (ca : List Addr) (Hf : Hp) (En : Ends) : Out → Prop
  | .nx ρ cs => ∀ ca' Hf' σ' H', Nx ca Hf ca' Hf' → Rel B ca' ρ cs Hf' σ' H' → En.nx σ' H'
  | .rt r cs => ∀ ca' Hf' ρ' σ' H' v, Nx ca Hf ca' Hf' → Rel B ca' ρ' cs Hf' σ' H' → RvOk B ca' Hf' H' r v → En.rt v H'
  | .bk ρ cs => ∀ ca' Hf' σ' H', Nx ca Hf ca' Hf' → Rel B ca' ρ cs Hf' σ' H' → En.bk σ' H'
  | .ct ρ cs => ∀ ca' Hf' σ' H', Nx ca Hf ca' Hf' → Rel B ca' ρ cs Hf' σ' H' → En.ct σ' H'
  | .er c ρ cs => ∀ ca' Hf' σ' H' cls, Nx ca Hf ca' Hf' → Rel B ca' ρ cs Hf' σ' H' → X.mg c = some cls → W cls none σ' H'
  | .no => False
abbrev KS (t : TS) (g : G) : Prop := ∀ (B : Hp) (ca : List Addr) (ρ : List S) (cs : Store) (Hf : Hp) (σ : L2.St) (H : Hp) (En : Ends), Rel B ca ρ cs Hf σ H → GO X W B ca Hf En (g ρ cs) → t En σ H
def DSt (st : Stmt) (g : G) : Prop := ∃ t : TS, PS X st t ∧ KS X W t g
def DSs (st : List Stmt) (g : G) : Prop := ∃ t : TS, PSs X st t ∧ KS X W t g
end
def stp {α : Type} (m : M α) (k : α → Store → Out) (ρ : List S) (cs : Store) : Out := match m cs with
  | .ok a cs' => k a cs'
  | .er c cs' => .er c ρ cs'
  | .no => .no
def gNil : G := fun ρ cs => .nx ρ cs
def gSeq (g h : G) : G := fun ρ cs => match g ρ cs with
  | .nx ρ' cs' => h ρ' cs'
  | o => o
def sSet (i : Nat) (f : List S → M S) : G := fun ρ => stp (f ρ) (fun s cs => .nx (ρ.set i s) cs) ρ
def sNew (i : Nat) (f : List S → M Rv) : G := fun ρ => stp (f ρ) (fun r cs => match r with
  | .own o => .nx (ρ.set i (.cel cs.length)) (cs ++ [o])
  | .d x => .nx (ρ.set i (.d x)) cs
  | .cel j => .nx (ρ.set i (.cel j)) cs) ρ
def sRet (f : List S → M Rv) : G := fun ρ => stp (f ρ) (fun r cs => .rt r cs) ρ
def sRetN : G := fun _ cs => .rt (.d .none) cs
def sExp (f : List S → M S) : G := fun ρ => stp (f ρ) (fun _ cs => .nx ρ cs) ρ
def sIf (t : List S → M Bool) (g h : G) : G := fun ρ => stp (t ρ) (fun b cs => if b = true then g ρ cs else h ρ cs) ρ
def sErr (c : Str) : G := fun ρ cs => .er c ρ cs
def gPass : G := fun ρ cs => .nx ρ cs
def gBrk : G := fun ρ cs => .bk ρ cs
def gCon : G := fun ρ cs => .ct ρ cs
def gNo : G := fun _ _ => .no
section
variable {X : Cx} {W : WX} {B : Hp} {ca ca1 : List Addr} {Hf Hf1 H : Hp} {ρ : List S} {σ : L2.St} {cs : Store} {En En' : Ends} {α : Type}
theorem GO.fwd {o : Out} (h : GO X W B ca Hf En o) (n : Nx ca Hf ca1 Hf1) : GO X W B ca1 Hf1 En o := by
  cases o with
  | nx ρ cs => exact fun ca' Hf' σ' H' n' r => h ca' Hf' σ' H' (n.trans n') r
  | rt v cs => exact fun ca' Hf' ρ' σ' H' v n' r => h ca' Hf' ρ' σ' H' v (n.trans n') r
  | bk ρ cs => exact fun ca' Hf' σ' H' n' r => h ca' Hf' σ' H' (n.trans n') r
  | ct ρ cs => exact fun ca' Hf' σ' H' n' r => h ca' Hf' σ' H' (n.trans n') r
  | er c ρ cs => exact fun ca' Hf' σ' H' cls n' r => h ca' Hf' σ' H' cls (n.trans n') r
  | no => exact h
theorem GO.stp_ {m : M α} {k : α → Store → Out} (h : GO X W B ca Hf En (stp m k ρ cs)) : Gs X W B ca Hf ρ σ (m cs) (fun ca1 Hf1 _ cs1 a => GO X W B ca1 Hf1 En (k a cs1)) := by
  unfold stp at h
  cases e : m cs with
  | ok a cs1 => rw [e] at h; exact fun ca1 Hf1 H1 n r => GO.fwd h n
  | er c cs1 => rw [e] at h; exact fun ca' Hf' H' cls n r => h ca' Hf' σ H' cls n r
  | no => rw [e] at h; exact h
theorem GO.nx_ (h : GO X W B ca Hf En (.nx ρ cs)) (r : Rel B ca ρ cs Hf σ H) : En.nx σ H := h ca Hf σ H Nx.refl r
end
section
variable {X : Cx} {W : WX} {st : Stmt} {sts : List Stmt} {g h : G} {a : Expr} {f : List S → M S} {fr : List S → M Rv} {pos : Pos}
theorem dss_nil : DSs X W [] gNil := ⟨_, pss_nil, fun B ca ρ cs Hf σ H En r h => h.nx_ r⟩
theorem dss_one (hs : DSt X W st g) : DSs X W [st] g := let ⟨t, p, k⟩ := hs; ⟨t, pss_one p, k⟩
theorem dss_cons (hs : DSt X W st g) (ht : DSs X W sts h) : DSs X W (st :: sts) (gSeq g h) := by
  obtain ⟨t, p, k⟩ := hs
  obtain ⟨u, q, l⟩ := ht
  refine ⟨_, pss_cons p q, fun B ca ρ cs Hf σ H En r hg => ?_⟩
  refine k B ca ρ cs Hf σ H { En with nx := u En } r ?_
  unfold gSeq at hg
  cases e : g ρ cs with
  | nx ρ' cs' => rw [e] at hg; exact fun ca' Hf' σ' H' n r' => l B ca' ρ' cs' Hf' σ' H' En r' (GO.fwd hg n)
  | rt v cs' => rw [e] at hg; exact hg
  | bk ρ' cs' => rw [e] at hg; exact hg
  | ct ρ' cs' => rw [e] at hg; exact hg
  | er c ρ' cs' => rw [e] at hg; exact hg
  | no => rw [e] at hg; exact hg
theorem dst_pass : DSt X W (.Pass pos) gPass := ⟨_, ps_pass, fun B ca ρ cs Hf σ H En r h => h.nx_ r⟩
theorem dst_brk : DSt X W (.Break pos) gBrk := ⟨_, ps_break, fun B ca ρ cs Hf σ H En r h => h ca Hf σ H Nx.refl r⟩
theorem dst_con : DSt X W (.Continue pos) gCon := ⟨_, ps_continue, fun B ca ρ cs Hf σ H En r h => h ca Hf σ H Nx.refl r⟩
theorem dst_no : DSt X W st gNo := ⟨_, ps_never, fun B ca ρ cs Hf σ H En r h => h.elim⟩
theorem dst_set (i : Nat) {x : Str} {pos' : Pos} (hN : X.N.Nodup) (ha : DE X W a f) (hi : X.N[i]? = some x := by rfl) (hx : Loc X.env.scope x := by first | exact Or.inl rfl | exact Or.inr rfl) (hs : swapsWith a (some (.Name x pos')) pos.line X.env = pure false := by rfl)
    (hf : X.fn x = true ∨ X.env.scope.names.lookup x = some .local := by first | exact .inl rfl | exact .inr rfl) : DSt X W (.Assign [.Name x pos'] a pos) (sSet i f) := by
  obtain ⟨t, p, k⟩ := ha
  refine ⟨_, ps_set hN hi hx p hs hf, fun B ca ρ cs Hf σ H En r hg => ?_⟩
  refine k B ca ρ cs Hf σ H _ r (hg.stp_.mono fun ca1 Hf1 H1 cs1 s n1 r1 h1 v hv => ?_)
  exact h1.nx_ (r1.set i hv)
theorem dst_new (i : Nat) {x : Str} {pos' : Pos} (hN : X.N.Nodup) (ha : DO X W a fr) (hi : X.N[i]? = some x := by rfl) (hx : Loc X.env.scope x := by first | exact Or.inl rfl | exact Or.inr rfl) (hs : swapsWith a (some (.Name x pos')) pos.line X.env = pure false := by rfl)
    (hf : X.fn x = true ∨ X.env.scope.names.lookup x = some .local := by first | exact .inl rfl | exact .inr rfl) : DSt X W (.Assign [.Name x pos'] a pos) (sNew i fr) := by
  obtain ⟨t, p, k⟩ := ha
  refine ⟨_, ps_set hN hi hx p hs hf, fun B ca ρ cs Hf σ H En r hg => ?_⟩
  refine k B ca ρ cs Hf σ H _ r (hg.stp_.mono fun ca1 Hf1 H1 cs1 rv n1 r1 h1 v hv => ?_)
  cases rv with
  | d x => exact h1.nx_ (r1.set (s := .d x) i hv)
  | cel j => exact h1.nx_ (r1.set (s := .cel j) i hv)
  | own o =>
    obtain ⟨a, rfl, r2, e2⟩ := r1.alloc hv
    exact h1 (ca1 ++ [a]) Hf1 _ H1 ⟨List.prefix_append _ _, fun _ _ h => h⟩ (r2.set (s := .cel cs1.length) i ⟨a, e2, rfl⟩)
theorem dst_ret (ha : DO X W a fr) : DSt X W (.Return (some a) pos) (sRet fr) := by
  obtain ⟨t, p, k⟩ := ha
  refine ⟨_, ps_ret p, fun B ca ρ cs Hf σ H En r hg => ?_⟩
  exact k B ca ρ cs Hf σ H _ r (hg.stp_.mono fun ca1 Hf1 H1 cs1 rv n1 r1 h1 v hv => h1 ca1 Hf1 ρ σ H1 v Nx.refl r1 hv)
theorem dst_retE (ha : DE X W a f) : DSt X W (.Return (some a) pos) (sRet (eRv f)) := dst_ret ha.rv
theorem dst_retN : DSt X W (.Return none pos) sRetN := ⟨_, ps_retN, fun B ca ρ cs Hf σ H En r h => h ca Hf ρ σ H _ Nx.refl r .non⟩
theorem dst_exp (ha : DE X W a f) (hs : swapsWith a none pos.line X.env = pure false := by rfl) : DSt X W (.Expr a pos) (sExp f) := by
  obtain ⟨t, p, k⟩ := ha
  refine ⟨_, ps_expr p hs, fun B ca ρ cs Hf σ H En r hg => ?_⟩
  exact k B ca ρ cs Hf σ H _ r (hg.stp_.mono fun ca1 Hf1 H1 cs1 rv n1 r1 h1 v hv => h1.nx_ r1)
theorem dst_if {t : List S → M Bool} {p q : List Stmt} (hc : DT X W a t) (hp : DSs X W p g) (hq : DSs X W q h) : DSt X W (.If a p q pos) (sIf t g h) := by
  obtain ⟨tc, pc, kc⟩ := hc
  obtain ⟨tp, pp, kp⟩ := hp
  obtain ⟨tq, pq, kq⟩ := hq
  refine ⟨_, ps_if pc pp pq, fun B ca ρ cs Hf σ H En r hg => ?_⟩
  refine kc B ca ρ cs Hf σ H _ r (hg.stp_.mono fun ca1 Hf1 H1 cs1 b n1 r1 h1 => ?_)
  cases b with
  | true => exact kp B ca1 ρ cs1 Hf1 σ H1 En r1 h1
  | false => exact kq B ca1 ρ cs1 Hf1 σ H1 En r1 h1
/-- raise X('..') -/
theorem dst_raise {C : Addr} {x m : Str} {j : Nat} {p p2 p3 : Pos} {bmB : List Value} {Bn newId initId : String} (tk : Takes X W) (F : ExcBaseFacts Bn newId initId bmB) (q : PySem.W.excIn X.K C bmB newId = true) (gC : X.mg x = some (.ref C)) (kC : PySem.W.keepIn X.K (.ref C) = true) (rs : Raises X (.ref C))
    (hc : X.calm = true := by rfl) (hg : Gl X x := by rfl) (hdb : (x == ("__debug__" : Str)) = false := by decide) : DSt X W (.Raise (some (.Call (.Name x p) [.Constant (.str m) j p2] [] p3)) none pos) (sErr x) :=
  ⟨_, ps_raise hc tk (pmk_own F q gC kC rs hg hdb), fun B ca ρ cs Hf σ H En r h => h ca Hf σ H _ Nx.refl r gC⟩
end

/-! ### loops -/
def gFor (tg : D → List S → Option (List S)) (body : G) : List D → G
  | [], ρ, cs => .nx ρ cs
  | x :: xs, ρ, cs => match tg x ρ with
    | none => .no
    | some ρ1 => match body ρ1 cs with
      | .nx ρ' cs' => gFor tg body xs ρ' cs'
      | .ct ρ' cs' => gFor tg body xs ρ' cs'
      | .bk ρ' cs' => .nx ρ' cs'
      | .rt r cs' => .rt r cs'
      | .er c ρ' cs' => .er c ρ' cs'
      | .no => .no
/-- a target -/
def DG (X : Cx) (tg : Expr) (g : D → List S → Option (List S)) : Prop := ∃ t : TG, PG X tg t ∧ ∀ (B : Hp) (ca : List Addr) (ρ ρ' : List S) (cs : Store) (Hf : Hp) (σ : L2.St) (H : Hp) (v : V) (d : D) (Q : L2.St → Hp → Prop), Rel B ca ρ cs Hf σ H → Dd Hf v d → g d ρ = some ρ' →
  (∀ σ', Rel B ca ρ' cs Hf σ' H → Q σ' H) → t v σ H Q
def gtN (i : Nat) (d : D) (ρ : List S) : Option (List S) := some (ρ.set i (.d d))
def gtT (gs : List D → List S → Option (List S)) (d : D) (ρ : List S) : Option (List S) := match d with
  | .tuple xs => gs xs ρ
  | _ => none
def gtsNil (xs : List D) (ρ : List S) : Option (List S) := match xs with
  | [] => some ρ
  | _ => none
def gtsCons (g : D → List S → Option (List S)) (gs : List D → List S → Option (List S)) (xs : List D) (ρ : List S) : Option (List S) := match xs with
  | x :: r => (g x ρ).bind (gs r)
  | [] => none
def DGs (X : Cx) (tgs : List Expr) (g : List D → List S → Option (List S)) : Prop := ∃ t : TGs, PGs X tgs t ∧ ∀ (B : Hp) (ca : List Addr) (ρ ρ' : List S) (cs : Store) (Hf : Hp) (σ : L2.St) (H : Hp) (vs : List V) (ds : List D) (Q : L2.St → Hp → Prop), Rel B ca ρ cs Hf σ H → Dds Hf vs ds → g ds ρ = some ρ' →
  (∀ σ', Rel B ca ρ' cs Hf σ' H → Q σ' H) → t vs σ H Q
section
variable {X : Cx} {pos : Pos}
theorem dg_name (i : Nat) {x : Str} (hN : X.N.Nodup) (hi : X.N[i]? = some x := by rfl) (hx : Loc X.env.scope x := by first | exact Or.inl rfl | exact Or.inr rfl)
    (hf : X.fn x = true ∨ X.env.scope.names.lookup x = some .local := by first | exact .inl rfl | exact .inr rfl) : DG X (.Name x pos) (gtN i) := by
  refine ⟨_, pg_name hN hi hx hf, fun B ca ρ ρ' cs Hf σ H v d Q r hv e q => ?_⟩
  cases e
  exact q _ (r.set i hv)
theorem dgs_nil : DGs X [] gtsNil := by
  refine ⟨_, pgs_nil, fun B ca ρ ρ' cs Hf σ H vs ds Q r hv e q => ?_⟩
  unfold gtsNil at e
  split at e
  · cases e
    cases hv
    exact ⟨rfl, q _ r⟩
  · cases e
theorem dgs_cons {tg : Expr} {tgs : List Expr} {g : D → List S → Option (List S)} {gs : List D → List S → Option (List S)} (h : DG X tg g) (hs : DGs X tgs gs)
    (he : (assignEach (tg :: tgs) X.env).map (·.2) = assign tg X.env :: (assignEach tgs X.env).map (·.2) := by rfl) : DGs X (tg :: tgs) (gtsCons g gs) := by
  obtain ⟨t, p, k⟩ := h
  obtain ⟨u, q, l⟩ := hs
  refine ⟨_, pgs_cons p q he, fun B ca ρ ρ' cs Hf σ H vs ds Q r hv e qq => ?_⟩
  unfold gtsCons at e
  split at e
  · rename_i x xs
    cases hv with
    | cons hv ht =>
      cases z : g x ρ with
      | none => rw [z] at e; cases e
      | some ρ1 =>
        rw [z] at e
        exact ⟨_, _, rfl, k B ca ρ ρ1 cs Hf σ H _ _ _ r hv z fun σ1 r1 => l B ca ρ1 ρ' cs Hf σ1 H _ _ Q r1 ht e qq⟩
  · cases e
theorem dg_tup {es : List Expr} {k : Nat} {gs : List D → List S → Option (List S)} (n : Nat) (hs : DGs X es gs) (hl : ∀ ds ρ ρ', gs ds ρ = some ρ' → ds.length = n) (hc : X.calm = true := by rfl)
    (hn : (assignEach es X.env).length = n := by rfl) (hst : (assignEach es X.env).findIdx? (·.1) = none := by rfl) : DG X (.Tuple es k pos) (gtT gs) := by
  obtain ⟨u, q, l⟩ := hs
  refine ⟨_, pg_tup hc q hn hst, fun B ca ρ ρ' cs Hf σ H v d Q r hv e qq => ?_⟩
  unfold gtT at e
  split at e
  · rename_i xs
    cases hv with
    | tup h1 h2 =>
      exact ⟨_, _, rfl, .inl (rd_ex r.ext h1), (dps_len h2).trans (hl _ _ _ e), l B ca ρ ρ' cs Hf σ H _ _ Q r h2 e qq⟩
  · cases e
end
theorem gts_len0 (ds : List D) (ρ ρ' : List S) (h : gtsNil ds ρ = some ρ') : ds.length = 0 := by
  unfold gtsNil at h
  split at h
  · rfl
  · cases h
theorem gts_lenS {g : D → List S → Option (List S)} {gs : List D → List S → Option (List S)} {n : Nat} (hl : ∀ ds ρ ρ', gs ds ρ = some ρ' → ds.length = n) (ds : List D) (ρ ρ' : List S) (h : gtsCons g gs ds ρ = some ρ') : ds.length = n + 1 := by
  unfold gtsCons at h
  split at h
  · rename_i x r
    cases z : g x ρ with
    | none => rw [z] at h; cases h
    | some ρ1 => rw [z] at h; rw [List.length_cons, hl _ _ _ h]
  · cases h

/-- what is walked: the items are given ahead of the first turn -/
def DI (X : Cx) (W : WX) (tg iter : Expr) (f : List S → M (List D)) : Prop := ∃ wi : TI, PI X tg iter wi ∧ ∀ (B : Hp) (ca : List Addr) (ρ : List S) (cs : Store) (Hf : Hp) (σ : L2.St) (H : Hp) (R : It → Hp → Prop), Rel B ca ρ cs Hf σ H →
  Gs X W B ca Hf ρ σ (f ρ cs) (fun ca' Hf' H' cs' xs => ∀ J, (∀ B2 ca2 ρ2 cs2 Hf2 σ2 H2 (i : Nat), Nx ca' Hf' ca2 Hf2 → Rel B2 ca2 ρ2 cs2 Hf2 σ2 H2 → i ≤ xs.length →
      (i = xs.length → J.stop i H2) ∧ (i < xs.length → J.go i H2 ∧ ∀ x H3, J.yld i H2 x H3 → ∃ Hf3, Nx ca2 Hf2 ca2 Hf3 ∧ Rel B2 ca2 ρ2 cs2 Hf3 σ2 H3 ∧ ∃ d, xs[i]? = some d ∧ Dd Hf3 x d)) → R J H') → wi σ H R
def iSeq (f : List S → M S) (ρ : List S) : M (List D) := bnd (f ρ) fun s => match s with
  | .d (.list xs) => ret xs
  | _ => stuck
def iTupM (f : List S → M S) (ρ : List S) : M (List D) := bnd (f ρ) fun s => match s with
  | .d (.tuple xs) => ret xs
  | _ => stuck
def rngD (lo : Int) (n : Nat) : List D := (List.range n).map fun i => .int (lo + (i : Nat))
def iRng (f : List S → M S) (ρ : List S) : M (List D) := bnd (f ρ) fun s => match s with
  | .d (.int j) => if -(2 ^ 62) ≤ j ∧ j < 2 ^ 62 then ret (rngD 0 j.toNat) else stuck
  | _ => stuck
def iRngTwo (f g : List S → M S) (ρ : List S) : M (List D) := bnd (f ρ) fun s => bnd (g ρ) fun s' => match s, s' with
  | .d (.int i), .d (.int j) => if -(2 ^ 62) ≤ i ∧ i < 2 ^ 62 ∧ -(2 ^ 62) ≤ j ∧ j < 2 ^ 62 then ret (rngD i (j - i).toNat) else stuck
  | _, _ => stuck
theorem rngD_get {lo : Int} {n i : Nat} (h : i < n) : (rngD lo n)[i]? = some (.int (lo + (i : Nat))) := by
  unfold rngD
  rw [List.getElem?_map, List.getElem?_range h]; rfl
theorem rngD_len {lo : Int} {n : Nat} : (rngD lo n).length = n := by unfold rngD; simp
section
variable {X : Cx} {W : WX} {a b tg : Expr} {fa fb : List S → M S} {pos : Pos}
theorem rdl_inj {Hh : Hp} {a : Addr} {xs ys : List V} (h : Rd Hh a (.lst xs)) (h' : SqL X.K Hh a ys) (I : ∀ K : PySem.W.Frag, True) : True := trivial
theorem di_list (ha : DE X W a fa) : DI X W tg a (iSeq fa) := by
  obtain ⟨t, p, k⟩ := ha
  refine ⟨_, pi_list p, fun B ca ρ cs Hf σ H R r h => ?_⟩
  refine k B ca ρ cs Hf σ H _ r (h.bind.mono fun ca1 Hf1 H1 cs1 s n1 r1 h1 v hv => ?_)
  cases s with
  | d x =>
    cases x with
    | list xs =>
      have hv' : Dd Hf1 v (.list xs) := hv
      cases hv' with
      | lst g1 g2 =>
        rename_i l vs
        refine ⟨l, rfl, ⟨vs, .inl (rd_ex r1.ext g1)⟩, ?_⟩
        refine (h1.ret_ r1) _ fun B2 ca2 ρ2 cs2 Hf2 σ2 H2 i n2 r2 hi => ⟨fun e => ⟨vs, .inl (rd_ex (fun a o h => r2.ext a o (n2.ex a o h)) g1), by rw [dps_len g2]; omega⟩, fun hi' => ?_⟩
        have hx : xs[i]? = some xs[i] := by simp [hi']
        obtain ⟨w, e1, e2⟩ := dps_get g2 hx
        refine ⟨⟨vs, w, .inl (rd_ex (fun a o h => r2.ext a o (n2.ex a o h)) g1), e1⟩, fun x H3 y => ?_⟩
        obtain ⟨rfl, y⟩ := y
        have y1 := y vs (.inl (rd_ex (fun a o h => r2.ext a o (n2.ex a o h)) g1))
        rw [e1] at y1
        cases y1
        exact ⟨Hf2, Nx.refl, r2, xs[i], hx, dp_ex n2.ex e2⟩
    | _ => exact h1.elim
  | _ => exact h1.elim
theorem di_tup (ha : DE X W a fa) : DI X W tg a (iTupM fa) := by
  obtain ⟨t, p, k⟩ := ha
  refine ⟨_, pi_tup p, fun B ca ρ cs Hf σ H R r h => ?_⟩
  refine k B ca ρ cs Hf σ H _ r (h.bind.mono fun ca1 Hf1 H1 cs1 s n1 r1 h1 v hv => ?_)
  cases s with
  | d x =>
    cases x with
    | tuple xs =>
      have hv' : Dd Hf1 v (.tuple xs) := hv
      cases hv' with
      | tup g1 g2 =>
        rename_i l vs
        refine ⟨l, rfl, ⟨vs, .inl (rd_ex r1.ext g1)⟩, ?_⟩
        refine (h1.ret_ r1) _ fun B2 ca2 ρ2 cs2 Hf2 σ2 H2 i n2 r2 hi => ⟨fun e => ⟨vs, .inl (rd_ex (fun a o h => r2.ext a o (n2.ex a o h)) g1), by rw [dps_len g2]; omega⟩, fun hi' => ?_⟩
        have hx : xs[i]? = some xs[i] := by simp [hi']
        obtain ⟨w, e1, e2⟩ := dps_get g2 hx
        refine ⟨⟨vs, w, .inl (rd_ex (fun a o h => r2.ext a o (n2.ex a o h)) g1), e1⟩, fun x H3 y => ?_⟩
        obtain ⟨rfl, y⟩ := y
        have y1 := y vs (.inl (rd_ex (fun a o h => r2.ext a o (n2.ex a o h)) g1))
        rw [e1] at y1
        cases y1
        exact ⟨Hf2, Nx.refl, r2, xs[i], hx, dp_ex n2.ex e2⟩
    | _ => exact h1.elim
  | _ => exact h1.elim
theorem di_rng {p : Pos} (ha : DE X W a fa) (hm : X.mg "range" = none) (hg : Gl X "range" := by rfl) (hs : starEach [a] X.env = [(false, eval a X.env)] := by rfl) : DI X W tg (.Call (.Name "range" p) [a] [] pos) (iRng fa) := by
  obtain ⟨t, q, k⟩ := ha
  refine ⟨_, pi_range1 hg hm (pa_cons q pa_nil hs) hs, fun B ca ρ cs Hf σ H R r h => ?_⟩
  refine k B ca ρ cs Hf σ H _ r (h.bind.mono fun ca1 Hf1 H1 cs1 s n1 r1 h1 v hv => ?_)
  cases s with
  | d x =>
    cases x with
    | int j =>
      have hv' : Dd Hf1 v (.int j) := hv
      cases hv'
      have h2 : Gs X W B ca1 Hf1 ρ σ ((if -(2 ^ 62) ≤ j ∧ j < 2 ^ 62 then ret (rngD 0 j.toNat) else stuck) cs1) _ := h1
      split at h2
      · rename_i hz
        refine ⟨j, rfl, hz.1, hz.2, ?_⟩
        refine (h2.ret_ r1) _ fun B2 ca2 ρ2 cs2 Hf2 σ2 H2 i n2 r2 hi => ⟨fun e => ?_, fun hi' => ?_⟩
        · rw [rngD_len] at e; exact Nat.le_of_eq e.symm
        · rw [rngD_len] at hi'
          refine ⟨hi', fun x H3 y => ?_⟩
          obtain ⟨rfl, rfl⟩ := y
          exact ⟨Hf2, Nx.refl, r2, _, rngD_get hi', .int _⟩
      · exact h2.elim
    | _ => exact h1.elim
  | _ => exact h1.elim
theorem di_rng2 {p : Pos} (ha : DE X W a fa) (hb : DE X W b fb) (hm : X.mg "range" = none) (hg : Gl X "range" := by rfl) (hs : starEach [a, b] X.env = [(false, eval a X.env), (false, eval b X.env)] := by rfl) (hs2 : starEach [b] X.env = [(false, eval b X.env)] := by rfl) :
    DI X W tg (.Call (.Name "range" p) [a, b] [] pos) (iRngTwo fa fb) := by
  obtain ⟨t, q, k⟩ := ha
  obtain ⟨t', q', k'⟩ := hb
  refine ⟨_, pi_range2 hg hm (pa_cons q (pa_cons q' pa_nil hs2) (by rw [hs, hs2])) hs hs2, fun B ca ρ cs Hf σ H R r h => ?_⟩
  refine k B ca ρ cs Hf σ H _ r (h.bind.mono fun ca1 Hf1 H1 cs1 s n1 r1 h1 v hv => ?_)
  refine k' B ca1 ρ cs1 Hf1 σ H1 _ r1 (h1.bind.mono fun ca2 Hf2 H2 cs2 s' n2 r2 h2 v' hv' => ?_)
  cases s with
  | d x =>
    cases x with
    | int i =>
      cases s' with
      | d x' =>
        cases x' with
        | int j =>
          have hv1 : Dd Hf1 v (.int i) := hv
          cases hv1
          have hv2 : Dd Hf2 v' (.int j) := hv'
          cases hv2
          have h3 : Gs X W B ca2 Hf2 ρ σ ((if -(2 ^ 62) ≤ i ∧ i < 2 ^ 62 ∧ -(2 ^ 62) ≤ j ∧ j < 2 ^ 62 then ret (rngD i (j - i).toNat) else stuck) cs2) _ := h2
          split at h3
          · rename_i hz
            refine ⟨i, j, rfl, hz, ?_⟩
            refine (h3.ret_ r2) _ fun B3 ca3 ρ3 cs3 Hf3 σ3 H3 m n3 r3 hm => ⟨fun e => ?_, fun hm' => ?_⟩
            · rw [rngD_len] at e; exact Nat.le_of_eq e.symm
            · rw [rngD_len] at hm'
              refine ⟨hm', fun x H4 y => ?_⟩
              obtain ⟨rfl, rfl⟩ := y
              exact ⟨Hf3, Nx.refl, r3, _, rngD_get hm', .int _⟩
          · exact h3.elim
        | _ => exact h2.elim
      | _ => exact h2.elim
    | _ => exact h2.elim
  | _ => exact h2.elim
def sFor (tg : D → List S → Option (List S)) (it : List S → M (List D)) (body : G) : G := fun ρ => stp (it ρ) (fun xs cs => gFor tg body xs ρ cs) ρ
theorem dst_for {body : List Stmt} {g : D → List S → Option (List S)} {it : List S → M (List D)} {gb : G} (hp : PassesOwn (model X.prog X.w) X.A X.env X.xe) (hi : DI X W tg a it) (hg : DG X tg g) (hb : DSs X W body gb) (hc : X.calm = true := by rfl)
    (hs : ∀ x, foldedSetIterable a X.env x = pure x := by intro _; rfl) : DSt X W (.For tg a body [] pos) (sFor g it gb) := by
  obtain ⟨wi, pi, ki⟩ := hi
  obtain ⟨tgt, pg, kg⟩ := hg
  obtain ⟨tb, pb, kb⟩ := hb
  refine ⟨_, ps_for hp hc pi pg pb hs, fun B ca ρ cs Hf σ H En r h => ?_⟩
  refine ki B ca ρ cs Hf σ H _ r (h.stp_.mono fun ca1 Hf1 H1 cs1 xs n1 r1 h1 J hJ => ?_)
  refine ⟨fun i m σ2 H2 => m = xs.length - i ∧ i ≤ xs.length ∧ ∃ ca2 ρ2 cs2 Hf2, Nx ca1 Hf1 ca2 Hf2 ∧ Rel B ca2 ρ2 cs2 Hf2 σ2 H2 ∧ GO X W B ca2 Hf2 En (gFor g gb (xs.drop i) ρ2 cs2), ⟨xs.length, by simp, Nat.zero_le _, ca1, ρ, cs1, Hf1, Nx.refl, r1, h1⟩, ?_⟩
  rintro i m σ2 H2 ⟨rfl, hi, ca2, ρ2, cs2, Hf2, n2, r2, h2⟩
  obtain ⟨hstop, hgo⟩ := hJ B ca2 ρ2 cs2 Hf2 σ2 H2 i n2 r2 hi
  by_cases hlt : i < xs.length
  · obtain ⟨go, yl⟩ := hgo hlt
    refine .inr ⟨go, fun σ' H' => i + 1 ≤ xs.length ∧ ∃ ca2 ρ2 cs2 Hf2, Nx ca1 Hf1 ca2 Hf2 ∧ Rel B ca2 ρ2 cs2 Hf2 σ' H' ∧ GO X W B ca2 Hf2 En (gFor g gb (xs.drop (i + 1)) ρ2 cs2), fun σ' H' p' => ⟨xs.length - (i + 1), by omega, rfl, p'.1, p'.2⟩, fun x H3 y => ?_⟩
    obtain ⟨Hf3, n3, r3, d, ed, hd⟩ := yl x H3 y
    have ed' : xs.drop i = d :: xs.drop (i + 1) := by
      rw [List.drop_eq_getElem_cons hlt]
      rw [List.getElem?_eq_getElem hlt] at ed
      rw [Option.some.inj ed]
    rw [ed'] at h2
    have h2' : GO X W B ca2 Hf2 En (match g d ρ2 with
      | none => .no
      | some ρ1 => match gb ρ1 cs2 with
        | .nx ρ' cs' => gFor g gb (xs.drop (i + 1)) ρ' cs'
        | .ct ρ' cs' => gFor g gb (xs.drop (i + 1)) ρ' cs'
        | .bk ρ' cs' => .nx ρ' cs'
        | .rt r cs' => .rt r cs'
        | .er c ρ' cs' => .er c ρ' cs'
        | .no => .no) := h2
    cases eg : g d ρ2 with
    | none => rw [eg] at h2'; exact h2'.elim
    | some ρ1 =>
      rw [eg] at h2'
      have h3 : GO X W B ca2 Hf2 En (match gb ρ1 cs2 with
        | .nx ρ' cs' => gFor g gb (xs.drop (i + 1)) ρ' cs'
        | .ct ρ' cs' => gFor g gb (xs.drop (i + 1)) ρ' cs'
        | .bk ρ' cs' => .nx ρ' cs'
        | .rt r cs' => .rt r cs'
        | .er c ρ' cs' => .er c ρ' cs'
        | .no => .no) := h2'
      refine kg B ca2 ρ2 ρ1 cs2 Hf3 σ2 H3 x d _ r3 hd eg fun σ4 r4 => ?_
      refine kb B ca2 ρ1 cs2 Hf3 σ4 H3 _ r4 ?_
      have h4 := GO.fwd h3 n3
      cases eb : gb ρ1 cs2 with
      | nx ρ' cs' => rw [eb] at h4; exact fun ca' Hf' σ' H' n' r' => ⟨hlt, ca', ρ', cs', Hf', (n2.trans n3).trans n', r', GO.fwd h4 n'⟩
      | ct ρ' cs' => rw [eb] at h4; exact fun ca' Hf' σ' H' n' r' => ⟨hlt, ca', ρ', cs', Hf', (n2.trans n3).trans n', r', GO.fwd h4 n'⟩
      | bk ρ' cs' => rw [eb] at h4; exact fun ca' Hf' σ' H' n' r' => h4 ca' Hf' σ' H' n' r'
      | rt v cs' => rw [eb] at h4; exact h4
      | er c ρ' cs' => rw [eb] at h4; exact h4
      | no => rw [eb] at h4; exact h4.elim
  · have e : i = xs.length := by omega
    refine .inl ⟨hstop e, ?_⟩
    rw [e, List.drop_length] at h2
    exact GO.nx_ (show GO X W B ca2 Hf2 En (.nx ρ2 cs2) from h2) r2
def gWhile (t : List S → M Bool) (body : G) : Nat → G
  | 0, _, _ => .no
  | n + 1, ρ, cs => stp (t ρ) (fun b cs => if b = true then (match body ρ cs with
      | .nx ρ' cs' => gWhile t body n ρ' cs'
      | .ct ρ' cs' => gWhile t body n ρ' cs'
      | .bk ρ' cs' => .nx ρ' cs'
      | .rt r cs' => .rt r cs'
      | .er c ρ' cs' => .er c ρ' cs'
      | .no => .no) else .nx ρ cs) ρ cs
/-- the fuel may be any number -/
def sWhile (fuel : List S → Store → Nat) (t : List S → M Bool) (body : G) : G := fun ρ cs => gWhile t body (fuel ρ cs) ρ cs
theorem dst_while (fuel : List S → Store → Nat) {body : List Stmt} {t : List S → M Bool} {gb : G} (hp : PassesOwn (model X.prog X.w) X.A X.env X.xe) (hc : DT X W a t) (hb : DSs X W body gb) : DSt X W (.While a body [] pos) (sWhile fuel t gb) := by
  obtain ⟨tc, pc, kc⟩ := hc
  obtain ⟨tb, pb, kb⟩ := hb
  refine ⟨_, ps_while hp pc pb, fun B ca ρ cs Hf σ H En r h => ?_⟩
  refine ⟨fun m σ2 H2 => ∃ ca2 ρ2 cs2 Hf2, Rel B ca2 ρ2 cs2 Hf2 σ2 H2 ∧ GO X W B ca2 Hf2 En (gWhile t gb m ρ2 cs2), ⟨_, ca, ρ, cs, Hf, r, h⟩, ?_⟩
  rintro m σ2 H2 ⟨ca2, ρ2, cs2, Hf2, r2, h2⟩
  cases m with
  | zero => exact (show False from h2).elim
  | succ m =>
    have h2' : GO X W B ca2 Hf2 En (stp (t ρ2) (fun b cs => if b = true then (match gb ρ2 cs with
      | .nx ρ' cs' => gWhile t gb m ρ' cs'
      | .ct ρ' cs' => gWhile t gb m ρ' cs'
      | .bk ρ' cs' => .nx ρ' cs'
      | .rt r cs' => .rt r cs'
      | .er c ρ' cs' => .er c ρ' cs'
      | .no => .no) else .nx ρ2 cs) ρ2 cs2) := h2
    refine kc B ca2 ρ2 cs2 Hf2 σ2 H2 _ r2 (h2'.stp_.mono fun ca3 Hf3 H3 cs3 b n3 r3 h3 => ?_)
    cases b with
    | false => exact GO.nx_ (show GO X W B ca3 Hf3 En (.nx ρ2 cs3) from h3) r3
    | true =>
      have h4 : GO X W B ca3 Hf3 En (match gb ρ2 cs3 with
        | .nx ρ' cs' => gWhile t gb m ρ' cs'
        | .ct ρ' cs' => gWhile t gb m ρ' cs'
        | .bk ρ' cs' => .nx ρ' cs'
        | .rt r cs' => .rt r cs'
        | .er c ρ' cs' => .er c ρ' cs'
        | .no => .no) := h3
      refine ⟨fun σ' H' => ∃ ca2 ρ2 cs2 Hf2, Rel B ca2 ρ2 cs2 Hf2 σ' H' ∧ GO X W B ca2 Hf2 En (gWhile t gb m ρ2 cs2), fun σ' H' p' => ⟨m, Nat.lt_succ_self _, p'⟩, ?_⟩
      refine kb B ca3 ρ2 cs3 Hf3 σ2 H3 _ r3 ?_
      cases eb : gb ρ2 cs3 with
      | nx ρ' cs' => rw [eb] at h4; exact fun ca' Hf' σ' H' n' r' => ⟨ca', ρ', cs', Hf', r', GO.fwd h4 n'⟩
      | ct ρ' cs' => rw [eb] at h4; exact fun ca' Hf' σ' H' n' r' => ⟨ca', ρ', cs', Hf', r', GO.fwd h4 n'⟩
      | bk ρ' cs' => rw [eb] at h4; exact fun ca' Hf' σ' H' n' r' => h4 ca' Hf' σ' H' n' r'
      | rt v cs' => rw [eb] at h4; exact h4
      | er c ρ' cs' => rw [eb] at h4; exact h4
      | no => rw [eb] at h4; exact h4.elim
end
end Dn

set_option Elab.async false
set_option linter.all false
set_option maxRecDepth 100000
set_option maxHeartbeats 1000000
/-! Dn6: cells changed by methods and stores; defs and their calls. -/
namespace Dn
open PySem L2
/-- a method that changes the list of a cell: the answer, the new items -/
def rMt (g : List D → List D → Option (D × List D)) : V → List V → Hp → VK → Prop := fun x vs H Q => ∃ Hf l ws xs ds d ys, g xs ds = some (d, ys) ∧ Ex Hf H ∧ x = .ref l ∧ H l = some (.lst ws) ∧ Dds Hf ws xs ∧ Dds Hf vs ds ∧ xs.length ≤ sizeLine ∧
  ∀ v us, Dd Hf v d → Dds Hf us ys → Q v (upd H l (.lst us))
def celM (s : S) : M (Nat × List D) := fun cs => match s with
  | .cel j => match cs[j]? with
    | some (.lst xs) => .ok (j, xs) cs
    | _ => .no
  | _ => .no
def putM (j : Nat) (o : OC) : M Unit := fun cs => .ok () (cs.set j o)
def fin_ (g : List D → List D → Option (D × List D)) (s : S) (ss : List S) : M S :=
  bnd (celM s) fun p => bnd (ofO (asD ss)) fun ds => bnd (ofO (if p.2.length ≤ sizeLine then g p.2 ds else none)) fun q => bnd (putM p.1 (.lst q.2)) fun _ => ret (.d q.1)
def eMt (g : List D → List D → Option (D × List D)) (fo : List S → M S) (fa : List S → M (List S)) (ρ : List S) : M S := bnd (fo ρ) fun s => bnd (celM s) fun _ => bnd (fa ρ) fun ss => fin_ g s ss
def eMt0 (g : List D → List D → Option (D × List D)) (fo : List S → M S) (ρ : List S) : M S := bnd (fo ρ) fun s => fin_ g s []
def appG : List D → List D → Option (D × List D)
  | xs, [d] => if xs.length < sizeLine then some (.none, xs ++ [d]) else none
  | _, _ => none
def extG : List D → List D → Option (D × List D)
  | xs, [.list ys] => if xs.length + ys.length ≤ sizeLine then some (.none, xs ++ ys) else none
  | _, _ => none
def popG : List D → List D → Option (D × List D)
  | xs, [] => (xs[xs.length - 1]?).map fun d => (d, xs.dropLast)
  | _, _ => none
section
variable {X : Cx} {W : WX} {B : Hp} {ca : List Addr} {Hf H : Hp} {ρ : List S} {σ : L2.St} {cs : Store} {β : Type} {P : List Addr → Hp → Hp → Store → β → Prop}
theorem celM_ {a : S} {k : Nat × List D → M β} (h : Gs X W B ca Hf ρ σ (bnd (celM a) k cs) P) : ∃ j xs, a = .cel j ∧ cs[j]? = some (.lst xs) ∧ Gs X W B ca Hf ρ σ (k (j, xs) cs) P := by
  unfold bnd celM at h
  cases a with
  | cel j =>
    cases e : cs[j]? with
    | none => simp only [e] at h; exact h.elim
    | some o =>
      cases o with
      | lst xs => simp only [e] at h; exact ⟨j, xs, rfl, e, h⟩
      | dK _ => simp only [e] at h; exact h.elim
  | _ => exact h.elim
end
section
variable {X : Cx} {W : WX} {o e : Expr} {es : List Expr} {fo fb : List S → M S} {fa : List S → M (List S)} {name : Str} {id : String} {apos cpos pos : Pos} {g : List D → List D → Option (D × List D)}
theorem ty_cel {B : Hp} {ca : List Addr} {ρ : List S} {cs : Store} {Hf : Hp} {σ : L2.St} {H : Hp} {j : Nat} {xs : List D} {x : V} (r : Rel B ca ρ cs Hf σ H) (hx : SvOk ca Hf (.cel j) x) (e : cs[j]? = some (.lst xs)) :
    ∃ l ws, x = .ref l ∧ ca[j]? = some l ∧ H l = some (.lst ws) ∧ Dds Hf ws xs := by
  obtain ⟨l, h1, rfl⟩ := hx
  obtain ⟨ws, g1, g2⟩ := r.cell e h1
  exact ⟨l, ws, rfl, h1, g1, g2⟩
theorem fin_run {B : Hp} {ca : List Addr} {ρ : List S} {cs : Store} {Hf : Hp} {σ : L2.St} {H : Hp} {Q : VK} {s : S} {ss : List S} {x : V} {vs : List V} (r : Rel B ca ρ cs Hf σ H) (hx : SvOk ca Hf s x) (hv : SvsOk ca Hf ss vs)
    (h : Gs X W B ca Hf ρ σ (fin_ g s ss cs) (fun ca' Hf' H' _ s => ∀ v, SvOk ca' Hf' s v → Q v H')) : rMt g x vs H Q := by
  obtain ⟨j, xs, rfl, e1, h1⟩ := celM_ h
  obtain ⟨ds, e2, h2⟩ := ofOb_ h1
  obtain ⟨q, e3, h3⟩ := ofOb_ h2
  obtain ⟨l, ws, rfl, c1, c2, c3⟩ := ty_cel r hx e1
  dsimp only at e3
  split at e3
  · rename_i hz
    refine ⟨Hf, l, ws, xs, ds, q.1, q.2, e3, r.ext, rfl, c2, c3, asD_dds e2 hv, hz, fun v us hd hu => ?_⟩
    have r2 : Rel B ca ρ (cs.set j (.lst q.2)) Hf σ (upd H l (.lst us)) := r.write c1 ⟨us, upd_same, hu⟩
    exact h3 ca Hf _ Nx.refl r2 v hd
  · cases e3
theorem eMt_run {to : TE} {t : TA} (ko : KE X W to fo) (kt : KA X W t fa) {B : Hp} {ca : List Addr} {ρ : List S} {cs : Store} {Hf : Hp} {σ : L2.St} {H : Hp} {Q : VK} (r : Rel B ca ρ cs Hf σ H)
    (h : Gs X W B ca Hf ρ σ (eMt g fo fa ρ cs) (fun ca' Hf' H' _ s => ∀ v, SvOk ca' Hf' s v → Q v H')) : tBM X.K "list" (rMt g) to t σ H Q := by
  refine ko B ca ρ cs Hf σ H _ r (h.bind.mono fun ca1 Hf1 H1 cs1 s n1 r1 h1 x hx => ?_)
  obtain ⟨j, xs, rfl, e1, h2⟩ := celM_ h1
  obtain ⟨l, ws, rfl, c1, c2, c3⟩ := ty_cel r1 hx e1
  refine ⟨.inl ⟨rfl, ws, .inl (.inl c2)⟩, ?_⟩
  exact kt B ca1 ρ cs1 Hf1 σ H1 _ r1 (h2.bind.mono fun ca2 Hf2 H2 cs2 ss n2 r2 h3 vs hvs => fin_run r2 (hx.nx n2) hvs h3)
theorem eMt0_run {to : TE} (ko : KE X W to fo) {B : Hp} {ca : List Addr} {ρ : List S} {cs : Store} {Hf : Hp} {σ : L2.St} {H : Hp} {Q : VK} (r : Rel B ca ρ cs Hf σ H)
    (h : Gs X W B ca Hf ρ σ (eMt0 g fo ρ cs) (fun ca' Hf' H' _ s => ∀ v, SvOk ca' Hf' s v → Q v H')) : tBM0 X.K "list" (rMt g) to σ H Q := by
  refine ko B ca ρ cs Hf σ H _ r (h.bind.mono fun ca1 Hf1 H1 cs1 s n1 r1 h1 x hx => ?_)
  have h1' := h1
  obtain ⟨j, xs, rfl, e1, h2⟩ := celM_ h1
  obtain ⟨l, ws, rfl, c1, c2, c3⟩ := ty_cel r1 hx e1
  exact ⟨.inl ⟨rfl, ws, .inl (.inl c2)⟩, fin_run r1 hx .nil h1'⟩
theorem de_mt (slot : Slot "list" name id) (hty : typeOf (.builtin id) = pure (.type "method_descriptor")) (hm : MtR X id (rMt g)) (ho : DE X W o fo) (ha : DA X W (e :: es) fa)
    (hbase : attributeBase o name X.env (eval o X.env) = eval o X.env := by rfl)
    (hfew : ((backTo cpos (starEach (e :: es) X.env)).all (fun x => !x.1) && (backToKw cpos (keywordEach [] X.env)).all (fun x => x.1.isSome)
      && decide ((e :: es).length + ([] : List Keyword).length + (if ([] : List Keyword).isEmpty then 0 else 1) < 30)) = true := by rfl)
    (hline : (apos.endLine == cpos.line) = true := by rfl) (hs : starEach (e :: es) X.env = (false, eval e X.env) :: starEach es X.env := by rfl) (hplain : (backTo cpos (starEach es X.env)).any (·.1) = false := by rfl) :
    DE X W (.Call (.Attribute o name apos) (e :: es) [] cpos) (eMt g fo fa) := by
  obtain ⟨to, po, ko⟩ := ho
  obtain ⟨t, p, k⟩ := ha
  exact ⟨_, pe_bm PySem.F.plainAttrs_list slot hty hm po p hbase hfew hline hs hplain, fun B ca ρ cs Hf σ H Q r h => eMt_run ko k r h⟩
theorem de_mt0 (slot : Slot "list" name id) (hty : typeOf (.builtin id) = pure (.type "method_descriptor")) (hm : MtR X id (rMt g)) (ho : DE X W o fo)
    (hbase : attributeBase o name X.env (eval o X.env) = eval o X.env := by rfl) (hline : (apos.endLine == cpos.line) = true := by rfl) :
    DE X W (.Call (.Attribute o name apos) [] [] cpos) (eMt0 g fo) := by
  obtain ⟨to, po, ko⟩ := ho
  exact ⟨_, pe_bm0 PySem.F.plainAttrs_list slot hty hm po hbase hline, fun B ca ρ cs Hf σ H Q r h => eMt0_run ko r h⟩
theorem dds_one {Hf : Hp} {vs : List V} {d : D} (h : Dds Hf vs [d]) : ∃ v, vs = [v] ∧ Dd Hf v d := by
  cases h with
  | cons h t => cases t; exact ⟨_, rfl, h⟩
theorem dds_two {Hf : Hp} {vs : List V} {d d' : D} (h : Dds Hf vs [d, d']) : ∃ v v', vs = [v, v'] ∧ Dd Hf v d ∧ Dd Hf v' d' := by
  cases h with
  | cons h t =>
    obtain ⟨v', rfl, h'⟩ := dds_one t
    exact ⟨_, _, rfl, h, h'⟩
theorem app_ok : MtR X "list.append" (rMt appG) := by
  intro pins s σ H x vs v us Q I rx rv h
  obtain ⟨Hf, l, ws, xs, ds, d, ys, e, ex, rfl, c2, c3, hl, hz, q⟩ := h
  unfold appG at e
  split at e
  · rename_i d0
    split at e
    · rename_i hlt
      cases e
      obtain ⟨y, rfl, hy⟩ := dds_one hl
      exact mt_append pins s σ H _ _ v us Q I rx rv ⟨l, ws, y, rfl, rfl, c2, by rw [dps_len c3]; exact hlt, q _ _ .non (dps_app c3 (.cons hy .nil))⟩
    · cases e
  · cases e
theorem ext_ok : MtR X "list.extend" (rMt extG) := by
  intro pins s σ H x vs v us Q I rx rv h
  obtain ⟨Hf, l, ws, xs, ds, d, ys, e, ex, rfl, c2, c3, hl, hz, q⟩ := h
  unfold extG at e
  split at e
  · rename_i zs
    split at e
    · rename_i hlt
      cases e
      obtain ⟨y, rfl, hy⟩ := dds_one hl
      cases hy with
      | lst g1 g2 =>
        rename_i b vs2
        cases rx
        obtain ⟨u, rfl, ru⟩ := rv.one
        cases ru
        have l1 := dps_len c3
        have l2 := dps_len g2
        obtain ⟨z, its, n, r, hl, e⟩ := I.lstM c2
        obtain ⟨z2, its2, n2, r2, hl2, e2⟩ := Inv.rdl I (rd_ex ex g1)
        have hsz : its.toArray.size + its2.toArray.size ≤ sizeLine := by rw [List.size_toArray, List.size_toArray]; omega
        have hlong : ¬ (!its.toArray.isEmpty && Builtin.List.listTooLong (its.toArray.size + its2.toArray.size)) = true := by
          rw [notLongL hsz, Bool.and_false]
          exact Bool.false_ne_true
        refine PySem.call_meets PySem.F.slot_list_extend ⟨_, e, rfl⟩ PySem.F.entry_list_extend (PySem.F.args_list_extend_2 _ _)
          (AutoSeq1.list_extend_list_list_0 l its.toArray n b its2.toArray n2 hlong (by rw [List.size_toArray]; omega) (by omega)) ⟨e, e2, ?_⟩
        refine ⟨.non, _, I.lset (its' := its ++ its2) c2 e (by simp) (r.append r2) ?_, rfl, q _ _ .non (dps_app c3 g2)⟩
        rw [List.length_append]
        omega
    · cases e
  · cases e
theorem pop_ok : MtR X "list.pop" (rMt popG) := by
  intro pins s σ H x vs v us Q I rx rv h
  obtain ⟨Hf, l, ws, xs, ds, d, ys, e, ex, rfl, c2, c3, hl, hz, q⟩ := h
  unfold popG at e
  split at e
  · cases z : xs[xs.length - 1]? with
    | none => rw [z] at e; cases e
    | some d0 =>
      rw [z] at e
      cases e
      cases hl
      obtain ⟨y, k1, k2⟩ := dps_get c3 z
      exact mt_pop pins s σ H _ _ v us Q I rx rv ⟨l, ws, y, rfl, rfl, c2, by rw [dps_len c3]; exact k1, q _ _ k2 (dps_dropLast c3)⟩
  · cases e
end
/-- xs[i] = e, xs a cell -/
def sSub (fo fi fe : List S → M S) : G := fun ρ => stp (bnd (fe ρ) fun e => bnd (fo ρ) fun o => bnd (fi ρ) fun i => bnd (celM o) fun p => match e, i with
  | .d x, .d (.int k) => bnd (ofO (ixN p.2.length k)) fun j => putM p.1 (.lst (p.2.set j x))
  | _, _ => stuck) (fun _ cs => .nx ρ cs) ρ
section
variable {X : Cx} {W : WX} {o i e : Expr} {fo fi fe : List S → M S} {pos pos' : Pos}
theorem dst_sub (he : DE X W e fe) (ho : DE X W o fo) (hi : DE X W i fi)
    (ha : ∀ v, assign (.Subscript o i pos') X.env v = (do
      let ov ← holding [v] (eval o X.env)
      let iv ← holding [v, ov] (eval i X.env)
      standAt pos'
      holding [v, ov, iv] (setItem ov iv v)
      release [v, ov, iv] []) := by intro _; rfl)
    (hs : swapsWithSole [.Subscript o i pos'] e pos.line X.env = pure false := by rfl) (hw : swappedStores [.Subscript o i pos'] e X.env = pure none := by rfl)
    (h1 : (assignEach [.Subscript o i pos'] X.env).map (·.2) = [assign (.Subscript o i pos') X.env] := by rfl) : DSt X W (.Assign [.Subscript o i pos'] e pos) (sSub fo fi fe) := by
  obtain ⟨te, pe, ke⟩ := he
  obtain ⟨to, po, ko⟩ := ho
  obtain ⟨ti, pi, ki⟩ := hi
  refine ⟨_, ps_asg pe (pg_sub po pi set_list ha) hs hw h1, fun B ca ρ cs Hf σ H En r hg => ?_⟩
  refine ke B ca ρ cs Hf σ H _ r (hg.stp_.bind.mono fun ca1 Hf1 H1 cs1 s1 n1 r1 h1 v hv => ?_)
  refine ko B ca1 ρ cs1 Hf1 σ H1 _ r1 (h1.bind.mono fun ca2 Hf2 H2 cs2 s2 n2 r2 h2 x hx => ?_)
  refine ki B ca2 ρ cs2 Hf2 σ H2 _ r2 (h2.bind.mono fun ca3 Hf3 H3 cs3 s3 n3 r3 h3 y hy => ?_)
  obtain ⟨j, xs, rfl, e1, h4⟩ := celM_ h3
  obtain ⟨l, ws, rfl, c1, c2, c3⟩ := ty_cel r3 (hx.nx n3) e1
  cases s1 with
  | d z =>
    cases s3 with
    | d w =>
      cases w with
      | int k =>
        have hy' : Dd Hf3 y (.int k) := hy
        cases hy'
        have h5 : Gs X W B ca3 Hf3 ρ σ (bnd (ofO (ixN xs.length k)) (fun m => putM j (.lst (xs.set m z))) cs3) _ := h4
        obtain ⟨m, e2, h6⟩ := ofOb_ h5
        have hz : Dd Hf3 v z := dp_ex n3.ex (dp_ex n2.ex hv)
        refine ⟨l, ws, k, m, rfl, rfl, c2, by rw [dps_len c3]; exact e2, ?_⟩
        have r4 : Rel B ca3 ρ (cs3.set j (.lst (xs.set m z))) Hf3 σ (upd H3 l (.lst (ws.set m v))) := r3.write c1 ⟨_, upd_same, dps_set m c3 hz⟩
        exact GO.nx_ (h6 ca3 Hf3 _ Nx.refl r4) r4
      | _ => exact h4.elim
    | _ => exact h4.elim
  | _ => exact h4.elim
end

/-! ### defs -/
def fin (n : Nat) : Out → Res Rv
  | .nx _ cs => .ok (.d .none) (cs.take n)
  | .rt (.cel j) cs => if j < n then .ok (.cel j) (cs.take n) else match cs[j]? with
    | some o => .ok (.own o) (cs.take n)
    | none => .no
  | .rt r cs => .ok r (cs.take n)
  | .er c _ cs => .er c (cs.take n)
  | _ => .no
/-- a def's mirror by its body's -/
def runG (m : Nat) (g : G) (ss : List S) : M Rv := fun cs => fin cs.length (g (ss ++ List.replicate m .no) cs)
/-- a def's promise: it does what F says -/
def spE (mg : Str → Option Value) (n : Nat) (F : List S → M Rv) : Sp := fun vs H Q E => vs.length = n ∧ ∃ B ca cs Hf ss, Rel B ca ss cs Hf (vs.map some) H ∧ match F ss cs with
  | .ok r cs' => ∀ Hf' H' v, Ex Hf Hf' → Rel B ca ss cs' Hf' (vs.map some) H' → RvOk B ca Hf' H' r v → Q v H'
  | .er c cs' => ∀ Hf' H' cls, Ex Hf Hf' → Rel B ca ss cs' Hf' (vs.map some) H' → mg c = some cls → E cls none H'
  | .no => False
theorem Rel.cut {B : Hp} {ca ca' : List Addr} {ρ ρ' : List S} {cs cs' : Store} {Hf Hf' : Hp} {σ σ' : L2.St} {H H' : Hp} (r0 : Rel B ca ρ cs Hf σ H) (n : Nx ca Hf ca' Hf') (r : Rel B ca' ρ' cs' Hf' σ' H') : Rel B ca ρ (cs'.take cs.length) Hf' σ H' := by
  obtain ⟨t, ht⟩ := n.pre
  have hlen : ca.length = cs.length := r0.lenc
  have hlen' : ca'.length = cs'.length := r.lenc
  have hle : ca.length ≤ ca'.length := by rw [← ht, List.length_append]; omega
  refine ⟨r.ext, r0.len, fun i s e => ?_, fun j o e => ?_, ?_, r0.nd, fun a m => r.off a (n.pre.subset m), r.exb, fun a m => ⟨(r.dis a m).1, fun z => (r.dis a m).2 (n.pre.subset z)⟩⟩
  · rcases r0.sl i s e with z | ⟨v, h1, h2⟩
    · exact .inl z
    · refine .inr ⟨v, h1, ?_⟩
      cases s with
      | no => exact h2
      | d x => exact dp_ex n.ex h2
      | fn a => exact h2
      | cel j => exact h2
  · have hj : j < cs.length := by
      have := (List.getElem?_eq_some_iff.mp e).1
      rw [List.length_take] at this
      omega
    rw [List.getElem?_take_of_lt hj] at e
    obtain ⟨a, g1, g2⟩ := r.cells j o e
    refine ⟨a, ?_, g2⟩
    rw [← ht, List.getElem?_append_left (by omega)] at g1
    exact g1
  · rw [List.length_take]
    omega
theorem RvOk.cut {B : Hp} {ca ca' : List Addr} {cs : Store} {Hf Hf' H' : Hp} {r : Rv} {v : V} (n : Nx ca Hf ca' Hf') (h : RvOk B ca' Hf' H' r v) (hr : ∀ j, r = .cel j → j < ca.length) : RvOk B ca Hf' H' r v := by
  cases r with
  | d x => exact h
  | own o =>
    obtain ⟨a, e, h1, h2, h3, h4⟩ := h
    exact ⟨a, e, h1, h2, fun z => h3 (n.pre.subset z), h4⟩
  | cel j =>
    obtain ⟨a, h1, e⟩ := h
    obtain ⟨t, ht⟩ := n.pre
    rw [← ht, List.getElem?_append_left (hr j rfl)] at h1
    exact ⟨a, h1, e⟩
section
variable {P : Program} {w : World} {K : PySem.W.Frag} {mg : Str → Option Value} {base : Heap} {x qual : Str} {params : Arguments} {body : List Stmt} {scope : Scope} {dvs : List V} {kws : List (Str × V)} {f : Addr} {fd : FuncData} {N ps : List Str} {k : Nat} {F : List S → M Rv}
/-- the body's context -/
abbrev BX (P : Program) (w : World) (K : PySem.W.Frag) (mg : Str → Option Value) (base : Heap) (N : List Str) (qual : Str) (scope : Scope) (f : Addr) (cd : Value) (A : Around) (outer : List Env) (s : Shared) (H : Hp) (E : XK) : Cx := cxOf (L2.CX P w) P w K mg base N qual scope f cd A outer s H E
abbrev BW (E : XK) : WX := fun cls d _ H => E cls d H
theorem takesB {cdv : Value} {A : Around} {outer : List Env} {s : Shared} {H : Hp} {E : XK} : Takes (BX P w K mg base N qual scope f cdv A outer s H E) (BW E) := takes_of rfl rfl rfl rfl
theorem passesB {cdv : Value} {A : Around} {outer : List Env} {s : Shared} {H : Hp} {E : XK} : PassesOwn (model P w) (BX P w K mg base N qual scope f cdv A outer s H E).A (BX P w K mg base N qual scope f cdv A outer s H E).env (BX P w K mg base N qual scope f cdv A outer s H E).xe := passes_of rfl
/-- THE RULE: a def by its body -/
theorem def_ok (Fd : FunD K x qual params body scope dvs kws f fd) (S : FnScope N ps scope) {g : G} (m : Nat) (hm : N.length = ps.length + m)
    (hbody : ∀ (cdv : Value) (A : Around) (outer : List Env) (s : Shared) (H : Hp) (E : XK), Room k (A.deeper (PyProof.Rows.envOfC qual scope s.heap.objs.size f cdv)) → Takes (BX P w K mg base N qual scope f cdv A outer s H E) (BW E) →
      PassesOwn (model P w) (BX P w K mg base N qual scope f cdv A outer s H E).A (BX P w K mg base N qual scope f cdv A outer s H E).env (BX P w K mg base N qual scope f cdv A outer s H E).xe → DSs (BX P w K mg base N qual scope f cdv A outer s H E) (BW E) body g) :
    FnOk P w K mg base (L2.CX P w) (k + 1) f fd ps (spE mg ps.length (runG m g)) := by
  refine Fd.ok S (fun vs H Q E h => h.1) (fun cdv A outer s H vs Q E hr h => ?_)
  obtain ⟨hl, B, ca, cs, Hf, ss, r, h⟩ := h
  obtain ⟨t, pt, kt⟩ := hbody cdv A outer s H E hr takesB passesB
  refine ⟨t, pt, ?_⟩
  have hss : ss.length = vs.length := by
    have := r.len
    rw [List.length_map] at this
    exact this.symm
  have hst : L2.start N vs = vs.map some ++ List.replicate m none := by
    unfold L2.start
    rw [hm, hl, Nat.add_sub_cancel_left]
  have r1 : Rel B ca (ss ++ List.replicate m .no) cs Hf (L2.start N vs) H := by
    rw [hst]
    refine r.slots (by simp [hss]) fun i sl e => ?_
    by_cases hi : i < ss.length
    · rw [List.getElem?_append_left hi] at e
      rcases r.sl i sl e with z | ⟨v, h1, h2⟩
      · exact .inl z
      · exact .inr ⟨v, by rw [List.getElem?_append_left (by simp; omega)]; exact h1, h2⟩
    · rw [List.getElem?_append_right (by omega), List.getElem?_replicate] at e
      split at e
      · cases e; exact .inl rfl
      · cases e
  refine kt B ca _ cs Hf _ H _ r1 ?_
  have hlc := r.lenc
  unfold runG at h
  cases e : g (ss ++ List.replicate m .no) cs with
  | nx ρ' cs' =>
    rw [e] at h
    exact fun ca' Hf' σ' H' n r' => h Hf' H' .non n.ex (r.cut n r') .non
  | rt rv cs' =>
    rw [e] at h
    intro ca' Hf' ρ' σ' H' v n r' hv
    have rc := r.cut n r'
    cases rv with
    | d x => exact h Hf' H' v n.ex rc (hv.cut (cs := cs) n fun j z => nomatch z)
    | own o => exact h Hf' H' v n.ex rc (hv.cut (cs := cs) n fun j z => nomatch z)
    | cel j =>
      by_cases hj : j < cs.length
      · have h' : match (Res.ok (Rv.cel j) (cs'.take cs.length) : Res Rv) with
          | .ok r cs' => ∀ Hf' H' v, Ex Hf Hf' → Rel B ca ss cs' Hf' (vs.map some) H' → RvOk B ca Hf' H' r v → Q v H'
          | .er c cs' => ∀ Hf' H' cls, Ex Hf Hf' → Rel B ca ss cs' Hf' (vs.map some) H' → mg c = some cls → E cls none H'
          | .no => False := by
          have e2 : fin cs.length (.rt (.cel j) cs') = .ok (.cel j) (cs'.take cs.length) := if_pos hj
          rw [← e2]; exact h
        exact h' Hf' H' v n.ex rc (hv.cut (cs := cs) n fun j' z => by cases z; omega)
      · obtain ⟨a, h1, rfl⟩ := hv
        have hj' : j < cs'.length := by rw [← r'.lenc]; exact (List.getElem?_eq_some_iff.mp h1).1
        obtain ⟨b, g1, g2⟩ := r'.cells j cs'[j] (by simp [hj'])
        rw [h1] at g1; cases g1
        have ma : a ∈ ca' := List.mem_of_getElem? h1
        have h' : match (Res.ok (Rv.own cs'[j]) (cs'.take cs.length) : Res Rv) with
          | .ok r cs' => ∀ Hf' H' v, Ex Hf Hf' → Rel B ca ss cs' Hf' (vs.map some) H' → RvOk B ca Hf' H' r v → Q v H'
          | .er c cs' => ∀ Hf' H' cls, Ex Hf Hf' → Rel B ca ss cs' Hf' (vs.map some) H' → mg c = some cls → E cls none H'
          | .no => False := by
          have e2 : fin cs.length (.rt (.cel j) cs') = .ok (.own cs'[j]) (cs'.take cs.length) := by
            refine Eq.trans (show fin cs.length (.rt (.cel j) cs') = (if j < cs.length then .ok (.cel j) (cs'.take cs.length) else match cs'[j]? with
              | some o => .ok (.own o) (cs'.take cs.length)
              | none => .no) from rfl) ?_
            rw [if_neg hj, List.getElem?_eq_getElem hj']
          rw [← e2]; exact h
        refine h' Hf' H' _ n.ex rc ⟨a, rfl, g2, r'.off a ma, fun z => ?_, ?_⟩
        · obtain ⟨t, ht⟩ := n.pre
          obtain ⟨i, hi, ei⟩ := List.mem_iff_getElem.mp z
          have e3 : ca'[i]? = some a := by rw [← ht, List.getElem?_append_left hi]; simp [hi, ei]
          have := nd_ix r'.nd h1 e3
          omega
        · cases q : B a with
          | none => rfl
          | some u => exact absurd ma (r'.dis a (by rw [q]; simp)).2
  | er c ρ' cs' =>
    rw [e] at h
    exact fun ca' Hf' σ' H' cls n r' hc => h Hf' H' cls n.ex (r.cut n r') hc
  | bk ρ' cs' => rw [e] at h; exact h.elim
  | ct ρ' cs' => rw [e] at h; exact h.elim
  | no => rw [e] at h; exact h.elim
end
end Dn

set_option Elab.async false
set_option linter.all false
set_option maxRecDepth 100000
set_option maxHeartbeats 1000000
/-! Dn7: calls of defs. -/
namespace Dn
open PySem L2
/-- no cell among them -/
def noCel : List S → Bool
  | [] => true
  | .cel _ :: _ => false
  | _ :: r => noCel r
/-- a call that is handed no cell -/
def callP (F : List S → M Rv) (ss : List S) : M Rv := fun cs => if noCel ss = true then (match F ss [] with
  | .ok (.d x) _ => .ok (.d x) cs
  | .ok (.own o) _ => .ok (.own o) cs
  | .ok (.cel _) _ => .no
  | .er c _ => .er c cs
  | .no => .no) else .no
/-- a call that is handed one cell, ahead -/
def callC (F : List S → M Rv) (ss : List S) : M Rv := fun cs => match ss with
  | .cel j :: r => if noCel r = true then (match cs[j]? with
    | some o => match F (.cel 0 :: r) [o] with
      | .ok (.d x) [o'] => .ok (.d x) (cs.set j o')
      | .ok (.own u) [o'] => .ok (.own u) (cs.set j o')
      | .ok (.cel 0) [o'] => .ok (.cel j) (cs.set j o')
      | .er c [o'] => .er c (cs.set j o')
      | _ => .no
    | none => .no) else .no
  | _ => .no
def eCall (F : List S → M Rv) (g : List S → M (List S)) (ρ : List S) : M Rv := bnd (g ρ) (callP F)
def eCallC (F : List S → M Rv) (g : List S → M (List S)) (ρ : List S) : M Rv := bnd (g ρ) (callC F)
/-- the i-th slot holds the def at a; it lets nothing out -/
def eCallL (i : Nat) (a : Addr) (F : List S → M Rv) (g : List S → M (List S)) (ρ : List S) : M Rv := fun cs => match ρ[i]? with
  | some (.fn b) => if b = a then bnd (g ρ) (fun ss cs => match callP F ss cs with
    | .er _ _ => .no
    | o => o) cs else .no
  | _ => .no
section
variable {B : Hp} {ca : List Addr} {ρ : List S} {cs : Store} {Hf Hf' : Hp} {σ : L2.St} {H H' : Hp} {ss : List S} {vs : List V}
theorem nocel_sv : ∀ {ss : List S} {vs : List V} {ca' : List Addr}, noCel ss = true → SvsOk ca Hf ss vs → SvsOk ca' Hf ss vs
  | [], _, _, _, h => by cases h; exact .nil
  | .no :: r, _, _, e, h => by cases h with | cons h t => exact h.elim
  | .d x :: r, _, _, e, h => by cases h with | cons h t => exact .cons h (nocel_sv (show noCel r = true from e) t)
  | .fn a :: r, _, _, e, h => by cases h with | cons h t => exact .cons h (nocel_sv (show noCel r = true from e) t)
  | .cel j :: r, _, _, e, h => by cases e
theorem slots_of {ca' : List Addr} (h : SvsOk ca' Hf ss vs) (i : Nat) (s : S) (e : ss[i]? = some s) : s = .no ∨ ∃ v, (vs.map some)[i]? = some (some v) ∧ SvOk ca' Hf s v := by
  obtain ⟨v, h1, h2⟩ := h.get e
  exact .inr ⟨v, by rw [List.getElem?_map, h1] <;> rfl, h2⟩
/-- what a callee may not touch: all but what is frozen and what it is handed -/
def ban (Hf H : Hp) (ca' : List Addr) : Hp := fun a => if Hf a = none ∧ a ∉ ca' then H a else none
theorem ban_some {ca' : List Addr} {a : Addr} {o : HO} (h1 : Hf a = none) (h2 : a ∉ ca') (h3 : H a = some o) : ban Hf H ca' a = some o := by
  unfold ban; rw [if_pos ⟨h1, h2⟩]; exact h3
theorem ban_of {ca' : List Addr} {a : Addr} (h : ban Hf H ca' a ≠ none) : Hf a = none ∧ a ∉ ca' := by
  unfold ban at h
  by_cases q : Hf a = none ∧ a ∉ ca'
  · exact q
  · rw [if_neg q] at h; exact absurd rfl h
theorem ban_ex {ca' : List Addr} : Ex (ban Hf H ca') H := fun a o h => by
  unfold ban at h
  by_cases q : Hf a = none ∧ a ∉ ca'
  · rw [if_pos q] at h; exact h
  · rw [if_neg q] at h; cases h
theorem Rel.enter (r : Rel B ca ρ cs Hf σ H) (h : noCel ss = true) (hv : SvsOk ca Hf ss vs) : Rel (ban Hf H []) [] ss [] Hf (vs.map some) H :=
  ⟨r.ext, by simp [hv.len], slots_of (nocel_sv h hv), fun j o e => by simp at e, rfl, List.nodup_nil, fun a m => by simp at m, ban_ex, fun a m => ban_of m⟩
theorem Rel.leave {ss' : List S} {σ' : L2.St} (r : Rel B ca ρ cs Hf σ H) (e : Ex Hf Hf') (r' : Rel (ban Hf H []) [] ss' [] Hf' σ' H') : Rel B ca ρ cs Hf' σ H' ∧ Nx ca Hf ca Hf' := by
  have kp : ∀ a, Hf a = none → ∀ o, H a = some o → H' a = some o := fun a h o q => r'.exb a o (ban_some h (by simp) q)
  have nf : ∀ a, Hf a = none → H a ≠ none → Hf' a = none := fun a h q => by
    cases z : H a with
    | none => exact absurd z q
    | some o => exact (r'.dis a (by rw [ban_some h (by simp) z]; simp)).1
  have n : Nx ca Hf ca Hf' := ⟨List.prefix_refl _, e⟩
  refine ⟨⟨r'.ext, r.len, fun i s q => ?_, fun j o q => ?_, r.lenc, r.nd, fun a m => nf a (r.off a m) (r.there m), fun a o q => kp a (r.dis a (by rw [q]; simp)).1 o (r.exb a o q), fun a m => ?_⟩, n⟩
  · rcases r.sl i s q with z | ⟨v, h1, h2⟩
    · exact .inl z
    · exact .inr ⟨v, h1, h2.nx n⟩
  · obtain ⟨a, h1, h2⟩ := r.cells j o q
    refine ⟨a, h1, h2.at ?_ e⟩
    have ma := List.mem_of_getElem? h1
    cases z : H a with
    | none => exact absurd z (r.there ma)
    | some u => exact kp a (r.off a ma) u z
  · obtain ⟨h1, h2⟩ := r.dis a m
    refine ⟨nf a h1 ?_, h2⟩
    cases q : B a with
    | none => exact absurd q m
    | some u => rw [r.exb a u q]; simp
theorem RvOk.leave {rv : Rv} {v : V} (r : Rel B ca ρ cs Hf σ H) (h : RvOk (ban Hf H []) [] Hf' H' rv v) (n : ∀ j, rv ≠ .cel j) : RvOk B ca Hf' H' rv v := by
  cases rv with
  | d x => exact h
  | cel j => exact absurd rfl (n j)
  | own o =>
    obtain ⟨a, e, h1, h2, _, h4⟩ := h
    have hb : ∀ o, H a = some o → Hf a = none → False := fun o q z => by rw [ban_some z (by simp) q] at h4; cases h4
    refine ⟨a, e, h1, h2, fun m => ?_, ?_⟩
    · cases z : H a with
      | none => exact r.there m z
      | some u => exact hb u z (r.off a m)
    · cases z : B a with
      | none => rfl
      | some u => exact (hb u (r.exb a u z) (r.dis a (by rw [z]; simp)).1).elim
theorem Rel.enterC {j : Nat} {o : OC} {a : Addr} {v : V} (r : Rel B ca ρ cs Hf σ H) (h : noCel ss = true) (hv : SvsOk ca Hf ss vs) (hj : cs[j]? = some o) (ha : ca[j]? = some a) : Rel (ban Hf H [a]) [a] (.cel 0 :: ss) [o] Hf ((V.ref a :: vs).map some) H := by
  have ma := List.mem_of_getElem? ha
  refine ⟨r.ext, by simp [hv.len], slots_of (.cons ⟨a, rfl, rfl⟩ (nocel_sv h hv)), fun i u e => ?_, rfl, by simp, fun b m => ?_, ban_ex, fun b m => ban_of m⟩
  · cases i with
    | zero => simp at e; subst e; exact ⟨a, rfl, r.cell hj ha⟩
    | succ i => simp at e
  · simp at m; subst m; exact r.off b ma
theorem Rel.leaveC {ss' : List S} {σ' : L2.St} {j : Nat} {o' : OC} {a : Addr} (r : Rel B ca ρ cs Hf σ H) (ha : ca[j]? = some a) (e : Ex Hf Hf') (r' : Rel (ban Hf H [a]) [a] ss' [o'] Hf' σ' H') : Rel B ca ρ (cs.set j o') Hf' σ H' ∧ Nx ca Hf ca Hf' := by
  have kp : ∀ b, Hf b = none → b ≠ a → ∀ o, H b = some o → H' b = some o := fun b h hn o q => r'.exb b o (ban_some h (by simp [hn]) q)
  have nf : ∀ b, Hf b = none → b ≠ a → H b ≠ none → Hf' b = none := fun b h hn q => by
    cases z : H b with
    | none => exact absurd z q
    | some o => exact (r'.dis b (by rw [ban_some h (by simp [hn]) z]; simp)).1
  have ma := List.mem_of_getElem? ha
  have n : Nx ca Hf ca Hf' := ⟨List.prefix_refl _, e⟩
  refine ⟨⟨r'.ext, r.len, fun i s q => ?_, fun i o q => ?_, by simp [r.lenc], r.nd, fun b m => ?_, fun b o q => ?_, fun b m => ?_⟩, n⟩
  · rcases r.sl i s q with z | ⟨v, h1, h2⟩
    · exact .inl z
    · exact .inr ⟨v, h1, h2.nx n⟩
  · by_cases hi : j = i
    · subst hi
      have hjl : j < cs.length := by rw [← r.lenc]; exact (List.getElem?_eq_some_iff.mp ha).1
      rw [List.getElem?_set_self hjl] at q
      cases q
      obtain ⟨b, g1, g2⟩ := r'.cells 0 o' rfl
      have : a = b := by simpa using g1
      subst this
      exact ⟨a, ha, g2⟩
    · rw [List.getElem?_set_ne hi] at q
      obtain ⟨b, h1, h2⟩ := r.cells i o q
      have hne : b ≠ a := fun z => by subst z; exact hi (nd_ix r.nd ha h1)
      have mb := List.mem_of_getElem? h1
      refine ⟨b, h1, h2.at ?_ e⟩
      cases z : H b with
      | none => exact absurd z (r.there mb)
      | some u => exact kp b (r.off b mb) hne u z
  · by_cases hb : b = a
    · subst hb; exact r'.off b (by simp)
    · exact nf b (r.off b m) hb (r.there m)
  · have hd := r.dis b (by rw [q]; simp)
    exact kp b hd.1 (fun z => hd.2 (z ▸ ma)) o (r.exb b o q)
  · obtain ⟨h1, h2⟩ := r.dis b m
    refine ⟨nf b h1 (fun z => h2 (z ▸ ma)) ?_, h2⟩
    cases q : B b with
    | none => exact absurd q m
    | some u => rw [r.exb b u q]; simp
theorem RvOk.leaveC {rv : Rv} {v : V} {a : Addr} {j : Nat} (r : Rel B ca ρ cs Hf σ H) (ha : ca[j]? = some a) (h : RvOk (ban Hf H [a]) [a] Hf' H' rv v) (n : ∀ i, rv ≠ .cel i) : RvOk B ca Hf' H' rv v := by
  cases rv with
  | d x => exact h
  | cel i => exact absurd rfl (n i)
  | own o =>
    obtain ⟨b, e, h1, h2, h3, h4⟩ := h
    have hne : b ≠ a := fun z => h3 (by simp [z])
    have hb : ∀ o, H b = some o → Hf b = none → False := fun o q z => by rw [ban_some z (by simp [hne]) q] at h4; cases h4
    refine ⟨b, e, h1, h2, fun m => ?_, ?_⟩
    · cases z : H b with
      | none => exact r.there m z
      | some u => exact hb u z (r.off b m)
    · cases z : B b with
      | none => rfl
      | some u => exact (hb u (r.exb b u z) (r.dis b (by rw [z]; simp)).1).elim
end
section
variable {X : Cx} {W : WX} {k : Nat} {f : Addr} {fd : FuncData} {ps : List Str} {F : List S → M Rv} {x : Str} {p pos : Pos} {e : Expr} {es : List Expr} {g : List S → M (List S)}
theorem callP_run {n : Nat} {B : Hp} {ca : List Addr} {ρ : List S} {cs : Store} {Hf : Hp} {σ : L2.St} {H : Hp} {Q : VK} {ss : List S} {vs : List V} (r : Rel B ca ρ cs Hf σ H) (hn : vs.length = n) (hv : SvsOk ca Hf ss vs)
    (h : Gs X W B ca Hf ρ σ (callP F ss cs) (fun ca' Hf' H' _ rv => ∀ v, RvOk B ca' Hf' H' rv v → Q v H')) : spE X.mg n F vs H Q (WE W σ) := by
  unfold callP at h
  by_cases hc : noCel ss = true
  · rw [if_pos hc] at h
    refine ⟨hn, _, [], [], Hf, ss, r.enter hc hv, ?_⟩
    cases q : F ss [] with
    | no => rw [q] at h; exact h.elim
    | er c cs1 =>
      rw [q] at h
      intro Hf' H' cls ex r' hm
      cases cs1 with
      | nil =>
        obtain ⟨r2, n2⟩ := r.leave ex r'
        exact h ca Hf' H' cls n2 r2 hm
      | cons _ _ => exact absurd r'.lenc (by simp)
    | ok rv cs1 =>
      rw [q] at h
      intro Hf' H' v ex r' hr
      have e1 : cs1 = [] := by
        have := r'.lenc
        exact List.length_eq_zero_iff.mp (by simpa using this.symm)
      subst e1
      obtain ⟨r2, n2⟩ := r.leave ex r'
      cases rv with
      | d y => exact h ca Hf' H' n2 r2 v (RvOk.leave r hr fun j z => nomatch z)
      | own o => exact h ca Hf' H' n2 r2 v (RvOk.leave r hr fun j z => nomatch z)
      | cel j => exact h.elim
  · rw [if_neg hc] at h; exact h.elim
theorem do_call (Fk : FnOk X.prog X.w X.K X.mg X.base (L2.CX X.prog X.w) k f fd ps (spE X.mg ps.length F)) (hr : Room k X.A) (tk : Takes X W) (hm : X.mg x = some (.ref f)) (hk : PySem.W.keepIn X.K (.ref f) = true) (hb : Binds X.K fd ps [])
    (ha : DA X W (e :: es) g) (hl : (e :: es).length = ps.length := by rfl) (hg : Gl X x := by rfl) (hdb : (x == ("__debug__" : Str)) = false := by decide) (he : starEach (e :: es) X.env = (false, eval e X.env) :: starEach es X.env := by rfl) (hpl : (backTo pos (starEach es X.env)).any (·.1) = false := by rfl)
    (hlen : ∀ ρ cs ss cs', g ρ cs = .ok ss cs' → ss.length = ps.length) : DO X W (.Call (.Name x p) (e :: es) [] pos) (eCall F g) := by
  obtain ⟨t, pt, kt⟩ := ha
  refine ⟨_, pe_callS (E := WE W) Fk hr hg hm hk hb (passAt tk) pt hdb he hpl, fun B ca ρ cs Hf σ H Q r h => ?_⟩
  have h' := h
  cases q : g ρ cs with
  | ok ss cs1 =>
    refine kt B ca ρ cs Hf σ H _ r ?_
    have hss := hlen ρ cs ss cs1 q
    rw [q]
    intro ca1 Hf1 H1 n1 r1 vs hvs
    have h1 : Gs X W B ca1 Hf1 ρ σ (callP F ss cs1) (fun ca' Hf' H' _ rv => ∀ v, RvOk B ca' Hf' H' rv v → Q v H') := by
      have e1 : eCall F g ρ cs = callP F ss cs1 := bnd_ok q
      rw [← e1]; exact h.fwd n1
    exact callP_run r1 (by rw [← hvs.len]; exact hss) hvs h1
  | er c cs1 =>
    refine kt B ca ρ cs Hf σ H _ r ?_
    rw [q]
    have e1 : eCall F g ρ cs = .er c cs1 := by unfold eCall bnd; rw [q]
    rw [e1] at h
    exact h
  | no =>
    have e1 : eCall F g ρ cs = .no := by unfold eCall bnd; rw [q]
    rw [e1] at h
    exact h.elim
theorem callC_run {n : Nat} {B : Hp} {ca : List Addr} {ρ : List S} {cs : Store} {Hf : Hp} {σ : L2.St} {H : Hp} {Q : VK} {ss : List S} {vs : List V} (r : Rel B ca ρ cs Hf σ H) (hn : vs.length = n) (hv : SvsOk ca Hf ss vs)
    (h : Gs X W B ca Hf ρ σ (callC F ss cs) (fun ca' Hf' H' _ rv => ∀ v, RvOk B ca' Hf' H' rv v → Q v H')) : spE X.mg n F vs H Q (WE W σ) := by
  cases hv with
  | nil => exact h.elim
  | cons hs ht =>
    rename_i s ss v vs
    cases s with
    | cel j =>
      obtain ⟨a, ha, rfl⟩ := hs
      have h0 : Gs X W B ca Hf ρ σ (if noCel ss = true then (match cs[j]? with
        | some o => match F (.cel 0 :: ss) [o] with
          | .ok (.d x) [o'] => .ok (.d x) (cs.set j o')
          | .ok (.own u) [o'] => .ok (.own u) (cs.set j o')
          | .ok (.cel 0) [o'] => .ok (.cel j) (cs.set j o')
          | .er c [o'] => .er c (cs.set j o')
          | _ => .no
        | none => .no) else .no) (fun ca' Hf' H' _ rv => ∀ v, RvOk B ca' Hf' H' rv v → Q v H') := h
      by_cases hc : noCel ss = true
      · rw [if_pos hc] at h0
        cases qj : cs[j]? with
        | none => rw [qj] at h0; exact h0.elim
        | some o =>
          rw [qj] at h0
          refine ⟨hn, _, [a], [o], Hf, _, r.enterC (v := .ref a) hc ht qj ha, ?_⟩
          have h1 : Gs X W B ca Hf ρ σ (match F (.cel 0 :: ss) [o] with
            | .ok (.d x) [o'] => .ok (.d x) (cs.set j o')
            | .ok (.own u) [o'] => .ok (.own u) (cs.set j o')
            | .ok (.cel 0) [o'] => .ok (.cel j) (cs.set j o')
            | .er c [o'] => .er c (cs.set j o')
            | _ => .no) (fun ca' Hf' H' _ rv => ∀ v, RvOk B ca' Hf' H' rv v → Q v H') := h0
          cases q : F (.cel 0 :: ss) [o] with
          | no => rw [q] at h1; exact h1.elim
          | er c cs1 =>
            rw [q] at h1
            intro Hf' H' cls ex r' hm
            have hl := r'.lenc
            match cs1, hl with
            | [o'], _ =>
              obtain ⟨r2, n2⟩ := r.leaveC ha ex r'
              exact h1 ca Hf' H' cls n2 r2 hm
          | ok rv cs1 =>
            rw [q] at h1
            intro Hf' H' v ex r' hr
            have hl := r'.lenc
            match cs1, hl with
            | [o'], _ =>
              obtain ⟨r2, n2⟩ := r.leaveC ha ex r'
              cases rv with
              | d y => exact h1 ca Hf' H' n2 r2 v (RvOk.leaveC r ha hr fun j z => nomatch z)
              | own u => exact h1 ca Hf' H' n2 r2 v (RvOk.leaveC r ha hr fun j z => nomatch z)
              | cel i =>
                cases i with
                | zero =>
                  obtain ⟨b, g1, rfl⟩ := hr
                  have : a = b := by simpa using g1
                  subst this
                  exact h1 ca Hf' H' n2 r2 _ ⟨a, ha, rfl⟩
                | succ i => exact h1.elim
      · rw [if_neg hc] at h0; exact h0.elim
    | _ => exact h.elim
theorem do_callC (Fk : FnOk X.prog X.w X.K X.mg X.base (L2.CX X.prog X.w) k f fd ps (spE X.mg ps.length F)) (hr : Room k X.A) (tk : Takes X W) (hm : X.mg x = some (.ref f)) (hk : PySem.W.keepIn X.K (.ref f) = true) (hb : Binds X.K fd ps [])
    (ha : DA X W (e :: es) g) (hl : (e :: es).length = ps.length := by rfl) (hg : Gl X x := by rfl) (hdb : (x == ("__debug__" : Str)) = false := by decide) (he : starEach (e :: es) X.env = (false, eval e X.env) :: starEach es X.env := by rfl) (hpl : (backTo pos (starEach es X.env)).any (·.1) = false := by rfl)
    (hlen : ∀ ρ cs ss cs', g ρ cs = .ok ss cs' → ss.length = ps.length) : DO X W (.Call (.Name x p) (e :: es) [] pos) (eCallC F g) := by
  obtain ⟨t, pt, kt⟩ := ha
  refine ⟨_, pe_callS (E := WE W) Fk hr hg hm hk hb (passAt tk) pt hdb he hpl, fun B ca ρ cs Hf σ H Q r h => ?_⟩
  cases q : g ρ cs with
  | ok ss cs1 =>
    refine kt B ca ρ cs Hf σ H _ r ?_
    have hss := hlen ρ cs ss cs1 q
    rw [q]
    intro ca1 Hf1 H1 n1 r1 vs hvs
    have h1 : Gs X W B ca1 Hf1 ρ σ (callC F ss cs1) (fun ca' Hf' H' _ rv => ∀ v, RvOk B ca' Hf' H' rv v → Q v H') := by
      have e1 : eCallC F g ρ cs = callC F ss cs1 := bnd_ok q
      rw [← e1]; exact h.fwd n1
    exact callC_run r1 (by rw [← hvs.len]; exact hss) hvs h1
  | er c cs1 =>
    refine kt B ca ρ cs Hf σ H _ r ?_
    rw [q]
    have e1 : eCallC F g ρ cs = .er c cs1 := by unfold eCallC bnd; rw [q]
    rw [e1] at h
    exact h
  | no =>
    have e1 : eCallC F g ρ cs = .no := by unfold eCallC bnd; rw [q]
    rw [e1] at h
    exact h.elim
/-- a call of a local name that holds a def -/
theorem do_callL (i : Nat) (Fk : FnOk X.prog X.w X.K X.mg X.base (L2.CX X.prog X.w) k f fd ps (spE X.mg ps.length F)) (hr : Room k X.A) (hk : PySem.W.keepIn X.K (.ref f) = true) (hb : Binds X.K fd ps [])
    (ha : DA X W (e :: es) g) (hlen : ∀ ρ cs ss cs', g ρ cs = .ok ss cs' → ss.length = ps.length) (hN : X.N[i]? = some x := by rfl) (hv : Vis X.env.scope x := by first | exact Or.inl rfl | exact Or.inr (Or.inl rfl) | exact Or.inr (Or.inr rfl))
    (hdb : (x == ("__debug__" : Str)) = false := by decide) (hcd : (x == ("__classdict__" : Str)) = false := by decide) (he : starEach (e :: es) X.env = (false, eval e X.env) :: starEach es X.env := by rfl) (hpl : (backTo pos (starEach es X.env)).any (·.1) = false := by rfl) : DO X W (.Call (.Name x p) (e :: es) [] pos) (eCallL i f F g) := by
  obtain ⟨t, pt, kt⟩ := ha
  refine ⟨_, pe_callL (dvs := []) (E := E0) Fk hr hN hv hk hb .nil passL pt hdb hcd he hpl, fun B ca ρ cs Hf σ H Q r h => ?_⟩
  cases es : ρ[i]? with
  | none =>
    have e1 : eCallL i f F g ρ cs = .no := by unfold eCallL; rw [es]
    rw [e1] at h; exact h.elim
  | some s =>
    cases s with
    | fn b =>
      by_cases hb : b = f
      · subst hb
        have e1 : eCallL i b F g ρ cs = bnd (g ρ) (fun ss cs => match callP F ss cs with
          | .er _ _ => .no
          | o => o) cs := by unfold eCallL; rw [es]; exact if_pos rfl
        rw [e1] at h
        obtain ⟨v0, s1, s2⟩ := r.get es (fun z => nomatch z)
        have s2' : v0 = .ref b := s2
        subst s2'
        refine ⟨s1, ?_⟩
        cases q : g ρ cs with
        | ok ss cs1 =>
          refine kt B ca ρ cs Hf σ H _ r ?_
          have hss := hlen ρ cs ss cs1 q
          rw [q]
          intro ca1 Hf1 H1 n1 r1 vs hvs
          rw [bnd_ok q] at h
          rw [List.append_nil]
          have h1 := h.fwd n1
          cases qc : callP F ss cs1 with
          | er c c' => rw [qc] at h1; exact h1.elim
          | no => rw [qc] at h1; exact h1.elim
          | ok rv cs2 =>
            rw [qc] at h1
            have h2 : Gs X (fun _ _ _ _ => False) B ca1 Hf1 ρ σ (callP F ss cs1) (fun ca' Hf' H' _ rv => ∀ v, RvOk B ca' Hf' H' rv v → Q v H') := by rw [qc]; exact h1
            exact callP_run (W := fun _ _ _ _ => False) r1 (by rw [← hvs.len]; exact hss) hvs h2
        | er c cs1 =>
          refine kt B ca ρ cs Hf σ H _ r ?_
          rw [q]
          unfold bnd at h
          rw [q] at h
          exact h
        | no =>
          unfold bnd at h
          rw [q] at h
          exact h.elim
      · have e1 : eCallL i f F g ρ cs = .no := by unfold eCallL; rw [es]; exact if_neg hb
        rw [e1] at h; exact h.elim
    | _ =>
      have e1 : eCallL i f F g ρ cs = .no := by unfold eCallL; rw [es]
      rw [e1] at h; exact h.elim
theorem alen0 : ∀ ρ cs ss cs', aNil ρ cs = .ok ss cs' → ss.length = 0 := fun ρ cs ss cs' h => by
  have h' : (Res.ok [] cs : Res (List S)) = .ok ss cs' := h
  cases h'; rfl
theorem alenS {fa : List S → M S} {n : Nat} (hl : ∀ ρ cs ss cs', g ρ cs = .ok ss cs' → ss.length = n) : ∀ ρ cs ss cs', aCons fa g ρ cs = .ok ss cs' → ss.length = n + 1 := fun ρ cs ss cs' h => by
  unfold aCons bnd at h
  cases q : fa ρ cs with
  | ok a c1 =>
    rw [q] at h
    dsimp only at h
    cases q2 : g ρ c1 with
    | ok as c2 =>
      rw [q2] at h
      have h' : (Res.ok (a :: as) c2 : Res (List S)) = .ok ss cs' := h
      cases h'
      exact congrArg Nat.succ (hl ρ c1 as _ q2)
    | er c c2 => rw [q2] at h; cases h
    | no => rw [q2] at h; cases h
  | er c c2 => rw [q] at h; cases h
  | no => rw [q] at h; cases h
end
end Dn

set_option Elab.async false
set_option linter.all false
set_option maxRecDepth 100000
set_option maxHeartbeats 1000000
/-! Dn8: defs by name, the head by facts, the law's end. -/
namespace Dn
open PySem L2
/-- the def named x does what F says, by at most k levels -/
def Okf (P : Program) (w : World) (K : PySem.W.Frag) (mg : Str → Option Value) (base : Heap) (k : Nat) (x : Str) (ps : List Str) (F : List S → M Rv) : Prop :=
  ∃ f fd, mg x = some (.ref f) ∧ f = He.ga K x ∧ FnOk P w K mg base (L2.CX P w) k f fd ps (spE mg ps.length F) ∧ Binds K fd ps [] ∧ PySem.W.keepIn K (.ref f) = true
section
variable {P : Program} {w : World} {K : PySem.W.Frag} {mg : Str → Option Value} {base : Heap} {j k : Nat} {x : Str} {ps N : List Str} {F : List S → M Rv} {st : Stmt}
theorem Okf.mono (h : Okf P w K mg base j x ps F) (hk : j ≤ k) : Okf P w K mg base k x ps F := by
  obtain ⟨f, fd, h1, h0, h2, h3, h4⟩ := h
  exact ⟨f, fd, h1, h0, h2.mono hk, h3, h4⟩
/-- how a def of the text stands -/
structure Dfn (K : PySem.W.Frag) (mg : Str → Option Value) (x : Str) (st : Stmt) (ps : List Str) : Prop where
  g : mg x = some (.ref (He.ga K x))
  d : ∃ fd, FunD K x x (defArgs st) (defBody st) (defScope st) [] [] (He.ga K x) fd ∧ Binds K fd ps []
theorem Dfn.ok (T : Dfn K mg x st ps) (sc : FnScope N ps (defScope st)) (m : Nat) (hm : N.length = ps.length + m) {g : G}
    (hbody : ∀ (cdv : Value) (A : Around) (outer : List Env) (s : Shared) (H : Hp) (E : XK), Room k (A.deeper (PyProof.Rows.envOfC x (defScope st) s.heap.objs.size (He.ga K x) cdv)) → Takes (BX P w K mg base N x (defScope st) (He.ga K x) cdv A outer s H E) (BW E) →
      PassesOwn (model P w) (BX P w K mg base N x (defScope st) (He.ga K x) cdv A outer s H E).A (BX P w K mg base N x (defScope st) (He.ga K x) cdv A outer s H E).env (BX P w K mg base N x (defScope st) (He.ga K x) cdv A outer s H E).xe → DSs (BX P w K mg base N x (defScope st) (He.ga K x) cdv A outer s H E) (BW E) (defBody st) g) :
    Okf P w K mg base (k + 1) x ps (runG m g) := by
  obtain ⟨h1, fd, h2, h3⟩ := T
  exact ⟨He.ga K x, fd, h1, rfl, def_ok h2 sc m hm hbody, h3, h2.kp⟩
def F0 : List S → M Rv := fun _ _ => .no
theorem Dfn.ok0 (T : Dfn K mg x st ps) : Okf P w K mg base k x ps F0 := by
  obtain ⟨h1, fd, h2, h3⟩ := T
  refine ⟨He.ga K x, fd, h1, rfl, ⟨fun vs H Q E h => h.1, fun A outer s H args us vs Q E hr e0 hb hv hs => ?_⟩, h3, h2.kp⟩
  obtain ⟨_, _, _, _, _, _, _, z⟩ := hs
  exact z.elim
end
section
variable {X : Cx} {W : WX} {k : Nat} {x : Str} {ps : List Str} {F : List S → M Rv} {p pos : Pos} {e : Expr} {es : List Expr} {g : List S → M (List S)}
theorem do_f (h : Okf X.prog X.w X.K X.mg X.base k x ps F) (hr : Room k X.A) (tk : Takes X W)
    (ha : DA X W (e :: es) g) (hlen : ∀ ρ cs ss cs', g ρ cs = .ok ss cs' → ss.length = ps.length) (hl : (e :: es).length = ps.length := by rfl) (hg : Gl X x := by rfl) (hdb : (x == ("__debug__" : Str)) = false := by decide) (he : starEach (e :: es) X.env = (false, eval e X.env) :: starEach es X.env := by rfl) (hpl : (backTo pos (starEach es X.env)).any (·.1) = false := by rfl)
    : DO X W (.Call (.Name x p) (e :: es) [] pos) (eCall F g) := by
  obtain ⟨f, fd, h1, _, h2, h3, h4⟩ := h
  exact do_call h2 hr tk h1 h4 h3 ha hl hg hdb he hpl hlen
theorem do_fC (h : Okf X.prog X.w X.K X.mg X.base k x ps F) (hr : Room k X.A) (tk : Takes X W)
    (ha : DA X W (e :: es) g) (hlen : ∀ ρ cs ss cs', g ρ cs = .ok ss cs' → ss.length = ps.length) (hl : (e :: es).length = ps.length := by rfl) (hg : Gl X x := by rfl) (hdb : (x == ("__debug__" : Str)) = false := by decide) (he : starEach (e :: es) X.env = (false, eval e X.env) :: starEach es X.env := by rfl) (hpl : (backTo pos (starEach es X.env)).any (·.1) = false := by rfl)
    : DO X W (.Call (.Name x p) (e :: es) [] pos) (eCallC F g) := by
  obtain ⟨f, fd, h1, _, h2, h3, h4⟩ := h
  exact do_callC h2 hr tk h1 h4 h3 ha hl hg hdb he hpl hlen
theorem do_fL (i : Nat) {y : Str} (h : Okf X.prog X.w X.K X.mg X.base k y ps F) (hr : Room k X.A)
    (ha : DA X W (e :: es) g) (hlen : ∀ ρ cs ss cs', g ρ cs = .ok ss cs' → ss.length = ps.length) (hN : X.N[i]? = some x := by rfl) (hv : Vis X.env.scope x := by first | exact Or.inl rfl | exact Or.inr (Or.inl rfl) | exact Or.inr (Or.inr rfl))
    (hdb : (x == ("__debug__" : Str)) = false := by decide) (hcd : (x == ("__classdict__" : Str)) = false := by decide) (he : starEach (e :: es) X.env = (false, eval e X.env) :: starEach es X.env := by rfl) (hpl : (backTo pos (starEach es X.env)).any (·.1) = false := by rfl)
    : DO X W (.Call (.Name x p) (e :: es) [] pos) (eCallL i (He.ga X.K y) F g) := by
  obtain ⟨f, fd, h1, rfl, h2, h3, h4⟩ := h
  exact do_callL i h2 hr h4 h3 ha hlen hN hv hdb hcd he hpl
end
end Dn

namespace Dn
open PySem L2 He
/-! ### the head: no list stands in what is told of it -/
def nl (o : Obj) : Bool := match o.cls with
  | .type c => c != "list"
  | _ => true
def frL (g : Addr → Option Obj) (as : List Addr) : PySem.W.Frag := (frG g as).filter fun q => nl q.2
theorem frL_mem {g : Addr → Option Obj} {as : List Addr} {a : Addr} {o : Obj} (h : (frL g as).lookup a = some o) : g a = some o ∧ nl o = true := by
  obtain ⟨h1, h2⟩ := List.mem_filter.mp (lookup_mem h)
  exact ⟨frG_mem h1, h2⟩
abbrev AlL : Type := AlD × Bool
def obsL (n : Nat) (fa : List Fa) (fn : List DefD) (fb : PySem.W.Frag → Bool) (g : Addr → Option Obj) : AlL := (obsD fa fn (frL g (He.asD g n)), fb (frL g (He.asD g n)))
def SaysL (fa : List Fa) (fn : List DefD) (fb : PySem.W.Frag → Bool) (K : PySem.W.Frag) : Prop := SaysD fa fn K ∧ fb K = true ∧ ∀ a o, K.lookup a = some o → o.cls ≠ .type "list"
def hookL (n : Nat) (fa : List Fa) (fn : List DefD) (fb : PySem.W.Frag → Bool) : PySem.W.Hook where
  α := AlL
  obs := fun s => obsL n fa fn fb s.heap.get?
  val := fun _ => (valD fn, true)
  says := fun _ h => ∃ K : PySem.W.Frag, K.In h ∧ SaysL fa fn fb K
  of := fun _ _ e => ⟨_, fun _ _ q => (frL_mem q).1, congrArg (fun z : AlL => z.1) e, congrArg (fun z : AlL => z.2) e, fun a o q z => by
    have h := (frL_mem q).2
    unfold nl at h
    rw [z] at h
    cases h⟩
  keeps := fun _ _ _ ⟨K, hK, c⟩ k => ⟨K, PySem.W.Frag.In.keeps hK k, c⟩
def obL (n : Nat) (fa : List Fa) (fn : List DefD) (fb : PySem.W.Frag → Bool) (s : PySem.W.SharedT) : AlL := obsL n fa fn fb (HandSHeadRun.getT s)
theorem obL_eq (n : Nat) (fa : List Fa) (fn : List DefD) (fb : PySem.W.Frag → Bool) (s : PySem.W.SharedT) : obL n fa fn fb s = (hookL n fa fn fb).obs s.abs := by
  have e : HandSHeadRun.getT s = s.abs.heap.get? := funext (HandSHeadRun.getT_eq s)
  unfold obL
  rw [e] <;> rfl
/-- a def of the text, as the hook looks at it -/
def dfd (x : Str) (st : Stmt) : DefD := ⟨(x, none), x, x, defArgs st, defBody st, defScope st, [], []⟩
section
variable {fa : List Fa} {fn : List DefD} {K : PySem.W.Frag} {mg : Str → Option Value} {h : Heap}
theorem dfn_of (X : K.In h) (G : h.Ns mainGlobals mg) (c : SaysD fa fn K) {x : Str} {st : Stmt} {ps : List Str} (i j : Nat) (hi : fn[i]? = some (dfd x st)) (hj : fa[j]? = some (.glo x))
    (hb : ∀ (kV doc pm : Value) (an : Option Addr) (cdv ct : Value) (us : List Value), us.length = ps.length → bindArgs (PySem.W.fnOf x x (defArgs st) (defBody st) (defScope st) .none kV doc pm an cdv ct) ⟨us, []⟩ = pure (ps.zip us)) : Dfn K mg x st ps := by
  obtain ⟨fd, F⟩ := c.def_ i hi
  exact ⟨glo_ok X G (c.fact j hj), fd, F, FunD.bindsN F hb⟩
end
/-- the law's end -/
theorem law_end {l : PySem.W.OpenLaw} {n k : Nat} {q : Program} {loose : List Str} {d : DefRec} {fa : List Fa} {fn : List DefD} {fb : PySem.W.Frag → Bool} {m : Nat} {XP : (Str → Option Value) → Heap → Prop} {x : Str} {F : PySem.W.Frag → List S → M Rv}
    (hn : l.most = some n) (hn2 : n ≤ sizeLine) (hdf : d.params.defaults = []) (hr : Room k callerA)
    (hF : ∀ (w : World) (mg : Str → Option Value) (h : Heap) (K : PySem.W.Frag), K.In h → SaysD fa fn K → fb K = true → h.Ns mainGlobals mg → ∃ fd : FuncData, mg d.name = some (.ref (ga K d.name)) ∧ (∀ (s : Shared) (u : Value), BindsTo s fd ⟨[u], []⟩ [(x, u)]) ∧
      ∀ base : Heap, K.In base → base.Ns mainGlobals mg → FnOk l.prog w K mg base (L2.CX l.prog w) k (ga K d.name) fd [x] (spE mg 1 (F K)))
    (hl : ∀ (K : PySem.W.Frag) (ns : List Int), ns.length ≤ n → ∃ cs', F K [.d (.list (ns.map .int))] [] = .ok (.d (.bool true)) cs') :
    PySem.W.WalkO q loose XP (hookL m fa fn fb).says l.row.toRowW d [] (fun f vs => PySem.call f vs) := by
  refine L2.walk_ofE (n := n) (k := k) (x := x) (CX := fun outer H s E u s' => ∃ w : World, L2.CX l.prog w outer H s E u s') hn hn2 hdf hr ?_ (fun H s e s' z => ?_)
  · intro w mg fa0 h Y G hmg
    obtain ⟨K, KX, c, cb, hno⟩ := Y
    obtain ⟨fd, hg, hb, hF'⟩ := hF w mg h K KX c cb G
    have e0 := hmg.symm.trans hg
    cases e0
    refine ⟨K, fd, spE mg 1 (F K), KX, hb, fun H a ns hlen _ hS => ?_, fun base k1 k2 => ?_⟩
    · have rd : Rd H a (.lst (ns.map V.int)) := by
        rcases hS with z | ⟨o, its, m', z1, z2, _⟩
        · exact z
        · exact absurd z2 (hno a o z1)
      have dd : Dds H (ns.map V.int) (ns.map PyData.int) := by
        clear hlen hS rd
        induction ns with
        | nil => exact .nil
        | cons i r ih => exact .cons (.int i) ih
      obtain ⟨cs', e⟩ := hl K ns hlen
      refine ⟨rfl, fun _ => none, [], [], H, [.d (.list (ns.map .int))], ⟨fun _ _ h => h, rfl, fun i s e => ?_, fun j o e => (by simp at e), rfl, List.nodup_nil, fun b z => (by simp at z), fun b o z => (by cases z), fun b z => absurd rfl z⟩, ?_⟩
      · cases i with
        | zero => simp at e; subst e; exact .inr ⟨.ref a, rfl, .lst rd dd⟩
        | succ i => simp at e
      · rw [e]
        intro Hf' H' v _ _ hv
        have hv' : Dd Hf' v (.bool true) := hv
        cases hv'
        rfl
    · have FN := hF' base k1 k2
      exact ⟨FN.len, fun A outer s H args us vs Q E h1 h2 h3 h4 h5 => codeAny_mono (FN.run A outer s H args us vs Q E h1 h2 h3 h4 h5) fun r s' hq => by
        cases r with
        | ok f => cases f <;> exact hq
        | error e => exact ⟨w, hq⟩⟩
  · obtain ⟨w, _, _, _, _, _, _, _, _, _, _, _, _, z⟩ := z
    exact z
end Dn

set_option Elab.async false
set_option linter.all false
set_option maxRecDepth 100000
set_option maxHeartbeats 1000000
/-! Dn9: short forms for printed texts. -/
namespace Dn
open PySem L2
theorem bt_len : bootBuiltins "len" = some (.builtin "len") := by decide +kernel
theorem bt_min : bootBuiltins "min" = some (.builtin "min") := by decide +kernel
theorem bt_max : bootBuiltins "max" = some (.builtin "max") := by decide +kernel
theorem bt_abs : bootBuiltins "abs" = some (.builtin "abs") := by decide +kernel
theorem bt_sum : bootBuiltins "sum" = some (.builtin "sum") := by decide +kernel
theorem bt_sorted : bootBuiltins "sorted" = some (.builtin "sorted") := by decide +kernel
theorem bt_int : bootBuiltins "int" = some (.type "int") := by decide +kernel
theorem bt_bool : bootBuiltins "bool" = some (.type "bool") := by decide +kernel
theorem bt_str : bootBuiltins "str" = some (.type "str") := by decide +kernel
theorem bt_list : bootBuiltins "list" = some (.type "list") := by decide +kernel
theorem bt_tuple : bootBuiltins "tuple" = some (.type "tuple") := by decide +kernel
theorem bt_dict : bootBuiltins "dict" = some (.type "dict") := by decide +kernel
theorem bt_set : bootBuiltins "set" = some (.type "set") := by decide +kernel
theorem hu65 {k : Nat} {A : Around} (r : Room k A) : A.units + 65 < cLine := by have := r.un; omega
def negD : D → Option D
  | .int i => some (.int (-i))
  | _ => none
def eNeg (fa : List S → M S) (ρ : List S) : M S := bnd (op1 negD fa ρ) fun d => ret (.d d)
/-- an exception class of the text -/
structure Exf (K : PySem.W.Frag) (mg : Str → Option Value) (x : Str) : Prop where
  g : mg x = some (.ref (He.ga K x))
  e : PySem.W.excIn K (He.ga K x) He.veBase "ValueError.__new__" = true ∧ PySem.W.keepIn K (.ref (He.ga K x)) = true ∧ PySem.W.subIn K (.ref (He.ga K x)) (.type "BaseException") = some true ∧ PySem.W.typeIn K (.ref (He.ga K x)) = some (.type "type")
section
variable {X : Cx} {W : WX} {a : Expr} {fa : List S → M S} {pos : Pos}
theorem de_neg (ha : DE X W a fa) : DE X W (.UnaryOp .USub a pos) (eNeg fa) := by
  obtain ⟨ta, pa, ka⟩ := ha
  refine ⟨_, pe_un un_neg pa, fun B ca ρ cs Hf σ H Q r h => ?_⟩
  refine op1_run ka r h fun ca2 Hf2 H2 cs2 x da z n2 r2 hx hz h2 => ?_
  unfold negD at hz
  split at hz
  · cases hz
    have := hx.int_; subst this
    exact ⟨_, rfl, h2.ret_ r2 _ (.int _)⟩
  · cases hz
theorem de_gI {x : Str} {i : Int} (hm : ∃ t, X.mg x = some (.int i t)) (hg : Gl X x := by rfl) (hd : (x == ("__debug__" : Str)) = false := by decide) : DE X W (.Name x pos) (eC (.int i)) :=
  let ⟨_, h⟩ := hm; de_globI h hg hd
theorem de_gS {x y : Str} (hm : ∃ t, X.mg x = some (.str y t)) (hg : Gl X x := by rfl) (hd : (x == ("__debug__" : Str)) = false := by decide) : DE X W (.Name x pos) (eC (.str y)) :=
  let ⟨_, h⟩ := hm; de_globS h hg hd
theorem dst_rs {x m : Str} {j : Nat} {p p2 p3 : Pos} (h : Exf X.K X.mg x) (tk : Takes X W) (hc : X.calm = true := by rfl) (hg : Gl X x := by rfl) (hdb : (x == ("__debug__" : Str)) = false := by decide) : DSt X W (.Raise (some (.Call (.Name x p) [.Constant (.str m) j p2] [] p3)) none pos) (sErr x) :=
  dst_raise tk PySem.F.excBase_ValueError h.e.1 h.g h.e.2.1 (raises_own h.e.2.2.1 h.e.2.2.2) hc hg hdb
end
theorem exf_of {fa : List He.Fa} {fn : List He.DefD} {K : PySem.W.Frag} {mg : Str → Option Value} {h : Heap} (X : K.In h) (G : h.Ns mainGlobals mg) (c : He.SaysD fa fn K) {x : Str} (i j : Nat) (hi : fa[i]? = some (.glo x)) (hj : fa[j]? = some (.exc x)) : Exf K mg x :=
  ⟨He.glo_ok X G (c.fact i hi), He.exc_ok (c.fact j hj)⟩
end Dn

set_option Elab.async false
set_option linter.all false
set_option maxRecDepth 100000
set_option maxHeartbeats 1000000
/-! Dn10: list comprehensions. -/
namespace Dn
open PySem L2
def Wf : WX := fun _ _ _ _ => False
def noEr {α : Type} (m : M α) : M α := fun cs => match m cs with
  | .er _ _ => .no
  | o => o
def wipeS (ρ : List S) : List Nat → List S
  | [] => ρ
  | v :: vs => (wipeS ρ vs).set v .no
def lcL (tg : D → List S → Option (List S)) (t : List S → M Bool) (f : List S → M S) (ρ : List S) : List D → List D → M Rv
  | [], acc => ret (.own (.lst acc))
  | x :: xs, acc => match tg x ρ with
    | none => stuck
    | some ρ1 => bnd (noEr (t ρ1)) fun b => if b = true then bnd (noEr (f ρ1)) fun y => (match y with
        | .d d => if acc.length < sizeLine then lcL tg t f ρ xs (acc ++ [d]) else stuck
        | _ => stuck)
      else lcL tg t f ρ xs acc
def eLc (it : List S → M (List D)) (tg : D → List S → Option (List S)) (t : List S → M Bool) (f : List S → M S) (vs : List Nat) (ρ : List S) : M Rv :=
  bnd (it ρ) fun xs => lcL tg t f (wipeS ρ vs) xs []
def tYesM (_ : List S) : M Bool := ret true
/-- a block's target -/
def DGb (X : Cx) (vs : List Nat) (tg : Expr) (g : D → List S → Option (List S)) : Prop := ∃ t : TG, PG X tg t ∧ ∀ (B : Hp) (ca : List Addr) (ρ ρ' : List S) (cs : Store) (Hf : Hp) (σ : L2.St) (H : Hp) (v : V) (d : D) (Q : L2.St → Hp → Prop), Rel B ca ρ cs Hf σ H → Dd Hf v d → g d ρ = some ρ' →
  (∀ σ', wipe σ' vs = wipe σ vs → Rel B ca ρ' cs Hf σ' H → Q σ' H) → t v σ H Q
def DGbs (X : Cx) (vs : List Nat) (tgs : List Expr) (g : List D → List S → Option (List S)) : Prop := ∃ t : TGs, PGs X tgs t ∧ ∀ (B : Hp) (ca : List Addr) (ρ ρ' : List S) (cs : Store) (Hf : Hp) (σ : L2.St) (H : Hp) (us : List V) (ds : List D) (Q : L2.St → Hp → Prop), Rel B ca ρ cs Hf σ H → Dds Hf us ds → g ds ρ = some ρ' →
  (∀ σ', wipe σ' vs = wipe σ vs → Rel B ca ρ' cs Hf σ' H → Q σ' H) → t us σ H Q
def DTs (X : Cx) (W : WX) (ifs : List Expr) (f : List S → M Bool) : Prop := ∃ t : TT, PTs X ifs t ∧ ∀ (B : Hp) (ca : List Addr) (ρ : List S) (cs : Store) (Hf : Hp) (σ : L2.St) (H : Hp) (Q : Bool → Hp → Prop), Rel B ca ρ cs Hf σ H →
  Gs X W B ca Hf ρ σ (f ρ cs) (fun _ _ H' _ b => Q b H') → t σ H Q
section
variable {X : Cx} {W : WX} {pos : Pos} {vs : List Nat}
theorem wipe_set {σ : St} {i : Nat} {x : Option V} : ∀ {vs : List Nat}, i ∈ vs → wipe (σ.set i x) vs = wipe σ vs
  | v :: vs, h => by
    show (wipe (σ.set i x) vs).set v none = (wipe σ vs).set v none
    by_cases hv : i ∈ vs
    · rw [wipe_set hv]
    · have e : i = v := by
        rcases List.mem_cons.1 h with h | h
        · exact h
        · exact absurd h hv
      subst e
      have : ∀ {vs : List Nat}, i ∉ vs → wipe (σ.set i x) vs = (wipe σ vs).set i x := by
        intro vs hv
        induction vs with
        | nil => rfl
        | cons v vs ih =>
          simp only [List.mem_cons, not_or] at hv
          show (wipe (σ.set i x) vs).set v none = ((wipe σ vs).set v none).set i x
          rw [ih hv.2, List.set_comm _ _ hv.1]
      rw [this hv, List.set_set]
theorem wipe_wipe (σ : St) : ∀ (vs us : List Nat), (∀ i ∈ us, i ∈ vs) → wipe (wipe σ us) vs = wipe σ vs
  | vs, [], _ => rfl
  | vs, u :: us, h => by
    show wipe ((wipe σ us).set u none) vs = wipe σ vs
    rw [wipe_set (h u (by simp)), wipe_wipe σ vs us fun i hi => h i (by simp [hi])]
theorem Rel.wipe {B : Hp} {ca : List Addr} {ρ : List S} {cs : Store} {Hf : Hp} {σ : L2.St} {H : Hp} (r : Rel B ca ρ cs Hf σ H) : ∀ vs : List Nat, Rel B ca (wipeS ρ vs) cs Hf (wipe σ vs) H
  | [] => r
  | v :: vs => (Rel.wipe r vs).lose v none
theorem dgb_name (i : Nat) {x : Str} (hN : X.N.Nodup) (hv : i ∈ vs := by decide) (hi : X.N[i]? = some x := by rfl) (hx : Loc X.env.scope x := by first | exact Or.inl rfl | exact Or.inr rfl)
    (hf : X.fn x = true ∨ X.env.scope.names.lookup x = some .local := by first | exact .inl rfl | exact .inr rfl) : DGb X vs (.Name x pos) (gtN i) := by
  refine ⟨_, pg_name hN hi hx hf, fun B ca ρ ρ' cs Hf σ H v d Q r hd e q => ?_⟩
  cases e
  exact q _ (wipe_set hv) (r.set i hd)
theorem dgbs_nil : DGbs X vs [] gtsNil := by
  refine ⟨_, pgs_nil, fun B ca ρ ρ' cs Hf σ H us ds Q r hv e q => ?_⟩
  unfold gtsNil at e
  split at e
  · cases e
    cases hv
    exact ⟨rfl, q _ rfl r⟩
  · cases e
theorem dgbs_cons {tg : Expr} {tgs : List Expr} {g : D → List S → Option (List S)} {gs : List D → List S → Option (List S)} (h : DGb X vs tg g) (hs : DGbs X vs tgs gs)
    (he : (assignEach (tg :: tgs) X.env).map (·.2) = assign tg X.env :: (assignEach tgs X.env).map (·.2) := by rfl) : DGbs X vs (tg :: tgs) (gtsCons g gs) := by
  obtain ⟨t, p, k⟩ := h
  obtain ⟨u, q, l⟩ := hs
  refine ⟨_, pgs_cons p q he, fun B ca ρ ρ' cs Hf σ H us ds Q r hv e qq => ?_⟩
  unfold gtsCons at e
  split at e
  · rename_i x xs
    cases hv with
    | cons hv ht =>
      cases z : g x ρ with
      | none => rw [z] at e; cases e
      | some ρ1 =>
        rw [z] at e
        exact ⟨_, _, rfl, k B ca ρ ρ1 cs Hf σ H _ _ _ r hv z fun σ1 w1 r1 => l B ca ρ1 ρ' cs Hf σ1 H _ _ Q r1 ht e fun σ2 w2 r2 => qq σ2 (w2.trans w1) r2⟩
  · cases e
theorem dgb_tup {es : List Expr} {k : Nat} {gs : List D → List S → Option (List S)} (n : Nat) (hs : DGbs X vs es gs) (hl : ∀ ds ρ ρ', gs ds ρ = some ρ' → ds.length = n) (hc : X.calm = true := by rfl)
    (hn : (assignEach es X.env).length = n := by rfl) (hst : (assignEach es X.env).findIdx? (·.1) = none := by rfl) : DGb X vs (.Tuple es k pos) (gtT gs) := by
  obtain ⟨u, q, l⟩ := hs
  refine ⟨_, pg_tup hc q hn hst, fun B ca ρ ρ' cs Hf σ H v d Q r hv e qq => ?_⟩
  unfold gtT at e
  split at e
  · rename_i xs
    cases hv with
    | tup h1 h2 =>
      exact ⟨_, _, rfl, .inl (rd_ex r.ext h1), (dps_len h2).trans (hl _ _ _ e), l B ca ρ ρ' cs Hf σ H _ _ Q r h2 e qq⟩
  · cases e
theorem dts_nil : DTs X W [] tYesM := ⟨_, pts_nil, fun B ca ρ cs Hf σ H Q r h => h.ret_ r⟩
theorem dts_one {c : Expr} {t : List S → M Bool} (h : DT X W c t) : DTs X W [c] t := let ⟨t, p, k⟩ := h; ⟨t, pts_one p, k⟩
theorem Gs.noEr_ {α : Type} {B : Hp} {ca : List Addr} {Hf : Hp} {ρ : List S} {σ : L2.St} {m : M α} {cs : Store} {β : Type} {k : α → M β} {P' : List Addr → Hp → Hp → Store → β → Prop} (h : Gs X W B ca Hf ρ σ (bnd (noEr m) k cs) P') :
    (∀ a cs', m cs = .ok a cs' → Gs X W B ca Hf ρ σ (k a cs') P') ∧ m cs ≠ .no ∧ ∀ c cs', m cs ≠ .er c cs' := by
  unfold bnd noEr at h
  cases e : m cs with
  | ok a cs' =>
    rw [e] at h
    refine ⟨fun a' cs'' e' => ?_, by simp, by simp⟩
    cases e'
    exact h
  | er c cs' => rw [e] at h; exact h.elim
  | no => rw [e] at h; exact h.elim
end
/-- banned things left out -/
theorem Rel.less {B B' : Hp} {ca : List Addr} {ρ : List S} {cs : Store} {Hf : Hp} {σ : L2.St} {H : Hp} (r : Rel B' ca ρ cs Hf σ H) (h : Ex B B') : Rel B ca ρ cs Hf σ H :=
  ⟨r.ext, r.len, r.sl, r.cells, r.lenc, r.nd, r.off, fun a o e => r.exb a o (h a o e), fun a e => r.dis a (by
    cases q : B a with
    | none => exact absurd q e
    | some o => rw [h a o q]; simp)⟩
section
variable {X : Cx} {W : WX} {pos : Pos} {elt tg iter : Expr} {ifs : List Expr} {scope : Scope} {own : List (Str × Nat)} {it : List S → M (List D)} {g : D → List S → Option (List S)} {t : List S → M Bool} {f : List S → M S}
def tgOf (g : D → List S → Option (List S)) (vs : List Nat) : TG := fun v σ H Q => ∃ (B : Hp) (ca : List Addr) (ρ ρ' : List S) (cs : Store) (Hf : Hp) (d : D), Rel B ca ρ cs Hf σ H ∧ Dd Hf v d ∧ g d ρ = some ρ' ∧ ∀ σ', wipe σ' vs = wipe σ vs → Rel B ca ρ' cs Hf σ' H → Q σ' H
def ttOf (X : Cx) (t : List S → M Bool) : TT := fun σ H Q => ∃ (B : Hp) (ca : List Addr) (ρ : List S) (cs : Store) (Hf : Hp), Rel B ca ρ cs Hf σ H ∧ Gs X Wf B ca Hf ρ σ (t ρ cs) (fun _ _ H' _ b => Q b H')
def teOf (X : Cx) (f : List S → M S) : TE := fun σ H Q => ∃ (B : Hp) (ca : List Addr) (ρ : List S) (cs : Store) (Hf : Hp), Rel B ca ρ cs Hf σ H ∧ Gs X Wf B ca Hf ρ σ (f ρ cs) (fun ca' Hf' H' _ s => ∀ v, SvOk ca' Hf' s v → Q v H')
/-- what a comprehension's loop asks -/
theorem lc_run {wi : TI} {vs : List Nat} (ki : ∀ (B : Hp) (ca : List Addr) (ρ : List S) (cs : Store) (Hf : Hp) (σ : L2.St) (H : Hp) (R : It → Hp → Prop), Rel B ca ρ cs Hf σ H →
    Gs X W B ca Hf ρ σ (it ρ cs) (fun ca' Hf' H' cs' xs => ∀ J, (∀ B2 ca2 ρ2 cs2 Hf2 σ2 H2 (i : Nat), Nx ca' Hf' ca2 Hf2 → Rel B2 ca2 ρ2 cs2 Hf2 σ2 H2 → i ≤ xs.length →
      (i = xs.length → J.stop i H2) ∧ (i < xs.length → J.go i H2 ∧ ∀ x H3, J.yld i H2 x H3 → ∃ Hf3, Nx ca2 Hf2 ca2 Hf3 ∧ Rel B2 ca2 ρ2 cs2 Hf3 σ2 H3 ∧ ∃ d, xs[i]? = some d ∧ Dd Hf3 x d)) → R J H') → wi σ H R)
    {B : Hp} {ca : List Addr} {ρ : List S} {cs : Store} {Hf : Hp} {σ : L2.St} {H : Hp} {Q : VK} (r : Rel B ca ρ cs Hf σ H) (h : Gs X W B ca Hf ρ σ (eLc it g t f vs ρ cs) (fun ca' Hf' H' _ rv => ∀ v, RvOk B ca' Hf' H' rv v → Q v H')) :
    tLc wi (tgOf g vs) (ttOf X t) (teOf X f) vs σ H Q := by
  refine ki B ca ρ cs Hf σ H _ r (h.bind.mono fun ca1 Hf1 H1 cs1 xs n1 r1 h1 J hJ => fun D hD => ?_)
  obtain ⟨d1, d2, d3⟩ := r1.newIn hD
  have exn : ∀ vs, Ex B (upd B D (.lst vs)) := fun vs => ex_new d3
  refine ⟨fun i m H2 => m = xs.length - i ∧ i ≤ xs.length ∧ ∃ ca2 cs2 Hf2 acc accV, Nx ca1 Hf1 ca2 Hf2 ∧ Dds Hf2 accV acc ∧ Rel (upd B D (.lst accV)) ca2 ρ cs2 Hf2 σ H2 ∧ Gs X W B ca2 Hf2 ρ σ (lcL g t f (wipeS ρ vs) (xs.drop i) acc cs2) (fun ca' Hf' H' _ rv => ∀ v, RvOk B ca' Hf' H' rv v → Q v H'),
    ⟨xs.length, by simp, Nat.zero_le _, ca1, cs1, Hf1, [], [], Nx.refl, .nil, ?_, h1⟩, ?_⟩
  · have r2 := r1.grow (ex_new (o := .lst []) hD)
    refine ⟨r2.ext, r2.len, r2.sl, r2.cells, r2.lenc, r2.nd, r2.off, fun a o e => ?_, fun a e => ?_⟩
    · by_cases q : a = D
      · subst q; rw [upd_same] at e ⊢; exact e
      · rw [upd_ne q] at e ⊢; exact r1.exb a o e
    · by_cases q : a = D
      · subst q; exact ⟨d1, d2⟩
      · rw [upd_ne q] at e; exact r1.dis a e
  rintro i m H2 ⟨rfl, hi, ca2, cs2, Hf2, acc, accV, n2, da, r2, h2⟩
  have r2B := r2.less (exn accV)
  obtain ⟨hstop, hgo⟩ := hJ (upd B D (.lst accV)) ca2 ρ cs2 Hf2 σ H2 i n2 r2 hi
  by_cases hlt : i < xs.length
  · obtain ⟨go, yl⟩ := hgo hlt
    refine .inr ⟨go, fun H' => i + 1 ≤ xs.length ∧ ∃ ca2 cs2 Hf2 acc accV, Nx ca1 Hf1 ca2 Hf2 ∧ Dds Hf2 accV acc ∧ Rel (upd B D (.lst accV)) ca2 ρ cs2 Hf2 σ H' ∧ Gs X W B ca2 Hf2 ρ σ (lcL g t f (wipeS ρ vs) (xs.drop (i + 1)) acc cs2) (fun ca' Hf' H' _ rv => ∀ v, RvOk B ca' Hf' H' rv v → Q v H'),
      fun H' p' => ⟨xs.length - (i + 1), by omega, rfl, p'.1, p'.2⟩, fun x H3 y => ?_⟩
    obtain ⟨Hf3, n3, r3, d, ed, hd⟩ := yl x H3 y
    have ed' : xs.drop i = d :: xs.drop (i + 1) := by
      rw [List.drop_eq_getElem_cons hlt]
      rw [List.getElem?_eq_getElem hlt] at ed
      rw [Option.some.inj ed]
    rw [ed'] at h2
    unfold lcL at h2
    cases eg : g d (wipeS ρ vs) with
    | none => rw [eg] at h2; exact h2.elim
    | some ρ1 =>
      rw [eg] at h2
      refine ⟨upd B D (.lst accV), ca2, wipeS ρ vs, ρ1, cs2, Hf3, d, r3.wipe vs, hd, eg, fun σ2 w2 r4 => ⟨w2.trans (wipe_wipe σ vs vs fun _ h => h), ?_⟩⟩
      have h3 := Gs.fwd h2 n3
      obtain ⟨k1, k2, k3⟩ := Gs.noEr_ h3
      refine ⟨upd B D (.lst accV), ca2, ρ1, cs2, Hf3, r4, ?_⟩
      cases et : t ρ1 cs2 with
      | no => exact absurd et k2
      | er c cs' => exact absurd et (k3 c cs')
      | ok b cs3 =>
        have h4 := k1 b cs3 et
        intro ca4 Hf4 H4 n4 r5
        have back := fun {σ' : L2.St} {ρ' : List S} {cs' : Store} {ca' : List Addr} {Hf' H' : Hp} {V : List V} (n : Nx ca2 Hf2 ca' Hf') (r' : Rel (upd B D (.lst V)) ca' ρ' cs' Hf' σ' H') => Rel.slots (ρ' := ρ) (σ' := σ) r' r2.len fun i s e => by
          rcases r2.sl i s e with z | ⟨v, h1, h2⟩
          · exact .inl z
          · exact .inr ⟨v, h1, h2.nx n⟩
        cases b with
        | false =>
          refine ⟨hlt, ca4, cs3, Hf4, acc, accV, (n2.trans n3).trans n4, dps_ex (n3.trans n4).ex da, back (n3.trans n4) r5, ?_⟩
          exact Gs.fwd h4 n4
        | true =>
          have h5 := Gs.fwd h4 n4
          obtain ⟨j1, j2, j3⟩ := Gs.noEr_ h5
          refine ⟨upd B D (.lst accV), ca4, ρ1, cs3, Hf4, r5, ?_⟩
          cases ef : f ρ1 cs3 with
          | no => exact absurd ef j2
          | er c cs' => exact absurd ef (j3 c cs')
          | ok y cs4 =>
            have h6 := j1 y cs4 ef
            intro ca5 Hf5 H5 n5 r6 v hv
            cases y with
            | no => exact h6.elim
            | cel j => exact h6.elim
            | fn a => exact h6.elim
            | d z =>
              have h7 : Gs X W B ca4 Hf4 ρ σ ((if acc.length < sizeLine then lcL g t f (wipeS ρ vs) (xs.drop (i + 1)) (acc ++ [z]) else stuck) cs4) _ := h6
              split at h7
              · rename_i hz
                have hl := dps_len da
                refine ⟨accV, r6.exb D _ upd_same, by rw [hl]; exact hz, hlt, ca5, cs4, Hf5, acc ++ [z], accV ++ [v], ((n2.trans n3).trans n4).trans n5, dps_app (dps_ex ((n3.trans n4).trans n5).ex da) (.cons hv .nil), ?_, Gs.fwd h7 n5⟩
                have r7 := back ((n3.trans n4).trans n5) r6
                have dD := r7.dis D (by rw [upd_same]; simp)
                refine ⟨fun a o e => ?_, r7.len, r7.sl, fun j o e => ?_, r7.lenc, r7.nd, r7.off, fun a o e => ?_, fun a e => ?_⟩
                · by_cases q : a = D
                  · subst q; rw [dD.1] at e; cases e
                  · rw [upd_ne q]; exact r7.ext a o e
                · obtain ⟨a, g1, g2⟩ := r7.cells j o e
                  refine ⟨a, g1, g2.at (upd_ne ?_) fun _ _ h => h⟩
                  intro q
                  subst q
                  exact dD.2 (List.mem_of_getElem? g1)
                · by_cases q : a = D
                  · subst q; rw [upd_same] at e ⊢; exact e
                  · rw [upd_ne q] at e ⊢
                    exact r7.exb a o (by rw [upd_ne q]; exact e)
                · by_cases q : a = D
                  · subst q; exact dD
                  · rw [upd_ne q] at e; exact r7.dis a (by rw [upd_ne q]; exact e)
              · exact h7.elim
  · have e : i = xs.length := by omega
    refine .inl ⟨hstop e, ?_⟩
    rw [e, List.drop_length] at h2
    have h3 := Gs.ret_ (show Gs X W B ca2 Hf2 ρ σ (ret (Rv.own (OC.lst acc)) cs2) (fun ca' Hf' H' _ rv => ∀ v, RvOk B ca' Hf' H' rv v → Q v H') from h2) r2B
    have dD := r2.dis D (by rw [upd_same]; simp)
    exact h3 (.ref D) ⟨D, rfl, ⟨accV, r2.exb D _ upd_same, da⟩, dD.1, dD.2, d3⟩
theorem do_lc (own : List (Str × Nat)) (hN : X.N.Nodup) (hi : DI X W tg iter it)
    (hg : ∀ (s : Shared) (H : Hp) (C : Addr) (cl : List (Str × Addr)) (fp : List Addr), DGb (X.blk s H scope (compEnvC scope cl C X.env) fp) (own.map (·.2)) tg g)
    (ht : ∀ (s : Shared) (H : Hp) (C : Addr) (cl : List (Str × Addr)) (fp : List Addr), DTs (X.blk s H scope (compEnvC scope cl C X.env) fp) Wf ifs t)
    (he : ∀ (s : Shared) (H : Hp) (C : Addr) (cl : List (Str × Addr)) (fp : List Addr), DE (X.blk s H scope (compEnvC scope cl C X.env) fp) Wf elt f)
    (hk : blkC X.N X.env.scope scope own = true := by rfl) (hc : X.calm = true := by rfl) (hs : ∀ x, foldedSetIterable iter X.env x = pure x := by intro _; rfl) :
    DO X W (.ListComp elt [⟨tg, iter, ifs, 0⟩] scope pos) (eLc it g t f (own.map (·.2))) := by
  obtain ⟨wi, pi, ki⟩ := hi
  refine ⟨_, pe_lc (g := tgOf g (own.map (·.2))) (tt := ttOf X t) (te := teOf X f) hc hN pi (blkOk_by hk) (fun s H C cl fp => ?_) (fun s H C cl fp => ?_) (fun s H C cl fp => ?_) hs, fun B ca ρ cs Hf σ H Q r h => lc_run ki r h⟩
  · obtain ⟨t', p, k⟩ := hg s H C cl fp
    exact ⟨fun pins s σ H v u Q I rv ⟨B, ca, ρ, ρ', cs, Hf, d, r, hd, e, q⟩ => p.run pins s σ H v u Q I rv (k B ca ρ ρ' cs Hf σ H v d Q r hd e q)⟩
  · obtain ⟨t', p, k⟩ := ht s H C cl fp
    exact ⟨fun pins s σ H Q I ⟨B, ca, ρ, cs, Hf, r, h⟩ => p.run pins s σ H Q I (k B ca ρ cs Hf σ H Q r h)⟩
  · obtain ⟨t', p, k⟩ := he s H C cl fp
    exact ⟨fun pins s σ H Q I ⟨B, ca, ρ, cs, Hf, r, h⟩ => p.run pins s σ H Q I (k B ca ρ cs Hf σ H Q r h)⟩
/-- name = [..], on one line -/
theorem dst_newLc (i : Nat) (own : List (Str × Nat)) {y : Str} {py spos : Pos} (hN : X.N.Nodup) (hi : DI X W tg iter it)
    (hg : ∀ (s : Shared) (H : Hp) (C : Addr) (cl : List (Str × Addr)) (fp : List Addr), DGb (X.blk s H scope (compEnvC scope cl C X.env) fp) (own.map (·.2)) tg g)
    (ht : ∀ (s : Shared) (H : Hp) (C : Addr) (cl : List (Str × Addr)) (fp : List Addr), DTs (X.blk s H scope (compEnvC scope cl C X.env) fp) Wf ifs t)
    (he : ∀ (s : Shared) (H : Hp) (C : Addr) (cl : List (Str × Addr)) (fp : List Addr), DE (X.blk s H scope (compEnvC scope cl C X.env) fp) Wf elt f)
    (hy : X.N[i]? = some y := by rfl) (hyl : X.env.scope.names.lookup y = some .local := by rfl) (hkf : X.env.scope.kind = .function := by rfl) (hl : (py.line == pos.line) = true := by rfl)
    (hL : pos.line = spos.line := by rfl) (ha : (scope.names.any fun (n, k) => n == y && (k == .local || k == .cell)) = false := by rfl)
    (hk : blkC X.N X.env.scope scope own = true := by rfl) (hc : X.calm = true := by rfl) (hs : ∀ x, foldedSetIterable iter X.env x = pure x := by intro _; rfl) :
    DSt X W (.Assign [.Name y py] (.ListComp elt [⟨tg, iter, ifs, 0⟩] scope pos) spos) (sNew i (eLc it g t f (own.map (·.2)))) := by
  obtain ⟨wi, pi, ki⟩ := hi
  refine ⟨_, ps_setLc (g := tgOf g (own.map (·.2))) (tt := ttOf X t) (te := teOf X f) hc hN hy hyl (sw_true hkf hyl hl ha) pi (blkOk_by hk) (fun s H C cl fp => ?_) (fun s H C cl fp => ?_) (fun s H C cl fp => ?_) hs, fun B ca ρ cs Hf σ H En r hg => ?_⟩
  · obtain ⟨t', p, k⟩ := hg s H C cl fp
    exact ⟨fun pins s σ H v u Q I rv ⟨B, ca, ρ, ρ', cs, Hf, d, r, hd, e, q⟩ => p.run pins s σ H v u Q I rv (k B ca ρ ρ' cs Hf σ H v d Q r hd e q)⟩
  · obtain ⟨t', p, k⟩ := ht s H C cl fp
    exact ⟨fun pins s σ H Q I ⟨B, ca, ρ, cs, Hf, r, h⟩ => p.run pins s σ H Q I (k B ca ρ cs Hf σ H Q r h)⟩
  · obtain ⟨t', p, k⟩ := he s H C cl fp
    exact ⟨fun pins s σ H Q I ⟨B, ca, ρ, cs, Hf, r, h⟩ => p.run pins s σ H Q I (k B ca ρ cs Hf σ H Q r h)⟩
  · refine lc_run (W := W) ki r (hg.stp_.mono fun ca1 Hf1 H1 cs1 rv n1 r1 h1 v hv => ?_)
    cases rv with
    | d x => exact h1.nx_ (r1.set (s := .d x) i hv)
    | cel j => exact h1.nx_ (r1.set (s := .cel j) i hv)
    | own o =>
      obtain ⟨a, rfl, r2, e2⟩ := r1.alloc hv
      exact h1 (ca1 ++ [a]) Hf1 _ H1 ⟨List.prefix_append _ _, fun _ _ h => h⟩ (r2.set (s := .cel cs1.length) i ⟨a, e2, rfl⟩)
/-- name = [..], on one line -/
theorem dst_setLc (i : Nat) (own : List (Str × Nat)) {y : Str} {py spos : Pos} (hN : X.N.Nodup) (hi : DI X W tg iter it)
    (hg : ∀ (s : Shared) (H : Hp) (C : Addr) (cl : List (Str × Addr)) (fp : List Addr), DGb (X.blk s H scope (compEnvC scope cl C X.env) fp) (own.map (·.2)) tg g)
    (ht : ∀ (s : Shared) (H : Hp) (C : Addr) (cl : List (Str × Addr)) (fp : List Addr), DTs (X.blk s H scope (compEnvC scope cl C X.env) fp) Wf ifs t)
    (he : ∀ (s : Shared) (H : Hp) (C : Addr) (cl : List (Str × Addr)) (fp : List Addr), DE (X.blk s H scope (compEnvC scope cl C X.env) fp) Wf elt f)
    (hy : X.N[i]? = some y := by rfl) (hyl : X.env.scope.names.lookup y = some .local := by rfl) (hkf : X.env.scope.kind = .function := by rfl) (hl : (py.line == pos.line) = true := by rfl)
    (hL : pos.line = spos.line := by rfl) (ha : (scope.names.any fun (n, k) => n == y && (k == .local || k == .cell)) = false := by rfl)
    (hk : blkC X.N X.env.scope scope own = true := by rfl) (hc : X.calm = true := by rfl) (hs : ∀ x, foldedSetIterable iter X.env x = pure x := by intro _; rfl) :
    DSt X W (.Assign [.Name y py] (.ListComp elt [⟨tg, iter, ifs, 0⟩] scope pos) spos) (sSet i (eFrz (eLc it g t f (own.map (·.2))))) := by
  obtain ⟨wi, pi, ki⟩ := hi
  refine ⟨_, ps_setLc (g := tgOf g (own.map (·.2))) (tt := ttOf X t) (te := teOf X f) hc hN hy hyl (sw_true hkf hyl hl ha) pi (blkOk_by hk) (fun s H C cl fp => ?_) (fun s H C cl fp => ?_) (fun s H C cl fp => ?_) hs, fun B ca ρ cs Hf σ H En r hg => ?_⟩
  · obtain ⟨t', p, k⟩ := hg s H C cl fp
    exact ⟨fun pins s σ H v u Q I rv ⟨B, ca, ρ, ρ', cs, Hf, d, r, hd, e, q⟩ => p.run pins s σ H v u Q I rv (k B ca ρ ρ' cs Hf σ H v d Q r hd e q)⟩
  · obtain ⟨t', p, k⟩ := ht s H C cl fp
    exact ⟨fun pins s σ H Q I ⟨B, ca, ρ, cs, Hf, r, h⟩ => p.run pins s σ H Q I (k B ca ρ cs Hf σ H Q r h)⟩
  · obtain ⟨t', p, k⟩ := he s H C cl fp
    exact ⟨fun pins s σ H Q I ⟨B, ca, ρ, cs, Hf, r, h⟩ => p.run pins s σ H Q I (k B ca ρ cs Hf σ H Q r h)⟩
  · refine lc_run (W := W) ki r (hg.stp_.bind.mono fun ca1 Hf1 H1 cs1 rv n1 r1 h1 v hv => ?_)
    cases rv with
    | d x => exact GO.nx_ ((show Gs X W B ca1 Hf1 ρ σ (ret (S.d x) cs1) _ from h1).ret_ r1) (r1.set (s := .d x) i hv)
    | cel j => exact GO.nx_ ((show Gs X W B ca1 Hf1 ρ σ (ret (S.cel j) cs1) _ from h1).ret_ r1) (r1.set (s := .cel j) i hv)
    | own o =>
      cases o with
      | lst xs =>
        obtain ⟨Hf2, r2, n2, dd⟩ := r1.own hv
        exact GO.nx_ ((Gs.fwd (show Gs X W B ca1 Hf1 ρ σ (ret (S.d (.list xs)) cs1) _ from h1) n2).ret_ r2) (r2.set (s := .d (.list xs)) i dd)
      | dK kvs => exact h1.elim
theorem takesWf : Takes X Wf := fun _ _ h => by
  obtain ⟨_, _, _, _, _, _, _, _, _, _, _, _, _, _, _, _, z⟩ := h
  exact z.elim
end
end Dn

set_option Elab.async false
set_option linter.all false
set_option maxRecDepth 100000
set_option maxHeartbeats 4000000
/-! Dn11: len(set(xs)), walks over texts. -/
namespace Dn
open PySem L2
open PySem.Spec PyProof.Rows
def mK (l : List Key) (k : Key) : Bool := l.any fun x => decide (x = k)
theorem mK_iff (l : List Key) (k : Key) : mK l k = true ↔ k ∈ l := by simp [mK]
def dd1 (l : List Key) (k : Key) : List Key := if mK l k = true then l else l ++ [k]
/-- what is met first, of keys -/
def fmK (ks : List Key) : List Key := ks.foldl dd1 []
theorem fmK_snoc (ks : List Key) (k : Key) : fmK (ks ++ [k]) = dd1 (fmK ks) k := by
  unfold fmK; rw [List.foldl_append]; rfl
theorem sd_any (l : List Key) (v k : Key) : mK (dd1 l v) k = (mK l k || decide (k = v)) := by
  unfold dd1
  by_cases h : mK l v = true
  · rw [if_pos h]
    by_cases e : k = v
    · subst e; simp [h]
    · simp [e]
  · rw [if_neg h]
    simp only [mK, List.any_append, List.any_cons, List.any_nil, Bool.or_false]
    congr 1
    exact decide_eq_decide.2 eq_comm
theorem sd_len (l : List Key) (v : Key) : (dd1 l v).length = if mK l v = true then l.length else l.length + 1 := by
  unfold dd1; split <;> simp
theorem fmK_le0 (ks : List Key) : ∀ l : List Key, (ks.foldl dd1 l).length ≤ l.length + ks.length := by
  induction ks with
  | nil => intro l; exact Nat.le_refl _
  | cons k ks ih =>
    intro l
    have h := ih (dd1 l k)
    have h2 := sd_len l k
    rw [List.foldl_cons, List.length_cons]
    split at h2 <;> omega
theorem fmK_le (ks : List Key) : (fmK ks).length ≤ ks.length := by
  have := fmK_le0 ks []
  simpa [fmK] using this
/-- keys of data -/
def kyD : D → Option Key
  | .int i => some (.inl i)
  | .str x => some (.inr x)
  | _ => none
def kysD : List D → Option (List Key)
  | [] => some []
  | x :: xs => match kyD x, kysD xs with
    | some k, some ks => some (k :: ks)
    | _, _ => none
/-! ### a set that can be walked -/
def kvV : Value → Key
  | .int i _ => .inl i
  | .str x _ => .inr x
  | _ => .inl 0
theorem kvV_is {v : Value} {k k' : Key} (h : keyIs k v = true) : keyIs k' v = true ↔ kvV v = k' := by
  rcases keyIs_shape h with ⟨i, t, rfl, rfl⟩ | ⟨x, t, rfl, rfl⟩
  · constructor
    · intro q
      rcases keyIs_shape q with ⟨j, u, rfl, e⟩ | ⟨y, u, rfl, e⟩
      · injection e with e1 _; rw [e1]; rfl
      · cases e
    · rintro rfl
      exact keyIs_int i t
  · constructor
    · intro q
      rcases keyIs_shape q with ⟨j, u, rfl, e⟩ | ⟨y, u, rfl, e⟩
      · cases e
      · injection e with e1 _; rw [e1]; rfl
    · rintro rfl
      exact keyIs_str x t
theorem kvV_self {v : Value} {k : Key} (h : keyIs k v = true) : kvV v = k := (kvV_is h).mp h
def kvE (e : Int × Value) : Key := kvV e.2
def GdE (w : World) (e : Int × Value) : Prop := ∃ k, keyIs k e.2 = true ∧ e.1 = keyH w k
theorem scan_of {v : Value} {k : Key} (h : keyIs k v = true) : v.scannable = true := by
  rcases keyIs_shape h with ⟨i, t, rfl, rfl⟩ | ⟨x, t, rfl, rfl⟩ <;> rfl
/-- the set at a holds the keys ks, one each, and can be walked -/
def SetX (w : World) (h : Heap) (a : Addr) (ks : List Key) : Prop :=
  ∃ o es ep t, h.get? a = some o ∧ o.ExactSet ∧ o.data = .set es ep t ∧ (∀ e ∈ es.toList, GdE w e) ∧ ks.Nodup ∧ (es.toList.map kvE).Perm ks ∧
    es.size < scanBound ∧ t.fits es.size = true ∧ Ris t.place.toList ∧ (w.params.followText "set-order" = true ∨ t.led = true)
section
variable {P : Program} {w : World} {h h' : Heap} {a : Addr} {ks : List Key}
theorem SetX.at (R : SetX w h a ks) (k : ∀ o, h.get? a = some o → h'.get? a = some o) : SetX w h' a ks := by
  obtain ⟨o, es, ep, t, ho, r⟩ := R
  exact ⟨o, es, ep, t, k o ho, r⟩
theorem gd_elems {l : List (Int × Value)} (g : ∀ e ∈ l, GdE w e) : ElemsOf (mixKind P w) l := fun e he => by
  obtain ⟨k, h1, h2⟩ := g e he
  exact ⟨⟨k, h1, h2⟩, scan_of h1⟩
theorem gd_mem {l : List (Int × Value)} (g : ∀ e ∈ l, GdE w e) (k : Key) : k ∈ l.map kvE ↔ ∃ e ∈ l, (mixKind P w).is k e.2 = true := by
  rw [List.mem_map]
  constructor
  · rintro ⟨e, he, q⟩
    obtain ⟨k0, h1, _⟩ := g e he
    exact ⟨e, he, (kvV_is h1).2 q⟩
  · rintro ⟨e, he, q⟩
    obtain ⟨k0, h1, _⟩ := g e he
    exact ⟨e, he, (kvV_is h1).1 q⟩
end
section
variable {P : Program} {w : World} {A : Around} {E : Value → Shared → Prop} {s : Shared} {a : Addr} {ks : List Key}
theorem putX_at {h : Heap} {o : Obj} {es es' : Array (Int × Value)} {ep : Nat} {t t' : SetTable} (ho : h.get? a = some o) (hd : o.data = .set es ep t) :
    (h.update a (Obj.putSet es' t')).get? a = some { o with data := .set es' (ep + 1) t' } := by
  have q := Heap.get?_update_self (Obj.putSet es' t') ho (by rw [putSet_of es' t' hd]; rfl)
  rwa [putSet_of es' t' hd] at q
/-- the tail of an add: laid, and laid anew where it is too full -/
theorem setX_tail {g : Bool → Sem Unit} (hg : ∀ (b : Bool) (s1 : Shared) (Q' : Unit → Shared → Prop), Q' () s1 → wpAny (model P w) A (g b) Q' E s1)
    {o : Obj} {es : Array (Int × Value)} {ep : Nat} {t : SetTable} (ho : s.heap.get? a = some o) (hex : o.ExactSet) (hd : o.data = .set es ep t)
    {f1 : Array (Int × Value)} {t2 : SetTable} {ks' : List Key} (g1 : ∀ e ∈ f1.toList, GdE w e) (nd1 : ks'.Nodup) (p1 : (f1.toList.map kvE).Perm ks')
    (hb1 : f1.size < scanBound) (hf2 : t2.fits f1.size = true) (hr : Ris t2.place.toList) (hl : w.params.followText "set-order" = true ∨ t2.led = true) {dummy : Bool} {R : Option Bool → Shared → Prop}
    (hR : ∀ h', Heap.SameBut a s.heap h' → SetX w h' a ks' → R (some true) { s with heap := h' }) :
    wpAny (model P w) A (do
        storeSet a f1 t2
        if (!dummy && t2.tooFull) = true then do
            g (relayAll t2 f1 (SetTable.grown f1.size)).2.2
            storeSet a (relayAll t2 f1 (SetTable.grown f1.size)).1 (relayAll t2 f1 (SetTable.grown f1.size)).2.1
            pure (some true)
          else pure (some true)) R E s := by
  refine wpAny_bind (wpAny_storeSet_of ho hd ?_ (fits_of_scanBound hb1))
  have k1 := putX_at (es' := f1) (t' := t2) ho hd
  have b1 := Heap.SameBut.update s.heap a (Obj.putSet f1 t2)
  split
  · have pm := relayAll_perm t2 f1 (SetTable.grown f1.size)
    have q3 := relayAll_fits t2 f1 (SetTable.grown f1.size)
    have q4 := relayAll_ris t2 f1 (SetTable.grown f1.size)
    have q5 := relayAll_led t2 f1 (SetTable.grown f1.size)
    generalize relayAll t2 f1 (SetTable.grown f1.size) = Z at pm q3 q4 q5 ⊢
    obtain ⟨f2, t3, gv⟩ := Z
    dsimp only at pm q3 q4 q5 ⊢
    have hsz : f2.size = f1.size := by rw [← Array.length_toList, pm.length_eq, Array.length_toList]
    have hb2 : f2.size < scanBound := hsz ▸ hb1
    refine wpAny_bind (hg _ _ _ ?_)
    refine wpAny_bind (wpAny_storeSet_of k1 rfl ?_ (fits_of_scanBound hb2))
    have k2 := putX_at (es' := f2) (t' := t3) k1 rfl
    refine wpAny_pure (hR _ (b1.trans (Heap.SameBut.update _ a _)) ?_)
    exact ⟨_, f2, _, t3, k2, hex, rfl, fun e he => g1 e (pm.mem_iff.mp he), nd1, (pm.map kvE).trans p1, hb2, q3, q4, hl.imp id fun z => q5.trans z⟩
  · exact wpAny_pure (hR _ b1 ⟨_, f1, _, t2, k1, hex, rfl, g1, nd1, p1, hb1, hf2, hr, hl⟩)
theorem setX_add {k : Key} {v : Value} (hkey : keyIs k v = true) {Q : Bool → Shared → Prop} (R : SetX w s.heap a ks) (room : ks.length + 1 < scanBound)
    (hQ : ∀ (b : Bool) h', Heap.SameBut a s.heap h' → SetX w h' a (dd1 ks k) → Q b { s with heap := h' }) :
    wpAny (model P w) A (setAddHashed a v ((mixKind P w).hash k)) Q E s := by
  obtain ⟨o, es, ep, t, ho, hex, hd, g, nd, pk0, hb, hf, hr, hl⟩ := R
  have hsc := scan_of hkey
  have hel : ElemsOf (mixKind P w) es.toList := gd_elems g
  have hkey' : (mixKind P w).is k v = true := hkey
  unfold setAddHashed setAddHashedIn
  refine wpAny_holding (wpAny_bind (wpAny_setState_of ho hd hf ?_))
  dsimp only
  rw [byScan_of hsc hb hel]
  simp only [↓reduceIte]
  unfold setAddByScan
  refine wpAny_bind ?_
  refine wpAny_bind (wpAny_rule ?_)
  refine wpAny_bind (wpAny_setScan_of hkey' ho hd hf hel ?_)
  cases hfi : List.findIdx? (fun e => (mixKind P w).is k e.2) es.toList with
  | some j =>
    dsimp only
    obtain ⟨hj, pj, _⟩ := List.findIdx?_eq_some_iff_getElem.mp hfi
    have hin : k ∈ ks := pk0.mem_iff.mp ((gd_mem (P := P) (w := w) g k).2 ⟨es.toList[j], List.getElem_mem hj, pj⟩)
    have ed : dd1 ks k = ks := by unfold dd1; rw [if_pos ((mK_iff ks k).2 hin)]
    refine wpAny_pure (wpAny_pure ?_)
    exact hQ _ s.heap (Heap.SameBut.refl a s.heap) (by rw [ed]; exact ⟨o, es, ep, t, ho, hex, hd, g, nd, pk0, hb, hf, hr, hl⟩)
  | none =>
    dsimp only
    have hnk0 : k ∉ es.toList.map kvE := fun z => by
      obtain ⟨e, he, q⟩ := (gd_mem (P := P) (w := w) g k).1 z
      have c := List.findIdx?_eq_none_iff.mp hfi e he
      rw [q] at c
      cases c
    have hnk : k ∉ ks := fun z => hnk0 (pk0.mem_iff.mpr z)
    have ed : dd1 ks k = ks ++ [k] := by
      unfold dd1
      rw [if_neg fun z => hnk ((mK_iff ks k).1 z)]
    have hgw : ∀ (b : Bool) {s1 : Shared} {Q' : Unit → Shared → Prop}, Q' () s1 → wpAny (model P w) A (match b with | true => rule "set.scan.the-table-gave-way" | false => pure ()) Q' E s1 :=
      fun b s1 Q' q => by cases b <;> first | exact wpAny_pure q | exact wpAny_rule q
    have pm := layNew_perm t es ((mixKind P w).hash k) v
    have q1 := layNew_fits t es ((mixKind P w).hash k) v
    have q2 := layNew_ris t es ((mixKind P w).hash k) v hr
    have q3 := layNew_led t es ((mixKind P w).hash k) v
    generalize layNew t es ((mixKind P w).hash k) v = Z at pm q1 q2 q3 ⊢
    obtain ⟨f1, t1, dummy, gv⟩ := Z
    dsimp only at pm q1 q2 q3 ⊢
    rw [Array.toList_push] at pm
    have pc : f1.toList.Perm (((mixKind P w).hash k, v) :: es.toList) := pm.trans (List.perm_append_singleton _ _)
    have pk : (f1.toList.map kvE).Perm (dd1 ks k) := by
      have z := pc.map kvE
      rw [List.map_cons, show kvE ((mixKind P w).hash k, v) = k from kvV_self hkey] at z
      rw [ed]
      exact z.trans ((pk0.cons k).trans (List.perm_append_singleton _ _).symm)
    have g1 : ∀ e ∈ f1.toList, GdE w e := fun e he => by
      rcases List.mem_cons.mp (pc.mem_iff.mp he) with z | z
      · rw [z]; exact ⟨k, hkey, rfl⟩
      · exact g e z
    have nd1 : (dd1 ks k).Nodup := by
      rw [ed]
      exact (List.perm_append_singleton k ks).nodup_iff.mpr (List.nodup_cons.mpr ⟨hnk, nd⟩)
    have hsz : f1.size = ks.length + 1 := by
      have z1 := pc.length_eq
      have z2 := pk0.length_eq
      rw [List.length_map] at z2
      rw [List.length_cons, z2, Array.length_toList] at z1
      exact z1
    have hb1 : f1.size < scanBound := by rw [hsz]; exact room
    have hled : w.params.followText "set-order" = true ∨ t1.led = true := hl.imp id fun z => q3.trans z
    refine wpAny_bind (hgw _ ?_)
    split
    · refine wpAny_bind ?_
      rw [hashByValue_scannable 8 hsc]
      refine wpAny_pure ?_
      refine setX_tail ?_ ho hex hd g1 nd1 pk hb1 ?_ ?_ ?_ ?_
      · intro b s1 Q' q; cases b <;> first | exact wpAny_pure q | exact wpAny_rule q
      · first | (split <;> first | exact q1 | exact SetTable.fits_plain_off q1) | exact q1
      · first | (split <;> exact q2) | exact q2
      · first | (split <;> exact hled) | exact hled
      · intro h' sb r; dsimp only; exact wpAny_pure (hQ _ h' sb r)
    · refine wpAny_bind (wpAny_pure ?_)
      simp only [↓reduceIte]
      refine setX_tail ?_ ho hex hd g1 nd1 pk hb1 q1 q2 hled ?_
      · intro b s1 Q' q; cases b <;> first | exact wpAny_pure q | exact wpAny_rule q
      · intro h' sb r; dsimp only; exact wpAny_pure (hQ _ h' sb r)
end
/-! ### set(xs) -/
section
variable {prog : Program} {w : World}
variable {A : Around} {R : Result → Shared → Prop} {I : Addr} {fp wr : List Addr} {G : Array GenState → Array GenState → Prop} {P : Nat → Value → Prop} {St : Nat → Shared → Prop}
theorem setLoopX {n : Nat} (ks : List Key) (W : WalksS prog w A.in1 I fp wr G n P St) (hn : ks.length = n) (D : Addr) (hD : D ∉ fp)
    (hval : ∀ j v k, P j v → ks[j]? = some k → keyIs k v = true) (hb : ks.length + 1 < scanBound) (m : Nat) :
    ∀ (j : Nat) (s1 : Shared), ks.length - j = m → j ≤ ks.length → St j s1 →
      SetX w s1.heap D (fmK (ks.take j)) →
      (∀ s2, Moved (D :: wr) G s1 s2 → SetX w s2.heap D (fmK ks) → R (.ok (.ret .none)) s2) →
      codeAny (model prog w) A (.builtin "set.update.loop" ⟨[.ref D, .ref I], []⟩) R s1 := by
  subst hn
  have nD : D ∉ wr := fun z => hD (W.sub _ z)
  have up : ∀ b ∈ wr, b ∈ D :: wr := fun b hb => List.mem_cons_of_mem _ hb
  induction m with
  | zero =>
    intro j s1 hk hj hst hS hR
    obtain rfl : j = ks.length := by omega
    rw [List.take_length] at hS
    refine codeAny_builtin PyProof.Rows.F.entry_set_update_loop ?_
    rw [Around.under_plainId PyProof.Rows.F.plain_set_update_loop _]
    show wpAny _ A.in1 (pyNext (.ref I) >>= _) _ _ s1
    refine wpAny_bind (W.done s1 _ _ hst fun s2 hm => ?_)
    show wpAny _ A.in1 (PySem.ret Value.none) _ _ s2
    exact wpAny_pure (hR s2 (hm.mono up) (hS.at fun o ho => hm.heap D o nD ho))
  | succ m ih =>
    intro j s1 hk hj hst hS hR
    have lt : j < ks.length := by omega
    have ek : ks[j]? = some ks[j] := by simp [lt]
    have et : ks.take (j + 1) = ks.take j ++ [ks[j]] := by rw [List.take_succ, ek]; rfl
    refine codeAny_builtin PyProof.Rows.F.entry_set_update_loop ?_
    rw [Around.under_plainId PyProof.Rows.F.plain_set_update_loop _]
    show wpAny _ A.in1 (pyNext (.ref I) >>= _) _ _ s1
    refine wpAny_bind (W.item j s1 _ _ lt hst fun v s2 hP hst2 hm => ?_)
    have hv := hval j v _ hP ek
    have hS2 : SetX w s2.heap D (fmK (ks.take j)) := hS.at fun o ho => hm.heap D o nD ho
    show wpAny _ A.in1 (holding [v] (setAdd D v) >>= _) _ _ s2
    refine wpAny_bind (wpAny_holding ?_)
    unfold setAdd
    refine wpAny_holding ?_
    refine wpAny_bind ((mixKind prog w).pyHash (k := ks[j]) hv ?_)
    have room : (fmK (ks.take j)).length + 1 < scanBound := by
      have := fmK_le (ks.take j)
      rw [List.length_take] at this
      omega
    refine setX_add (s := { s2 with toks := s2.toks + 1 }) hv hS2 room fun b h3 hsb hS3 => ?_
    have hS4 : SetX w h3 D (fmK (ks.take (j + 1))) := by
      rw [et, fmK_snoc]
      exact hS3
    refine wpAny_pure ⟨plainId_quiet PyProof.Rows.F.plain_set_update_loop _, ih (j + 1) _ (by omega) lt (W.frame _ s2 _ _ hst2 (Nat.le_succ _) fun b hb o e => ?_) hS4 fun s5 hm5 hS5 => ?_⟩
    · rw [hsb.2 b (fun z : b = D => hD (by rw [← z]; exact hb))]; exact e
    · refine hR s5 (Moved.trans W.gtrans ((hm.mono up).then_heap (Nat.le_succ _) fun b o hb e => ?_) hm5) hS5
      rw [hsb.2 b (fun z : b = D => hb (by rw [z]; exact List.mem_cons_self))]; exact e
end
section
variable {P : Program} {w : World} {A : Around} {E : Value → Shared → Prop} {s0 : Shared}
abbrev freshSet (led : Bool) : Obj := { cls := .type "set", dict := none, data := .set #[] 0 (.fresh 0 0 led) }
theorem led_or (w : World) : w.params.followText "set-order" = true ∨ (!w.params.followText "set-order") = true := by
  cases w.params.followText "set-order"
  · exact .inr rfl
  · exact .inl rfl
/-- set(xs), xs a list or a tuple -/
theorem setCallX (tup : Bool) {l : Addr} {items : Array Value} {ks : List Key} {Q : Value → Shared → Prop}
    (hh : A.handled = none) (hl : if tup = true then s0.heap.IsTuple l items else s0.heap.IsList l items) (hk : ks.length = items.size) (hi : ∀ (j : Nat) (v : Value) (k : Key), items[j]? = some v → ks[j]? = some k → keyIs k v = true) (hb : ks.length + 1 < scanBound)
    (h : ∀ (g : Heap) (tk : Nat), SetX w g s0.heap.objs.size (fmK ks) →
      (∀ b o, b < s0.heap.objs.size → s0.heap.get? b = some o → g.get? b = some o) → Q (.ref s0.heap.objs.size) { s0 with heap := g, toks := tk }) :
    wpAny (model P w) A (call (.type "set") [.ref l]) Q E s0 := by
  obtain ⟨c, tl, q1⟩ := PySem.F.called_set.mro
  have q2 := PySem.F.called_set.made
  have q3 := PySem.F.called_set.sub
  refine wpAny_call (codeAny_of_tree ?_)
  show wpAny _ _ (callAny (.type "set") _) _ _ _
  refine wpAny_pure ⟨Code.quiet_builtin _ (by decide +kernel), codeAny_builtin PySem.F.entry_type_call ?_⟩
  rw [Around.under_plain (weight_type_call_type "set" [.ref l] []) rfl]
  have q4 := PySem.F.called_set.notType
  have q5 := PySem.F.called_set.canCreate
  have q6 := PySem.F.typeCall_set_1 (.ref l)
  repeat (any_goals (first | assumption | wp_step))
  generalize hD : s0.heap.objs.size = D at *
  refine codeAny_mono (code_set_led1 (w := w) (.ref l) (E := E) (Q₁ := fun u s1 => ∃ led : Bool, (w.params.followText "set-order" = true ∨ led = true) ∧ u = .ref D ∧ s1 = { s0 with heap := s0.heap.push (freshSet led) }) ⟨_, led_or w, by rw [hD], rfl⟩) fun r s1 hr => ?_
  cases r with
  | error e => exact hr
  | ok fl =>
    cases fl with
    | ret u =>
      obtain ⟨led, hled, rfl, rfl⟩ := hr
      have gS : (s0.heap.push (freshSet led)).get? D = some (freshSet led) := by rw [← hD]; exact Heap.get?_push_size _ rfl
      have hT : Shared.TypeIs { s0 with heap := s0.heap.push (freshSet led) } (.ref D) "set" := ⟨_, gS, rfl⟩
      have q7 := PySem.F.called_set.init.lookup
      have q8 := PySem.F.called_set.init.bind (.ref D)
      repeat (any_goals (first | assumption | wp_step))
      refine codeAny_mono (codeAny_call_builtin (R := wants (fun r s2 => r = .none ∧ ∃ g tk, s2 = { s0 with heap := g, toks := tk } ∧ SetX w g D (fmK ks) ∧
          (∀ b o, b < D → s0.heap.get? b = some o → g.get? b = some o)) E) PySem.F.called_set.init.plain PySem.F.entry_set_init (check_set_init_1 hT ?_)) fun r2 s2 hr2 => ?_
      · have h3 : A.in1.in1.in1.handled = none := by simp [hh]
        have zero : ∀ o : Obj, SetX w ((s0.heap.push (freshSet led)).push o) D (fmK (ks.take 0)) := fun o =>
          ⟨_, #[], 0, _, Heap.get?_push_of_some _ gS, ⟨rfl, rfl, rfl⟩, rfl, (fun e he => by simp at he), (by simp [fmK]), (by simp [fmK]), (by decide), (by rfl), List.Pairwise.nil, hled⟩
        have fin : ∀ (o : Obj) (lp : Nat) (s3 : Shared), lp = (s0.heap.push (freshSet led)).objs.size → Moved [D, lp] (fun g g' => g' = g) { s0 with heap := (s0.heap.push (freshSet led)).push o } s3 → SetX w s3.heap D (fmK ks) →
            (∃ g tk, s3 = { s0 with heap := g, toks := tk } ∧ SetX w g D (fmK ks) ∧ (∀ b o, b < D → s0.heap.get? b = some o → g.get? b = some o)) := fun o lp s3 ew hm hS => by
          obtain ⟨g, gn, dr, tk, os⟩ := s3
          have e1 : gn = s0.gens := hm.gens
          have e2 : dr = s0.drawn := hm.drawn
          have e3 : os = s0.os := hm.os
          subst e1; subst e2; subst e3
          refine ⟨g, tk, rfl, hS, fun b u hb e => hm.heap b u ?_ (Heap.get?_push_of_some _ (Heap.get?_push_of_some _ e))⟩
          rw [Heap.size_push, hD] at ew
          simp only [List.mem_cons, List.not_mem_nil, or_false, not_or]
          refine ⟨Nat.ne_of_lt hb, ?_⟩
          rw [ew]
          exact Nat.ne_of_lt (Nat.lt_succ_of_lt hb)
        have lD : ∀ (o : Obj), s0.heap.get? l = some o → l < D := fun o e => by rw [← hD]; exact Heap.lt_size e
        have out : ∀ (I : Addr), I = (s0.heap.push (freshSet led)).objs.size → l < D → l ≠ I ∧ D ∉ [I, l] := fun I e z => by
          rw [Heap.size_push, hD] at e
          simp only [List.mem_cons, List.not_mem_nil, or_false, not_or]
          subst e
          exact ⟨Nat.ne_of_lt (Nat.lt_succ_of_lt z), Nat.ne_of_lt (Nat.lt_succ_self _), Nat.ne_of_gt z⟩
        cases tup with
        | false =>
          have hl' : s0.heap.IsList l items := hl
          obtain ⟨⟨oc, od, oda, osl⟩, g1, g2, nl, g3⟩ := hl'
          simp only at g2 g3
          subst g2; subst g3
          have g4 : (s0.heap.push (freshSet led)).get? l = some { cls := .type "list", dict := od, data := .seq items nl, slots := osl } := Heap.get?_push_of_some _ g1
          have q9 := PySem.F.sub_list_set
          have q10 := PySem.F.sub_list_frozenset
          have q11 : (Value.type "list" == Value.type "dict") = false := by decide
          have l1 : (s0.heap.push (freshSet led)).IsList l items := ⟨_, g4, rfl, nl, rfl⟩
          obtain ⟨n1, n2⟩ := out _ rfl (lD _ g1)
          unfold Builtin.«set.__init__» noKeywords Builtin.Frozenset.updateFrom
          generalize hPI : pyIter = PI
          wp_walk
          subst hPI
          refine wpAny_pyIter_list l1 ?_
          refine wpAny_bind (wpAny_runValue ?_)
          refine setLoopX (P := fun j v => items[j]? = some v) ks (Walks.list h3 _ l n1 items).toS hk D n2 (fun j v k a b => hi j v k a b) hb (ks.length - 0) 0 _ rfl (Nat.zero_le _)
            ⟨⟨_, Heap.get?_push_size _ rfl, rfl, rfl⟩, l1.push _⟩ (zero _) fun s3 hm hS => ?_
          show wpAny _ _ _ _ _ _
          refine wpAny_pure ?_
          show wpAny _ _ (PySem.ret Value.none) _ _ _
          exact wpAny_pure ⟨rfl, fin _ _ _ rfl hm hS⟩
        | true =>
          have hl' : s0.heap.IsTuple l items := hl
          obtain ⟨⟨oc, od, oda, osl⟩, g1, g2, nl, g3⟩ := hl'
          simp only at g2 g3
          subst g2; subst g3
          have g4 : (s0.heap.push (freshSet led)).get? l = some { cls := .type "tuple", dict := od, data := .seq items nl, slots := osl } := Heap.get?_push_of_some _ g1
          have q9 := PySem.F.sub_tuple_set
          have q10 := PySem.F.sub_tuple_frozenset
          have q11 : (Value.type "tuple" == Value.type "dict") = false := by decide
          have l1 : (s0.heap.push (freshSet led)).IsTuple l items := ⟨_, g4, rfl, nl, rfl⟩
          obtain ⟨n1, n2⟩ := out _ rfl (lD _ g1)
          unfold Builtin.«set.__init__» noKeywords Builtin.Frozenset.updateFrom
          generalize hPI : pyIter = PI
          wp_walk
          subst hPI
          refine wpAny_pyIter_tuple l1 ?_
          refine wpAny_bind (wpAny_runValue ?_)
          refine setLoopX (P := fun j v => items[j]? = some v) ks (Walks.tuple h3 _ l n1 items).toS hk D n2 (fun j v k a b => hi j v k a b) hb (ks.length - 0) 0 _ rfl (Nat.zero_le _)
            ⟨⟨_, Heap.get?_push_size _ rfl, rfl, rfl⟩, l1.push _⟩ (zero _) fun s3 hm hS => ?_
          show wpAny _ _ _ _ _ _
          refine wpAny_pure ?_
          show wpAny _ _ (PySem.ret Value.none) _ _ _
          exact wpAny_pure ⟨rfl, fin _ _ _ rfl hm hS⟩
      · cases r2 with
        | error e => exact hr2
        | ok fl2 =>
          cases fl2 with
          | ret r =>
            obtain ⟨rfl, g, tk, rfl, hS, hk2⟩ := hr2
            repeat (any_goals (first | assumption | wp_step))
            exact h _ _ hS hk2
          | _ => exact hr2.elim
    | _ => exact hr.elim
end
section
variable {X : Cx} {W : WX} {a : Expr} {f : List S → M S}
def tLnS (K : PySem.W.Frag) (ta : TE) : TE := fun σ H Q => ta σ H fun x H1 => ∃ (b : Bool) (l : Addr) (vs : List V) (ks : List Key), x = V.ref l ∧ (if b = true then SqT K H1 l vs else SqL K H1 l vs) ∧ vs = ks.map kV ∧ ks.length + 1 < scanBound ∧ Q (.int (fmK ks).length) H1
theorem vals_keys {P : Program} {w : World} : ∀ {ks : List Key} {us : List Value}, Vals (ks.map kV) us → ∀ (j : Nat) (v : Value) (k : Key), us[j]? = some v → ks[j]? = some k → (mixKind P w).is k v = true
  | [], _, .nil, j, v, k, h, _ => by simp at h
  | k0 :: ks, _, .cons r t, 0, v, k, h, e => by
    simp at h e
    subst h; subst e
    cases k0 with
    | inl i =>
      obtain ⟨q, rfl⟩ := r
      simp [mixKind, keyIs, Value.isInt, Value.isStrOf]
    | inr x =>
      obtain ⟨q, rfl⟩ := r
      simp [mixKind, keyIs, Value.isInt, Value.isStrOf]
  | k0 :: ks, _, .cons r t, j + 1, v, k, h, e => vals_keys t j v k (by simpa using h) (by simpa using e)
theorem pe_lnS {ta : TE} {p p2 q pos : Pos} (hc : X.calm = true) (hg : Gl X "len") (hm : X.mg "len" = none) (hg2 : Gl X "set") (hm2 : X.mg "set" = none) (ha : PE X a ta)
    (na : starEach [a] X.env = (false, eval a X.env) :: starEach [] X.env) : PE X (.Call (.Name "len" p) [.Call (.Name "set" p2) [a] [] q] [] pos) (tLnS X.K ta) := by
  refine ⟨fun pins s σ H Q I h => ?_⟩
  refine PyProof.Rows.Call_ (ld_blt I hg hm PySem.boot_len ?_)
  refine PyProof.Rows.callWith_builtin1 (PyProof.Rows.args_cons ?_ rfl) rfl rfl
  refine PyProof.Rows.Call_ (ld_blt I hg2 hm2 PyProof.Rows.boot_set ?_)
  refine PyProof.Rows.callWith_type1 (PyProof.Rows.args_cons (thn (ha.run pins s σ H _ I h) fun v s1 ⟨x, H1, I1, r1, q1⟩ => PyProof.Rows.args_nil ?_) na) na rfl
  obtain ⟨b, l, vs, ks, rfl, hq, rfl, hlt, q1⟩ := q1
  cases r1
  have go : ∀ (its : List Value), Vals (ks.map kV) its → (if b = true then s1.heap.IsTuple l its.toArray else s1.heap.IsList l its.toArray) → wpAny (model X.prog X.w) X.A (call (.type "set") [Value.ref l]) (fun u s2 => wpAny (model X.prog X.w) X.A (spliced (backTo pos (starEach [] X.env))) (fun us s3 => wpAny (model X.prog X.w) X.A (call (.builtin "len") (u :: us)) (EP X pins σ Q) X.xe s3) X.xe s2) X.xe s1 := fun its r hit => by
    have hl : ks.length = its.toArray.size := by rw [List.size_toArray, ← r.length, List.length_map]
    refine setCallX b (I1.ok.hd hc) hit hl (fun j v k e1 e2 => vals_keys (P := X.prog) (w := X.w) r j v k (by simpa using e1) e2) hlt fun g tk hS hk => ?_
    refine PyProof.Rows.args_nil ?_
    obtain ⟨o, es, ep, t, ho, hex, hd, _, _, pk, _, hf, _, _⟩ := hS
    have hn : es.size = (fmK ks).length := by rw [← pk.length_eq, List.length_map, Array.length_toList]
    have I2 : Inv X pins σ H1 { s1 with heap := g, toks := tk } := I1.kept fun b o e => hk b o (Heap.lt_size e) e
    have lt := fmK_le ks
    have sb : scanBound = 4096 := rfl
    refine call_len_set ho hex hd hf (by rw [hn]; omega) ⟨.int (fmK ks).length, H1, I2.tok _, ⟨_, by rw [hn]⟩, q1⟩
  cases b with
  | false =>
    obtain ⟨its, r, pl, hz⟩ := I1.list hq
    exact go its r pl.isList
  | true =>
    obtain ⟨its, r, pl, hz⟩ := I1.tuple hq
    exact go its r pl
def lnSD : D → Option D
  | .list xs => match kysD xs with
    | some ks => if ks.length < 4000 then some (.int (fmK ks).length) else none
    | none => none
  | .tuple xs => match kysD xs with
    | some ks => if ks.length < 4000 then some (.int (fmK ks).length) else none
    | none => none
  | _ => none
def lenSetG : List D → Option D
  | [d] => lnSD d
  | _ => none
theorem kys_vs {Hf : Hp} : ∀ {vs : List V} {xs : List D} {ks : List Key}, Dds Hf vs xs → kysD xs = some ks → vs = ks.map kV
  | _, _, ks, .nil, e => by
    have : [] = ks := Option.some.inj e
    subst this; rfl
  | _, _, ks, .cons (d := d) (ds := ds) h t, e => by
    unfold kysD at e
    split at e
    · rename_i k ks' e1 e2
      cases e
      have ih := kys_vs t e2
      subst ih
      cases d with
      | int i => cases h; cases e1; rfl
      | str x => cases h; cases e1; rfl
      | _ => cases e1
    · cases e
theorem de_lenSet {p p2 q pos : Pos} (hm : X.mg "len" = none) (hm2 : X.mg "set" = none) (ha : DE X W a f) (hc : X.calm = true := by rfl) (hg : Gl X "len" := by rfl) (hg2 : Gl X "set" := by rfl)
    (na : starEach [a] X.env = (false, eval a X.env) :: starEach [] X.env := by rfl) : DE X W (.Call (.Name "len" p) [.Call (.Name "set" p2) [a] [] q] [] pos) (eCd lenSetG (aCons f aNil)) := by
  obtain ⟨t, pr, k⟩ := ha
  refine ⟨_, pe_lnS hc hg hm hg2 hm2 pr na, fun B ca ρ cs Hf σ H Q r h => ?_⟩
  refine k B ca ρ cs Hf σ H _ r (h.bind.bind.mono fun ca1 Hf1 H1 cs1 s n1 r1 h1 v hv => ?_)
  have h2 : Gs X W B ca1 Hf1 ρ σ (bnd (vwsM [s]) (fun ds => bnd (ofO (lenSetG ds)) fun d => ret (.d d)) cs1) (fun ca' Hf' H' _ s => ∀ v, SvOk ca' Hf' s v → Q v H') := (h1.ret_ r1)
  obtain ⟨ds, e1, h3⟩ := vwsM_ h2
  obtain ⟨d, e2, h4⟩ := ofOb_ h3
  have lv := vws_ok r1 (SvsOk.cons hv .nil) e1
  match ds, e2, lv with
  | [x], e2, lv =>
    have fin := h4.ret_ r1
    have sb : scanBound = 4096 := rfl
    cases x with
    | list xs =>
      obtain ⟨l, vs, rfl, q1, q2⟩ := lv.1.lst
      have e2' : (match kysD xs with
        | some ks => if ks.length < 4000 then some (PyData.int (fmK ks).length) else none
        | none => none) = some d := e2
      cases ek : kysD xs with
      | none => rw [ek] at e2'; cases e2'
      | some ks =>
        rw [ek] at e2'
        simp only at e2'
        split at e2'
        · cases e2'
          exact ⟨false, l, vs, ks, rfl, .inl q1, kys_vs q2 ek, by omega, fin _ (.int _)⟩
        · cases e2'
    | tuple xs =>
      obtain ⟨l, vs, rfl, q1, q2⟩ := lv.1.tup
      have e2' : (match kysD xs with
        | some ks => if ks.length < 4000 then some (PyData.int (fmK ks).length) else none
        | none => none) = some d := e2
      cases ek : kysD xs with
      | none => rw [ek] at e2'; cases e2'
      | some ks =>
        rw [ek] at e2'
        simp only at e2'
        split at e2'
        · cases e2'
          exact ⟨true, l, vs, ks, rfl, .inl q1, kys_vs q2 ek, by omega, fin _ (.int _)⟩
        · cases e2'
    | _ => cases e2
  | [], e2, lv => cases e2
  | _ :: _ :: _, e2, lv => cases e2
end
/-! walks over texts -/
def chD (c : Nat) : D := .str ⟨#[c]⟩
def iStrM (f : List S → M S) (ρ : List S) : M (List D) := bnd (f ρ) fun s => match s with
  | .d (.str x) => ret (x.cps.toList.map chD)
  | _ => stuck
section
variable {X : Cx} {W : WX} {a tg : Expr} {fa : List S → M S}
theorem di_str (ha : DE X W a fa) : DI X W tg a (iStrM fa) := by
  obtain ⟨t, p, k⟩ := ha
  refine ⟨_, pi_str p, fun B ca ρ cs Hf σ H R r h => ?_⟩
  refine k B ca ρ cs Hf σ H _ r (h.bind.mono fun ca1 Hf1 H1 cs1 s n1 r1 h1 v hv => ?_)
  cases s with
  | d x =>
    cases x with
    | str x =>
      have hv' : Dd Hf1 v (.str x) := hv
      cases hv'
      refine ⟨x, rfl, ?_⟩
      refine (h1.ret_ r1) _ fun B2 ca2 ρ2 cs2 Hf2 σ2 H2 i n2 r2 hi => ⟨fun e => ?_, fun hi' => ?_⟩
      · subst e
        simp [Its]
      · rw [List.length_map, Array.length_toList] at hi'
        refine ⟨hi', fun y H3 q => ?_⟩
        obtain ⟨rfl, c, e1, rfl⟩ := q
        refine ⟨Hf2, Nx.refl, r2, chD c, ?_, .str _⟩
        rw [List.getElem?_map, Array.getElem?_toList, e1]; rfl
    | _ => exact h1.elim
  | _ => exact h1.elim
end
/-! walks over lists, tuples and texts alike -/
section
variable {X : Cx} {tg : Expr}
def iAny (K : PySem.W.Frag) (te : TE) : TI := fun σ H R => te σ H fun v H1 => (∃ a, v = V.ref a ∧ (∃ xs, SqL K H1 a xs) ∧ R (Itl K a) H1) ∨ (∃ a, v = V.ref a ∧ (∃ xs, SqT K H1 a xs) ∧ R (Itt K a) H1) ∨ ∃ x, v = V.str x ∧ R (Its x) H1
theorem pi_any {e : Expr} {te : TE} (he : PE X e te) : PI X tg e (iAny X.K te) := by
  refine ⟨fun pins s σ H R I h => ?_⟩
  refine thn (he.run pins s σ H _ I h) fun v s1 ⟨y, H1, J1, r1, q⟩ => ?_
  rcases q with ⟨a, rfl, ⟨xs, hq⟩, q⟩ | ⟨a, rfl, ⟨xs, hq⟩, q⟩ | ⟨x, rfl, q⟩
  · cases r1
    obtain ⟨its, rv, p, hz⟩ := J1.list hq
    exact wpAny_pyIter_list p.isList (pi_one (tk := s1.toks) J1 _ (turn_list a _) ⟨_, Heap.get?_push_size _ rfl, rfl, rfl⟩ q)
  · cases r1
    obtain ⟨its, rv, p, hz⟩ := J1.tuple hq
    exact wpAny_pyIter_tuple (show s1.heap.IsTuple a its.toArray from p) (pi_one (tk := s1.toks) J1 _ (turn_tuple a _) ⟨_, Heap.get?_push_size _ rfl, rfl, rfl⟩ q)
  · obtain ⟨t, rfl⟩ := r1
    cases ha : x.cps.all (· < 128)
    · exact wpAny_pyIter_wide ha (pi_one (tk := s1.toks) J1 _ (turn_str _ x t "str_iterator" (.inr rfl)) ⟨_, Heap.get?_push_size _ rfl, rfl, rfl⟩ q)
    · exact wpAny_pyIter_ascii ha (pi_one (tk := s1.toks) J1 _ (turn_str _ x t "str_ascii_iterator" (.inl rfl)) ⟨_, Heap.get?_push_size _ rfl, rfl, rfl⟩ q)
def itD : D → Option (List D)
  | .list xs => some xs
  | .tuple xs => some xs
  | .str x => some (x.cps.toList.map chD)
  | _ => none
def iAnyM (f : List S → M S) (ρ : List S) : M (List D) := bnd (f ρ) fun s => match s with
  | .d x => ofO (itD x)
  | _ => stuck
variable {W : WX} {a : Expr} {fa : List S → M S}
theorem di_any (ha : DE X W a fa) : DI X W tg a (iAnyM fa) := by
  obtain ⟨t, p, k⟩ := ha
  refine ⟨_, pi_any p, fun B ca ρ cs Hf σ H R r h => ?_⟩
  refine k B ca ρ cs Hf σ H _ r (h.bind.mono fun ca1 Hf1 H1 cs1 s n1 r1 h1 v hv => ?_)
  cases s with
  | d x =>
    cases x with
    | list xs =>
      have hv' : Dd Hf1 v (.list xs) := hv
      cases hv' with
      | lst g1 g2 =>
        rename_i l vs
        refine .inl ⟨l, rfl, ⟨vs, .inl (rd_ex r1.ext g1)⟩, ?_⟩
        have h2 : Gs X W B ca1 Hf1 ρ σ (ret xs cs1) _ := h1
        refine (h2.ret_ r1) _ fun B2 ca2 ρ2 cs2 Hf2 σ2 H2 i n2 r2 hi => ?_
        have g3 := rd_ex (fun a o h => r2.ext a o (n2.ex a o h)) g1
        refine ⟨fun e => ⟨vs, .inl g3, by rw [dps_len g2]; omega⟩, fun hi' => ?_⟩
        have hx : xs[i]? = some xs[i] := by simp [hi']
        obtain ⟨w, e1, e2⟩ := dps_get g2 hx
        refine ⟨⟨vs, w, .inl g3, e1⟩, fun x H3 y => ?_⟩
        obtain ⟨rfl, y⟩ := y
        have y1 := y vs (.inl g3)
        rw [e1] at y1
        cases y1
        exact ⟨Hf2, Nx.refl, r2, xs[i], hx, dp_ex n2.ex e2⟩
    | tuple xs =>
      have hv' : Dd Hf1 v (.tuple xs) := hv
      cases hv' with
      | tup g1 g2 =>
        rename_i l vs
        refine .inr (.inl ⟨l, rfl, ⟨vs, .inl (rd_ex r1.ext g1)⟩, ?_⟩)
        have h2 : Gs X W B ca1 Hf1 ρ σ (ret xs cs1) _ := h1
        refine (h2.ret_ r1) _ fun B2 ca2 ρ2 cs2 Hf2 σ2 H2 i n2 r2 hi => ?_
        have g3 := rd_ex (fun a o h => r2.ext a o (n2.ex a o h)) g1
        refine ⟨fun e => ⟨vs, .inl g3, by rw [dps_len g2]; omega⟩, fun hi' => ?_⟩
        have hx : xs[i]? = some xs[i] := by simp [hi']
        obtain ⟨w, e1, e2⟩ := dps_get g2 hx
        refine ⟨⟨vs, w, .inl g3, e1⟩, fun x H3 y => ?_⟩
        obtain ⟨rfl, y⟩ := y
        have y1 := y vs (.inl g3)
        rw [e1] at y1
        cases y1
        exact ⟨Hf2, Nx.refl, r2, xs[i], hx, dp_ex n2.ex e2⟩
    | str x =>
      have hv' : Dd Hf1 v (.str x) := hv
      cases hv'
      refine .inr (.inr ⟨x, rfl, ?_⟩)
      have h2 : Gs X W B ca1 Hf1 ρ σ (ret (x.cps.toList.map chD) cs1) _ := h1
      refine (h2.ret_ r1) _ fun B2 ca2 ρ2 cs2 Hf2 σ2 H2 i n2 r2 hi => ⟨fun e => ?_, fun hi' => ?_⟩
      · subst e
        simp [Its]
      · rw [List.length_map, Array.length_toList] at hi'
        refine ⟨hi', fun y H3 q => ?_⟩
        obtain ⟨rfl, c, e1, rfl⟩ := q
        refine ⟨Hf2, Nx.refl, r2, chD c, ?_, .str _⟩
        rw [List.getElem?_map, Array.getElem?_toList, e1]; rfl
    | _ => exact h1.elim
  | _ => exact h1.elim
end
end Dn

set_option Elab.async false
set_option linter.all false
set_option maxRecDepth 100000
set_option maxHeartbeats 1000000
/-! Dn12: try .. except C as e. -/
namespace Dn
open PySem L2
/-- the slot of the exception's name is forgotten; an error of the suite is none -/
def clr (i : Nat) : Out → Out
  | .nx ρ cs => .nx (ρ.set i .no) cs
  | .bk ρ cs => .bk (ρ.set i .no) cs
  | .ct ρ cs => .ct (ρ.set i .no) cs
  | .rt r cs => .rt r cs
  | _ => .no
open Classical in
noncomputable def hAs (i : Nat) (h : Str → Addr → G) (c : Str) : G := fun ρ cs =>
  if ∀ a, clr i (h c a (ρ.set i (.fn a)) cs) = clr i (h c 0 (ρ.set i (.fn 0)) cs) then clr i (h c 0 (ρ.set i (.fn 0)) cs) else .no
noncomputable def sTry (i : Nat) (known sub : Str → Bool) (h : Str → Addr → G) (g : G) : G := fun ρ cs => match g ρ cs with
  | .er c ρ' cs' => if known c = true then (if sub c = true then hAs i h c ρ' cs' else .er c ρ' cs') else .no
  | o => o
section
variable {X : Cx} {W : WX}
theorem GO.wf {W W' : WX} {B : Hp} {ca : List Addr} {Hf : Hp} {En : Ends} {o : Out} (h : GO X W B ca Hf En o) (n : ∀ c ρ cs, o ≠ .er c ρ cs) : GO X W' B ca Hf En o := by
  cases o with
  | er c ρ cs => exact absurd rfl (n c ρ cs)
  | _ => exact h
theorem clr_ok {i : Nat} {B : Hp} {ca : List Addr} {Hf : Hp} {D : Ends} {o : Out} (h : GO X W B ca Hf D (clr i o)) : GO X Wf B ca Hf { nx := fun σ H => D.nx (σ.set i none) H, rt := D.rt, bk := fun σ H => D.bk (σ.set i none) H, ct := fun σ H => D.ct (σ.set i none) H } o := by
  cases o with
  | nx ρ cs => exact fun ca' Hf' σ' H' n r => h ca' Hf' _ H' n (r.lose i none)
  | bk ρ cs => exact fun ca' Hf' σ' H' n r => h ca' Hf' _ H' n (r.lose i none)
  | ct ρ cs => exact fun ca' Hf' σ' H' n r => h ca' Hf' _ H' n (r.lose i none)
  | rt v cs => exact h
  | er c ρ cs => exact h.elim
  | no => exact h.elim
def tbOf (X : Cx) (g : G) (W : WX) : TS := fun D σ H => ∃ (B : Hp) (ca : List Addr) (ρ : List S) (cs : Store) (Hf : Hp), Rel B ca ρ cs Hf σ H ∧ GO X W B ca Hf D (g ρ cs)
def tsOf (X : Cx) (known : Str → Bool) (h : Str → Addr → G) (a : Addr) (cls : Value) (d : Option Addr) : TS := fun D σ H => ∃ (B : Hp) (ca : List Addr) (ρ : List S) (cs : Store) (Hf : Hp) (c : Str), Rel B ca ρ cs Hf σ H ∧ X.mg c = some cls ∧ known c = true ∧ d = none ∧ GO X Wf B ca Hf D (h c a ρ cs)
theorem dst_try (i : Nat) {x n : Str} {C : Value} {known sub : Str → Bool} {body suite : List Stmt} {b₀ : Stmt} {np pos pos' : Pos} {g : G} {h : Str → Addr → G} (hN : X.N.Nodup) (tk : Takes X W) (hc : Names X x C)
    (hsub : ∀ c cls, known c = true → X.mg c = some cls → PySem.W.exmOne X.K cls C = some (sub c))
    (hb : ∀ (W : WX) (pn : List (Addr × Obj)) (xe : Value → Shared → Prop), Takes (X.tr pn xe) W → PassesOwn (model X.prog X.w) X.A X.env xe → DSs (X.tr pn xe) W body g)
    (hsu : ∀ (a : Addr) (oe : Obj) (cls : Value) (pn : List (Addr × Obj)) (c : Str), known c = true → X.mg c = some cls → Zc cls none oe → (∃ vs, oe.data = .fields vs) → DSs (X.suite a ((a, oe) :: pn)) Wf (b₀ :: suite) (h c a))
    (hi : X.N[i]? = some n := by rfl) (hln : X.env.kindOf n = some .local := by rfl) (hs : X.stack = X.env :: X.outer := by rfl) (hf : X.env.frame = some X.env.locals := by rfl) :
    DSt X W (.Try body [.ExceptHandler (some (.Name x np)) (some n) (b₀ :: suite) pos'] [] [] pos) (sTry i known sub h g) := by
  refine ⟨_, L2.ps_try_as (tb := tbOf X g) (ts := tsOf X known h) (Wout := W) hs hf hN hi hln hc tk (fun W' pn xe tk' po' => ?_) (fun a oe cls d pn hz hd => ?_), fun B ca ρ cs Hf σ H En r hg => ?_⟩
  · obtain ⟨t, p, k⟩ := hb W' pn xe tk' po'
    exact ⟨fun pins s σ H D I ⟨B, ca, ρ, cs, Hf, r, hh⟩ => p.run pins s σ H D I (k B ca ρ cs Hf σ H D r hh)⟩
  · refine ⟨fun pins s σ H D I ⟨B, ca, ρ, cs, Hf, c, r, e, kn, ed, hh⟩ => ?_⟩
    subst ed
    obtain ⟨t, p, k⟩ := hsu a oe cls pn c kn e hz hd
    exact p.run pins s σ H D I (k B ca ρ cs Hf σ H D r hh)
  · refine ⟨B, ca, ρ, cs, Hf, r, ?_⟩
    unfold sTry at hg
    cases eg : g ρ cs with
    | er c ρ' cs' =>
      rw [eg] at hg
      simp only at hg
      intro ca' Hf' σ' H' cls nx r' mg
      by_cases kn : known c = true
      · rw [if_pos kn] at hg
        refine ⟨sub c, hsub c cls kn mg, fun hb a ha => ?_, fun hb => ?_⟩
        · rw [if_pos hb] at hg
          unfold hAs at hg
          split at hg
          · rename_i al
            refine ⟨B, ca', ρ'.set i (.fn a), cs', Hf', c, r'.set (s := .fn a) i rfl, mg, kn, rfl, ?_⟩
            have q := GO.fwd hg nx
            rw [← al a] at q
            exact clr_ok q
          · exact hg.elim
        · rw [if_neg (by rw [hb]; simp)] at hg
          exact hg ca' Hf' σ' H' cls nx r' mg
      · rw [if_neg kn] at hg; exact hg.elim
    | nx ρ' cs' => rw [eg] at hg; exact hg
    | rt v cs' => rw [eg] at hg; exact hg
    | bk ρ' cs' => rw [eg] at hg; exact hg
    | ct ρ' cs' => rw [eg] at hg; exact hg
    | no => rw [eg] at hg; exact hg.elim
/-- isinstance(e, C), e the exception in hand -/
def eIsE (i : Nat) (a : Addr) (b : Bool) (ρ : List S) : M S := match ρ[i]? with
  | some (.fn a') => if a' = a then ret (.d (.bool b)) else stuck
  | _ => stuck
theorem isE_run {i : Nat} {a : Addr} {b : Bool} {B : Hp} {ca : List Addr} {Hf : Hp} {ρ : List S} {σ : L2.St} {cs : Store} {H : Hp} {P : List Addr → Hp → Hp → Store → S → Prop} (r : Rel B ca ρ cs Hf σ H) (h : Gs X W B ca Hf ρ σ (eIsE i a b ρ cs) P) : σ[i]? = some (some (.ref a)) ∧ P ca Hf H cs (.d (.bool b)) := by
  unfold eIsE at h
  cases e : ρ[i]? with
  | none => rw [e] at h; exact h.elim
  | some s =>
    rw [e] at h
    cases s with
    | fn a' =>
      have h' : Gs X W B ca Hf ρ σ ((if a' = a then ret (.d (.bool b)) else stuck) cs) P := h
      split at h'
      · rename_i q
        subst q
        obtain ⟨v, h1, h2⟩ := r.get e (by simp)
        have h2' : v = .ref a' := h2
        subst h2'
        exact ⟨h1, h'.ret_ r⟩
      · exact h'.elim
    | _ => exact h.elim
end
section
variable {X : Cx} {a D : Addr} {oe : Obj} {pn : List (Addr × Obj)}
theorem de_isE (i : Nat) {en x : Str} {p p1 p2 pos : Pos} {C : Addr} {b : Bool} (hE : ExcC X.K D) (hz : Zc (.ref D) none oe) (hf : ∃ vs, oe.data = .fields vs) (hk : PySem.W.kitOne X.K (.ref D) (.ref C) = some b) (hm : X.mg "isinstance" = none) (hC : X.mg x = some (.ref C)) (hi : X.N[i]? = some en := by rfl)
    (hv : Vis X.env.scope en := by first | exact Or.inl rfl | exact Or.inr (Or.inl rfl) | exact Or.inr (Or.inr rfl)) (hg : Gl X "isinstance" := by rfl) (hgC : Gl X x := by rfl) (hd : (en == ("__debug__" : Str)) = false := by decide) (hcd : (en == ("__classdict__" : Str)) = false := by decide) (hdC : (x == ("__debug__" : Str)) = false := by decide)
    (h1 : starEach [.Name en p1, .Name x p2] X.env = (false, eval (.Name en p1) X.env) :: starEach [.Name x p2] X.env := by rfl) (h2 : starEach [.Name x p2] X.env = (false, eval (.Name x p2) X.env) :: starEach [] X.env := by rfl) (h3 : (backTo pos (starEach [.Name x p2] X.env)).any (·.1) = false := by rfl) :
    DE (X.suite a ((a, oe) :: pn)) Wf (.Call (.Name "isinstance" p) [.Name en p1, .Name x p2] [] pos) (eIsE i a b) := by
  refine ⟨_, pe_callB (X := X.suite a ((a, oe) :: pn)) (call_isE hE hz hf) hg hm (by decide +kernel) (pa_cons (pe_var hi hv hd hcd) (pa_cons (pe_glob (v := .ref C) hgC hC rfl hdC) pa_nil h2) h1) (by decide) (by decide) h1 h3, fun B ca ρ cs Hf σ H Q r h => ?_⟩
  obtain ⟨e1, q⟩ := isE_run r h
  refine ⟨_, e1, ?_⟩
  exact ⟨.ref C, .ref C, b, rfl, fun u ru => ru, hk, q _ (.bl b)⟩
theorem de_isET (i : Nat) {en x : Str} {p p1 p2 pos : Pos} {T : String} {b : Bool} (hE : ExcC X.K D) (hz : Zc (.ref D) none oe) (hf : ∃ vs, oe.data = .fields vs) (hk : PySem.W.kitOne X.K (.ref D) (.type T) = some b) (hm : X.mg "isinstance" = none) (hC : X.mg x = none) (hbt : bootBuiltins x = some (.type T)) (hi : X.N[i]? = some en := by rfl)
    (hv : Vis X.env.scope en := by first | exact Or.inl rfl | exact Or.inr (Or.inl rfl) | exact Or.inr (Or.inr rfl)) (hg : Gl X "isinstance" := by rfl) (hgC : Gl X x := by rfl) (hd : (en == ("__debug__" : Str)) = false := by decide) (hcd : (en == ("__classdict__" : Str)) = false := by decide) (hn : x ≠ "__name__" := by decide) (hdC : (x == ("__debug__" : Str)) = false := by decide)
    (h1 : starEach [.Name en p1, .Name x p2] X.env = (false, eval (.Name en p1) X.env) :: starEach [.Name x p2] X.env := by rfl) (h2 : starEach [.Name x p2] X.env = (false, eval (.Name x p2) X.env) :: starEach [] X.env := by rfl) (h3 : (backTo pos (starEach [.Name x p2] X.env)).any (·.1) = false := by rfl) :
    DE (X.suite a ((a, oe) :: pn)) Wf (.Call (.Name "isinstance" p) [.Name en p1, .Name x p2] [] pos) (eIsE i a b) := by
  refine ⟨_, pe_callB (X := X.suite a ((a, oe) :: pn)) (call_isE hE hz hf) hg hm (by decide +kernel) (pa_cons (pe_var hi hv hd hcd) (pa_cons (pe_bltn (v := .ty T) hgC hC hbt rfl hn hdC) pa_nil h2) h1) (by decide) (by decide) h1 h3, fun B ca ρ cs Hf σ H Q r h => ?_⟩
  obtain ⟨e1, q⟩ := isE_run r h
  refine ⟨_, e1, ?_⟩
  exact ⟨.ty T, .type T, b, rfl, fun u ru => ru, hk, q _ (.bl b)⟩
end
/-! facts of exception classes, as the head is looked at -/
def excB (K : PySem.W.Frag) (x : Str) : Bool :=
  decide (PySem.W.findIn K (.ref (He.ga K x)) "__getattribute__" = some (some (.builtin "BaseException.__getattribute__"))) && (decide (PySem.W.findIn K (.ref (He.ga K x)) "__getattr__" = some none) &&
    (decide (PySem.W.subIn K (.ref (He.ga K x)) (.type "BaseException") = some true) && (PySem.W.hasDictIn K (He.ga K x) && (decide (PySem.W.findIn K (.ref (He.ga K x)) "__class__" = some (some (.builtin "object.__class__"))) &&
      (decide (PySem.W.specialIn K (.builtin "object.__class__") "__get__" = some (some (.builtin "getset_descriptor.__get__"))) && (decide (PySem.W.takesIn K (.builtin "object.__class__") = some true) && decide (PySem.W.mroIn K (He.ga K x) (.type "object") = some true)))))))
theorem excB_ok {K : PySem.W.Frag} {x : Str} (h : excB K x = true) : ExcC K (He.ga K x) := by
  unfold excB at h
  simp only [Bool.and_eq_true, decide_eq_true_eq] at h
  obtain ⟨h1, h2, h3, h4, h5, h6, h7, h8⟩ := h
  exact ⟨h1, h2, h3, h4, h5, h6, h7, h8⟩
def kitB (K : PySem.W.Frag) (x y : Str) (b : Bool) : Bool := decide (PySem.W.kitOne K (.ref (He.ga K x)) (.ref (He.ga K y)) = some b)
def kitTB (K : PySem.W.Frag) (x : Str) (T : String) (b : Bool) : Bool := decide (PySem.W.kitOne K (.ref (He.ga K x)) (.type T) = some b)
theorem kitB_ok {K : PySem.W.Frag} {x y : Str} {b : Bool} (h : kitB K x y b = true) : PySem.W.kitOne K (.ref (He.ga K x)) (.ref (He.ga K y)) = some b := of_decide_eq_true h
theorem kitTB_ok {K : PySem.W.Frag} {x : Str} {T : String} {b : Bool} (h : kitTB K x T b = true) : PySem.W.kitOne K (.ref (He.ga K x)) (.type T) = some b := of_decide_eq_true h
def strG : List D → Option D
  | [.int i] => if i.natAbs.log2 < 1920 then some (.str (toString i)) else none
  | [.str x] => some (.str x)
  | _ => none
theorem str_ok {X : Cx} : CallR X (.type "str") (rCd strG) := by
  intro pins s σ H xs us Q I r h
  obtain ⟨Hf, ds, d, e, ex, hl, q⟩ := h
  unfold strG at e
  split at e
  · split at e
    · rename_i hz
      cases e
      obtain ⟨v, rfl, h1⟩ := lvs_one hl
      have := h1.int_; subst this
      exact call_str_int pins s σ H _ us Q I r ⟨_, rfl, hz, q _ _ _ (Gw.refl ex) (.str _)⟩
    · cases e
  · cases e
    obtain ⟨v, rfl, h1⟩ := lvs_one hl
    have := h1.str_; subst this
    exact SkE.call_str_str pins s σ H _ us Q I r ⟨_, rfl, q _ _ _ (Gw.refl ex) (.str _)⟩
  · cases e
theorem bt_ValueError : bootBuiltins "ValueError" = some (.type "ValueError") := by decide +kernel
end Dn

set_option Elab.async false
set_option linter.all false
set_option maxRecDepth 100000
set_option maxHeartbeats 4000000
/-! Dn13: lists and tuples times an int. -/
namespace Dn
open PySem L2
open AutoSeq1 (wpAny_loadPart')
theorem tupSame (l : Addr) (items : Array Value) (n : Nat) (dd : Option Addr) (sl : Array (Option Value)) (x : Int) (u : Tok) (c0 : (decide (x < -(2 ^ 63)) || decide (x ≥ 2 ^ 63)) = false) (c1 : (items.isEmpty || x == 1) = true) :
    Meets (Builtin.«tuple.__mul__» ⟨[.ref l, .int x u], []⟩) (fun _ R s => s.heap.get? l = some { cls := .type "tuple", dict := dd, data := .seq items n, slots := sl } ∧ R (.ok (.ret (Value.ref l))) s) :=
  .of_wp fun prog w A R s h => by
    obtain ⟨hp, g, d, tk, os⟩ := s
    obtain ⟨hl, h⟩ := h
    have f1 := AutoSeq1.idx_int
    wp_walk using wpAny_loadPart' hl
    repeat (first
      | (refine wpAny_ite_false (decide_eq_false (by rw [c0]; exact Bool.false_ne_true)) ?_; wp_walk using wpAny_loadPart' hl)
      | (refine wpAny_ite_true (decide_eq_true c1) ?_; wp_walk using wpAny_loadPart' hl))
    exact ⟨_, rfl, h⟩
theorem tupNone (l : Addr) (items : Array Value) (n : Nat) (dd : Option Addr) (sl : Array (Option Value)) (x : Int) (u : Tok) (c0 : (decide (x < -(2 ^ 63)) || decide (x ≥ 2 ^ 63)) = false) (c1 : (items.isEmpty || x == 1) = false) (c2 : (decide (x ≤ 0) || items.isEmpty) = true) :
    Meets (Builtin.«tuple.__mul__» ⟨[.ref l, .int x u], []⟩) (fun _ R s => s.heap.get? l = some { cls := .type "tuple", dict := dd, data := .seq items n, slots := sl } ∧
      R (.ok (.ret (Value.ref s.heap.objs.size))) { s with heap := s.heap.push { cls := Value.type "tuple", data := Data.seq #[] }, toks := s.toks }) :=
  .of_wp fun prog w A R s h => by
    obtain ⟨hp, g, d, tk, os⟩ := s
    obtain ⟨hl, h⟩ := h
    have f1 := AutoSeq1.idx_int
    wp_walk using wpAny_loadPart' hl
    repeat (first
      | (refine wpAny_ite_false (decide_eq_false (by rw [c0]; exact Bool.false_ne_true)) ?_; wp_walk using wpAny_loadPart' hl)
      | (refine wpAny_ite_false (decide_eq_false (by rw [c1]; exact Bool.false_ne_true)) ?_; wp_walk using wpAny_loadPart' hl)
      | (refine wpAny_ite_true (decide_eq_true c2) ?_; wp_walk using wpAny_loadPart' hl))
    exact ⟨_, rfl, h⟩
def mulE (a b : D) : Option D := match a, b with
  | .list xs, .int k => if -1000000000 ≤ k ∧ k ≤ 1000000000 ∧ xs.length * k.toNat ≤ sizeLine then some (.list (List.replicate k.toNat xs).flatten) else none
  | .tuple xs, .int k => if -1000000000 ≤ k ∧ k ≤ 1000000000 ∧ xs.length * k.toNat ≤ 1000000 then some (.tuple (List.replicate k.toNat xs).flatten) else none
  | a, b => mulD a b
theorem dps_rep {H : Hp} {vs : List V} {ds : List D} (h : Dds H vs ds) : ∀ k : Nat, Dds H (List.replicate k vs).flatten (List.replicate k ds).flatten
  | 0 => .nil
  | k + 1 => by
    rw [List.replicate_succ, List.replicate_succ, List.flatten_cons, List.flatten_cons]
    exact dps_app h (dps_rep h k)
theorem rep_len {α : Type} (k : Nat) (l : List α) : (List.replicate k l).flatten.length = l.length * k := by
  induction k with
  | zero => simp
  | succ k ih => rw [List.replicate_succ, List.flatten_cons, List.length_append, ih, Nat.mul_succ]; omega
section
variable {X : Cx}
theorem mulE_ok : OpR X (binaryOp .Mult) (rD mulE) := by
  intro pins s σ H x y v u Q I rx ry h
  obtain ⟨Hf, da, db, d, e, ex, ha, hb, q⟩ := h
  unfold mulE at e
  split at e
  · rename_i ds k
    split at e
    · rename_i hz
      obtain ⟨k1, k2, k3⟩ := hz
      cases e
      obtain ⟨l, vs, rfl, h1, h2⟩ := ha.lst
      have := hb.int_; subst this
      have l1 := dps_len h2
      cases rx
      obtain ⟨t, rfl⟩ := ry
      obtain ⟨z, its, n, r, hl, e⟩ := Inv.rdl I h1
      have hlen : its.toArray.size * k.toNat ≤ sizeLine := by rw [List.size_toArray, ← hl, l1]; exact k3
      have c1 : ¬ its.toArray.size * k.toNat > (2 ^ 63 - 1) / 8 := by
        have : (sizeLine : Nat) ≤ (2 ^ 63 - 1) / 8 := by decide
        omega
      have c2 : ¬ (!Builtin.List.listFitsIndex k) = true := by
        rw [fitsIndex_both (by omega) (by omega)]
        exact Bool.false_ne_true
      have c3 : ¬ Builtin.List.listTooLong (its.toArray.size * k.toNat) = true := by
        rw [notLongL hlen]
        exact Bool.false_ne_true
      have c4 : List.foldl (fun x1 x2 => x1 ++ x2) #[] (List.replicate (if its.toArray.isEmpty = true then 0 else k.toNat) its.toArray) = (List.replicate k.toNat its).flatten.toArray := by
        rw [size_rep]
        cases its with
        | nil => simp
        | cons a r' => rw [if_neg (by simp)]
      refine wpAny_binaryOp_repeat_ref (T := "list") (U := "int") (by decide) ⟨_, e, rfl⟩ (fun s' => typeIs_int s' k t) noFill_list_mul F.fills_int_mul F.slot_int_rmul repeat_list F.slot_int_index.lookup
        (call_meets F.slot_int_rmul (typeIs_int s k t) F.entry_int_rmul (F.args_int_rmul_2 _ _) (int___rmul___int_list k t l its.toArray n)
          ⟨e, rfl, ⟨_, e, rfl⟩, call_meets F.slot_list_mul ⟨_, e, rfl⟩ F.entry_list_mul (F.args_list_mul_2 _ _) (AutoListH.list___mul___list_int_3 l its.toArray n k t c2 c1 c3) ⟨e, ?_⟩⟩)
      rw [c4]
      have g := Gw.new (o := .lst (List.replicate k.toNat vs).flatten) ex I.fresh
      exact ⟨.ref _, _, I.lnew (t' := s.toks) (r.rep k.toNat) (by rw [rep_len, l1]; exact k3), rfl, q _ _ _ g (.lst (.inl upd_same) (dps_ex g.ex (dps_rep h2 _)))⟩
    · cases e
  · rename_i ds k
    split at e
    · rename_i hz
      obtain ⟨k1, k2, k3⟩ := hz
      cases e
      obtain ⟨l, vs, rfl, h1, h2⟩ := ha.tup
      have := hb.int_; subst this
      have l1 := dps_len h2
      cases rx
      obtain ⟨t, rfl⟩ := ry
      obtain ⟨its, r, ⟨⟨cls, dd, data, sl⟩, ho, hc, n, hd⟩, hs⟩ := I.tuple (.inl h1)
      simp only at hc hd
      subst hc hd
      have hle : its.length = vs.length := r.length.symm
      have c0 : (decide (k < -(2 ^ 63)) || decide (k ≥ 2 ^ 63)) = false := by
        rw [decide_eq_false (by omega), decide_eq_false (by omega)] <;> rfl
      have road : ∀ {Q' : Value → Shared → Prop}, wpAny (model X.prog X.w) X.A (call (.builtin "tuple.__mul__") [.ref l, .int k t]) Q' X.xe s → wpAny (model X.prog X.w) X.A (binaryOp .Mult (.ref l) (.int k t)) Q' X.xe s := fun {Q'} hh =>
        wpAny_binaryOp_repeat_ref (T := "tuple") (U := "int") (by decide) ⟨_, ho, rfl⟩ (fun s' => typeIs_int s' k t) noFill_tuple_mul F.fills_int_mul F.slot_int_rmul repeat_tuple F.slot_int_index.lookup
          (call_meets F.slot_int_rmul (typeIs_int s k t) F.entry_int_rmul (F.args_int_rmul_2 _ _) (int_rmul_tuple k t l its.toArray n dd sl) ⟨ho, rfl, ⟨_, ho, rfl⟩, hh⟩)
      refine road ?_
      by_cases hsame : (its.toArray.isEmpty || k == 1) = true
      · refine call_meets F.slot_tuple_mul ⟨_, ho, rfl⟩ F.entry_tuple_mul (F.args_tuple_mul_2 _ _) (tupSame l its.toArray n dd sl k t c0 hsame) ⟨ho, ?_⟩
        refine ⟨.ref l, H, I, rfl, q _ _ _ (Gw.refl ex) ?_⟩
        have same : (List.replicate k.toNat ds).flatten = ds := by
          rcases Bool.or_eq_true_iff.mp hsame with z | z
          · have e0 : its = [] := by
              cases its with
              | nil => rfl
              | cons a b => simp at z
            subst e0
            have : ds = [] := List.length_eq_zero_iff.mp (by rw [← l1, ← hle]; rfl)
            subst this
            simp
          · have : k = 1 := by simpa using z
            subst this
            simp
        rw [same]
        exact ha.flat fun _ z => nomatch z
      · have c1 : (its.toArray.isEmpty || k == 1) = false := by simpa using hsame
        by_cases hnone : (decide (k ≤ 0) || its.toArray.isEmpty) = true
        · refine call_meets F.slot_tuple_mul ⟨_, ho, rfl⟩ F.entry_tuple_mul (F.args_tuple_mul_2 _ _) (tupNone l its.toArray n dd sl k t c0 c1 hnone) ⟨ho, ?_⟩
          have k0 : k ≤ 0 := by
            rcases Bool.or_eq_true_iff.mp hnone with z | z
            · exact of_decide_eq_true z
            · rw [z] at c1; simp at c1
          have e0 : k.toNat = 0 := by omega
          rw [e0] at q
          have g := Gw.new (o := .tup []) ex (I.hok.fresh (Nat.le_refl _))
          exact ⟨.ref s.heap.objs.size, _, I.laid (t' := s.toks) (o := .tup []) (fun b ob q => Heap.get?_push_of_some _ q) (Nat.le_refl _) ⟨Nat.zero_le _, [], .nil, PyProof.Rows.IsTup.new _ _⟩, rfl, q _ _ _ g (.tup (.inl upd_same) .nil)⟩
        · have c2 : (decide (k ≤ 0) || its.toArray.isEmpty) = false := by simpa using hnone
          have kp : 0 < k := by
            have := (Bool.or_eq_false_iff.mp c2).1
            have := of_decide_eq_false this
            omega
          have km : (k.toNat : Int) = k := by omega
          have hm : ((its.toArray.size : Nat) : Int) * k ≤ 1000000 := by
            have k4 : ((ds.length * k.toNat : Nat) : Int) ≤ 1000000 := Int.ofNat_le.mpr k3
            rw [Int.natCast_mul, km] at k4
            rw [List.size_toArray, hle, l1]
            exact k4
          have flen : (List.replicate k.toNat its).flatten.length ≤ sizeLine := by
            rw [rep_len, hle, l1, sizeLine_eq]
            omega
          have c4 : Builtin.Tuple.tupleTooMany (((its.toArray.size : Nat) : Int) * k) = false := by
            unfold Builtin.Tuple.tupleTooMany
            rw [sizeLine_eq]
            exact decide_eq_false (by omega)
          refine call_meets F.slot_tuple_mul ⟨_, ho, rfl⟩ F.entry_tuple_mul (F.args_tuple_mul_2 _ _) (tuple_mulW l its.toArray n dd sl k t c0 c1 c2 (by omega) c4 (by rw [size_rep, List.size_toArray]; exact flen)) ⟨ho, ?_⟩
          rw [size_rep]
          have g := Gw.new (o := .tup (List.replicate k.toNat vs).flatten) ex (I.hok.fresh (Nat.le_refl _))
          exact ⟨.ref s.heap.objs.size, _, I.laid (t' := s.toks) (o := .tup (List.replicate k.toNat vs).flatten) (fun b ob q => Heap.get?_push_of_some _ q) (Nat.le_refl _) ⟨by rw [rep_len, l1, sizeLine_eq]; omega, _, r.rep k.toNat, PyProof.Rows.IsTup.new _ _⟩, rfl, q _ _ _ g (.tup (.inl upd_same) (dps_ex g.ex (dps_rep h2 _)))⟩
    · cases e
  · exact mul_ok pins s σ H x y v u Q I rx ry ⟨Hf, da, db, d, e, ex, ha, hb, q⟩
end
end Dn

set_option Elab.async false
set_option linter.all false
set_option maxRecDepth 100000
set_option maxHeartbeats 4000000
/-! Dn14: sorted(xs), sorted(set(xs)). -/
namespace Dn
open PySem L2
open PySem.Spec PyProof.Rows
/-! ### the order of texts -/
abbrev leS (a b : Str) : Prop := ltCps b.cps.toList a.cps.toList = false
theorem leS_iff (a b : Str) : leS a b ↔ ¬ b.cps.toList < a.cps.toList := by
  unfold leS
  rw [ltCps_eq]
  exact decide_eq_false_iff_not
theorem leS_trans {a b c : Str} (h : leS a b) (k : leS b c) : leS a c := by
  rw [leS_iff] at *
  have h' : a.cps.toList ≤ b.cps.toList := h
  have k' : b.cps.toList ≤ c.cps.toList := k
  exact List.le_trans h' k'
theorem leS_total (a b : Str) : leS a b ∨ leS b a := by
  rw [leS_iff, leS_iff]
  by_cases h : b.cps.toList < a.cps.toList
  · exact .inr (List.lt_asymm h)
  · exact .inl h
theorem leS_antisymm {a b : Str} (h : leS a b) (k : leS b a) : a = b := by
  rw [leS_iff] at *
  have h' : a.cps.toList ≤ b.cps.toList := h
  have k' : b.cps.toList ≤ a.cps.toList := k
  have e : a.cps.toList = b.cps.toList := List.le_antisymm h' k'
  obtain ⟨a⟩ := a
  obtain ⟨b⟩ := b
  simp only at e
  rw [Array.toList_inj.mp e]
def insT (x : Str) : List Str → List Str
  | [] => [x]
  | y :: r => if ltCps y.cps.toList x.cps.toList = true then y :: insT x r else x :: y :: r
def sortT : List Str → List Str
  | [] => []
  | x :: r => insT x (sortT r)
theorem insT_perm (x : Str) : ∀ l, (insT x l).Perm (x :: l)
  | [] => .refl _
  | y :: r => by
    unfold insT
    split
    · exact ((insT_perm x r).cons y).trans (.swap _ _ _)
    · exact .refl _
theorem sortT_perm : ∀ l, (sortT l).Perm l
  | [] => .refl _
  | x :: r => (insT_perm x _).trans ((sortT_perm r).cons x)
theorem insT_up (x : Str) : ∀ l : List Str, l.Pairwise leS → (insT x l).Pairwise leS
  | [], _ => by simp [insT]
  | y :: r, h => by
    obtain ⟨h1, h2⟩ := List.pairwise_cons.mp h
    unfold insT
    split
    · rename_i c
      refine List.pairwise_cons.mpr ⟨fun z hz => ?_, insT_up x r h2⟩
      rcases List.mem_cons.mp ((insT_perm x r).mem_iff.mp hz) with rfl | hz
      · rcases leS_total y z with q | q
        · exact q
        · unfold leS at q; rw [c] at q; cases q
      · exact h1 z hz
    · rename_i c
      have c' : leS x y := by unfold leS; simpa using c
      refine List.pairwise_cons.mpr ⟨fun z hz => ?_, h⟩
      rcases List.mem_cons.mp hz with rfl | hz
      · exact c'
      · exact leS_trans c' (h1 z hz)
theorem sortT_up : ∀ l, (sortT l).Pairwise leS
  | [] => .nil
  | x :: r => insT_up x _ (sortT_up r)
theorem up_of_rising : ∀ (p : Str) (l : List Str), risingS p l = true → (p :: l).Pairwise leS
  | p, [], _ => by simp
  | p, x :: r, h => by
    have h' : (!ltCps x.cps.toList p.cps.toList && risingS x r) = true := h
    rw [Bool.and_eq_true] at h'
    have c : leS p x := by
      have := h'.1
      unfold leS
      simpa using this
    have ih := up_of_rising x r h'.2
    refine List.pairwise_cons.mpr ⟨fun z hz => ?_, ih⟩
    rcases List.mem_cons.mp hz with rfl | hz
    · exact c
    · exact leS_trans c ((List.pairwise_cons.mp ih).1 z hz)
theorem up_of_sortedS : ∀ l : List Str, sortedS l = true → l.Pairwise leS
  | [], _ => .nil
  | x :: r, h => up_of_rising x r h
theorem eq_sortT {l l' : List Str} (hp : l'.Perm l) (hs : l'.Pairwise leS) : l' = sortT l :=
  List.Perm.eq_of_pairwise (fun _ _ _ _ a b => leS_antisymm a b) hs (sortT_up l) (hp.trans (sortT_perm l).symm)
theorem sortT_fix {l : List Str} (h : l.Pairwise leS) : sortT l = l := (eq_sortT (.refl l) h).symm
theorem sortT_congr {l l' : List Str} (p : l.Perm l') : sortT l = sortT l' := eq_sortT ((sortT_perm l).trans p) (sortT_up l)
/-! ### sorted(set) -/
def sortKT : List Key → Option (List Str)
  | [] => some []
  | .inr x :: r => (sortKT r).map (x :: ·)
  | _ => none
def sortKI : List Key → Option (List Int)
  | [] => some []
  | .inl x :: r => (sortKI r).map (x :: ·)
  | _ => none
theorem sortKT_eq : ∀ {ks : List Key} {xs : List Str}, sortKT ks = some xs → ks = xs.map Sum.inr
  | [], xs, h => by cases h; rfl
  | .inl i :: r, xs, h => by cases h
  | .inr x :: r, xs, h => by
    unfold sortKT at h
    cases e : sortKT r with
    | none => rw [e] at h; cases h
    | some ys => rw [e] at h; cases h; rw [sortKT_eq e]; rfl
theorem sortKI_eq : ∀ {ks : List Key} {xs : List Int}, sortKI ks = some xs → ks = xs.map Sum.inl
  | [], xs, h => by cases h; rfl
  | .inr i :: r, xs, h => by cases h
  | .inl x :: r, xs, h => by
    unfold sortKI at h
    cases e : sortKI r with
    | none => rw [e] at h; cases h
    | some ys => rw [e] at h; cases h; rw [sortKI_eq e]; rfl
theorem strsAre_keys : ∀ {vs : List Value} {ks : List Key}, (∀ v ∈ vs, ∃ k, keyIs k v = true) → vs.map kvV = ks → ∀ {xs : List Str}, ks = xs.map Sum.inr → StrsAre vs xs
  | [], _, _, e, xs, h => by
    subst e
    cases xs with
    | nil => exact .nil
    | cons _ _ => cases h
  | v :: vs, _, g, e, xs, h => by
    subst e
    cases xs with
    | nil => cases h
    | cons x xs =>
      rw [List.map_cons, List.map_cons] at h
      injection h with h1 h2
      obtain ⟨k, hk⟩ := g v List.mem_cons_self
      have q := kvV_self hk
      rw [h1] at q
      subst q
      rcases keyIs_shape hk with ⟨i, t, z, _⟩ | ⟨y, t, z, rfl⟩
      · cases z
      · injection z with z
        subst z
        exact .cons x t (strsAre_keys (fun u hu => g u (List.mem_cons_of_mem _ hu)) rfl h2)
theorem intsAre_keys : ∀ {vs : List Value} {ks : List Key}, (∀ v ∈ vs, ∃ k, keyIs k v = true) → vs.map kvV = ks → ∀ {xs : List Int}, ks = xs.map Sum.inl → IntsAre vs xs
  | [], _, _, e, xs, h => by
    subst e
    cases xs with
    | nil => exact .nil
    | cons _ _ => cases h
  | v :: vs, _, g, e, xs, h => by
    subst e
    cases xs with
    | nil => cases h
    | cons x xs =>
      rw [List.map_cons, List.map_cons] at h
      injection h with h1 h2
      obtain ⟨k, hk⟩ := g v List.mem_cons_self
      have q := kvV_self hk
      rw [h1] at q
      subst q
      rcases keyIs_shape hk with ⟨y, t, z, rfl⟩ | ⟨i, t, z, _⟩
      · injection z with z
        subst z
        exact .cons x t (intsAre_keys (fun u hu => g u (List.mem_cons_of_mem _ hu)) rfl h2)
      · cases z
theorem perm_map_inr {ks : List Key} {xs : List Str} (p : ks.Perm (xs.map Sum.inr)) : ∃ ys : List Str, ks = ys.map Sum.inr ∧ ys.Perm xs := by
  have hall : ∀ k ∈ ks, ∃ x, k = Sum.inr x := fun k hk => by
    obtain ⟨x, _, rfl⟩ := List.mem_map.mp (p.mem_iff.mp hk)
    exact ⟨x, rfl⟩
  let f : Key → Str := fun k => match k with
    | .inr x => x
    | _ => ⟨#[]⟩
  refine ⟨ks.map f, ?_, ?_⟩
  · rw [List.map_map]
    conv => lhs; rw [← List.map_id ks]
    refine List.map_congr_left fun k hk => ?_
    obtain ⟨x, rfl⟩ := hall k hk
    rfl
  · have q := p.map f
    rw [List.map_map] at q
    rw [show (f ∘ Sum.inr) = id from rfl, List.map_id] at q
    exact q
theorem perm_map_inl {ks : List Key} {xs : List Int} (p : ks.Perm (xs.map Sum.inl)) : ∃ ys : List Int, ks = ys.map Sum.inl ∧ ys.Perm xs := by
  have hall : ∀ k ∈ ks, ∃ x, k = Sum.inl x := fun k hk => by
    obtain ⟨x, _, rfl⟩ := List.mem_map.mp (p.mem_iff.mp hk)
    exact ⟨x, rfl⟩
  let f : Key → Int := fun k => match k with
    | .inl x => x
    | _ => 0
  refine ⟨ks.map f, ?_, ?_⟩
  · rw [List.map_map]
    conv => lhs; rw [← List.map_id ks]
    refine List.map_congr_left fun k hk => ?_
    obtain ⟨x, rfl⟩ := hall k hk
    rfl
  · have q := p.map f
    rw [List.map_map] at q
    rw [show (f ∘ Sum.inl) = id from rfl, List.map_id] at q
    exact q
section
variable {P : Program} {w : World} {A : Around} {E : Value → Shared → Prop} {s : Shared} {a : Addr} {ks : List Key}
theorem sortX {Q : Value → Shared → Prop} (R : SetX w s.heap a ks) (hh : A.handled = none)
    (hQ : ∀ s' p (out : Array Value) (c : Nat), (∀ b o, s.heap.get? b = some o → s'.heap.get? b = some o) → s'.gens = s.gens → s'.os = s.os → s.heap.objs.size ≤ p →
      s'.heap.get? p = some (seqObj "list" out c) → (∀ xs, ks = xs.map Sum.inr → StrsAre out.toList (sortT xs)) → (∀ xs, ks = xs.map Sum.inl → IntsAre out.toList (PySem.W.sortI xs)) → Q (.ref p) s')
    (hk : (∃ xs : List Str, ks = xs.map Sum.inr) ∨ (∃ xs : List Int, ks = xs.map Sum.inl)) :
    wpAny (model P w) A (call (.builtin "sorted") [.ref a]) Q E s := by
  obtain ⟨o, es, ep, t, ho, hex, hd, g, nd, pk, hb, hf, hr, hl⟩ := R
  refine Calls.call_function_entry kind_sorted plain_sorted entry_sorted (args_sorted1 _) ?_
  unfold Builtin.«sorted»
  refine wpAny_bind (m := checkCount "sorted" 1 1 _) (wpAny_pure ?_)
  refine wpAny_bind (collect_set (A := A.in1) hh ⟨o, ho, hex.1, hd⟩ hf hb hr hl fun s1 vs k1 hz e1 e2 pm => ?_)
  have hgood : ∀ v ∈ vs, ∃ k, keyIs k v = true := fun v hv => by
    obtain ⟨e, he, q⟩ := List.mem_map.mp (pm.mem_iff.mp hv)
    obtain ⟨k, h1, _⟩ := g e he
    exact ⟨k, q ▸ h1⟩
  have hkp : (vs.map kvV).Perm ks := by
    have q := pm.map kvV
    rw [List.map_map] at q
    exact q.trans pk
  have hvl : vs.length < scanBound := by
    have q : vs.length = es.size := by rw [pm.length_eq, List.length_map, Array.length_toList]
    rw [q]; exact hb
  have sb : scanBound = 4096 := rfl
  have hvz : vs.length ≤ sizeLine := by rw [sizeLine_eq]; omega
  refine wpAny_bind (wpAny_newList ?_ hvz)
  have hoL : (s1.heap.push (seqObj "list" vs.toArray 0)).get? s1.heap.objs.size = some (seqObj "list" vs.toArray 0) := Heap.get?_push_size _ rfl
  have keep : ∀ (out : Array Value) b u, s.heap.get? b = some u → (sortedHeap (s1.heap.push (seqObj "list" vs.toArray 0)) s1.heap.objs.size vs out).get? b = some u := fun out b u e => by
    have q := k1 b u e
    have hlt := Heap.lt_size q
    rw [sortedHeap_old (Nat.ne_of_lt hlt) (by rw [size_push']; exact Nat.lt_succ_of_lt hlt)]
    exact Heap.get?_push_of_some _ q
  rcases hk with ⟨xs, rfl⟩ | ⟨xs, rfl⟩
  · obtain ⟨ys, ey, py⟩ := perm_map_inr hkp
    have hS : StrsAre vs ys := strsAre_keys hgood rfl ey
    refine wpAny_bind (wpAny_holding (wpAny_call_entry slot_list_sort ⟨_, hoL, rfl⟩ entry_list_sort
      (list_sort_treeKAny strKind_oneLt hoL hS.keysOf (fun v₁ v₂ rest e => keyKind_strs (by rw [← e]; exact hS)) hvz fun st' hp hs => ⟨_, rfl, ?_⟩) (args_list_sort _)))
    obtain ⟨zs, g1, g2, g3⟩ := sorted_out_str hS hp hs
    have ez : zs = sortT xs := eq_sortT (g2.trans py) (up_of_sortedS zs g3)
    subst ez
    obtain ⟨c, hc⟩ := sortedHeap_at (vs := vs) (out := (arrOf st').map (·.2)) hoL
    refine wpAny_pure ⟨_, rfl, hQ _ s1.heap.objs.size _ c (keep _) e1 e2 hz hc (fun xs' e => ?_) fun xs' e => ?_⟩
    · have : xs = xs' := by
        have q := congrArg (List.map (fun k : Key => match k with | .inr x => x | _ => ⟨#[]⟩)) e
        simp only [List.map_map] at q
        simpa [Function.comp_def] using q
      subst this; exact g1
    · cases xs with
      | nil =>
        cases xs' with
        | nil =>
          have g1' : StrsAre ((arrOf st').map (·.2)).toList [] := g1
          cases h : ((arrOf st').map (·.2)).toList with
          | nil => exact .nil
          | cons _ _ => rw [h] at g1'; cases g1'
        | cons _ _ => cases e
      | cons _ _ => cases xs' <;> cases e
  · obtain ⟨ys, ey, py⟩ := perm_map_inl hkp
    have hS : IntsAre vs ys := intsAre_keys hgood rfl ey
    refine wpAny_bind (wpAny_holding (wpAny_call_entry slot_list_sort ⟨_, hoL, rfl⟩ entry_list_sort
      (list_sort_treeAny hoL hS hvz fun out zs g1 g2 g3 => ⟨_, rfl, ?_⟩) (args_list_sort _)))
    have ez : zs = PySem.W.sortI xs := PySem.W.eq_sortI (g2.trans py) g3
    subst ez
    obtain ⟨c, hc⟩ := sortedHeap_at (vs := vs) (out := out) hoL
    refine wpAny_pure ⟨_, rfl, hQ _ s1.heap.objs.size _ c (keep _) e1 e2 hz hc (fun xs' e => ?_) fun xs' e => ?_⟩
    · cases xs with
      | nil =>
        cases xs' with
        | nil =>
          have g1' : IntsAre out.toList [] := g1
          cases h : out.toList with
          | nil => exact .nil
          | cons _ _ => rw [h] at g1'; cases g1'
        | cons _ _ => cases e
      | cons _ _ => cases xs' <;> cases e
    · have : xs = xs' := by
        have q := congrArg (List.map (fun k : Key => match k with | .inl x => x | _ => 0)) e
        simp only [List.map_map] at q
        simpa [Function.comp_def] using q
      subst this; exact g1
end
/-! ### lists of ints, lists of texts, as data -/
def intsD : List D → Option (List Int)
  | [] => some []
  | .int i :: r => (intsD r).map (i :: ·)
  | _ => none
def txtsD : List D → Option (List Str)
  | [] => some []
  | .str x :: r => (txtsD r).map (x :: ·)
  | _ => none
theorem intsD_vs {Hf : Hp} : ∀ {vs : List V} {xs : List D} {ns : List Int}, Dds Hf vs xs → intsD xs = some ns → vs = ns.map V.int
  | _, _, ns, .nil, e => by
    have : [] = ns := Option.some.inj e
    subst this; rfl
  | _, _, ns, .cons (d := d) (ds := ds) h t, e => by
    cases d with
    | int i =>
      cases h
      cases z : intsD ds with
      | none => simp [intsD, z] at e
      | some r =>
        simp [intsD, z] at e
        subst e
        rw [intsD_vs t z]; rfl
    | _ => cases e
theorem txtsD_vs {Hf : Hp} : ∀ {vs : List V} {xs : List D} {ns : List Str}, Dds Hf vs xs → txtsD xs = some ns → vs = ns.map V.str
  | _, _, ns, .nil, e => by
    have : [] = ns := Option.some.inj e
    subst this; rfl
  | _, _, ns, .cons (d := d) (ds := ds) h t, e => by
    cases d with
    | str i =>
      cases h
      cases z : txtsD ds with
      | none => simp [txtsD, z] at e
      | some r =>
        simp [txtsD, z] at e
        subst e
        rw [txtsD_vs t z]; rfl
    | _ => cases e
theorem dds_ints {Hf : Hp} : ∀ ns : List Int, Dds Hf (ns.map V.int) (ns.map PyData.int)
  | [] => .nil
  | i :: r => .cons (.int i) (dds_ints r)
theorem dds_txts {Hf : Hp} : ∀ ns : List Str, Dds Hf (ns.map V.str) (ns.map PyData.str)
  | [] => .nil
  | i :: r => .cons (.str i) (dds_txts r)
def sortD (xs : List D) : Option D := if xs.length ≤ sizeLine then (match intsD xs with
  | some ns => some (.list ((PySem.W.sortI ns).map .int))
  | none => match txtsD xs with
    | some ys => some (.list ((sortT ys).map .str))
    | none => none) else none
def sortedG : List D → Option D
  | [.list xs] => sortD xs
  | _ => none
def sumG : List D → Option D
  | [.list xs] => (intsD xs).map fun ns => .int ns.sum
  | _ => none
def mostI : List Int → Int
  | [] => 0
  | [a] => a
  | a :: r => max a (mostI r)
def leastI : List Int → Int
  | [] => 0
  | [a] => a
  | a :: r => min a (leastI r)
theorem mostI_is : ∀ {ns : List Int} {m : Int}, m ∈ ns → (∀ y ∈ ns, y ≤ m) → m = mostI ns
  | [], _, h, _ => by cases h
  | [a], m, h, _ => by simpa [mostI] using h
  | a :: b :: r, m, h, k => by
    show m = max a (mostI (b :: r))
    have ka := k a List.mem_cons_self
    have kr : ∀ y ∈ b :: r, y ≤ m := fun y hy => k y (List.mem_cons_of_mem _ hy)
    have all : ∀ y ∈ b :: r, y ≤ mostI (b :: r) ∧ True := fun y hy => ⟨le_most y (b :: r) hy, trivial⟩
    have mem := most_mem (b :: r) (by simp)
    have km := kr _ mem
    rcases List.mem_cons.mp h with rfl | h
    · omega
    · have := (all m h).1
      omega
where
  le_most : ∀ (y : Int) (ns : List Int), y ∈ ns → y ≤ mostI ns
    | y, [], h => by cases h
    | y, [a], h => by have : y = a := by simpa using h
                      subst this; exact Int.le_refl _
    | y, a :: b :: r, h => by
      show y ≤ max a (mostI (b :: r))
      rcases List.mem_cons.mp h with rfl | h
      · omega
      · have := le_most y (b :: r) h
        omega
  most_mem : ∀ (ns : List Int), ns ≠ [] → mostI ns ∈ ns
    | [], h => absurd rfl h
    | [a], _ => by simp [mostI]
    | a :: b :: r, _ => by
      show max a (mostI (b :: r)) ∈ a :: b :: r
      have := most_mem (b :: r) (by simp)
      by_cases h : a ≤ mostI (b :: r)
      · rw [Int.max_eq_right h]; exact List.mem_cons_of_mem _ this
      · rw [Int.max_eq_left (by omega)]; exact List.mem_cons_self
theorem leastI_is : ∀ {ns : List Int} {m : Int}, m ∈ ns → (∀ y ∈ ns, m ≤ y) → m = leastI ns
  | [], _, h, _ => by cases h
  | [a], m, h, _ => by simpa [leastI] using h
  | a :: b :: r, m, h, k => by
    show m = min a (leastI (b :: r))
    have ka := k a List.mem_cons_self
    have kr : ∀ y ∈ b :: r, m ≤ y := fun y hy => k y (List.mem_cons_of_mem _ hy)
    have mem := least_mem (b :: r) (by simp)
    have km := kr _ mem
    rcases List.mem_cons.mp h with rfl | h
    · omega
    · have := least_le m (b :: r) h
      omega
where
  least_le : ∀ (y : Int) (ns : List Int), y ∈ ns → leastI ns ≤ y
    | y, [], h => by cases h
    | y, [a], h => by have : y = a := by simpa using h
                      subst this; exact Int.le_refl _
    | y, a :: b :: r, h => by
      show min a (leastI (b :: r)) ≤ y
      rcases List.mem_cons.mp h with rfl | h
      · omega
      · have := least_le y (b :: r) h
        omega
  least_mem : ∀ (ns : List Int), ns ≠ [] → leastI ns ∈ ns
    | [], h => absurd rfl h
    | [a], _ => by simp [leastI]
    | a :: b :: r, _ => by
      show min a (leastI (b :: r)) ∈ a :: b :: r
      have := least_mem (b :: r) (by simp)
      by_cases h : a ≤ leastI (b :: r)
      · rw [Int.min_eq_left h]; exact List.mem_cons_self
      · rw [Int.min_eq_right (by omega)]; exact List.mem_cons_of_mem _ this
def maxLG : List D → Option D
  | [.list xs] => match intsD xs with
    | some ns => if 0 < ns.length then some (.int (mostI ns)) else none
    | none => none
  | _ => none
def minLG : List D → Option D
  | [.list xs] => match intsD xs with
    | some ns => if 0 < ns.length then some (.int (leastI ns)) else none
    | none => none
  | _ => none
section
variable {X : Cx}
theorem sum_ok (hc : X.calm = true) : CallR X (.builtin "sum") (rCd sumG) := by
  intro pins s σ H xs us Q I r h
  obtain ⟨Hf, ds, d, e, ex, hl, q⟩ := h
  unfold sumG at e
  split at e
  · rename_i zs
    cases z : intsD zs with
    | none => rw [z] at e; cases e
    | some ns =>
      rw [z] at e
      cases e
      obtain ⟨v, rfl, h1⟩ := lvs_one hl
      obtain ⟨a, vs, rfl, g1, g2⟩ := h1.lst
      have ev := intsD_vs g2 z
      subst ev
      exact cr_sum hc pins s σ H _ us Q I r ⟨a, ns, rfl, .inl g1, q _ _ _ (Gw.refl ex) (.int _)⟩
  · cases e
theorem maxL_ok (hc : X.calm = true) : CallR X (.builtin "max") (rCd maxLG) := by
  intro pins s σ H xs us Q I r h
  obtain ⟨Hf, ds, d, e, ex, hl, q⟩ := h
  unfold maxLG at e
  split at e
  · rename_i zs
    split at e
    · rename_i ns z
      split at e
      · rename_i hlt
        cases e
        obtain ⟨v, rfl, h1⟩ := lvs_one hl
        obtain ⟨a, vs, rfl, g1, g2⟩ := h1.lst
        have ev := intsD_vs g2 z
        subst ev
        exact cr_max hc pins s σ H _ us Q I r ⟨a, ns, rfl, .inl g1, hlt, fun m h1 h2 => by rw [mostI_is h1 h2]; exact q _ _ _ (Gw.refl ex) (.int _)⟩
      · cases e
    · cases e
  · cases e
theorem minL_ok (hc : X.calm = true) : CallR X (.builtin "min") (rCd minLG) := by
  intro pins s σ H xs us Q I r h
  obtain ⟨Hf, ds, d, e, ex, hl, q⟩ := h
  unfold minLG at e
  split at e
  · rename_i zs
    split at e
    · rename_i ns z
      split at e
      · rename_i hlt
        cases e
        obtain ⟨v, rfl, h1⟩ := lvs_one hl
        obtain ⟨a, vs, rfl, g1, g2⟩ := h1.lst
        have ev := intsD_vs g2 z
        subst ev
        exact cr_min hc pins s σ H _ us Q I r ⟨a, ns, rfl, .inl g1, hlt, fun m h1 h2 => by rw [leastI_is h1 h2]; exact q _ _ _ (Gw.refl ex) (.int _)⟩
      · cases e
    · cases e
  · cases e
theorem sorted_ok : CallR X (.builtin "sorted") (rCd sortedG) := by
  intro pins s σ H xs us Q I r h
  obtain ⟨Hf, ds, d, e, ex, hl, q⟩ := h
  unfold sortedG at e
  split at e
  · rename_i zs
    obtain ⟨v, rfl, h1⟩ := lvs_one hl
    obtain ⟨a, vs, rfl, g1, g2⟩ := h1.lst
    unfold sortD at e
    split at e
    · rename_i hz
      obtain ⟨its, rv, pl, _⟩ := I.list (.inl g1)
      have hlen : its.length ≤ sizeLine := by rw [← rv.length, dps_len g2]; exact hz
      rw [Vals.ref1 r]
      split at e
      · rename_i ns z
        cases e
        have ev := intsD_vs g2 z
        subst ev
        refine PyProof.Rows.sorted_intsAny pl.isList rv.ints hlen fun out ns' k1 k2 k3 => ?_
        have ez := PySem.W.eq_sortI k2 k3
        subst ez
        obtain ⟨ep, he'⟩ := PyProof.Rows.sortedAll_at s.heap its out
        have hn : ((PySem.W.sortI ns).map V.int).length ≤ sizeLine := by rw [List.length_map, k2.length_eq]; rw [← rv.length, List.length_map] at hlen; exact hlen
        have hp := I.hok.fresh (Nat.le_succ s.heap.objs.size)
        have g := Gw.new (o := .lst ((PySem.W.sortI ns).map V.int)) ex hp
        exact ⟨.ref _, upd H (s.heap.objs.size + 1) (.lst ((PySem.W.sortI ns).map V.int)), I.laid (t' := s.toks) (fun _ _ => PyProof.Rows.sortedAll_old) (Nat.le_succ _) ⟨hn, out.toList, ep, vals_of_ints k1, he'⟩, rfl,
          q _ _ _ g (.lst (.inl upd_same) (dds_ints _))⟩
      · split at e
        · rename_i ys z
          cases e
          have ev := txtsD_vs g2 z
          subst ev
          refine PyProof.Rows.sorted_strsAny pl.isList rv.strs hlen fun out ns' k1 k2 k3 => ?_
          have ez := eq_sortT k2 (up_of_sortedS ns' k3)
          subst ez
          obtain ⟨ep, he'⟩ := PyProof.Rows.sortedAll_at s.heap its out
          have hn : ((sortT ys).map V.str).length ≤ sizeLine := by rw [List.length_map, k2.length_eq]; rw [← rv.length, List.length_map] at hlen; exact hlen
          have hp := I.hok.fresh (Nat.le_succ s.heap.objs.size)
          have g := Gw.new (o := .lst ((sortT ys).map V.str)) ex hp
          exact ⟨.ref _, upd H (s.heap.objs.size + 1) (.lst ((sortT ys).map V.str)), I.laid (t' := s.toks) (fun _ _ => PyProof.Rows.sortedAll_old) (Nat.le_succ _) ⟨hn, out.toList, ep, vals_of_strs k1, he'⟩, rfl,
            q _ _ _ g (.lst (.inl upd_same) (dds_txts _))⟩
        · cases e
    · cases e
  · cases e
end
/-! ### sorted(set(xs)) -/
def sortK (ks : List Key) : Option (List V × List D) := match sortKI ks with
  | some ns => some ((PySem.W.sortI ns).map V.int, (PySem.W.sortI ns).map .int)
  | none => match sortKT ks with
    | some ys => some ((sortT ys).map V.str, (sortT ys).map .str)
    | none => none
theorem sortK_dds {Hf : Hp} {ks : List Key} {vs : List V} {ds : List D} (h : sortK ks = some (vs, ds)) : Dds Hf vs ds := by
  unfold sortK at h
  split at h
  · cases h; exact dds_ints _
  · split at h
    · cases h; exact dds_txts _
    · cases h
def srtSD (xs : List D) : Option D := match kysD xs with
  | some ks => if ks.length < 4000 then (sortK (fmK ks)).map fun p => .list p.2 else none
  | none => none
def sortedSetG : List D → Option D
  | [.list xs] => srtSD xs
  | [.tuple xs] => srtSD xs
  | _ => none
section
variable {X : Cx} {W : WX} {a : Expr} {f : List S → M S}
def tSrS (K : PySem.W.Frag) (ta : TE) : TE := fun σ H Q => ta σ H fun x H1 => ∃ (b : Bool) (l : Addr) (vs : List V) (ks : List Key) (q : List V × List D), x = V.ref l ∧ (if b = true then SqT K H1 l vs else SqL K H1 l vs) ∧ vs = ks.map kV ∧ ks.length + 1 < scanBound ∧ sortK (fmK ks) = some q ∧
  ∀ p, H1 p = none → Q (.ref p) (upd H1 p (.lst q.1))
theorem pe_srS {ta : TE} {p p2 q pos : Pos} (hc : X.calm = true) (hg : Gl X "sorted") (hm : X.mg "sorted" = none) (hg2 : Gl X "set") (hm2 : X.mg "set" = none) (ha : PE X a ta)
    (na : starEach [a] X.env = (false, eval a X.env) :: starEach [] X.env) : PE X (.Call (.Name "sorted" p) [.Call (.Name "set" p2) [a] [] q] [] pos) (tSrS X.K ta) := by
  refine ⟨fun pins s σ H Q I h => ?_⟩
  refine PyProof.Rows.Call_ (ld_blt I hg hm (by decide +kernel : bootBuiltins "sorted" = some (.builtin "sorted")) ?_)
  refine PyProof.Rows.callWith_builtin1 (PyProof.Rows.args_cons ?_ rfl) rfl rfl
  refine PyProof.Rows.Call_ (ld_blt I hg2 hm2 PyProof.Rows.boot_set ?_)
  refine PyProof.Rows.callWith_type1 (PyProof.Rows.args_cons (thn (ha.run pins s σ H _ I h) fun v s1 ⟨x, H1, I1, r1, q1⟩ => PyProof.Rows.args_nil ?_) na) na rfl
  obtain ⟨b, l, vs, ks, z, rfl, hq, rfl, hlt, hs, q1⟩ := q1
  cases r1
  have go : ∀ (its : List Value), Vals (ks.map kV) its → (if b = true then s1.heap.IsTuple l its.toArray else s1.heap.IsList l its.toArray) → wpAny (model X.prog X.w) X.A (call (.type "set") [Value.ref l]) (fun u s2 => wpAny (model X.prog X.w) X.A (spliced (backTo pos (starEach [] X.env))) (fun us s3 => wpAny (model X.prog X.w) X.A (call (.builtin "sorted") (u :: us)) (EP X pins σ Q) X.xe s3) X.xe s2) X.xe s1 := fun its r hit => by
    have hl : ks.length = its.toArray.size := by rw [List.size_toArray, ← r.length, List.length_map]
    refine setCallX b (I1.ok.hd hc) hit hl (fun j v k e1 e2 => vals_keys (P := X.prog) (w := X.w) r j v k (by simpa using e1) e2) hlt fun g tk hS hk => ?_
    refine PyProof.Rows.args_nil ?_
    have I2 : Inv X pins σ H1 { s1 with heap := g, toks := tk } := I1.kept fun b o e => hk b o (Heap.lt_size e) e
    have lt := fmK_le ks
    have sb : scanBound = 4096 := rfl
    have hkk : (∃ xs : List Str, fmK ks = xs.map Sum.inr) ∨ (∃ xs : List Int, fmK ks = xs.map Sum.inl) := by
      unfold sortK at hs
      split at hs
      · rename_i ns e; exact .inr ⟨ns, sortKI_eq e⟩
      · split at hs
        · rename_i ns e; exact .inl ⟨ns, sortKT_eq e⟩
        · cases hs
    refine sortX hS (I2.ok.hd hc) (fun s' p out c k1 k2 k3 k4 k5 k6 k7 => ?_) hkk
    have hn : H1 p = none := I2.hok.fresh k4
    have hv : Vals z.1 out.toList ∧ z.1.length = out.toList.length := by
      unfold sortK at hs
      split at hs
      · rename_i ns e
        cases hs
        have w := vals_of_ints (k7 ns (sortKI_eq e))
        exact ⟨w, w.length⟩
      · split at hs
        · rename_i ns e
          cases hs
          have w := vals_of_strs (k6 ns (sortKT_eq e))
          exact ⟨w, w.length⟩
        · cases hs
    have hz : z.1.length ≤ sizeLine := by
      unfold sortK at hs
      split at hs
      · rename_i ns e
        cases hs
        have e1 := congrArg List.length (sortKI_eq e)
        rw [List.length_map] at e1
        show ((PySem.W.sortI ns).map V.int).length ≤ sizeLine
        rw [List.length_map, (PySem.W.sortI_perm ns).length_eq, sizeLine_eq]
        omega
      · split at hs
        · rename_i ns e
          cases hs
          have e1 := congrArg List.length (sortKT_eq e)
          rw [List.length_map] at e1
          show ((sortT ns).map V.str).length ≤ sizeLine
          rw [List.length_map, (sortT_perm ns).length_eq, sizeLine_eq]
          omega
        · cases hs
    have J : Inv X pins σ (upd H1 p (.lst z.1)) { ({ s1 with heap := g, toks := tk } : Shared) with heap := s'.heap, gens := s'.gens, drawn := s'.drawn, toks := s'.toks } :=
      I2.call (ch := []) (Un.laid k1 k4 hn) (I2.hok.laid k1 k4 ⟨hz, out.toList, c, hv.1, k5⟩) (by rw [k2]; exact I2.bare) (fun _ q => nomatch q)
    have e : s' = { ({ s1 with heap := g, toks := tk } : Shared) with heap := s'.heap, gens := s'.gens, drawn := s'.drawn, toks := s'.toks } := by
      cases s'
      cases k3
      rfl
    rw [e]
    exact ⟨.ref p, _, J, rfl, q1 p hn⟩
  cases b with
  | false =>
    obtain ⟨its, r, pl, hz⟩ := I1.list hq
    exact go its r pl.isList
  | true =>
    obtain ⟨its, r, pl, hz⟩ := I1.tuple hq
    exact go its r pl
theorem de_sortedSet {p p2 q pos : Pos} (hm : X.mg "sorted" = none) (hm2 : X.mg "set" = none) (ha : DE X W a f) (hc : X.calm = true := by rfl) (hg : Gl X "sorted" := by rfl) (hg2 : Gl X "set" := by rfl)
    (na : starEach [a] X.env = (false, eval a X.env) :: starEach [] X.env := by rfl) : DE X W (.Call (.Name "sorted" p) [.Call (.Name "set" p2) [a] [] q] [] pos) (eCd sortedSetG (aCons f aNil)) := by
  obtain ⟨t, pr, k⟩ := ha
  refine ⟨_, pe_srS hc hg hm hg2 hm2 pr na, fun B ca ρ cs Hf σ H Q r h => ?_⟩
  refine k B ca ρ cs Hf σ H _ r (h.bind.bind.mono fun ca1 Hf1 H1 cs1 s n1 r1 h1 v hv => ?_)
  have h2 : Gs X W B ca1 Hf1 ρ σ (bnd (vwsM [s]) (fun ds => bnd (ofO (sortedSetG ds)) fun d => ret (.d d)) cs1) (fun ca' Hf' H' _ s => ∀ v, SvOk ca' Hf' s v → Q v H') := (h1.ret_ r1)
  obtain ⟨ds, e1, h3⟩ := vwsM_ h2
  obtain ⟨d, e2, h4⟩ := ofOb_ h3
  have lv := vws_ok r1 (SvsOk.cons hv .nil) e1
  have sb : scanBound = 4096 := rfl
  have main : ∀ (b : Bool) (xs : List D) (l : Addr) (vs : List V), srtSD xs = some d → (if b = true then SqT X.K H1 l vs else SqL X.K H1 l vs) → Dds Hf1 vs xs →
      ∃ (b : Bool) (l' : Addr) (vs : List V) (ks : List Key) (q : List V × List D), V.ref l = V.ref l' ∧ (if b = true then SqT X.K H1 l' vs else SqL X.K H1 l' vs) ∧ vs = ks.map kV ∧ ks.length + 1 < scanBound ∧ sortK (fmK ks) = some q ∧
        ∀ p, H1 p = none → Q (.ref p) (upd H1 p (.lst q.1)) := fun b xs l vs e hq hd => by
    unfold srtSD at e
    split at e
    · rename_i ks ek
      split at e
      · rename_i hlt
        cases es : sortK (fmK ks) with
        | none => rw [es] at e; cases e
        | some z =>
          rw [es] at e
          cases e
          refine ⟨b, l, vs, ks, z, rfl, hq, kys_vs hd ek, by omega, es, fun p hp => ?_⟩
          have g := Gw.new (o := .lst z.1) r1.ext hp
          obtain ⟨r3, n3⟩ := r1.gw g
          exact h4 ca1 _ _ n3 r3 _ (show Dd _ _ _ from .lst (.inl upd_same) (sortK_dds es))
      · cases e
    · cases e
  match ds, e2, lv with
  | [x], e2, lv =>
    cases x with
    | list xs =>
      obtain ⟨l, vs, rfl, q1, q2⟩ := lv.1.lst
      exact main false xs l vs e2 (.inl q1) q2
    | tuple xs =>
      obtain ⟨l, vs, rfl, q1, q2⟩ := lv.1.tup
      exact main true xs l vs e2 (.inl q1) q2
    | _ => cases e2
  | [], e2, lv => exact absurd e2 (by simp [sortedSetG])
  | _ :: _ :: _, e2, lv => exact absurd e2 (by simp [sortedSetG])
end
end Dn

set_option Elab.async false
set_option linter.all false
set_option maxRecDepth 100000
set_option maxHeartbeats 1000000
/-! Dn15: str(x) of data; defs that stand where nothing is being shown. -/
namespace Dn
open PySem L2
open PySem.Spec PyProof.Rows
/-! ### str(x) of lists and tuples -/
def isSq : D → Bool
  | .list _ => true
  | .tuple _ => true
  | _ => false
def strLG : List D → Option D
  | [d] => if isSq d = true ∧ d.showable = true ∧ d.hasDict = false ∧ d.depth ≤ 100 ∧ d.shown.length ≤ sizeLine then some (.str d.shown) else none
  | _ => none
theorem strL_ok {X : Cx} (hg : X.A.guards = some []) (hu : X.A.units + 200 < cLine) : CallR X (.type "str") (rCd strLG) := by
  intro pins s σ H xs us Q I r h
  obtain ⟨Hf, ds, d, e, ex, hl, q⟩ := h
  unfold strLG at e
  split at e
  · rename_i d0
    split at e
    · rename_i c
      obtain ⟨c1, c2, c3, c4, c5⟩ := c
      cases e
      obtain ⟨v, rfl, hv⟩ := lvs_one hl
      have hd : Dp X.K H v d0 := dd_dp X.K hv.1
      have fin : ∀ (b : Addr), Dp X.K H (.ref b) d0 → Vals [V.ref b] us → (∀ v Hf' H', Gw Hf H Hf' H' → Dd Hf' v (.str d0.shown) → Q v H') → wpAny (model X.prog X.w) X.A (call (.type "str") us) (EP X pins σ Q) X.xe s := fun b hd r q => by
        rw [Vals.ref1 r]
        obtain ⟨as, hr⟩ := Dp.reads I d0 (.ref b) (.ref b) hd rfl
        refine PySem.str_of_reads hr c2 (fun z => by rw [c3] at z; cases z) hg (by omega) (fun _ _ e => e) (fun h' u tk hk => ?_) c5
        exact ⟨.str d0.shown, H, I.kept hk, ⟨u, rfl⟩, q _ _ _ (Gw.refl ex) (.str _)⟩
      cases d0 with
      | list ds0 =>
        obtain ⟨b, vs, rfl, _, _⟩ := hv.lst
        exact fin b hd r q
      | tuple ds0 =>
        obtain ⟨b, vs, rfl, _, _⟩ := hv.tup
        exact fin b hd r q
      | _ => cases c1
    · cases e
  · cases e
/-! ### defs that stand where nothing is being shown -/
structure FnG (P : Program) (w : World) (K : PySem.W.Frag) (mg : Str → Option Value) (base : Heap) (k : Nat) (f : Addr) (fd : FuncData) (ps : List Str) (sp : Sp) : Prop where
  len : ∀ vs H Q E, sp vs H Q E → vs.length = ps.length
  run : ∀ (A : Around) (outer : List Env) (s : Shared) (H : Hp) (args : Args) (us : List Value) (vs : List V) (Q : VK) (E : XK), A.guards = some [] → Room k A → Env0 P w K mg base A outer s H → BindsTo s fd args (ps.zip us) → Vals vs us → sp vs H Q E →
    codeAny (model P w) A (.call (.ref f) args) (CR (L2.CX P w) outer P w H s Q E) s
section
variable {P : Program} {w : World} {K : PySem.W.Frag} {mg : Str → Option Value} {base : Heap} {x qual : Str} {params : Arguments} {body : List Stmt} {scope : Scope} {dvs : List V} {kws : List (Str × V)} {f : Addr} {fd : FuncData} {N ps : List Str} {k : Nat}
theorem FnG.of {sp : Sp} (Fk : FnOk P w K mg base (L2.CX P w) k f fd ps sp) : FnG P w K mg base k f fd ps sp := ⟨Fk.len, fun A outer s H args us vs Q E _ hr => Fk.run A outer s H args us vs Q E hr⟩
/-- a def by its body, from any frame where nothing is being shown -/
theorem fnG_ok {sp : Sp} (Fd : FunD K x qual params body scope dvs kws f fd) (sc : FnScope N ps scope) (hl : ∀ vs H Q E, sp vs H Q E → vs.length = ps.length)
    (hb : ∀ (cdv : Value) (A : Around) (outer : List Env) (s : Shared) (H : Hp) (vs : List V) (Q : VK) (E : XK), A.guards = some [] → Room k (A.deeper (envOfC qual scope s.heap.objs.size f cdv)) → sp vs H Q E →
      ∃ t, PSs (cxOf (L2.CX P w) P w K mg base N qual scope f cdv A outer s H E) body t ∧ t { nx := fun _ H' => Q .non H', rt := Q } (L2.start N vs) H) :
    FnG P w K mg base (k + 1) f fd ps sp := by
  obtain ⟨oc, od, dV, kV, doc, pm, an, cdv, ct, osl, rfl, look, hcd, _, _⟩ := Fd.ex
  refine ⟨hl, fun A outer s H args us vs Q E hg hr e0 hbd rv hsp => ?_⟩
  have inK : K.In s.heap := e0.mod.kin.keeps fun b o e => (e0.bs b o e).1
  have nolim : s.heap.NoLimit := e0.mod.nolimit.keeps fun b o e => (e0.bs b o e).1
  have kinds : ∀ y ∈ ps.zip us, scope.names.lookup y.1 = some .local ∨ (scope.names.lookup y.1 = some .cell ∧ ((cellsFrom (s.heap.objs.size + 1) scope.names []).lookup y.1).isSome = true) := by
    rintro ⟨n, v⟩ hy
    refine (sc.par n (List.of_mem_zip hy).1).imp id fun q => ⟨q, ?_⟩
    exact PySem.W.cellsFrom_some _ _ _ (Or.inl q)
  apply codeAny_call_function hr.depth (inK _ _ look) rfl sc.co sc.gen rfl (PySem.W.codeRec_of inK hcd) (hbd _ _ _ _ ?_)
  apply wpAny_newFunctionEnv_cells sc.kind kinds
  rintro env rfl s1 w1
  refine ⟨nolim.keeps w1.toInCall.keep, codeAny_func ?_⟩
  obtain ⟨t, pt, qt⟩ := hb cdv A outer s H vs Q E hg (hr.deeper _) hsp
  have I0 : Inv (cxOf (L2.CX P w) P w K mg base N qual scope f cdv A outer s H E) [] (L2.start N vs) H s1 := inv_start sc hr.hd e0 (hl _ _ _ _ hsp) rv w1
  refine wpAny_mono (pt.run [] s1 (L2.start N vs) H _ I0 qt) (fun fl s2 hs => ?_) fun e s2 hs => hs
  cases fl with
  | ret u =>
    obtain ⟨v, τ, H2, J, ru, q⟩ := hs
    exact ⟨v, H2, J.os, J.bare, J.base, J.hok, ru, q⟩
  | next =>
    obtain ⟨τ, H2, J, q⟩ := hs
    exact ⟨.non, H2, J.os, J.bare, J.base, J.hok, rfl, q⟩
  | brk => exact (show False from hs.choose_spec.choose_spec.2).elim
  | cont => exact (show False from hs.choose_spec.choose_spec.2).elim
variable {F : List S → M Rv}
theorem body_run {g : G} (m : Nat) (hm : N.length = ps.length + m) {cdv : Value} {A : Around} {outer : List Env} {s : Shared} {H : Hp} {vs : List V} {Q : VK} {E : XK}
    (hd : DSs (BX P w K mg base N qual scope f cdv A outer s H E) (BW E) body g) (h : spE mg ps.length (runG m g) vs H Q E) :
    ∃ t, PSs (cxOf (L2.CX P w) P w K mg base N qual scope f cdv A outer s H E) body t ∧ t { nx := fun _ H' => Q .non H', rt := Q } (L2.start N vs) H := by
  obtain ⟨hl, B, ca, cs, Hf, ss, r, h⟩ := h
  obtain ⟨t, pt, kt⟩ := hd
  refine ⟨t, pt, ?_⟩
  have hss : ss.length = vs.length := by
    have := r.len
    rw [List.length_map] at this
    exact this.symm
  have hst : L2.start N vs = vs.map some ++ List.replicate m none := by
    unfold L2.start
    rw [hm, hl, Nat.add_sub_cancel_left]
  have r1 : Rel B ca (ss ++ List.replicate m .no) cs Hf (L2.start N vs) H := by
    rw [hst]
    refine r.slots (by simp [hss]) fun i sl e => ?_
    by_cases hi : i < ss.length
    · rw [List.getElem?_append_left hi] at e
      rcases r.sl i sl e with z | ⟨v, h1, h2⟩
      · exact .inl z
      · exact .inr ⟨v, by rw [List.getElem?_append_left (by simp; omega)]; exact h1, h2⟩
    · rw [List.getElem?_append_right (by omega), List.getElem?_replicate] at e
      split at e
      · cases e; exact .inl rfl
      · cases e
  refine kt B ca _ cs Hf _ H _ r1 ?_
  have hlc := r.lenc
  unfold runG at h
  cases e : g (ss ++ List.replicate m .no) cs with
  | nx ρ' cs' =>
    rw [e] at h
    exact fun ca' Hf' σ' H' n r' => h Hf' H' .non n.ex (r.cut n r') .non
  | rt rv cs' =>
    rw [e] at h
    intro ca' Hf' ρ' σ' H' v n r' hv
    have rc := r.cut n r'
    cases rv with
    | d x => exact h Hf' H' v n.ex rc (hv.cut (cs := cs) n fun j z => nomatch z)
    | own o => exact h Hf' H' v n.ex rc (hv.cut (cs := cs) n fun j z => nomatch z)
    | cel j =>
      by_cases hj : j < cs.length
      · have h' : match (Res.ok (Rv.cel j) (cs'.take cs.length) : Res Rv) with
          | .ok r cs' => ∀ Hf' H' v, Ex Hf Hf' → Rel B ca ss cs' Hf' (vs.map some) H' → RvOk B ca Hf' H' r v → Q v H'
          | .er c cs' => ∀ Hf' H' cls, Ex Hf Hf' → Rel B ca ss cs' Hf' (vs.map some) H' → mg c = some cls → E cls none H'
          | .no => False := by
          have e2 : fin cs.length (.rt (.cel j) cs') = .ok (.cel j) (cs'.take cs.length) := if_pos hj
          rw [← e2]; exact h
        exact h' Hf' H' v n.ex rc (hv.cut (cs := cs) n fun j' z => by cases z; omega)
      · obtain ⟨a, h1, rfl⟩ := hv
        have hj' : j < cs'.length := by rw [← r'.lenc]; exact (List.getElem?_eq_some_iff.mp h1).1
        obtain ⟨b, g1, g2⟩ := r'.cells j cs'[j] (by simp [hj'])
        rw [h1] at g1; cases g1
        have ma : a ∈ ca' := List.mem_of_getElem? h1
        have h' : match (Res.ok (Rv.own cs'[j]) (cs'.take cs.length) : Res Rv) with
          | .ok r cs' => ∀ Hf' H' v, Ex Hf Hf' → Rel B ca ss cs' Hf' (vs.map some) H' → RvOk B ca Hf' H' r v → Q v H'
          | .er c cs' => ∀ Hf' H' cls, Ex Hf Hf' → Rel B ca ss cs' Hf' (vs.map some) H' → mg c = some cls → E cls none H'
          | .no => False := by
          have e2 : fin cs.length (.rt (.cel j) cs') = .ok (.own cs'[j]) (cs'.take cs.length) := by
            refine Eq.trans (show fin cs.length (.rt (.cel j) cs') = (if j < cs.length then .ok (.cel j) (cs'.take cs.length) else match cs'[j]? with
              | some o => .ok (.own o) (cs'.take cs.length)
              | none => .no) from rfl) ?_
            rw [if_neg hj, List.getElem?_eq_getElem hj']
          rw [← e2]; exact h
        refine h' Hf' H' _ n.ex rc ⟨a, rfl, g2, r'.off a ma, fun z => ?_, ?_⟩
        · obtain ⟨t, ht⟩ := n.pre
          obtain ⟨i, hi, ei⟩ := List.mem_iff_getElem.mp z
          have e3 : ca'[i]? = some a := by rw [← ht, List.getElem?_append_left hi]; simp [hi, ei]
          have := nd_ix r'.nd h1 e3
          omega
        · cases q : B a with
          | none => rfl
          | some u => exact absurd ma (r'.dis a (by rw [q]; simp)).2
  | er c ρ' cs' =>
    rw [e] at h
    exact fun ca' Hf' σ' H' cls n r' hc => h Hf' H' cls n.ex (r.cut n r') hc
  | bk ρ' cs' => rw [e] at h; exact h.elim
  | ct ρ' cs' => rw [e] at h; exact h.elim
  | no => rw [e] at h; exact h.elim
/-- a def by its mirror, from any frame where nothing is being shown -/
theorem def_okG (Fd : FunD K x qual params body scope dvs kws f fd) (sc : FnScope N ps scope) {g : G} (m : Nat) (hm : N.length = ps.length + m)
    (hbody : ∀ (cdv : Value) (A : Around) (outer : List Env) (s : Shared) (H : Hp) (E : XK), A.guards = some [] → Room k (A.deeper (PyProof.Rows.envOfC qual scope s.heap.objs.size f cdv)) → Takes (BX P w K mg base N qual scope f cdv A outer s H E) (BW E) →
      PassesOwn (model P w) (BX P w K mg base N qual scope f cdv A outer s H E).A (BX P w K mg base N qual scope f cdv A outer s H E).env (BX P w K mg base N qual scope f cdv A outer s H E).xe → DSs (BX P w K mg base N qual scope f cdv A outer s H E) (BW E) body g) :
    FnG P w K mg base (k + 1) f fd ps (spE mg ps.length (runG m g)) :=
  fnG_ok Fd sc (fun vs H Q E h => h.1) fun cdv A outer s H vs Q E hg hr h => body_run m hm (hbody cdv A outer s H E hg hr takesB passesB) h
end
/-! ### the law's end, where nothing is being shown -/
theorem Rel0 {H : Hp} {a : Addr} {ns : List Int} (rd : Rd H a (.lst (ns.map V.int))) : Rel (fun _ => none) [] [.d (.list (ns.map .int))] [] H ([V.ref a].map some) H := by
  have dd : Dds H (ns.map V.int) (ns.map PyData.int) := dds_ints ns
  refine ⟨fun _ _ h => h, rfl, fun i s e => ?_, fun j o e => (by simp at e), rfl, List.nodup_nil, fun b z => (by simp at z), fun b o z => (by cases z), fun b z => absurd rfl z⟩
  cases i with
  | zero => simp at e; subst e; exact .inr ⟨.ref a, rfl, .lst rd dd⟩
  | succ i => simp at e
theorem law_callG {P : Program} {w : World} {K : PySem.W.Frag} {mg mb : Str → Option Value} {k : Nat} {fa a : Addr} {fd : FuncData} {x : Str} {F : List S → M Rv} {s1 : Shared} {vs : List Value} {ns : List Int}
    (KX : K.In s1.heap) (nsG : s1.heap.Ns mainGlobals mg) (nsB : s1.heap.Ns builtinsNs mb) (bl : ∀ x : Str, x ≠ "__name__" → mb x = bootBuiltins x) (lim : s1.heap.NoLimit) (g0 : s1.gens = #[])
    (ga : s1.heap.get? a = some { cls := .type "list", data := .seq vs.toArray }) (hi : IntsAre vs ns) (hz : ns.length ≤ sizeLine) (hr : Room k callerA) (hno : ∀ b o, K.lookup b = some o → o.cls ≠ .type "list")
    (hF : ∀ base : Heap, K.In base → base.Ns mainGlobals mg → FnG P w K mg base k fa fd [x] (spE mg 1 F)) (hb : ∀ (s : Shared) (u : Value), BindsTo s fd ⟨[u], []⟩ [(x, u)])
    (hl : ∃ cs', F [.d (.list (ns.map .int))] [] = .ok (.d (.bool true)) cs') :
    codeAny (model P w) callerA (.call (.ref fa) ⟨[.ref a], []⟩) (fun r s' => r = .ok (.ret (.bool true)) ∧ OldK s1.heap s'.heap ∧ s'.os = s1.os ∧ AllBare s'.gens) s1 := by
  have hka : K.lookup a = none := by
    cases q : K.lookup a with
    | none => rfl
    | some o =>
      have e := KX a o q
      rw [ga] at e
      cases e
      exact absurd rfl (hno a _ q)
  let obj : Obj := { cls := .type "list", data := .seq vs.toArray }
  let H : Hp := fun b => if b = a then some (.frz obj (.lst (ns.map V.int))) else none
  have Ha : H a = some (.frz obj (.lst (ns.map V.int))) := if_pos rfl
  have Hn : ∀ b, b ≠ a → H b = none := fun b z => if_neg z
  have Hs : ∀ b u, H b = some u → b = a ∧ u = .frz obj (.lst (ns.map V.int)) := fun b u z => by
    by_cases c : b = a
    · subst c; rw [Ha] at z; cases z; exact ⟨rfl, rfl⟩
    · rw [Hn b c] at z; cases z
  have okA : HOk P w H s1.heap := fun b u z => by
    obtain ⟨rfl, rfl⟩ := Hs b u z
    exact ⟨ga, by rw [List.length_map]; exact hz, vs, _, vals_ints hi, ga⟩
  have atB : ∀ {b : Addr} {o : Obj}, s1.heap.get? b = some o → b ≠ a → (hidT s1.heap H).get? b = some o := fun e c => hidT_get e (Hn _ c)
  have nsK : ∀ {b : Addr} {m : Str → Option Value}, s1.heap.Ns b m → (hidT s1.heap H).Ns b m := by
    rintro b m ⟨o, es, ep, e, d, r⟩
    refine ⟨o, es, ep, atB e ?_, d, r⟩
    rintro rfl
    rw [ga] at e; cases e
    cases (show Data.seq vs.toArray _ = Data.dict es ep from d)
  have KB : K.In (hidT s1.heap H) := fun b o e => atB (KX b o e) (by rintro rfl; rw [hka] at e; cases e)
  have md : Mod K mg (hidT s1.heap H) := ⟨KB, nsK nsG, ⟨mb, nsK nsB, bl⟩, lim.imp fun mc z => ⟨nsK z.1, z.2⟩⟩
  have e0 : Env0 P w K mg (hidT s1.heap H) callerA [] s1 H := ⟨rfl, md, fun b o e => of_hidT e, Nat.le_of_eq (hidT_size _ _), trivial, fun b z => (by cases z), okA, .of_eq g0⟩
  obtain ⟨cs', el⟩ := hl
  have sp : spE mg 1 F [.ref a] H (fun v _ => v = .bl true) fun _ _ _ => False := by
    refine ⟨rfl, fun _ => none, [], [], H, _, Rel0 (.inr ⟨obj, Ha⟩), ?_⟩
    rw [el]
    intro Hf' H' v _ _ hv
    have hv' : Dd Hf' v (.bool true) := hv
    cases hv'
    rfl
  refine codeAny_mono ((hF _ KB (nsK nsG)).run callerA [] s1 H ⟨[.ref a], []⟩ [.ref a] [.ref a] _ _ rfl hr e0 (hb s1 (.ref a)) (.cons rfl .nil) sp) fun r s2 h => ?_
  cases r with
  | error e =>
    obtain ⟨_, _, _, _, _, _, _, z⟩ := h
    exact absurd z (by first | exact id | simp)
  | ok fl =>
    cases fl with
    | ret u =>
      obtain ⟨v, H2, h1, h2, un, ok2, rv, q⟩ := h
      subst q
      have eu : u = Value.bool true := rv
      subst eu
      refine ⟨rfl, OldK.of_keep fun b o e => ?_, h1, h2⟩
      by_cases c : b = a
      · subst c
        rw [ga] at e; cases e
        exact (ok2 b _ (un.frzs b obj _ Ha)).1
      · exact un.keep b o e (Hn b c) (by intro z; cases z) (by simp)
    | _ => exact False.elim h
theorem law_endG {l : PySem.W.OpenLaw} {n k : Nat} {q : Program} {loose : List Str} {d : DefRec} {fa : List He.Fa} {fn : List He.DefD} {fb : PySem.W.Frag → Bool} {m : Nat} {XP : (Str → Option Value) → Heap → Prop} {x : Str} {F : PySem.W.Frag → List S → M Rv}
    (hn : l.most = some n) (hn2 : n ≤ sizeLine) (hdf : d.params.defaults = []) (hr : Room k callerA)
    (hF : ∀ (w : World) (mg : Str → Option Value) (h : Heap) (K : PySem.W.Frag), K.In h → He.SaysD fa fn K → fb K = true → h.Ns mainGlobals mg → ∃ fd : FuncData, mg d.name = some (.ref (He.ga K d.name)) ∧ (∀ (s : Shared) (u : Value), BindsTo s fd ⟨[u], []⟩ [(x, u)]) ∧
      ∀ base : Heap, K.In base → base.Ns mainGlobals mg → FnG l.prog w K mg base k (He.ga K d.name) fd [x] (spE mg 1 (F K)))
    (hl : ∀ (K : PySem.W.Frag) (ns : List Int), ns.length ≤ n → ∃ cs', F K [.d (.list (ns.map .int))] [] = .ok (.d (.bool true)) cs') :
    PySem.W.WalkO q loose XP (hookL m fa fn fb).says l.row.toRowW d [] (fun f vs => PySem.call f vs) := by
  refine Att.attach_call hn hdf fun w s0 s1 mg mb ad o pm cd doc a vs ns G Y ho hd hcd hmg hobj hints hlen hg => ?_
  obtain ⟨K, KX, c, cb, hno⟩ := Y
  obtain ⟨fd, hgf, hb, hF'⟩ := hF w mg s1.heap K KX c cb G.T.g
  cases hmg.symm.trans hgf
  exact law_callG KX G.T.g G.T.b G.T.builtins G.T.nolimit hg hobj hints (Nat.le_trans hlen hn2) hr hno hF' hb (hl K ns hlen)
end Dn
namespace Dn
open PySem L2
theorem hu200 {k : Nat} {A : Around} (r : Room k A) : A.units + 200 < cLine := by have := r.un; omega
end Dn

set_option Elab.async false
set_option linter.all false
set_option maxRecDepth 100000
set_option maxHeartbeats 1000000
/-! Dn16: several names stored at once; dicts as cells. -/
namespace Dn
open PySem L2
/-! ### several names at once -/
def sTgt (g : D → List S → Option (List S)) (f : List S → M S) : G := fun ρ => stp (f ρ) (fun s cs => match s with
  | .d x => match g x ρ with
    | some ρ' => .nx ρ' cs
    | none => .no
  | _ => .no) ρ
def sPar (i j : Nat) (fa fb : List S → M S) : G := fun ρ => stp (bnd (fa ρ) fun a => bnd (fb ρ) fun b => ret (a, b)) (fun p cs => .nx ((ρ.set i p.1).set j p.2) cs) ρ
section
variable {X : Cx} {W : WX} {a b tg : Expr} {f fa fb : List S → M S} {g : D → List S → Option (List S)} {pos : Pos}
theorem dst_tgt (ha : DE X W a f) (hg : DG X tg g) (hs : swapsWithSole [tg] a pos.line X.env = pure false := by rfl) (hw : swappedStores [tg] a X.env = pure none := by rfl)
    (h1 : (assignEach [tg] X.env).map (·.2) = [assign tg X.env] := by rfl) : DSt X W (.Assign [tg] a pos) (sTgt g f) := by
  obtain ⟨t, p, k⟩ := ha
  obtain ⟨u, pg, kg⟩ := hg
  refine ⟨_, ps_asg p pg hs hw h1, fun B ca ρ cs Hf σ H En r hg => ?_⟩
  refine k B ca ρ cs Hf σ H _ r (hg.stp_.mono fun ca1 Hf1 H1 cs1 s n1 r1 h1 v hv => ?_)
  cases s with
  | d x =>
    have h2 : GO X W B ca1 Hf1 En (match g x ρ with
      | some ρ' => Out.nx ρ' cs1
      | none => .no) := h1
    cases e : g x ρ with
    | none => rw [e] at h2; exact h2.elim
    | some ρ' =>
      rw [e] at h2
      exact kg B ca1 ρ ρ' cs1 Hf1 σ H1 v x _ r1 hv e fun σ' r' => h2.nx_ r'
  | _ => exact h1.elim
theorem dst_par (i j : Nat) {x y : Str} {px py pt : Pos} {kt k2 pt2} (hN : X.N.Nodup) (ha : DE X W a fa) (hb : DE X W b fb) (hi : X.N[i]? = some x := by rfl) (hj : X.N[j]? = some y := by rfl) (hij : i ≠ j := by decide)
    (hx : X.env.scope.names.lookup x = some .local := by rfl) (hy : X.env.scope.names.lookup y = some .local := by rfl) (hc : X.calm = true := by rfl)
    (hw : swappedStores [.Tuple [.Name x px, .Name y py] kt pt] (.Tuple [a, b] k2 pt2) X.env = pure (some [x, y]) := by rfl)
    (hs : swapsWithSole [.Tuple [.Name x px, .Name y py] kt pt] (.Tuple [a, b] k2 pt2) pos.line X.env = pure false := by rfl)
    (na : starEach [a, b] X.env = (false, eval a X.env) :: starEach [b] X.env := by rfl) (nb : starEach [b] X.env = (false, eval b X.env) :: starEach [] X.env := by rfl) :
    DSt X W (.Assign [.Tuple [.Name x px, .Name y py] kt pt] (.Tuple [a, b] k2 pt2) pos) (sPar i j fa fb) := by
  obtain ⟨t, p, k⟩ := ha
  obtain ⟨u, q, l⟩ := hb
  refine ⟨_, ps_par hc hN hi hj hij hx hy (pa_cons p (pa_cons q pa_nil nb) na) hw hs, fun B ca ρ cs Hf σ H En r hg => ?_⟩
  refine k B ca ρ cs Hf σ H _ r (hg.stp_.bind.mono fun ca1 Hf1 H1 cs1 s1 n1 r1 h1 v hv => ?_)
  refine l B ca1 ρ cs1 Hf1 σ H1 _ r1 (h1.bind.mono fun ca2 Hf2 H2 cs2 s2 n2 r2 h2 w hw => ?_)
  have h3 : GO X W B ca2 Hf2 En (Out.nx ((ρ.set i s1).set j s2) cs2) := h2.ret_ r2
  exact ⟨v, w, rfl, h3.nx_ ((r2.set i (hv.nx n2)).set j hw)⟩
end
/-! ### dicts -/
def dvK (kvs : List (Key × D)) (k : Key) : Option D := (kvs.find? fun p => decide (p.1 = k)).map (·.2)
def dpK (kvs : List (Key × D)) (k : Key) (x : D) : List (Key × D) := if (kvs.any fun p => decide (p.1 = k)) = true then kvs.map (fun p => if p.1 = k then (p.1, x) else p) else kvs ++ [(k, x)]
def dicM (s : S) : M (Nat × List (Key × D)) := fun cs => match s with
  | .cel j => match cs[j]? with
    | some (.dK kvs) => .ok (j, kvs) cs
    | _ => .no
  | _ => .no
def eDic0 (_ : List S) : M Rv := ret (.own (.dK []))
def keyM (s : S) : M Key := match s with
  | .d x => ofO (kyD x)
  | _ => stuck
def eIxK (fo fi : List S → M S) (ρ : List S) : M S := bnd (fo ρ) fun o => bnd (fi ρ) fun i => bnd (dicM o) fun p => bnd (keyM i) fun k => bnd (ofO (dvK p.2 k)) fun d => ret (.d d)
def eGet2 (fo fi fx : List S → M S) (ρ : List S) : M S := bnd (fo ρ) fun o => bnd (dicM o) fun _ => bnd (fi ρ) fun i => bnd (fx ρ) fun x => bnd (dicM o) fun p => bnd (keyM i) fun k => match x with
  | .d z => ret (.d ((dvK p.2 k).getD z))
  | _ => stuck
def eGet1 (fo fi : List S → M S) (ρ : List S) : M S := bnd (fo ρ) fun o => bnd (dicM o) fun _ => bnd (fi ρ) fun i => bnd (dicM o) fun p => bnd (keyM i) fun k => ret (.d ((dvK p.2 k).getD .none))
def cInK (neg : Bool) (fi fo : List S → M S) (ρ : List S) : M Bool := bnd (fi ρ) fun i => bnd (fo ρ) fun o => bnd (dicM o) fun p => bnd (keyM i) fun k => ret (if neg = true then !(dvK p.2 k).isSome else (dvK p.2 k).isSome)
def sSubK (fo fi fe : List S → M S) : G := fun ρ => stp (bnd (fe ρ) fun e => bnd (fo ρ) fun o => bnd (fi ρ) fun i => bnd (dicM o) fun p => bnd (keyM i) fun k => match e with
  | .d x => if p.2.length < sizeLine then putM p.1 (.dK (dpK p.2 k x)) else stuck
  | _ => stuck) (fun _ cs => .nx ρ cs) ρ
def eLenK (fo : List S → M S) (ρ : List S) : M S := bnd (fo ρ) fun o => bnd (dicM o) fun p => ret (.d (.int p.2.length))
/-- sorted(d), the keys texts -/
def eSortK (fo : List S → M S) (ρ : List S) : M S := bnd (fo ρ) fun o => bnd (dicM o) fun p => match sortKT (p.2.map (·.1)) with
  | some ks => if ks.length < 64 then ret (.d (.list ((sortT ks).map .str))) else stuck
  | none => stuck
abbrev PrK (Hf : Hp) : List (Key × V) → List (Key × D) → Prop := Paired (fun (p : Key × V) (q : Key × D) => p.1 = q.1 ∧ Dd Hf p.2 q.2)
theorem prK_len {Hf : Hp} {ws : List (Key × V)} {kvs : List (Key × D)} (h : PrK Hf ws kvs) : ws.length = kvs.length := Paired.length h
theorem prK_keys {Hf : Hp} : ∀ {ws : List (Key × V)} {kvs : List (Key × D)}, PrK Hf ws kvs → ws.map (·.1) = kvs.map (·.1)
  | _, _, .nil => rfl
  | _, _, .cons h t => by rw [List.map_cons, List.map_cons, h.1, prK_keys t]
theorem prK_val {Hf : Hp} (k : Key) : ∀ {ws : List (Key × V)} {kvs : List (Key × D)}, PrK Hf ws kvs → (valV ws k = none ∧ dvK kvs k = none) ∨ ∃ v d, valV ws k = some v ∧ dvK kvs k = some d ∧ Dd Hf v d
  | _, _, .nil => .inl ⟨rfl, rfl⟩
  | (k1, v1) :: ws, (k2, d2) :: kvs, .cons h t => by
    have h2 : Dd Hf v1 d2 := h.2
    have h1' : k1 = k2 := h.1
    subst h1'
    by_cases e : k1 = k
    · exact .inr ⟨v1, d2, by simp [valV, e], by simp [dvK, e], h2⟩
    · have ih := prK_val k t
      simpa [valV, dvK, List.find?_cons, e] using ih
theorem prK_map {Hf : Hp} (k : Key) {v : V} {d : D} (hd : Dd Hf v d) : ∀ {ws : List (Key × V)} {kvs : List (Key × D)}, PrK Hf ws kvs → PrK Hf (ws.map fun kv => if kv.1 = k then (kv.1, v) else kv) (kvs.map fun p => if p.1 = k then (p.1, d) else p)
  | _, _, .nil => .nil
  | p :: ws, q :: kvs, .cons h t => by
    rw [List.map_cons, List.map_cons]
    refine .cons ?_ (prK_map k hd t)
    by_cases e : p.1 = k
    · have e' : q.1 = k := h.1 ▸ e
      rw [if_pos e, if_pos e']; exact ⟨h.1, hd⟩
    · have e' : ¬ q.1 = k := h.1 ▸ e
      rw [if_neg e, if_neg e']; exact h
theorem prK_app {Hf : Hp} (k : Key) {v : V} {d : D} (hd : Dd Hf v d) : ∀ {ws : List (Key × V)} {kvs : List (Key × D)}, PrK Hf ws kvs → PrK Hf (ws ++ [(k, v)]) (kvs ++ [(k, d)])
  | _, _, .nil => .cons ⟨rfl, hd⟩ .nil
  | _ :: _, _ :: _, .cons h t => .cons h (prK_app k hd t)
theorem prK_put {Hf : Hp} (k : Key) {v : V} {d : D} {ws : List (Key × V)} {kvs : List (Key × D)} (h : PrK Hf ws kvs) (hd : Dd Hf v d) : PrK Hf (putK ws k v) (dpK kvs k d) := by
  have keys := prK_keys h
  have any : (ws.any fun kv => decide (kv.1 = k)) = (kvs.any fun kv => decide (kv.1 = k)) := by
    have e1 : (ws.any fun kv => decide (kv.1 = k)) = (ws.map (·.1)).any fun x => decide (x = k) := by rw [List.any_map]; rfl
    have e2 : (kvs.any fun kv => decide (kv.1 = k)) = (kvs.map (·.1)).any fun x => decide (x = k) := by rw [List.any_map]; rfl
    rw [e1, e2, keys]
  unfold dpK putK
  rw [any]
  split
  · exact prK_map k hd h
  · exact prK_app k hd h
theorem ky_v {Hf : Hp} {v : V} {x : D} {k : Key} (h : Dd Hf v x) (e : kyD x = some k) : v = kV k := by
  cases x with
  | int i => cases h; cases e; rfl
  | str i => cases h; cases e; rfl
  | _ => cases e
section
variable {X : Cx} {W : WX} {B : Hp} {ca : List Addr} {Hf H : Hp} {ρ : List S} {σ : L2.St} {cs : Store} {β : Type} {P : List Addr → Hp → Hp → Store → β → Prop}
theorem dicM_ {a : S} {k : Nat × List (Key × D) → M β} (h : Gs X W B ca Hf ρ σ (bnd (dicM a) k cs) P) : ∃ j kvs, a = .cel j ∧ cs[j]? = some (.dK kvs) ∧ Gs X W B ca Hf ρ σ (k (j, kvs) cs) P := by
  unfold bnd dicM at h
  cases a with
  | cel j =>
    cases e : cs[j]? with
    | none => simp only [e] at h; exact h.elim
    | some o =>
      cases o with
      | dK kvs => simp only [e] at h; exact ⟨j, kvs, rfl, e, h⟩
      | lst _ => simp only [e] at h; exact h.elim
  | _ => exact h.elim
theorem keyM_ {a : S} {k : Key → M β} (h : Gs X W B ca Hf ρ σ (bnd (keyM a) k cs) P) : ∃ x y, a = .d x ∧ kyD x = some y ∧ Gs X W B ca Hf ρ σ (k y cs) P := by
  cases a with
  | d x =>
    have h' : Gs X W B ca Hf ρ σ (bnd (ofO (kyD x)) k cs) P := h
    obtain ⟨y, e, h2⟩ := ofOb_ h'
    exact ⟨x, y, rfl, e, h2⟩
  | _ => exact h.elim
theorem ty_dic {j : Nat} {kvs : List (Key × D)} {x : V} (r : Rel B ca ρ cs Hf σ H) (hx : SvOk ca Hf (.cel j) x) (e : cs[j]? = some (.dK kvs)) : ∃ l ws, x = .ref l ∧ ca[j]? = some l ∧ H l = some (.dK ws) ∧ PrK Hf ws kvs := by
  obtain ⟨l, h1, rfl⟩ := hx
  obtain ⟨a, g0, g⟩ := r.cells j _ e
  rw [h1] at g0; cases g0
  obtain ⟨ws, g1, g2⟩ := g
  exact ⟨l, ws, rfl, h1, g1, g2⟩
end
section
variable {X : Cx} {W : WX} {o i e f : Expr} {fo fi fe fx : List S → M S} {pos pos' apos cpos p : Pos}
theorem do_dic0 : DO X W (.Dict [] [] pos) eDic0 := by
  refine ⟨_, pe_dnewK, fun B ca ρ cs Hf σ H Q r h => ?_⟩
  intro p hp
  obtain ⟨m1, m2, m3⟩ := r.newIn hp
  have h' := h.ret_ r
  have h2 : Gs X W B ca Hf ρ σ (ret (.own (.dK [])) cs) (fun ca' Hf' H' _ rv => ∀ v, RvOk B ca' Hf' H' rv v → Q v H') := h
  exact h2 ca Hf _ Nx.refl (r.grow (ex_new hp)) _ ⟨p, rfl, ⟨[], upd_same, .nil⟩, m1, m2, m3⟩
theorem hu1 {k : Nat} {A : Around} (r : Room k A) : A.units + 1 < cLine := by have := r.un; omega
theorem de_ixK (hu : X.A.units + 1 < cLine) (ho : DE X W o fo) (hi : DE X W i fi) (hs : NoSl i := by exact fun _ _ => rfl) : DE X W (.Subscript o i pos) (eIxK fo fi) := by
  obtain ⟨to, po, ko⟩ := ho
  obtain ⟨ti, pi, ki⟩ := hi
  refine ⟨_, pe_dget hu po pi hs, fun B ca ρ cs Hf σ H Q r h => ?_⟩
  refine ko B ca ρ cs Hf σ H _ r (h.bind.mono fun ca1 Hf1 H1 cs1 s1 n1 r1 h1 x hx => ?_)
  refine ki B ca1 ρ cs1 Hf1 σ H1 _ r1 (h1.bind.mono fun ca2 Hf2 H2 cs2 s2 n2 r2 h2 y hy => ?_)
  obtain ⟨j, kvs, rfl, e1, h3⟩ := dicM_ h2
  obtain ⟨z, k, rfl, e2, h4⟩ := keyM_ h3
  obtain ⟨d, e3, h5⟩ := ofOb_ h4
  obtain ⟨l, ws, rfl, c1, c2, c3⟩ := ty_dic r2 (hx.nx n2) e1
  have ey := ky_v hy e2
  subst ey
  rcases prK_val k c3 with ⟨_, q⟩ | ⟨v, d', q1, q2, q3⟩
  · rw [q] at e3; cases e3
  · rw [q2] at e3; cases e3
    exact ⟨l, v, rfl, q1 ▸ DGet.k c2, h5.ret_ r2 v q3⟩
theorem de_get2 (hu : X.A.units + 1 < cLine) (ho : DE X W o fo) (he : DE X W e fi) (hf : DE X W f fx) (m : M2 X o "get" apos e f cpos := by exact ⟨rfl, rfl, rfl, rfl⟩) : DE X W (.Call (.Attribute o "get" apos) [e, f] [] cpos) (eGet2 fo fi fx) := by
  obtain ⟨to, po, ko⟩ := ho
  obtain ⟨ti, pi, ki⟩ := he
  obtain ⟨tx, px, kx⟩ := hf
  refine ⟨_, pe_dget2 hu po pi px m, fun B ca ρ cs Hf σ H Q r h => ?_⟩
  refine ko B ca ρ cs Hf σ H _ r (h.bind.mono fun ca1 Hf1 H1 cs1 s1 n1 r1 h1 x hx => ?_)
  obtain ⟨j, kvs, rfl, e1, h2⟩ := dicM_ h1
  obtain ⟨l, ws, rfl, c1, c2, c3⟩ := ty_dic r1 hx e1
  refine ⟨l, rfl, .inl ⟨ws, .inl c2⟩, ?_⟩
  refine ki B ca1 ρ cs1 Hf1 σ H1 _ r1 (h2.bind.mono fun ca2 Hf2 H2 cs2 s2 n2 r2 h3 y hy => ?_)
  refine kx B ca2 ρ cs2 Hf2 σ H2 _ r2 (h3.bind.mono fun ca3 Hf3 H3 cs3 s3 n3 r3 h4 w hw => ?_)
  obtain ⟨j', kvs', ej, e1', h5⟩ := dicM_ h4
  cases ej
  obtain ⟨z, k, rfl, e2, h6⟩ := keyM_ h5
  obtain ⟨l', ws', el, c1', c2', c3'⟩ := ty_dic r3 (hx.nx (n2.trans n3)) e1'
  cases el
  have ey := ky_v hy e2
  subst ey
  cases s3 with
  | d z =>
    have h7 := h6.ret_ r3
    refine ⟨valV ws' k, DGet.k c2', ?_⟩
    rcases prK_val k c3' with ⟨q1, q2⟩ | ⟨v, d', q1, q2, q3⟩
    · rw [q1]
      rw [q2] at h7
      exact h7 w hw
    · rw [q1]
      rw [q2] at h7
      exact h7 v q3
  | _ => exact h6.elim
theorem de_get1 (hu : X.A.units + 1 < cLine) (ho : DE X W o fo) (he : DE X W e fi) (m : M1 X o "get" apos e cpos := by exact ⟨rfl, rfl, rfl, rfl⟩) : DE X W (.Call (.Attribute o "get" apos) [e] [] cpos) (eGet1 fo fi) := by
  obtain ⟨to, po, ko⟩ := ho
  obtain ⟨ti, pi, ki⟩ := he
  refine ⟨_, pe_dget1 hu po pi m, fun B ca ρ cs Hf σ H Q r h => ?_⟩
  refine ko B ca ρ cs Hf σ H _ r (h.bind.mono fun ca1 Hf1 H1 cs1 s1 n1 r1 h1 x hx => ?_)
  obtain ⟨j, kvs, rfl, e1, h2⟩ := dicM_ h1
  obtain ⟨l, ws, rfl, c1, c2, c3⟩ := ty_dic r1 hx e1
  refine ⟨l, rfl, .inl ⟨ws, .inl c2⟩, ?_⟩
  refine ki B ca1 ρ cs1 Hf1 σ H1 _ r1 (h2.bind.mono fun ca2 Hf2 H2 cs2 s2 n2 r2 h3 y hy => ?_)
  obtain ⟨j', kvs', ej, e1', h5⟩ := dicM_ h3
  cases ej
  obtain ⟨z, k, rfl, e2, h6⟩ := keyM_ h5
  obtain ⟨l', ws', el, c1', c2', c3'⟩ := ty_dic r2 (hx.nx n2) e1'
  cases el
  have ey := ky_v hy e2
  subst ey
  have h7 := h6.ret_ r2
  refine ⟨valV ws' k, DGet.k c2', ?_⟩
  rcases prK_val k c3' with ⟨q1, q2⟩ | ⟨v, d', q1, q2, q3⟩
  · rw [q1]
    rw [q2] at h7
    exact h7 .non .non
  · rw [q1]
    rw [q2] at h7
    exact h7 v q3
theorem dst_subK (hu : X.A.units + 1 < cLine) (he : DE X W e fe) (ho : DE X W o fo) (hi : DE X W i fi) (hs : swapsWith e (some (.Subscript o i pos')) pos.line X.env = pure false := by rfl) : DSt X W (.Assign [.Subscript o i pos'] e pos) (sSubK fo fi fe) := by
  obtain ⟨te, pe, ke⟩ := he
  obtain ⟨to, po, ko⟩ := ho
  obtain ⟨ti, pi, ki⟩ := hi
  refine ⟨_, ps_dput hu po pi pe hs, fun B ca ρ cs Hf σ H En r hg => ?_⟩
  refine ke B ca ρ cs Hf σ H _ r (hg.stp_.bind.mono fun ca1 Hf1 H1 cs1 s1 n1 r1 h1 v hv => ?_)
  refine ko B ca1 ρ cs1 Hf1 σ H1 _ r1 (h1.bind.mono fun ca2 Hf2 H2 cs2 s2 n2 r2 h2 x hx => ?_)
  refine ki B ca2 ρ cs2 Hf2 σ H2 _ r2 (h2.bind.mono fun ca3 Hf3 H3 cs3 s3 n3 r3 h3 y hy => ?_)
  obtain ⟨j, kvs, rfl, e1, h4⟩ := dicM_ h3
  obtain ⟨z, k, rfl, e2, h5⟩ := keyM_ h4
  obtain ⟨l, ws, rfl, c1, c2, c3⟩ := ty_dic r3 (hx.nx n3) e1
  have ey := ky_v hy e2
  subst ey
  cases s1 with
  | d z =>
    have h6 : Gs X W B ca3 Hf3 ρ σ ((if kvs.length < sizeLine then putM j (.dK (dpK kvs k z)) else stuck) cs3) _ := h5
    split at h6
    · rename_i hl
      have hz : Dd Hf3 v z := dp_ex n3.ex (dp_ex n2.ex hv)
      refine ⟨l, _, rfl, DPut.k c2 (by rw [prK_len c3]; exact hl), ?_⟩
      have r4 : Rel B ca3 ρ (cs3.set j (.dK (dpK kvs k z))) Hf3 σ (upd H3 l (.dK (putK ws k v))) := r3.write c1 ⟨_, upd_same, prK_put k c3 hz⟩
      exact GO.nx_ (h6 ca3 Hf3 _ Nx.refl r4) r4
    · exact h6.elim
  | _ => exact h5.elim
theorem de_lenK (ho : DE X W o fo) (hm : X.mg "len" = none) (hg : Gl X "len" := by rfl) (na : starEach [o] X.env = (false, eval o X.env) :: starEach [] X.env := by rfl) : DE X W (.Call (.Name "len" p) [o] [] pos) (eLenK fo) := by
  obtain ⟨to, po, ko⟩ := ho
  have hc : CallR X (.builtin "len") (fun xs H Q => ∃ a kvs, xs = [V.ref a] ∧ Rd H a (.dK kvs) ∧ Q (.int kvs.length) H) := by
    intro pins s σ H xs us Q I r ⟨a, kvs, ex, hd, q⟩
    subst ex
    rw [Vals.ref1 r]
    exact d_len I hd fun t s' I' => ⟨.int kvs.length, H, I', ⟨t, rfl⟩, q⟩
  refine ⟨_, pe_callB hc hg hm PySem.boot_len (pa_cons po pa_nil na) (by decide) (by decide) na (by rfl), fun B ca ρ cs Hf σ H Q r h => ?_⟩
  refine ko B ca ρ cs Hf σ H _ r (h.bind.mono fun ca1 Hf1 H1 cs1 s1 n1 r1 h1 x hx => ?_)
  obtain ⟨j, kvs, rfl, e1, h2⟩ := dicM_ h1
  obtain ⟨l, ws, rfl, c1, c2, c3⟩ := ty_dic r1 hx e1
  refine ⟨l, ws, rfl, .inl c2, ?_⟩
  rw [prK_len c3]
  exact h2.ret_ r1 _ (.int _)
theorem de_sortK (ho : DE X W o fo) (hm : X.mg "sorted" = none) (hc : X.calm = true := by rfl) (hg : Gl X "sorted" := by rfl) (na : starEach [o] X.env = (false, eval o X.env) :: starEach [] X.env := by rfl) : DE X W (.Call (.Name "sorted" p) [o] [] pos) (eSortK fo) := by
  obtain ⟨to, po, ko⟩ := ho
  refine ⟨_, pe_callB (call_sortedD hc) hg hm (by decide +kernel : bootBuiltins "sorted" = some (.builtin "sorted")) (pa_cons po pa_nil na) (by decide) (by decide) na (by rfl), fun B ca ρ cs Hf σ H Q r h => ?_⟩
  refine ko B ca ρ cs Hf σ H _ r (h.bind.mono fun ca1 Hf1 H1 cs1 s1 n1 r1 h1 x hx => ?_)
  obtain ⟨j, kvs, rfl, e1, h2⟩ := dicM_ h1
  obtain ⟨l, ws, rfl, c1, c2, c3⟩ := ty_dic r1 hx e1
  have h3 : Gs X W B ca1 Hf1 ρ σ ((match sortKT (kvs.map (fun q : Key × D => q.1)) with
    | some ks => if ks.length < 64 then ret (S.d (.list ((sortT ks).map .str))) else stuck
    | none => stuck) cs1) (fun ca' Hf' H' _ s => ∀ v, SvOk ca' Hf' s v → Q v H') := h2
  cases ek : sortKT (kvs.map (fun q : Key × D => q.1)) with
  | none => rw [ek] at h3; exact h3.elim
  | some ks =>
    rw [ek] at h3
    simp only at h3
    split at h3
    · rename_i hl
      refine ⟨l, ws, ks, rfl, .inl c2, by rw [prK_keys c3]; exact sortKT_eq ek, hl, fun ys p hp hs hn => ?_⟩
      have ez := eq_sortT hp (up_of_sortedS ys hs)
      subst ez
      have g := Gw.new (o := .lst ((sortT ks).map V.str)) r1.ext hn
      obtain ⟨r3, n3⟩ := r1.gw g
      exact h3 ca1 _ _ n3 r3 _ (show Dd _ _ _ from .lst (.inl upd_same) (dds_txts _))
    · exact h3.elim
end
end Dn

set_option Elab.async false
set_option linter.all false
set_option maxRecDepth 100000
set_option maxHeartbeats 1000000
/-! DnS: what mirrors come to, by simp. -/
namespace Dn
open PySem L2
section
variable {α β : Type} {cs cs' : Store} {ρ : List S} {i j : Nat}
@[simp] theorem ret_ (a : α) : ret a cs = .ok a cs := rfl
@[simp] theorem stuck_ : (stuck : M α) cs = .no := rfl
@[simp] theorem bnd_ (m : M α) (k : α → M β) : bnd m k cs = match m cs with
  | .ok a cs' => k a cs'
  | .er c cs' => .er c cs'
  | .no => .no := rfl
@[simp] theorem ofO_some (a : α) : ofO (some a) cs = .ok a cs := rfl
@[simp] theorem ofO_none : (ofO (none : Option α)) cs = .no := rfl
@[simp] theorem vw_d (x : D) : vw (.d x) cs = some x := rfl
@[simp] theorem vw_cel : vw (.cel j) cs = match cs[j]? with
    | some (.lst xs) => some (.list xs)
    | _ => none := rfl
@[simp] theorem vwM_d (x : D) : vwM (.d x) cs = .ok x cs := rfl
@[simp] theorem vwM_cel : vwM (.cel j) cs = match cs[j]? with
    | some (.lst xs) => .ok (.list xs) cs
    | _ => .no := by
  show (match vw (.cel j) cs with
    | some d => Res.ok d cs
    | none => .no) = _
  rw [vw_cel]
  cases cs[j]? with
  | none => rfl
  | some o => cases o <;> rfl
@[simp] theorem eV_ : eV i ρ = match ρ[i]? with
  | some (.d x) => ret (.d x)
  | some (.cel j) => ret (.cel j)
  | some (.fn a) => ret (.fn a)
  | _ => stuck := rfl
@[simp] theorem eC_ (d : D) : eC d ρ cs = .ok (.d d) cs := rfl
@[simp] theorem eFn_ (a : Addr) : eFn a ρ cs = .ok (.fn a) cs := rfl
@[simp] theorem op2_ (g : D → D → Option β) (fa fb : List S → M S) : op2 g fa fb ρ cs = bnd (fa ρ) (fun a => bnd (fb ρ) fun b => bnd (vwM a) fun x => bnd (vwM b) fun y => ofO (g x y)) cs := rfl
@[simp] theorem op1_ (g : D → Option β) (fa : List S → M S) : op1 g fa ρ cs = bnd (fa ρ) (fun a => bnd (vwM a) fun x => ofO (g x)) cs := rfl
@[simp] theorem eBin_ (g : D → D → Option D) (fa fb : List S → M S) : eBin g fa fb ρ cs = bnd (op2 g fa fb ρ) (fun d => ret (.d d)) cs := rfl
@[simp] theorem eCmp_ (g : D → D → Option Bool) (fa fb : List S → M S) : eCmp g fa fb ρ cs = bnd (op2 g fa fb ρ) (fun b => ret (.d (.bool b))) cs := rfl
@[simp] theorem eIsN_ (fa : List S → M S) : eIsN fa ρ cs = bnd (op1 isnD fa ρ) (fun b => ret (.d (.bool b))) cs := rfl
@[simp] theorem eIsNN_ (fa : List S → M S) : eIsNN fa ρ cs = bnd (op1 isnD fa ρ) (fun b => ret (.d (.bool (!b)))) cs := rfl
@[simp] theorem tT_ (fa : List S → M S) : tT fa ρ cs = op1 truD fa ρ cs := rfl
@[simp] theorem tNotM_ (f : List S → M Bool) : tNotM f ρ cs = bnd (f ρ) (fun b => ret (!b)) cs := rfl
@[simp] theorem tAndM_ (f g : List S → M Bool) : tAndM f g ρ cs = bnd (f ρ) (fun b => if b = true then g ρ else ret false) cs := rfl
@[simp] theorem tOrM_ (f g : List S → M Bool) : tOrM f g ρ cs = bnd (f ρ) (fun b => if b = true then ret true else g ρ) cs := rfl
@[simp] theorem eAndM_ (f g : List S → M S) : eAndM f g ρ cs = bnd (f ρ) (fun a => bnd (vwM a) fun x => bnd (ofO (truD x)) fun b => if b = true then g ρ else ret a) cs := rfl
@[simp] theorem eOrM_ (f g : List S → M S) : eOrM f g ρ cs = bnd (f ρ) (fun a => bnd (vwM a) fun x => bnd (ofO (truD x)) fun b => if b = true then ret a else g ρ) cs := rfl
@[simp] theorem eNotM_ (f : List S → M S) : eNotM f ρ cs = bnd (op1 truD f ρ) (fun b => ret (.d (.bool (!b)))) cs := rfl
@[simp] theorem eNeg_ (f : List S → M S) : eNeg f ρ cs = bnd (op1 negD f ρ) (fun d => ret (.d d)) cs := rfl
@[simp] theorem eIf_ (t : List S → M Bool) (f g : List S → M S) : eIf t f g ρ cs = bnd (t ρ) (fun b => if b = true then f ρ else g ρ) cs := rfl
@[simp] theorem tChn_ (g g' : D → D → Option Bool) (fa fb fc : List S → M S) : tChn g g' fa fb fc ρ cs = bnd (fa ρ) (fun a => bnd (fb ρ) fun b => bnd (vwM a) fun x => bnd (vwM b) fun y => bnd (ofO (g x y)) fun k => if k = true then bnd (fc ρ) fun c => bnd (vwM b) fun y' => bnd (vwM c) fun z => ofO (g' y' z) else ret false) cs := rfl
@[simp] theorem eChn_ (g g' : D → D → Option Bool) (fa fb fc : List S → M S) : eChn g g' fa fb fc ρ cs = bnd (tChn g g' fa fb fc ρ) (fun b => ret (.d (.bool b))) cs := rfl
@[simp] theorem aNil_ : aNil ρ cs = .ok [] cs := rfl
@[simp] theorem aCons_ (f : List S → M S) (g : List S → M (List S)) : aCons f g ρ cs = bnd (f ρ) (fun a => bnd (g ρ) fun as => ret (a :: as)) cs := rfl
@[simp] theorem asD_nil : asD [] = some [] := rfl
@[simp] theorem asD_d (x : D) (r : List S) : asD (.d x :: r) = (asD r).map (x :: ·) := rfl
@[simp] theorem eTup_ (g : List S → M (List S)) : eTup g ρ cs = bnd (g ρ) (fun as => bnd (ofO (asD as)) fun xs => if xs.length ≤ sizeLine then ret (.d (.tuple xs)) else stuck) cs := rfl
@[simp] theorem eLst_ (g : List S → M (List S)) : eLst g ρ cs = bnd (g ρ) (fun as => bnd (ofO (asD as)) fun xs => if xs.length ≤ sizeLine then ret (.own (.lst xs)) else stuck) cs := rfl
@[simp] theorem frz_d (x : D) : frz (.d x) = ret (.d x) := rfl
@[simp] theorem frz_own (xs : List D) : frz (.own (.lst xs)) = ret (.d (.list xs)) := rfl
@[simp] theorem frz_cel : frz (.cel j) = ret (.cel j) := rfl
@[simp] theorem eFrz_ (f : List S → M Rv) : eFrz f ρ cs = bnd (f ρ) frz cs := rfl
@[simp] theorem sRv_d (x : D) : sRv (.d x) = ret (.d x) := rfl
@[simp] theorem sRv_cel : sRv (.cel j) = ret (.cel j) := rfl
@[simp] theorem eRv_ (f : List S → M S) : eRv f ρ cs = bnd (f ρ) sRv cs := rfl
@[simp] theorem oNone_ : oNone ρ cs = .ok none cs := rfl
@[simp] theorem oSome_ (f : List S → M S) : oSome f ρ cs = bnd (f ρ) (fun a => match a with
  | .d (.int i) => ret (some i)
  | _ => stuck) cs := rfl
@[simp] theorem eSl_ (f : List S → M S) (l h : List S → M (Option Int)) : eSl f l h ρ cs = bnd (f ρ) (fun a => bnd (l ρ) fun lo => bnd (h ρ) fun hi => bnd (vwM a) fun x => bnd (ofO (slD x lo hi)) fun d => ret (.d d)) cs := rfl
@[simp] theorem vws_nil : vws [] cs = some [] := rfl
theorem vws_cons (s : S) (r : List S) : vws (s :: r) cs = match vw s cs, vws r cs with
    | some d, some ds => some (d :: ds)
    | _, _ => none := rfl
@[simp] theorem vws_d (x : D) (r : List S) : vws (.d x :: r) cs = (vws r cs).map (x :: ·) := by
  rw [vws_cons, vw_d]
  cases vws r cs <;> rfl
theorem vws_cel {xs : List D} (r : List S) (h : cs[j]? = some (.lst xs)) : vws (.cel j :: r) cs = (vws r cs).map (.list xs :: ·) := by
  rw [vws_cons, vw_cel, h]
  cases vws r cs <;> rfl
@[simp] theorem vwsM_nil : vwsM [] cs = .ok [] cs := rfl
@[simp] theorem vwsM_d (x : D) (r : List S) : vwsM (.d x :: r) cs = bnd (vwsM r) (fun ds => ret (x :: ds)) cs := by
  unfold vwsM bnd ret
  simp only []
  rw [vws_d]
  cases vws r cs <;> rfl
theorem vwsM_cel {xs : List D} (r : List S) (h : cs[j]? = some (.lst xs)) : vwsM (.cel j :: r) cs = bnd (vwsM r) (fun ds => ret (.list xs :: ds)) cs := by
  unfold vwsM bnd ret
  simp only []
  rw [vws_cel r h]
  cases vws r cs <;> rfl
@[simp] theorem eCd_ (g : List D → Option D) (f : List S → M (List S)) : eCd g f ρ cs = bnd (f ρ) (fun ss => bnd (vwsM ss) fun ds => bnd (ofO (g ds)) fun d => ret (.d d)) cs := rfl
@[simp] theorem eIsa_ (T : String) (fa : List S → M S) : eIsa T fa ρ cs = bnd (op1 (fun d => some (isaD T d)) fa ρ) (fun b => ret (.d (.bool b))) cs := rfl
@[simp] theorem celM_lst {xs : List D} (h : cs[j]? = some (.lst xs)) : celM (.cel j) cs = .ok (j, xs) cs := by
  unfold celM; simp only [h]
@[simp] theorem putM_ (o : OC) : putM j o cs = .ok () (cs.set j o) := rfl
@[simp] theorem fin__ (g : List D → List D → Option (D × List D)) (s : S) (ss : List S) : fin_ g s ss cs = bnd (celM s) (fun p => bnd (ofO (asD ss)) fun ds => bnd (ofO (if p.2.length ≤ sizeLine then g p.2 ds else none)) fun q => bnd (putM p.1 (.lst q.2)) fun _ => ret (.d q.1)) cs := rfl
@[simp] theorem eMt_ (g : List D → List D → Option (D × List D)) (fo : List S → M S) (fa : List S → M (List S)) : eMt g fo fa ρ cs = bnd (fo ρ) (fun s => bnd (celM s) fun _ => bnd (fa ρ) fun ss => fin_ g s ss) cs := rfl
@[simp] theorem eMt0_ (g : List D → List D → Option (D × List D)) (fo : List S → M S) : eMt0 g fo ρ cs = bnd (fo ρ) (fun s => fin_ g s []) cs := rfl
@[simp] theorem appG_ (xs : List D) (d : D) : appG xs [d] = if xs.length < sizeLine then some (.none, xs ++ [d]) else none := rfl
@[simp] theorem extG_ (xs ys : List D) : extG xs [.list ys] = if xs.length + ys.length ≤ sizeLine then some (.none, xs ++ ys) else none := rfl
@[simp] theorem popG_ (xs : List D) (d : D) : popG (xs ++ [d]) [] = some (d, xs) := by
  unfold popG
  simp
/-! statements -/
@[simp] theorem stp_ (m : M α) (k : α → Store → Out) : stp m k ρ cs = match m cs with
  | .ok a cs' => k a cs'
  | .er c cs' => .er c ρ cs'
  | .no => .no := rfl
@[simp] theorem gNil_ : gNil ρ cs = .nx ρ cs := rfl
@[simp] theorem gSeq_ (g h : G) : gSeq g h ρ cs = match g ρ cs with
  | .nx ρ' cs' => h ρ' cs'
  | o => o := rfl
@[simp] theorem sSet_ (f : List S → M S) : sSet i f ρ cs = stp (f ρ) (fun s cs => .nx (ρ.set i s) cs) ρ cs := rfl
@[simp] theorem sNew_ (f : List S → M Rv) : sNew i f ρ cs = stp (f ρ) (fun r cs => match r with
  | .own o => .nx (ρ.set i (.cel cs.length)) (cs ++ [o])
  | .d x => .nx (ρ.set i (.d x)) cs
  | .cel j => .nx (ρ.set i (.cel j)) cs) ρ cs := rfl
@[simp] theorem sRet_ (f : List S → M Rv) : sRet f ρ cs = stp (f ρ) (fun r cs => .rt r cs) ρ cs := rfl
@[simp] theorem sRetN_ : sRetN ρ cs = .rt (.d .none) cs := rfl
@[simp] theorem sExp_ (f : List S → M S) : sExp f ρ cs = stp (f ρ) (fun _ cs => .nx ρ cs) ρ cs := rfl
@[simp] theorem sIf_ (t : List S → M Bool) (g h : G) : sIf t g h ρ cs = stp (t ρ) (fun b cs => if b = true then g ρ cs else h ρ cs) ρ cs := rfl
@[simp] theorem sErr_ (c : Str) : sErr c ρ cs = .er c ρ cs := rfl
@[simp] theorem gPass_ : gPass ρ cs = .nx ρ cs := rfl
@[simp] theorem gBrk_ : gBrk ρ cs = .bk ρ cs := rfl
@[simp] theorem gCon_ : gCon ρ cs = .ct ρ cs := rfl
@[simp] theorem gFor_nil (tg : D → List S → Option (List S)) (body : G) : gFor tg body [] ρ cs = .nx ρ cs := rfl
theorem gFor_cons (tg : D → List S → Option (List S)) (body : G) (x : D) (xs : List D) : gFor tg body (x :: xs) ρ cs = match tg x ρ with
    | none => .no
    | some ρ1 => match body ρ1 cs with
      | .nx ρ' cs' => gFor tg body xs ρ' cs'
      | .ct ρ' cs' => gFor tg body xs ρ' cs'
      | .bk ρ' cs' => .nx ρ' cs'
      | .rt r cs' => .rt r cs'
      | .er c ρ' cs' => .er c ρ' cs'
      | .no => .no := rfl
@[simp] theorem gtN_ (d : D) : gtN i d ρ = some (ρ.set i (.d d)) := rfl
@[simp] theorem sFor_ (tg : D → List S → Option (List S)) (it : List S → M (List D)) (body : G) : sFor tg it body ρ cs = stp (it ρ) (fun xs cs => gFor tg body xs ρ cs) ρ cs := rfl
@[simp] theorem iSeq_ (f : List S → M S) : iSeq f ρ cs = bnd (f ρ) (fun s => match s with
  | .d (.list xs) => ret xs
  | _ => stuck) cs := rfl
@[simp] theorem iTupM_ (f : List S → M S) : iTupM f ρ cs = bnd (f ρ) (fun s => match s with
  | .d (.tuple xs) => ret xs
  | _ => stuck) cs := rfl
@[simp] theorem iRng_ (f : List S → M S) : iRng f ρ cs = bnd (f ρ) (fun s => match s with
  | .d (.int j) => if -(2 ^ 62) ≤ j ∧ j < 2 ^ 62 then ret (rngD 0 j.toNat) else stuck
  | _ => stuck) cs := rfl
theorem gWhile_succ (t : List S → M Bool) (body : G) (n : Nat) : gWhile t body (n + 1) ρ cs = stp (t ρ) (fun b cs => if b = true then (match body ρ cs with
      | .nx ρ' cs' => gWhile t body n ρ' cs'
      | .ct ρ' cs' => gWhile t body n ρ' cs'
      | .bk ρ' cs' => .nx ρ' cs'
      | .rt r cs' => .rt r cs'
      | .er c ρ' cs' => .er c ρ' cs'
      | .no => .no) else .nx ρ cs) ρ cs := rfl
@[simp] theorem sSub_ (fo fi fe : List S → M S) : sSub fo fi fe ρ cs = stp (bnd (fe ρ) fun e => bnd (fo ρ) fun o => bnd (fi ρ) fun i => bnd (celM o) fun p => match e, i with
  | .d x, .d (.int k) => bnd (ofO (ixN p.2.length k)) fun j => putM p.1 (.lst (p.2.set j x))
  | _, _ => stuck) (fun _ cs => .nx ρ cs) ρ cs := rfl
@[simp] theorem runG_ (m : Nat) (g : G) (ss : List S) : runG m g ss cs = fin cs.length (g (ss ++ List.replicate m .no) cs) := rfl
@[simp] theorem fin_nx (n : Nat) : fin n (.nx ρ cs) = .ok (.d .none) (cs.take n) := rfl
@[simp] theorem fin_d (n : Nat) (x : D) : fin n (.rt (.d x) cs) = .ok (.d x) (cs.take n) := rfl
@[simp] theorem fin_own (n : Nat) (o : OC) : fin n (.rt (.own o) cs) = .ok (.own o) (cs.take n) := rfl
@[simp] theorem fin_er (n : Nat) (c : Str) : fin n (.er c ρ cs) = .er c (cs.take n) := rfl
@[simp] theorem fin_no (n : Nat) : fin n .no = .no := rfl
theorem fin_cel (n : Nat) : fin n (.rt (.cel j) cs) = if j < n then .ok (.cel j) (cs.take n) else match cs[j]? with
    | some o => .ok (.own o) (cs.take n)
    | none => .no := rfl
/-! calls -/
@[simp] theorem noCel_nil : noCel [] = true := rfl
@[simp] theorem noCel_d (x : D) (r : List S) : noCel (.d x :: r) = noCel r := rfl
@[simp] theorem noCel_fn (a : Addr) (r : List S) : noCel (.fn a :: r) = noCel r := rfl
@[simp] theorem callP_ (F : List S → M Rv) (ss : List S) : callP F ss cs = if noCel ss = true then (match F ss [] with
  | .ok (.d x) _ => .ok (.d x) cs
  | .ok (.own o) _ => .ok (.own o) cs
  | .ok (.cel _) _ => .no
  | .er c _ => .er c cs
  | .no => .no) else .no := rfl
@[simp] theorem callC_ (F : List S → M Rv) (r : List S) : callC F (.cel j :: r) cs = if noCel r = true then (match cs[j]? with
    | some o => match F (.cel 0 :: r) [o] with
      | .ok (.d x) [o'] => .ok (.d x) (cs.set j o')
      | .ok (.own u) [o'] => .ok (.own u) (cs.set j o')
      | .ok (.cel 0) [o'] => .ok (.cel j) (cs.set j o')
      | .er c [o'] => .er c (cs.set j o')
      | _ => .no
    | none => .no) else .no := rfl
@[simp] theorem eCall_ (F : List S → M Rv) (g : List S → M (List S)) : eCall F g ρ cs = bnd (g ρ) (callP F) cs := rfl
@[simp] theorem eCallC_ (F : List S → M Rv) (g : List S → M (List S)) : eCallC F g ρ cs = bnd (g ρ) (callC F) cs := rfl
@[simp] theorem eCallL_ (a : Addr) (F : List S → M Rv) (g : List S → M (List S)) : eCallL i a F g ρ cs = match ρ[i]? with
  | some (.fn b) => if b = a then bnd (g ρ) (fun ss cs => match callP F ss cs with
    | .er _ _ => .no
    | o => o) cs else .no
  | _ => .no := rfl
/-! data -/
@[simp] theorem addD_int (x y : Int) : addD (.int x) (.int y) = some (.int (x + y)) := rfl
@[simp] theorem subD_int (x y : Int) : subD (.int x) (.int y) = some (.int (x - y)) := rfl
@[simp] theorem mulD_int (x y : Int) : mulD (.int x) (.int y) = if x.natAbs.log2 + y.natAbs.log2 < 1000000 then some (.int (x * y)) else none := rfl
@[simp] theorem fdivD_int (x y : Int) : fdivD (.int x) (.int y) = if 0 < y ∧ y.natAbs.log2 < 9000 then some (.int (x / y)) else none := rfl
@[simp] theorem modD_int (x y : Int) : modD (.int x) (.int y) = if 0 < y then some (.int (x % y)) else none := rfl
@[simp] theorem powD_int (x y : Int) : powD (.int x) (.int y) = if 0 ≤ y ∧ y ≤ 1000000 ∧ x.natAbs < 2 ^ 64 then some (.int (x ^ y.toNat)) else none := rfl
@[simp] theorem negD_int (x : Int) : negD (.int x) = some (.int (-x)) := rfl
@[simp] theorem ltD_int (x y : Int) : ltD (.int x) (.int y) = some (decide (x < y)) := rfl
@[simp] theorem leD_int (x y : Int) : leD (.int x) (.int y) = some (decide (x ≤ y)) := rfl
@[simp] theorem gtD_int (x y : Int) : gtD (.int x) (.int y) = some (decide (y < x)) := rfl
@[simp] theorem geD_int (x y : Int) : geD (.int x) (.int y) = some (decide (y ≤ x)) := rfl
@[simp] theorem eqD_int (x y : Int) : eqD (.int x) (.int y) = some (x == y) := by simp [eqD, scalD, PyData.eqv]
@[simp] theorem eqD_str (x y : Str) : eqD (.str x) (.str y) = some (x == y) := by simp [eqD, scalD, PyData.eqv]
@[simp] theorem eqD_bool (x y : Bool) : eqD (.bool x) (.bool y) = some (x == y) := by simp [eqD, scalD, PyData.eqv]
@[simp] theorem eqD_str_int (x : Str) (y : Int) : eqD (.str x) (.int y) = some false := by simp [eqD, scalD, PyData.eqv]
@[simp] theorem eqD_int_str (x : Str) (y : Int) : eqD (.int y) (.str x) = some false := by simp [eqD, scalD, PyData.eqv]
@[simp] theorem neD_int (x y : Int) : neD (.int x) (.int y) = some (!(x == y)) := by simp [neD]
@[simp] theorem neD_str (x y : Str) : neD (.str x) (.str y) = some (!(x == y)) := by simp [neD]
@[simp] theorem isnD_none : isnD .none = some true := rfl
@[simp] theorem isnD_bool (b : Bool) : isnD (.bool b) = some false := rfl
@[simp] theorem isnD_int (b : Int) : isnD (.int b) = some false := rfl
@[simp] theorem isnD_str (b : Str) : isnD (.str b) = some false := rfl
@[simp] theorem isnD_list (b : List D) : isnD (.list b) = some false := rfl
@[simp] theorem isnD_tuple (b : List D) : isnD (.tuple b) = some false := rfl
@[simp] theorem truD_bool (b : Bool) : truD (.bool b) = some b := rfl
@[simp] theorem truD_none : truD .none = some false := rfl
@[simp] theorem truD_list (b : List D) : truD (.list b) = some (!b.isEmpty) := rfl
@[simp] theorem truD_tuple (b : List D) : truD (.tuple b) = some (!b.isEmpty) := rfl
@[simp] theorem lenG_list (b : List D) : lenG [.list b] = some (.int b.length) := rfl
@[simp] theorem lenG_tuple (b : List D) : lenG [.tuple b] = some (.int b.length) := rfl
@[simp] theorem minG_ (x y : Int) : minG [.int x, .int y] = some (.int (if y < x then y else x)) := rfl
@[simp] theorem maxG_ (x y : Int) : maxG [.int x, .int y] = some (.int (if y > x then y else x)) := rfl
@[simp] theorem intG_int (x : Int) : intG [.int x] = some (.int x) := rfl
@[simp] theorem intG_bool (x : Bool) : intG [.bool x] = some (.int (if x then 1 else 0)) := rfl
@[simp] theorem listG_list (x : List D) : listG [.list x] = some (.list x) := rfl
@[simp] theorem listG_tuple (x : List D) : listG [.tuple x] = some (.list x) := rfl
@[simp] theorem tupleG_list (x : List D) : tupleG [.list x] = some (.tuple x) := rfl
@[simp] theorem tupleG_tuple (x : List D) : tupleG [.tuple x] = some (.tuple x) := rfl
@[simp] theorem ixD_list (xs : List D) (k : Int) : ixD (.list xs) (.int k) = atI xs k := rfl
@[simp] theorem ixD_tuple (xs : List D) (k : Int) : ixD (.tuple xs) (.int k) = atI xs k := rfl
@[simp] theorem slD_list (xs : List D) (lo hi : Option Int) : slD (.list xs) lo hi = some (.list (cutD xs lo hi)) := rfl
@[simp] theorem slD_tuple (xs : List D) (lo hi : Option Int) : slD (.tuple xs) lo hi = some (.tuple (cutD xs lo hi)) := rfl
/-- an item at a place -/
theorem atI_of {α : Type} {xs : List α} {k : Int} {n : Nat} {x : α} (hk : k = (n : Int)) (h : xs[n]? = some x) : atI xs k = some x := by
  subst hk; exact atI_nat h
@[simp] theorem atI0 {α : Type} (x : α) (xs : List α) : atI (x :: xs) 0 = some x := atI_of (n := 0) rfl rfl
@[simp] theorem atI1 {α : Type} (x y : α) (xs : List α) : atI (x :: y :: xs) 1 = some y := atI_of (n := 1) rfl rfl
@[simp] theorem atI2 {α : Type} (x y z : α) (xs : List α) : atI (x :: y :: z :: xs) 2 = some z := atI_of (n := 2) rfl rfl
@[simp] theorem atI3 {α : Type} (x y z u : α) (xs : List α) : atI (x :: y :: z :: u :: xs) 3 = some u := atI_of (n := 3) rfl rfl
@[simp] theorem atI4 {α : Type} (x y z u v : α) (xs : List α) : atI (x :: y :: z :: u :: v :: xs) 4 = some v := atI_of (n := 4) rfl rfl
@[simp] theorem atI5 {α : Type} (x y z u v w : α) (xs : List α) : atI (x :: y :: z :: u :: v :: w :: xs) 5 = some w := atI_of (n := 5) rfl rfl
@[simp] theorem atI6 {α : Type} (x y z u v w p : α) (xs : List α) : atI (x :: y :: z :: u :: v :: w :: p :: xs) 6 = some p := atI_of (n := 6) rfl rfl
/-- xs[k:] -/
theorem cutD_from (xs : List D) (k : Nat) : cutD xs (some (k : Int)) none = xs.drop k := by
  unfold cutD
  rw [HT.sIx_nat, HT.sIx_none, List.take_of_length_le (by simp)]
  by_cases h : k ≤ xs.length
  · rw [Nat.min_eq_left h]
  · rw [Nat.min_eq_right (by omega), List.drop_of_length_le (Nat.le_refl _), List.drop_of_length_le (by omega)]
@[simp] theorem cutD1 (xs : List D) : cutD xs (some 1) none = xs.drop 1 := cutD_from xs 1
@[simp] theorem cutD2 (xs : List D) : cutD xs (some 2) none = xs.drop 2 := cutD_from xs 2
@[simp] theorem cutD3 (xs : List D) : cutD xs (some 3) none = xs.drop 3 := cutD_from xs 3
theorem size_ok {n : Nat} (h : n ≤ 16000000) : n ≤ sizeLine := by rw [sizeLine_eq]; omega
theorem size_lt {n : Nat} (h : n < 16000000) : n < sizeLine := by rw [sizeLine_eq]; omega
@[simp] theorem size0 : (0 : Nat) ≤ sizeLine := Nat.zero_le _
@[simp] theorem size1 : (1 : Nat) ≤ sizeLine := size_ok (by omega)
@[simp] theorem size2 : (2 : Nat) ≤ sizeLine := size_ok (by omega)
@[simp] theorem size3 : (3 : Nat) ≤ sizeLine := size_ok (by omega)
@[simp] theorem size4 : (4 : Nat) ≤ sizeLine := size_ok (by omega)
@[simp] theorem size5 : (5 : Nat) ≤ sizeLine := size_ok (by omega)
@[simp] theorem size6 : (6 : Nat) ≤ sizeLine := size_ok (by omega)
@[simp] theorem size7 : (7 : Nat) ≤ sizeLine := size_ok (by omega)
@[simp] theorem size8 : (8 : Nat) ≤ sizeLine := size_ok (by omega)
@[simp] theorem size9 : (9 : Nat) ≤ sizeLine := size_ok (by omega)
@[simp] theorem size10 : (10 : Nat) ≤ sizeLine := size_ok (by omega)
@[simp] theorem size11 : (11 : Nat) ≤ sizeLine := size_ok (by omega)
@[simp] theorem size12 : (12 : Nat) ≤ sizeLine := size_ok (by omega)
@[simp] theorem size13 : (13 : Nat) ≤ sizeLine := size_ok (by omega)
@[simp] theorem size14 : (14 : Nat) ≤ sizeLine := size_ok (by omega)
@[simp] theorem size15 : (15 : Nat) ≤ sizeLine := size_ok (by omega)
@[simp] theorem size16 : (16 : Nat) ≤ sizeLine := size_ok (by omega)
@[simp] theorem size17 : (17 : Nat) ≤ sizeLine := size_ok (by omega)
@[simp] theorem size18 : (18 : Nat) ≤ sizeLine := size_ok (by omega)
@[simp] theorem size19 : (19 : Nat) ≤ sizeLine := size_ok (by omega)
@[simp] theorem size20 : (20 : Nat) ≤ sizeLine := size_ok (by omega)
@[simp] theorem size21 : (21 : Nat) ≤ sizeLine := size_ok (by omega)
@[simp] theorem size22 : (22 : Nat) ≤ sizeLine := size_ok (by omega)
@[simp] theorem size23 : (23 : Nat) ≤ sizeLine := size_ok (by omega)
@[simp] theorem size24 : (24 : Nat) ≤ sizeLine := size_ok (by omega)
@[simp] theorem size25 : (25 : Nat) ≤ sizeLine := size_ok (by omega)
@[simp] theorem size26 : (26 : Nat) ≤ sizeLine := size_ok (by omega)
@[simp] theorem size27 : (27 : Nat) ≤ sizeLine := size_ok (by omega)
@[simp] theorem size28 : (28 : Nat) ≤ sizeLine := size_ok (by omega)
@[simp] theorem size29 : (29 : Nat) ≤ sizeLine := size_ok (by omega)
@[simp] theorem size30 : (30 : Nat) ≤ sizeLine := size_ok (by omega)
@[simp] theorem size31 : (31 : Nat) ≤ sizeLine := size_ok (by omega)
@[simp] theorem size32 : (32 : Nat) ≤ sizeLine := size_ok (by omega)
@[simp] theorem size33 : (33 : Nat) ≤ sizeLine := size_ok (by omega)
@[simp] theorem size34 : (34 : Nat) ≤ sizeLine := size_ok (by omega)
@[simp] theorem size35 : (35 : Nat) ≤ sizeLine := size_ok (by omega)
@[simp] theorem size36 : (36 : Nat) ≤ sizeLine := size_ok (by omega)
@[simp] theorem size37 : (37 : Nat) ≤ sizeLine := size_ok (by omega)
@[simp] theorem size38 : (38 : Nat) ≤ sizeLine := size_ok (by omega)
@[simp] theorem size39 : (39 : Nat) ≤ sizeLine := size_ok (by omega)
@[simp] theorem size40 : (40 : Nat) ≤ sizeLine := size_ok (by omega)
@[simp] theorem sizeLt0 : (0 : Nat) < sizeLine := size_lt (by omega)
@[simp] theorem flatD_none : flatD .none = true := rfl
@[simp] theorem flatD_bool (b : Bool) : flatD (.bool b) = true := rfl
@[simp] theorem flatD_int (b : Int) : flatD (.int b) = true := rfl
@[simp] theorem flatD_str (b : Str) : flatD (.str b) = true := rfl
@[simp] theorem eqv_str (a b : Str) : PyData.eqv (.str a) (.str b) = (a == b) := by simp [PyData.eqv]
@[simp] theorem eqv_int (a b : Int) : PyData.eqv (.int a) (.int b) = (a == b) := by simp [PyData.eqv]
@[simp] theorem eqv_int_str (a : Int) (b : Str) : PyData.eqv (.int a) (.str b) = false := by simp [PyData.eqv]
@[simp] theorem eqv_str_int (a : Int) (b : Str) : PyData.eqv (.str b) (.int a) = false := by simp [PyData.eqv]
theorem inD_tup (x : D) (ys : List D) : inD x (.tuple ys) = if (flatD x && ys.all flatD) = true then some (ys.any fun y => PyData.eqv y x) else none := rfl
theorem inD_lst (x : D) (ys : List D) : inD x (.list ys) = if (flatD x && ys.all flatD || (SeqAt.shaped x && SeqAt.shaped (.list ys))) = true then some (ys.any fun y => PyData.eqv y x) else none := rfl
@[simp] theorem inD_str (x : Str) (ys : List D) (h : ys.all flatD = true) : inD (.str x) (.tuple ys) = some (ys.any fun y => PyData.eqv y (.str x)) := by
  rw [inD_tup, h]; rfl
@[simp] theorem inD_int (x : Int) (ys : List D) (h : ys.all flatD = true) : inD (.int x) (.tuple ys) = some (ys.any fun y => PyData.eqv y (.int x)) := by
  rw [inD_tup, h]; rfl
@[simp] theorem inD_strL (x : Str) (ys : List D) (h : ys.all flatD = true) : inD (.str x) (.list ys) = some (ys.any fun y => PyData.eqv y (.str x)) := by
  rw [inD_lst, h]; rfl
@[simp] theorem inD_intL (x : Int) (ys : List D) (h : ys.all flatD = true) : inD (.int x) (.list ys) = some (ys.any fun y => PyData.eqv y (.int x)) := by
  rw [inD_lst, h]; rfl
@[simp] theorem isa_int_int (x : Int) : isaD "int" (.int x) = true := rfl
@[simp] theorem isa_bool_int (x : Int) : isaD "bool" (.int x) = false := rfl
@[simp] theorem isa_str_int (x : Int) : isaD "str" (.int x) = false := rfl
@[simp] theorem isa_list_int (x : Int) : isaD "list" (.int x) = false := rfl
@[simp] theorem isa_tuple_int (x : Int) : isaD "tuple" (.int x) = false := rfl
@[simp] theorem isa_int_bool (x : Bool) : isaD "int" (.bool x) = true := rfl
@[simp] theorem isa_bool_bool (x : Bool) : isaD "bool" (.bool x) = true := rfl
@[simp] theorem isa_str_bool (x : Bool) : isaD "str" (.bool x) = false := rfl
@[simp] theorem isa_list_bool (x : Bool) : isaD "list" (.bool x) = false := rfl
@[simp] theorem isa_tuple_bool (x : Bool) : isaD "tuple" (.bool x) = false := rfl
@[simp] theorem isa_int_str (x : Str) : isaD "int" (.str x) = false := rfl
@[simp] theorem isa_bool_str (x : Str) : isaD "bool" (.str x) = false := rfl
@[simp] theorem isa_str_str (x : Str) : isaD "str" (.str x) = true := rfl
@[simp] theorem isa_list_str (x : Str) : isaD "list" (.str x) = false := rfl
@[simp] theorem isa_tuple_str (x : Str) : isaD "tuple" (.str x) = false := rfl
@[simp] theorem isa_int_list (x : List D) : isaD "int" (.list x) = false := rfl
@[simp] theorem isa_bool_list (x : List D) : isaD "bool" (.list x) = false := rfl
@[simp] theorem isa_str_list (x : List D) : isaD "str" (.list x) = false := rfl
@[simp] theorem isa_list_list (x : List D) : isaD "list" (.list x) = true := rfl
@[simp] theorem isa_tuple_list (x : List D) : isaD "tuple" (.list x) = false := rfl
@[simp] theorem isa_int_tuple (x : List D) : isaD "int" (.tuple x) = false := rfl
@[simp] theorem isa_bool_tuple (x : List D) : isaD "bool" (.tuple x) = false := rfl
@[simp] theorem isa_str_tuple (x : List D) : isaD "str" (.tuple x) = false := rfl
@[simp] theorem isa_list_tuple (x : List D) : isaD "list" (.tuple x) = false := rfl
@[simp] theorem isa_tuple_tuple (x : List D) : isaD "tuple" (.tuple x) = true := rfl
@[simp] theorem isa_none (t : String) (h : (t == "NoneType") = false) : isaD t .none = false := h
@[simp] theorem strOk_lit (s : String) : PyData.strOk (Str.ofString s) = true := by
  rw [Str.ofString_eq_toList]
  simp only [PyData.strOk, List.all_toArray, List.all_eq_true, List.mem_map, decide_eq_true_eq]
  rintro n ⟨c, _, rfl⟩
  have h := c.valid
  unfold UInt32.isValidChar Nat.isValidChar at h
  show c.val.toNat < _
  omega
@[simp] theorem shaped_str (x : Str) : SeqAt.shaped (.str x) = PyData.strOk x := by simp [SeqAt.shaped, PyData.canLay0, PyData.depth]
@[simp] theorem shaped_int (x : Int) : SeqAt.shaped (.int x) = true := by simp [SeqAt.shaped, PyData.canLay0, PyData.depth]
@[simp] theorem shaped_bool (x : Bool) : SeqAt.shaped (.bool x) = true := by simp [SeqAt.shaped, PyData.canLay0, PyData.depth]
@[simp] theorem shaped_none : SeqAt.shaped .none = true := by simp [SeqAt.shaped, PyData.canLay0, PyData.depth]
theorem eqD_sh {a b : D} (ha : SeqAt.shaped a = true) (hb : SeqAt.shaped b = true) : eqD a b = some (PyData.eqv a b) := by
  unfold eqD; rw [ha, hb]; simp
@[simp] theorem eqD_tuple_str (x : List D) (y : Str) (ha : SeqAt.shaped (.tuple x) = true) (hb : PyData.strOk y = true) : eqD (.tuple x) (.str y) = some false := by
  rw [eqD_sh ha (by rw [shaped_str]; exact hb)]; simp [PyData.eqv]
@[simp] theorem eqD_list_str (x : List D) (y : Str) (ha : SeqAt.shaped (.list x) = true) (hb : PyData.strOk y = true) : eqD (.list x) (.str y) = some false := by
  rw [eqD_sh ha (by rw [shaped_str]; exact hb)]; simp [PyData.eqv]
@[simp] theorem eqD_none_int (x : Int) : eqD .none (.int x) = some false := by simp [eqD, scalD, PyData.eqv]
@[simp] theorem eqD_int_none (x : Int) : eqD (.int x) .none = some false := by simp [eqD, scalD, PyData.eqv]
@[simp] theorem eqD_none_str (x : Str) : eqD .none (.str x) = some false := by simp [eqD, scalD, PyData.eqv]
@[simp] theorem eqD_str_none (x : Str) : eqD (.str x) .none = some false := by simp [eqD, scalD, PyData.eqv]
@[simp] theorem eqD_none_none : eqD .none .none = some true := by simp [eqD, scalD, PyData.eqv]
theorem log2_lt {x : Int} {k : Nat} (hk : 0 < k) (h : x.natAbs < 2 ^ k) : x.natAbs.log2 < k := PySem.Flt.log2_lt_of hk h
/-! comprehensions, walks, tries -/
@[simp] theorem noEr_ (m : M α) : noEr m cs = match m cs with
  | .ok a cs' => .ok a cs'
  | _ => .no := by
  unfold noEr
  cases m cs <;> rfl
@[simp] theorem eLc_ (it : List S → M (List D)) (tg : D → List S → Option (List S)) (t : List S → M Bool) (f : List S → M S) (vs : List Nat) : eLc it tg t f vs ρ cs = bnd (it ρ) (fun xs => lcL tg t f (wipeS ρ vs) xs []) cs := rfl
@[simp] theorem lcL_nil (tg : D → List S → Option (List S)) (t : List S → M Bool) (f : List S → M S) (acc : List D) : lcL tg t f ρ [] acc cs = .ok (.own (.lst acc)) cs := rfl
theorem lcL_cons (tg : D → List S → Option (List S)) (t : List S → M Bool) (f : List S → M S) (x : D) (xs acc : List D) : lcL tg t f ρ (x :: xs) acc cs = (match tg x ρ with
    | none => stuck
    | some ρ1 => bnd (noEr (t ρ1)) fun b => if b = true then bnd (noEr (f ρ1)) fun y => (match y with
        | .d d => if acc.length < sizeLine then lcL tg t f ρ xs (acc ++ [d]) else stuck
        | _ => stuck)
      else lcL tg t f ρ xs acc) cs := rfl
@[simp] theorem tYesM_ : tYesM ρ cs = .ok true cs := rfl
@[simp] theorem wipeS_nil : wipeS ρ [] = ρ := rfl
@[simp] theorem wipeS_cons (v : Nat) (vs : List Nat) : wipeS ρ (v :: vs) = (wipeS ρ vs).set v .no := rfl
@[simp] theorem iAnyM_ (f : List S → M S) : iAnyM f ρ cs = bnd (f ρ) (fun s => match s with
  | .d x => ofO (itD x)
  | _ => stuck) cs := rfl
@[simp] theorem itD_list (xs : List D) : itD (.list xs) = some xs := rfl
@[simp] theorem itD_tuple (xs : List D) : itD (.tuple xs) = some xs := rfl
@[simp] theorem itD_str (x : Str) : itD (.str x) = some (x.cps.toList.map chD) := rfl
/-- a comprehension whose parts leave the store as it is -/
theorem lcL_pure {tg : D → List S → Option (List S)} {t : List S → M Bool} {f : List S → M S} (ρx : D → List S) (p : D → Bool) (g : D → D) : ∀ (xs acc : List D), (∀ x ∈ xs, tg x ρ = some (ρx x) ∧ t (ρx x) cs = .ok (p x) cs ∧ (p x = true → f (ρx x) cs = .ok (.d (g x)) cs)) → acc.length + xs.length ≤ sizeLine →
    lcL tg t f ρ xs acc cs = .ok (.own (.lst (acc ++ (xs.filter p).map g))) cs
  | [], acc, _, _ => by simp
  | x :: xs, acc, h, hl => by
    obtain ⟨h1, h2, h3⟩ := h x (by simp)
    rw [List.length_cons] at hl
    rw [lcL_cons, h1]
    cases hp : p x with
    | false =>
      simp only [bnd_, noEr_, h2, hp, Bool.false_eq_true, if_false, List.filter_cons]
      exact lcL_pure ρx p g xs acc (fun y hy => h y (by simp [hy])) (by omega)
    | true =>
      have ih := lcL_pure ρx p g xs (acc ++ [g x]) (fun y hy => h y (by simp [hy])) (by simp; omega)
      have hlt : acc.length < sizeLine := by omega
      simp only [bnd_, noEr_, h2, h3 hp, hp, if_true, List.filter_cons, if_pos hlt, ih]
      simp
/-- a walk that ends as soon as a look fails -/
theorem gFor_all {tg : D → List S → Option (List S)} {body : G} (ok : D → Bool) (r : Rv) (P : List S → Prop) : ∀ (xs : List D) (ρ0 : List S), P ρ0 → (∀ x ∈ xs, ∀ ρ1, P ρ1 → ∃ ρ2, tg x ρ1 = some ρ2 ∧ ((ok x = true ∧ ∃ ρ3, body ρ2 cs = .nx ρ3 cs ∧ P ρ3) ∨ (ok x = false ∧ body ρ2 cs = .rt r cs))) →
    (xs.all ok = true ∧ ∃ ρ', gFor tg body xs ρ0 cs = .nx ρ' cs ∧ P ρ') ∨ (xs.all ok = false ∧ gFor tg body xs ρ0 cs = .rt r cs)
  | [], ρ0, h0, _ => .inl ⟨rfl, ρ0, rfl, h0⟩
  | x :: xs, ρ0, h0, h => by
    obtain ⟨ρ2, e1, ⟨e2, ρ3, e3, e4⟩ | ⟨e2, e3⟩⟩ := h x (by simp) ρ0 h0
    · rcases gFor_all ok r P xs ρ3 e4 (fun y hy => h y (by simp [hy])) with ⟨k1, ρ', k2, k3⟩ | ⟨k1, k2⟩
      · refine .inl ⟨by simp [e2, k1], ρ', ?_, k3⟩
        rw [gFor_cons, e1]
        simp only [e3, k2]
      · refine .inr ⟨by simp [e2, k1], ?_⟩
        rw [gFor_cons, e1]
        simp only [e3, k2]
    · refine .inr ⟨by simp [e2], ?_⟩
      rw [gFor_cons, e1]
      simp only [e3]
@[simp] theorem clr_nx (i : Nat) : clr i (.nx ρ cs) = .nx (ρ.set i .no) cs := rfl
@[simp] theorem clr_rt (i : Nat) (r : Rv) : clr i (.rt r cs) = .rt r cs := rfl
theorem hAs_of {i : Nat} {h : Str → Addr → G} {c : Str} {o : Out} (e : ∀ a, clr i (h c a (ρ.set i (.fn a)) cs) = o) : hAs i h c ρ cs = o := by
  unfold hAs
  rw [if_pos (fun a => (e a).trans (e 0).symm), e 0]
@[simp] theorem mulE_int (x y : Int) : mulE (.int x) (.int y) = mulD (.int x) (.int y) := rfl
@[simp] theorem mulE_tuple (xs : List D) (k : Int) : mulE (.tuple xs) (.int k) = if -1000000000 ≤ k ∧ k ≤ 1000000000 ∧ xs.length * k.toNat ≤ 1000000 then some (.tuple (List.replicate k.toNat xs).flatten) else none := rfl
@[simp] theorem mulE_list (xs : List D) (k : Int) : mulE (.list xs) (.int k) = if -1000000000 ≤ k ∧ k ≤ 1000000000 ∧ xs.length * k.toNat ≤ sizeLine then some (.list (List.replicate k.toNat xs).flatten) else none := rfl
@[simp] theorem addD_tuple (xs ys : List D) : addD (.tuple xs) (.tuple ys) = if xs.length + ys.length ≤ sizeLine then some (.tuple (xs ++ ys)) else none := rfl
@[simp] theorem addD_list (xs ys : List D) : addD (.list xs) (.list ys) = if xs.length + ys.length ≤ sizeLine then some (.list (xs ++ ys)) else none := rfl
@[simp] theorem addD_str (x y : Str) : addD (.str x) (.str y) = if x.length + y.length ≤ sizeLine then some (.str (x ++ y)) else none := rfl
@[simp] theorem lenSetG_list (xs : List D) : lenSetG [.list xs] = match kysD xs with
    | some ks => if ks.length < 4000 then some (.int (fmK ks).length) else none
    | none => none := rfl
@[simp] theorem strG_str (x : Str) : strG [.str x] = some (.str x) := rfl
@[simp] theorem strG_int (i : Int) : strG [.int i] = if i.natAbs.log2 < 1920 then some (.str (toString i)) else none := rfl
@[simp] theorem inD_ch (c : Nat) (z : Str) : inD (chD c) (.str z) = some (decide (c ∈ z.cps.toList)) := rfl
theorem ninD_eq (x y : D) : ninD x y = (inD x y).map (!·) := rfl
@[simp] theorem ninD_of {x y : D} {b : Bool} (h : inD x y = some b) : ninD x y = some (!b) := by rw [ninD_eq, h]; rfl
@[simp] theorem vwsM_c0 (xs : List D) (r : List S) (c : Store) : vwsM (.cel 0 :: r) (.lst xs :: c) = bnd (vwsM r) (fun ds => ret (.list xs :: ds)) (.lst xs :: c) := vwsM_cel r rfl
@[simp] theorem vwsM_c1 (o : OC) (xs : List D) (r : List S) (c : Store) : vwsM (.cel 1 :: r) (o :: .lst xs :: c) = bnd (vwsM r) (fun ds => ret (.list xs :: ds)) (o :: .lst xs :: c) := vwsM_cel r rfl
@[simp] theorem vwsM_c2 (o o2 : OC) (xs : List D) (r : List S) (c : Store) : vwsM (.cel 2 :: r) (o :: o2 :: .lst xs :: c) = bnd (vwsM r) (fun ds => ret (.list xs :: ds)) (o :: o2 :: .lst xs :: c) := vwsM_cel r rfl
end
end Dn

set_option Elab.async false
set_option linter.all false
set_option maxRecDepth 100000
set_option maxHeartbeats 1000000
/-! DnT: what the later mirrors come to, by simp. -/
namespace Dn
open PySem L2
section
variable {cs : Store} {ρ : List S} {i j : Nat}
@[simp] theorem sTgt_ (g : D → List S → Option (List S)) (f : List S → M S) : sTgt g f ρ cs = stp (f ρ) (fun s cs => match s with
  | .d x => match g x ρ with
    | some ρ' => .nx ρ' cs
    | none => .no
  | _ => .no) ρ cs := rfl
@[simp] theorem sPar_ (fa fb : List S → M S) : sPar i j fa fb ρ cs = stp (bnd (fa ρ) fun a => bnd (fb ρ) fun b => ret (a, b)) (fun p cs => .nx ((ρ.set i p.1).set j p.2) cs) ρ cs := rfl
@[simp] theorem eDic0_ : eDic0 ρ cs = .ok (.own (.dK [])) cs := rfl
@[simp] theorem dicM_c0 (kvs : List (Key × D)) (c : Store) : dicM (.cel 0) (.dK kvs :: c) = .ok (0, kvs) (.dK kvs :: c) := rfl
@[simp] theorem dicM_c1 (o : OC) (kvs : List (Key × D)) (c : Store) : dicM (.cel 1) (o :: .dK kvs :: c) = .ok (1, kvs) (o :: .dK kvs :: c) := rfl
@[simp] theorem keyM_str (x : Str) : keyM (.d (.str x)) = ret (Sum.inr x) := rfl
@[simp] theorem keyM_int (x : Int) : keyM (.d (.int x)) = ret (Sum.inl x) := rfl
@[simp] theorem eIxK_ (fo fi : List S → M S) : eIxK fo fi ρ cs = bnd (fo ρ) (fun o => bnd (fi ρ) fun i => bnd (dicM o) fun p => bnd (keyM i) fun k => bnd (ofO (dvK p.2 k)) fun d => ret (.d d)) cs := rfl
@[simp] theorem eGet2_ (fo fi fx : List S → M S) : eGet2 fo fi fx ρ cs = bnd (fo ρ) (fun o => bnd (dicM o) fun _ => bnd (fi ρ) fun i => bnd (fx ρ) fun x => bnd (dicM o) fun p => bnd (keyM i) fun k => match x with
  | .d z => ret (.d ((dvK p.2 k).getD z))
  | _ => stuck) cs := rfl
@[simp] theorem eGet1_ (fo fi : List S → M S) : eGet1 fo fi ρ cs = bnd (fo ρ) (fun o => bnd (dicM o) fun _ => bnd (fi ρ) fun i => bnd (dicM o) fun p => bnd (keyM i) fun k => ret (.d ((dvK p.2 k).getD .none))) cs := rfl
@[simp] theorem sSubK_ (fo fi fe : List S → M S) : sSubK fo fi fe ρ cs = stp (bnd (fe ρ) fun e => bnd (fo ρ) fun o => bnd (fi ρ) fun i => bnd (dicM o) fun p => bnd (keyM i) fun k => match e with
  | .d x => if p.2.length < sizeLine then putM p.1 (.dK (dpK p.2 k x)) else stuck
  | _ => stuck) (fun _ cs => .nx ρ cs) ρ cs := rfl
@[simp] theorem eLenK_ (fo : List S → M S) : eLenK fo ρ cs = bnd (fo ρ) (fun o => bnd (dicM o) fun p => ret (.d (.int p.2.length))) cs := rfl
@[simp] theorem eSortK_ (fo : List S → M S) : eSortK fo ρ cs = bnd (fo ρ) (fun o => bnd (dicM o) fun p => match sortKT (p.2.map (·.1)) with
  | some ks => if ks.length < 64 then ret (.d (.list ((sortT ks).map .str))) else stuck
  | none => stuck) cs := rfl
@[simp] theorem gtT_ (gs : List D → List S → Option (List S)) (xs : List D) : gtT gs (.tuple xs) ρ = gs xs ρ := rfl
@[simp] theorem gtsNil_ : gtsNil [] ρ = some ρ := rfl
@[simp] theorem gtsCons_ (g : D → List S → Option (List S)) (gs : List D → List S → Option (List S)) (x : D) (r : List D) : gtsCons g gs (x :: r) ρ = (g x ρ).bind (gs r) := rfl
theorem sortedSetG_list (xs : List D) : sortedSetG [.list xs] = srtSD xs := rfl
theorem sortedSetG_tuple (xs : List D) : sortedSetG [.tuple xs] = srtSD xs := rfl
/-! texts, each once, in their order -/
theorem kysD_txt : ∀ xs : List Str, kysD (xs.map .str) = some (xs.map Sum.inr)
  | [] => rfl
  | x :: xs => by
    show (match kyD (.str x), kysD (xs.map .str) with
      | some k, some ks => some (k :: ks)
      | _, _ => none) = _
    rw [kysD_txt xs]; rfl
def uqS (l xs : List Str) : List Str := xs.foldl (fun l x => if x ∈ l then l else l ++ [x]) l
theorem fm_uq : ∀ (xs l : List Str), (xs.map Sum.inr).foldl dd1 (l.map Sum.inr) = (uqS l xs).map Sum.inr
  | [], l => rfl
  | x :: xs, l => by
    have hm : mK (l.map Sum.inr) (Sum.inr x) = true ↔ x ∈ l := by rw [mK_iff]; simp
    have e : dd1 (l.map Sum.inr) (Sum.inr x) = (if x ∈ l then l else l ++ [x]).map Sum.inr := by
      unfold dd1
      by_cases h : x ∈ l
      · rw [if_pos (hm.2 h), if_pos h]
      · rw [if_neg (fun z => h (hm.1 z)), if_neg h]; simp
    rw [List.map_cons, List.foldl_cons, e, fm_uq xs]
    rfl
theorem uq_nodup : ∀ (xs l : List Str), l.Nodup → (uqS l xs).Nodup
  | [], l, h => h
  | x :: xs, l, h => by
    show (uqS (if x ∈ l then l else l ++ [x]) xs).Nodup
    refine uq_nodup xs _ ?_
    by_cases c : x ∈ l
    · rw [if_pos c]; exact h
    · rw [if_neg c]
      exact (List.perm_append_singleton x l).nodup_iff.2 (List.nodup_cons.2 ⟨c, h⟩)
theorem uq_mem : ∀ (xs l : List Str) (y : Str), y ∈ uqS l xs ↔ y ∈ l ∨ y ∈ xs
  | [], l, y => by simp [uqS]
  | x :: xs, l, y => by
    have ih := uq_mem xs (if x ∈ l then l else l ++ [x]) y
    have e : uqS l (x :: xs) = uqS (if x ∈ l then l else l ++ [x]) xs := rfl
    rw [e, ih]
    by_cases c : x ∈ l
    · rw [if_pos c, List.mem_cons]
      exact ⟨fun z => z.elim .inl fun q => .inr (.inr q), fun z => z.elim .inl fun q => q.elim (fun e => .inl (e ▸ c)) .inr⟩
    · rw [if_neg c, List.mem_append, List.mem_singleton, List.mem_cons, or_assoc]
theorem uq_self : ∀ (xs l : List Str), (l ++ xs).Nodup → uqS l xs = l ++ xs
  | [], l, h => by simp [uqS]
  | x :: xs, l, h => by
    have c : ¬ x ∈ l := fun z => by
      rw [List.nodup_append] at h
      exact absurd rfl (h.2.2 x z x (by simp))
    show uqS (if x ∈ l then l else l ++ [x]) xs = _
    rw [if_neg c, uq_self xs (l ++ [x]) (by simpa using h)]
    simp
theorem uq_len : ∀ (xs l : List Str), (uqS l xs).length ≤ l.length + xs.length
  | [], l => Nat.le_refl _
  | x :: xs, l => by
    have ih := uq_len xs (if x ∈ l then l else l ++ [x])
    have e : (if x ∈ l then l else l ++ [x]).length ≤ l.length + 1 := by split <;> simp
    show (uqS (if x ∈ l then l else l ++ [x]) xs).length ≤ _
    rw [List.length_cons]; omega
theorem sortKT_map : ∀ ys : List Str, sortKT (ys.map Sum.inr) = some ys
  | [] => rfl
  | y :: ys => by
    show (sortKT (ys.map Sum.inr)).map (y :: ·) = _
    rw [sortKT_map ys]; rfl
theorem sortK_txt (ys : List Str) : (sortK (ys.map Sum.inr)).map (fun p => PyData.list p.2) = some (.list ((sortT ys).map .str)) := by
  cases ys with
  | nil => rfl
  | cons y ys =>
    have e1 : sortKI ((y :: ys).map Sum.inr) = none := rfl
    unfold sortK
    rw [e1, sortKT_map]; rfl
theorem srt_txt {xs : List Str} (h : xs.length < 4000) : srtSD (xs.map .str) = some (.list ((sortT (uqS [] xs)).map .str)) := by
  have e : fmK (xs.map Sum.inr) = (uqS [] xs).map Sum.inr := fm_uq xs []
  have hl : (xs.map (Sum.inr : Str → Key)).length < 4000 := by simpa using h
  unfold srtSD
  rw [kysD_txt]
  simp only [if_pos hl]
  rw [e, sortK_txt]
end
end Dn

set_option Elab.async false
set_option linter.all false
set_option maxRecDepth 100000
set_option maxHeartbeats 4000000
namespace Law
open PySem L2 Dn
noncomputable section
def exKnown (c : PySem.Str) : Bool := c == "WhatbefellError" || (c == "BadForm" || (c == "BadRecord" || (c == "BadWords" || (c == "BadTreaty" || (c == "BadArgument")))))
def exSub_BadArgument (c : PySem.Str) : Bool := c == "BadArgument"
def exSub_BadForm (c : PySem.Str) : Bool := c == "BadForm"
def exSub_BadRecord (c : PySem.Str) : Bool := c == "BadRecord"
def exSub_BadTreaty (c : PySem.Str) : Bool := c == "BadTreaty"
def exSub_BadWords (c : PySem.Str) : Bool := c == "BadWords"
def exSub_WhatbefellError (c : PySem.Str) : Bool := c == "WhatbefellError" || (c == "BadForm" || (c == "BadRecord" || (c == "BadWords" || (c == "BadTreaty" || (c == "BadArgument")))))
def B_is_number : G :=
    (sRet (eRv (eAndM (eIsa "int" (eV 0)) (eAndM (eNotM (eIsa "bool" (eV 0))) (eChn leD leD (eV 1) (eV 0) (eV 2))))))
def F_is_number : List S → M Rv := runG 0 B_is_number
def B_is_name : G :=
    (gSeq (sIf (tOrM (tNotM (tT (eIsa "str" (eV 0)))) (tOrM (tNotM (tChn leD leD (eC (.int (1))) (eCd lenG (aCons (eV 0) aNil)) (eC (.int (8))))) (op2 ninD (eBin ixD (eV 0) (eC (.int (0)))) (eC (.str "abcdefghijklmnopqrstuvwxyz"))))) (sRet (eRv (eC (.bool false)))) gNil)
    (sRet (eRv (eCmp eqD (eFrz (eLc (iAnyM (eV 0)) (gtN 1) (tAndM (op2 ninD (eV 1) (eC (.str "abcdefghijklmnopqrstuvwxyz"))) (op2 ninD (eV 1) (eC (.str "0123456789")))) (eV 1) [1])) (eFrz (eLst aNil))))))
def F_is_name : List S → M Rv := runG 1 B_is_name
def B_is_day : G :=
    (sRet (eCall F_is_number (aCons (eV 0) (aCons (eC (.int (0))) (aCons (eC (.int (36500))) aNil)))))
def F_is_day : List S → M Rv := runG 0 B_is_day
def B_is_money : G :=
    (sRet (eCall F_is_number (aCons (eV 0) (aCons (eC (.int (0))) (aCons (eC (.int (1000000000000))) aNil)))))
def F_is_money : List S → M Rv := runG 0 B_is_money
def B_is_tuple : G :=
    (sRet (eRv (eAndM (eIsa "tuple" (eV 0)) (eChn leD leD (eV 1) (eCd lenG (aCons (eV 0) aNil)) (eV 2)))))
def F_is_tuple : List S → M Rv := runG 0 B_is_tuple
def B_are_unlike : G :=
    (sRet (eRv (eCmp eqD (eCd lenSetG (aCons (eV 0) aNil)) (eCd lenG (aCons (eV 0) aNil)))))
def F_are_unlike : List S → M Rv := runG 0 B_are_unlike
def B_are_shares : G :=
    (gSeq (sIf (tNotM (tT (eFrz (eCall F_is_tuple (aCons (eV 0) (aCons (eC (.int (1))) (aCons (eC (.int (8))) aNil))))))) (sRet (eRv (eC (.bool false)))) gNil)
    (gSeq (sFor (gtN 1) (iAnyM (eV 0)) (sIf (tOrM (tNotM (tT (eFrz (eCall F_is_tuple (aCons (eV 1) (aCons (eC (.int (2))) (aCons (eC (.int (2))) aNil))))))) (tOrM (tNotM (tT (eFrz (eCall F_is_name (aCons (eBin ixD (eV 1) (eC (.int (0)))) aNil))))) (tNotM (tT (eFrz (eCall F_is_number (aCons (eBin ixD (eV 1) (eC (.int (1)))) (aCons (eC (.int (1))) (aCons (eC (.int (10000))) aNil))))))))) (sRet (eRv (eC (.bool false)))) gNil))
    (sRet (eRv (eAndM (eFrz (eCall F_are_unlike (aCons (eFrz (eLc (iAnyM (eV 0)) (gtN 1) tYesM (eBin ixD (eV 1) (eC (.int (0)))) [1])) aNil))) (eCmp eqD (eCd sumG (aCons (eFrz (eLc (iAnyM (eV 0)) (gtN 1) tYesM (eBin ixD (eV 1) (eC (.int (1)))) [1])) aNil)) (eC (.int (10000)))))))))
def F_are_shares : List S → M Rv := runG 1 B_are_shares
def B_is_kind : G :=
    (gSeq (sIf (tOrM (tNotM (tT (eIsa "tuple" (eV 0)))) (tOrM (op2 ltD (eCd lenG (aCons (eV 0) aNil)) (eC (.int (2)))) (tNotM (tT (eIsa "str" (eBin ixD (eV 0) (eC (.int (0))))))))) (sRet (eRv (eC (.bool false)))) gNil)
    (gSeq (sIf (op2 eqD (eBin ixD (eV 0) (eC (.int (0)))) (eC (.str "part"))) (sRet (eRv (eAndM (eCmp eqD (eCd lenG (aCons (eV 0) aNil)) (eC (.int (2)))) (eFrz (eCall F_is_number (aCons (eBin ixD (eV 0) (eC (.int (1)))) (aCons (eC (.int (0))) (aCons (eC (.int (10000))) aNil)))))))) gNil)
    (gSeq (sIf (op2 inD (eBin ixD (eV 0) (eC (.int (0)))) (eTup (aCons (eC (.str "risk")) (aCons (eC (.str "event")) aNil)))) (sRet (eRv (eAndM (eCmp eqD (eCd lenG (aCons (eV 0) aNil)) (eC (.int (3)))) (eAndM (eFrz (eCall F_is_money (aCons (eBin ixD (eV 0) (eC (.int (1)))) aNil))) (eFrz (eCall F_is_money (aCons (eBin ixD (eV 0) (eC (.int (2)))) aNil))))))) gNil)
    (gSeq (sIf (tOrM (op2 neD (eBin ixD (eV 0) (eC (.int (0)))) (eC (.str "year"))) (tOrM (op2 neD (eCd lenG (aCons (eV 0) aNil)) (eC (.int (5)))) (tOrM (tNotM (tT (eFrz (eCall F_is_money (aCons (eBin ixD (eV 0) (eC (.int (1)))) aNil))))) (tNotM (tT (eFrz (eCall F_is_money (aCons (eBin ixD (eV 0) (eC (.int (2)))) aNil)))))))) (sRet (eRv (eC (.bool false)))) gNil)
    (sRet (eRv (eAndM (eFrz (eCall F_is_number (aCons (eBin ixD (eV 0) (eC (.int (3)))) (aCons (eC (.int (0))) (aCons (eC (.int (8))) aNil))))) (eFrz (eCall F_is_number (aCons (eBin ixD (eV 0) (eC (.int (4)))) (aCons (eC (.int (0))) (aCons (eC (.int (100000))) aNil))))))))))))
def F_is_kind : List S → M Rv := runG 0 B_is_kind
def B_is_treaty : G :=
    (gSeq (sIf (tOrM (tNotM (tT (eFrz (eCall F_is_tuple (aCons (eV 0) (aCons (eC (.int (8))) (aCons (eC (.int (8))) aNil))))))) (tOrM (tNotM (tT (eIsa "str" (eBin ixD (eV 0) (eC (.int (0))))))) (tOrM (op2 neD (eBin ixD (eV 0) (eC (.int (0)))) (eC (.str "treaty"))) (tNotM (tT (eFrz (eCall F_is_name (aCons (eBin ixD (eV 0) (eC (.int (1)))) aNil)))))))) (sRet (eRv (eC (.bool false)))) gNil)
    (gSeq (sIf (tOrM (tNotM (tT (eFrz (eCall F_is_day (aCons (eBin ixD (eV 0) (eC (.int (2)))) aNil))))) (tOrM (tNotM (tT (eFrz (eCall F_is_day (aCons (eBin ixD (eV 0) (eC (.int (3)))) aNil))))) (tOrM (op2 gtD (eBin ixD (eV 0) (eC (.int (2)))) (eBin ixD (eV 0) (eC (.int (3))))) (tNotM (tT (eFrz (eCall F_is_name (aCons (eBin ixD (eV 0) (eC (.int (4)))) aNil)))))))) (sRet (eRv (eC (.bool false)))) gNil)
    (gSeq (sIf (tOrM (tNotM (tT (eFrz (eCall F_are_shares (aCons (eBin ixD (eV 0) (eC (.int (5)))) aNil))))) (op2 inD (eBin ixD (eV 0) (eC (.int (4)))) (eFrz (eLc (iAnyM (eBin ixD (eV 0) (eC (.int (5))))) (gtN 1) tYesM (eBin ixD (eV 1) (eC (.int (0)))) [1])))) (sRet (eRv (eC (.bool false)))) gNil)
    (sRet (eRv (eAndM (eFrz (eCall F_is_kind (aCons (eBin ixD (eV 0) (eC (.int (6)))) aNil))) (eFrz (eCall F_is_money (aCons (eBin ixD (eV 0) (eC (.int (7)))) aNil)))))))))
def F_is_treaty : List S → M Rv := runG 1 B_is_treaty
def B_givers_first : G :=
    (gSeq (sNew 1 eDic0)
    (gSeq (sFor (gtN 2) (iAnyM (eV 0)) (gSeq (sSubK (eV 1) (eBin ixD (eV 2) (eC (.int (4)))) (eGet2 (eV 1) (eBin ixD (eV 2) (eC (.int (4)))) (eFrz (eLst aNil))))
      (sFor (gtT (gtsCons (gtN 3) (gtsCons (gtN 4) gtsNil))) (iAnyM (eBin ixD (eV 2) (eC (.int (5))))) (sSubK (eV 1) (eV 3) (eBin addD (eGet2 (eV 1) (eV 3) (eFrz (eLst aNil))) (eFrz (eLst (aCons (eBin ixD (eV 2) (eC (.int (4)))) aNil))))))))
    (gSeq (sNew 5 (eLst aNil))
    (gSeq (sWhile (fun _ _ => 100) (op2 ltD (eCd lenG (aCons (eV 5) aNil)) (eLenK (eV 1))) (gSeq (sSet 6 (eFrz (eLc (iAnyM (eSortK (eV 1))) (gtN 3) (op2 ninD (eV 3) (eV 5)) (eV 3) [3])))
      (gSeq (sSet 6 (eFrz (eLc (iAnyM (eV 6)) (gtN 3) (op2 eqD (eFrz (eLc (iAnyM (eIxK (eV 1) (eV 3))) (gtN 7) (op2 ninD (eV 7) (eV 5)) (eV 7) [7])) (eFrz (eLst aNil))) (eV 3) [3])))
      (gSeq (sIf (tNotM (tT (eV 6))) (sRet (eRv (eC .none))) gNil)
      (sExp (eMt appG (eV 5) (aCons (eBin ixD (eV 6) (eC (.int (0)))) aNil)))))))
    (sRet (eRv (eV 5)))))))
def F_givers_first : List S → M Rv := runG 7 B_givers_first
def B_are_treaties : G :=
    (gSeq (sIf (tOrM (tNotM (tT (eFrz (eCall F_is_tuple (aCons (eV 0) (aCons (eC (.int (0))) (aCons (eC (.int (12))) aNil))))))) (tT (eFrz (eLc (iAnyM (eV 0)) (gtN 1) (tNotM (tT (eFrz (eCall F_is_treaty (aCons (eV 1) aNil))))) (eV 1) [1])))) (sRet (eRv (eC (.bool false)))) gNil)
    (sRet (eRv (eAndM (eFrz (eCall F_are_unlike (aCons (eFrz (eLc (iAnyM (eV 0)) (gtN 1) tYesM (eBin ixD (eV 1) (eC (.int (1)))) [1])) aNil))) (eIsNN (eFrz (eCall F_givers_first (aCons (eV 0) aNil))))))))
def F_are_treaties : List S → M Rv := runG 1 B_are_treaties
def B_check_treaties : G :=
    (sIf (tNotM (tT (eFrz (eCall F_are_treaties (aCons (eV 0) aNil))))) (sErr "BadTreaty") gNil)
def F_check_treaties : List S → M Rv := runG 0 B_check_treaties
def B__law_mixed : G :=
    (gSeq (sSet 2 (eBin modD (eBin addD (eBin addD (eBin mulD (eV 0) (eC (.int (48271)))) (eBin mulD (eV 1) (eC (.int (69621))))) (eC (.int (12345)))) (eC (.int (2147483647)))))
    (sRet (eRv (eBin modD (eBin addD (eBin mulD (eV 2) (eBin addD (eBin fdivD (eV 2) (eC (.int (65536)))) (eC (.int (3))))) (eV 1)) (eC (.int (2147483647)))))))
def F__law_mixed : List S → M Rv := runG 1 B__law_mixed
def B__law_numbers : G :=
    (gSeq (sNew 1 (eLst aNil))
    (gSeq (sFor (gtN 2) (iAnyM (eV 0)) (sIf (op2 geD (eV 2) (eBin powD (eC (.int (10))) (eC (.int (18))))) (gSeq (sSet 3 (eV 2))
        (sFor (gtN 4) (iRng (eC (.int (60)))) (sIf (op2 gtD (eV 3) (eC (.int (0)))) (gSeq (sExp (eMt appG (eV 1) (aCons (eBin modD (eV 3) (eC (.int (1000000)))) aNil)))
            (sSet 3 (eBin fdivD (eV 3) (eC (.int (1000000)))))) gNil))) (gSeq (sExp (eMt appG (eV 1) (aCons (eBin modD (eV 2) (eC (.int (1000000)))) aNil)))
        (sFor (gtN 4) (iRng (eC (.int (5)))) (sExp (eMt appG (eV 1) (aCons (eBin modD (eFrz (eCall F__law_mixed (aCons (eFrz (eCall F__law_mixed (aCons (eBin modD (eV 2) (eC (.int (2147483647)))) (aCons (eV 4) aNil)))) (aCons (eBin addD (eV 4) (eC (.int (7)))) aNil)))) (eC (.int (1000000)))) aNil)))))))
    (sRet (eRv (eV 1)))))
def F__law_numbers : List S → M Rv := runG 4 B__law_numbers
def B__law_draw : G :=
    (gSeq (sSet 1 (eBin ixD (eV 0) (eC (.int (1)))))
    (gSeq (sSub (eV 0) (eC (.int (1))) (eBin addD (eV 1) (eC (.int (1)))))
    (gSeq (sIf (op2 ltD (eV 1) (eCd lenG (aCons (eBin ixD (eV 0) (eC (.int (0)))) aNil))) (sRet (eRv (eBin ixD (eBin ixD (eV 0) (eC (.int (0)))) (eV 1)))) gNil)
    (gSeq (sSet 2 (eBin addD (eC (.int (1))) (eV 1)))
    (gSeq (sIf (op2 gtD (eCd lenG (aCons (eBin ixD (eV 0) (eC (.int (0)))) aNil)) (eC (.int (0)))) (sSet 2 (eBin addD (eV 2) (eBin mulD (eC (.int (1009))) (eBin ixD (eBin ixD (eV 0) (eC (.int (0)))) (eC (.int (0))))))) gNil)
    (sRet (eRv (eBin modD (eFrz (eCall F__law_mixed (aCons (eFrz (eCall F__law_mixed (aCons (eV 2) (aCons (eV 1) aNil)))) (aCons (eC (.int (5))) aNil)))) (eC (.int (1000000)))))))))))
def F__law_draw : List S → M Rv := runG 2 B__law_draw
def B__law_all_equal (f__law_all_equal : List S → M Rv) (f__law_equal : List S → M Rv) : G :=
    (gSeq (sFor (gtN 2) (iRng (eCd lenG (aCons (eV 1) aNil))) (sIf (tNotM (tT (eFrz (eCall f__law_equal (aCons (eBin ixD (eV 0) (eV 2)) (aCons (eBin ixD (eV 1) (eV 2)) aNil)))))) (sRet (eRv (eC (.bool false)))) gNil))
    (sRet (eRv (eC (.bool true)))))
def B__law_equal (f__law_all_equal : List S → M Rv) (f__law_equal : List S → M Rv) : G :=
    (gSeq (sIf (tT (eIsa "list" (eV 1))) (gSeq (sIf (tOrM (tNotM (tT (eIsa "list" (eV 0)))) (op2 neD (eCd lenG (aCons (eV 0) aNil)) (eCd lenG (aCons (eV 1) aNil)))) (sRet (eRv (eC (.bool false)))) gNil)
      (sRet (eCall f__law_all_equal (aCons (eV 0) (aCons (eV 1) aNil))))) gNil)
    (gSeq (sIf (tT (eIsa "tuple" (eV 1))) (gSeq (sIf (tOrM (tNotM (tT (eIsa "tuple" (eV 0)))) (op2 neD (eCd lenG (aCons (eV 0) aNil)) (eCd lenG (aCons (eV 1) aNil)))) (sRet (eRv (eC (.bool false)))) gNil)
      (sRet (eCall f__law_all_equal (aCons (eV 0) (aCons (eV 1) aNil))))) gNil)
    (gSeq (sIf (tT (eIsa "bool" (eV 1))) (sRet (eRv (eAndM (eIsa "bool" (eV 0)) (eCmp eqD (eV 0) (eV 1))))) gNil)
    (gSeq (sIf (tT (eIsa "int" (eV 1))) (sRet (eRv (eAndM (eIsa "int" (eV 0)) (eAndM (eNotM (eIsa "bool" (eV 0))) (eCmp eqD (eV 0) (eV 1)))))) gNil)
    (gSeq (sIf (tT (eIsa "str" (eV 1))) (sRet (eRv (eAndM (eIsa "str" (eV 0)) (eCmp eqD (eV 0) (eV 1))))) gNil)
    (sRet (eRv (eIsN (eV 0)))))))))
mutual
def F__law_all_equal : Nat → List S → M Rv
  | 0 => F0
  | n + 1 => runG 1 (B__law_all_equal (F__law_all_equal n) (F__law_equal n))
def F__law_equal : Nat → List S → M Rv
  | 0 => F0
  | n + 1 => runG 0 (B__law_equal (F__law_all_equal n) (F__law_equal n))
end
def B__law_takers : G :=
    (gSeq (sSet 1 (eFrz (eLst aNil)))
    (gSeq (sFor (gtN 2) (iAnyM (eV 0)) (sSet 1 (eBin addD (eV 1) (eFrz (eLc (iAnyM (eBin ixD (eV 2) (eC (.int (5))))) (gtN 3) tYesM (eBin ixD (eV 3) (eC (.int (0)))) [3])))))
    (sRet (eRv (eV 1)))))
def F__law_takers : List S → M Rv := runG 3 B__law_takers
def B__law_in_order : G :=
    (gSeq (sSet 2 (eCd sortedSetG (aCons (eBin addD (eBin addD (eV 1) (eFrz (eLc (iAnyM (eV 0)) (gtN 7) tYesM (eBin ixD (eV 7) (eC (.int (4)))) [7]))) (eFrz (eCall F__law_takers (aCons (eV 0) aNil)))) aNil)))
    (gSeq (sNew 3 (eLst aNil))
    (gSeq (sFor (gtN 4) (iRng (eCd lenG (aCons (eV 2) aNil))) (sFor (gtN 5) (iAnyM (eV 2)) (gSeq (sSet 6 (eFrz (eLc (iAnyM (eV 0)) (gtN 7) (op2 inD (eV 5) (eFrz (eLc (iAnyM (eBin ixD (eV 7) (eC (.int (5))))) (gtN 8) tYesM (eBin ixD (eV 8) (eC (.int (0)))) [8]))) (eBin ixD (eV 7) (eC (.int (4)))) [7])))
        (sIf (tAndM (op2 ninD (eV 5) (eV 3)) (op2 eqD (eCd lenG (aCons (eFrz (eLc (iAnyM (eV 6)) (gtN 9) (op2 ninD (eV 9) (eV 3)) (eV 9) [9])) aNil)) (eC (.int (0))))) (sExp (eMt appG (eV 3) (aCons (eV 5) aNil))) gNil))))
    (sRet (eRv (eV 3))))))
def F__law_in_order : List S → M Rv := runG 8 B__law_in_order
def B__law_amount : G :=
    (sRet (eRv (eBin mulD (eBin ixD (eFrz (eLst (aCons (eC (.int (1))) (aCons (eC (.int (2))) (aCons (eC (.int (5))) (aCons (eC (.int (10))) (aCons (eC (.int (20))) (aCons (eC (.int (50))) (aCons (eC (.int (100))) (aCons (eC (.int (7))) (aCons (eC (.int (64))) (aCons (eC (.int (1000))) aNil)))))))))))) (eBin modD (eFrz (eCallC F__law_draw (aCons (eV 0) aNil))) (eC (.int (10))))) (eBin addD (eC (.int (1))) (eBin modD (eFrz (eCallC F__law_draw (aCons (eV 0) aNil))) (eC (.int (4))))))))
def F__law_amount : List S → M Rv := runG 0 B__law_amount
def B__law_shares : G :=
    (gSeq (sSet 3 (eCd listG (aCons (eV 1) aNil)))
    (gSeq (sNew 4 (eLst aNil))
    (gSeq (sSet 5 (eC (.int (10000))))
    (gSeq (sFor (gtN 6) (iRng (eV 2)) (gSeq (sSet 7 (eBin ixD (eV 3) (eBin modD (eFrz (eCallC F__law_draw (aCons (eV 0) aNil))) (eCd lenG (aCons (eV 3) aNil)))))
      (gSeq (sSet 3 (eFrz (eLc (iAnyM (eV 3)) (gtN 9) (op2 neD (eV 9) (eV 7)) (eV 9) [9])))
      (gSeq (sSet 8 (eV 5))
      (gSeq (sIf (op2 ltD (eV 6) (eBin subD (eV 2) (eC (.int (1))))) (gSeq (sSet 8 (eBin ixD (eFrz (eLst (aCons (eC (.int (5000))) (aCons (eC (.int (2500))) (aCons (eC (.int (1000))) (aCons (eC (.int (3333))) (aCons (eC (.int (1))) (aCons (eC (.int (4999))) aNil)))))))) (eBin modD (eFrz (eCallC F__law_draw (aCons (eV 0) aNil))) (eC (.int (6))))))
        (sSet 8 (eCd maxG (aCons (eC (.int (1))) (aCons (eCd minG (aCons (eV 8) (aCons (eBin subD (eV 5) (eBin subD (eBin subD (eV 2) (eC (.int (1)))) (eV 6))) aNil))) aNil))))) gNil)
      (gSeq (sSet 5 (eBin subD (eV 5) (eV 8)))
      (sExp (eMt appG (eV 4) (aCons (eTup (aCons (eV 7) (aCons (eV 8) aNil))) aNil)))))))))
    (sRet (eRv (eCd tupleG (aCons (eV 4) aNil))))))))
def F__law_shares : List S → M Rv := runG 7 B__law_shares
def B__law_kind : G :=
    (gSeq (sPar 1 2 (eFrz (eCallC F__law_amount (aCons (eV 0) aNil))) (eFrz (eCallC F__law_amount (aCons (eV 0) aNil))))
    (sRet (eRv (eBin ixD (eFrz (eLst (aCons (eTup (aCons (eC (.str "part")) (aCons (eBin ixD (eFrz (eLst (aCons (eC (.int (5000))) (aCons (eC (.int (3333))) (aCons (eC (.int (10000))) (aCons (eC (.int (0))) (aCons (eC (.int (1))) aNil))))))) (eBin modD (eFrz (eCallC F__law_draw (aCons (eV 0) aNil))) (eC (.int (5))))) aNil))) (aCons (eTup (aCons (eC (.str "risk")) (aCons (eV 1) (aCons (eV 2) aNil)))) (aCons (eTup (aCons (eC (.str "event")) (aCons (eBin mulD (eC (.int (2))) (eV 1)) (aCons (eV 2) aNil)))) (aCons (eTup (aCons (eC (.str "year")) (aCons (eBin mulD (eC (.int (3))) (eV 1)) (aCons (eV 2) (aCons (eBin modD (eFrz (eCallC F__law_draw (aCons (eV 0) aNil))) (eC (.int (3)))) (aCons (eC (.int (2500))) aNil)))))) aNil)))))) (eBin modD (eFrz (eCallC F__law_draw (aCons (eV 0) aNil))) (eC (.int (4))))))))
def F__law_kind : List S → M Rv := runG 2 B__law_kind
def B__law_treaties : G :=
    (gSeq (sSet 2 (eFrz (eLst (aCons (eC (.str "alpha")) (aCons (eC (.str "beta")) (aCons (eC (.str "gamma")) (aCons (eC (.str "rho")) (aCons (eC (.str "sigma")) (aCons (eC (.str "tau")) aNil)))))))))
    (gSeq (sNew 3 (eLst aNil))
    (gSeq (sFor (gtN 4) (iRng (eV 1)) (gSeq (sSet 5 (eBin modD (eFrz (eCallC F__law_draw (aCons (eV 0) aNil))) (eC (.int (5)))))
      (gSeq (sSet 6 (eSl (eV 2) (oSome (eCd maxG (aCons (eBin addD (eV 5) (eC (.int (1)))) (aCons (eBin addD (eC (.int (2))) (eBin modD (eFrz (eCallC F__law_draw (aCons (eV 0) aNil))) (eC (.int (3))))) aNil)))) oNone))
      (gSeq (sSet 7 (eBin ixD (eFrz (eLst (aCons (eC (.int (0))) (aCons (eC (.int (0))) (aCons (eC (.int (50))) aNil))))) (eBin modD (eFrz (eCallC F__law_draw (aCons (eV 0) aNil))) (eC (.int (3))))))
      (gSeq (sSet 8 (eBin addD (eV 7) (eBin ixD (eFrz (eLst (aCons (eC (.int (2000))) (aCons (eC (.int (500))) (aCons (eC (.int (100))) aNil))))) (eBin modD (eFrz (eCallC F__law_draw (aCons (eV 0) aNil))) (eC (.int (3)))))))
      (gSeq (sSet 9 (eFrz (eCallC F__law_shares (aCons (eV 0) (aCons (eV 6) (aCons (eBin addD (eC (.int (1))) (eBin modD (eFrz (eCallC F__law_draw (aCons (eV 0) aNil))) (eCd minG (aCons (eC (.int (3))) (aCons (eCd lenG (aCons (eV 6) aNil)) aNil))))) aNil))))))
      (sExp (eMt appG (eV 3) (aCons (eTup (aCons (eC (.str "treaty")) (aCons (eBin addD (eC (.str "t")) (eCd strG (aCons (eV 4) aNil))) (aCons (eV 7) (aCons (eV 8) (aCons (eBin ixD (eV 2) (eV 5)) (aCons (eV 9) (aCons (eFrz (eCallC F__law_kind (aCons (eV 0) aNil))) (aCons (eBin ixD (eFrz (eLst (aCons (eC (.int (0))) (aCons (eC (.int (365))) (aCons (eC (.int (100))) aNil))))) (eBin modD (eFrz (eCallC F__law_draw (aCons (eV 0) aNil))) (eC (.int (3))))) aNil))))))))) aNil)))))))))
    (sRet (eRv (eCd tupleG (aCons (eV 3) aNil)))))))
def F__law_treaties : List S → M Rv := runG 8 B__law_treaties
def B__law_is_number : G :=
    (sRet (eRv (eAndM (eIsa "int" (eV 0)) (eAndM (eNotM (eIsa "bool" (eV 0))) (eChn leD leD (eV 1) (eV 0) (eV 2))))))
def F__law_is_number : List S → M Rv := runG 0 B__law_is_number
def B__law_is_name : G :=
    (gSeq (sIf (tOrM (tNotM (tT (eIsa "str" (eV 0)))) (tOrM (tNotM (tChn leD leD (eC (.int (1))) (eCd lenG (aCons (eV 0) aNil)) (eC (.int (8))))) (op2 ninD (eBin ixD (eV 0) (eC (.int (0)))) (eC (.str "abcdefghijklmnopqrstuvwxyz"))))) (sRet (eRv (eC (.bool false)))) gNil)
    (sRet (eRv (eCmp eqD (eCd lenG (aCons (eFrz (eLc (iAnyM (eV 0)) (gtN 1) (op2 ninD (eV 1) (eC (.str "abcdefghijklmnopqrstuvwxyz0123456789"))) (eV 1) [1])) aNil)) (eC (.int (0)))))))
def F__law_is_name : List S → M Rv := runG 1 B__law_is_name
def B__law_are_shares : G :=
    (gSeq (sIf (tOrM (tNotM (tT (eIsa "tuple" (eV 0)))) (tNotM (tChn leD leD (eC (.int (1))) (eCd lenG (aCons (eV 0) aNil)) (eC (.int (8)))))) (sRet (eRv (eC (.bool false)))) gNil)
    (gSeq (sNew 1 (eLst aNil))
    (gSeq (sSet 2 (eC (.int (0))))
    (gSeq (sFor (gtN 3) (iAnyM (eV 0)) (gSeq (sIf (tOrM (tNotM (tT (eIsa "tuple" (eV 3)))) (tOrM (op2 neD (eCd lenG (aCons (eV 3) aNil)) (eC (.int (2)))) (tOrM (tNotM (tT (eFrz (eCall F__law_is_name (aCons (eBin ixD (eV 3) (eC (.int (0)))) aNil))))) (tNotM (tT (eFrz (eCall F__law_is_number (aCons (eBin ixD (eV 3) (eC (.int (1)))) (aCons (eC (.int (1))) (aCons (eC (.int (10000))) aNil)))))))))) (sRet (eRv (eC (.bool false)))) gNil)
      (gSeq (sExp (eMt appG (eV 1) (aCons (eBin ixD (eV 3) (eC (.int (0)))) aNil)))
      (sSet 2 (eBin addD (eV 2) (eBin ixD (eV 3) (eC (.int (1)))))))))
    (sRet (eRv (eAndM (eCmp eqD (eV 2) (eC (.int (10000)))) (eCmp eqD (eCd lenSetG (aCons (eV 1) aNil)) (eCd lenG (aCons (eV 1) aNil))))))))))
def F__law_are_shares : List S → M Rv := runG 3 B__law_are_shares
def B__law_is_kind : G :=
    (gSeq (sIf (tOrM (tNotM (tT (eIsa "tuple" (eV 0)))) (tOrM (op2 ltD (eCd lenG (aCons (eV 0) aNil)) (eC (.int (1)))) (tNotM (tT (eIsa "str" (eBin ixD (eV 0) (eC (.int (0))))))))) (sRet (eRv (eC (.bool false)))) gNil)
    (gSeq (sIf (op2 eqD (eBin ixD (eV 0) (eC (.int (0)))) (eC (.str "part"))) (sRet (eRv (eAndM (eCmp eqD (eCd lenG (aCons (eV 0) aNil)) (eC (.int (2)))) (eFrz (eCall F__law_is_number (aCons (eBin ixD (eV 0) (eC (.int (1)))) (aCons (eC (.int (0))) (aCons (eC (.int (10000))) aNil)))))))) gNil)
    (gSeq (sFor (gtN 1) (iAnyM (eSl (eV 0) (oSome (eC (.int (1)))) (oSome (eC (.int (3)))))) (sIf (tNotM (tT (eFrz (eCall F__law_is_number (aCons (eV 1) (aCons (eC (.int (0))) (aCons (eBin powD (eC (.int (10))) (eC (.int (12)))) aNil))))))) (sRet (eRv (eC (.bool false)))) gNil))
    (gSeq (sIf (op2 inD (eBin ixD (eV 0) (eC (.int (0)))) (eTup (aCons (eC (.str "risk")) (aCons (eC (.str "event")) aNil)))) (sRet (eRv (eCmp eqD (eCd lenG (aCons (eV 0) aNil)) (eC (.int (3)))))) gNil)
    (sRet (eRv (eAndM (eCmp eqD (eBin ixD (eV 0) (eC (.int (0)))) (eC (.str "year"))) (eAndM (eCmp eqD (eCd lenG (aCons (eV 0) aNil)) (eC (.int (5)))) (eAndM (eFrz (eCall F__law_is_number (aCons (eBin ixD (eV 0) (eC (.int (3)))) (aCons (eC (.int (0))) (aCons (eC (.int (8))) aNil))))) (eFrz (eCall F__law_is_number (aCons (eBin ixD (eV 0) (eC (.int (4)))) (aCons (eC (.int (0))) (aCons (eC (.int (100000))) aNil))))))))))))))
def F__law_is_kind : List S → M Rv := runG 1 B__law_is_kind
def B__law_is_treaty : G :=
    (gSeq (sIf (tOrM (tNotM (tT (eIsa "tuple" (eV 0)))) (tOrM (op2 neD (eCd lenG (aCons (eV 0) aNil)) (eC (.int (8)))) (tOrM (tNotM (tT (eIsa "str" (eBin ixD (eV 0) (eC (.int (0))))))) (op2 neD (eBin ixD (eV 0) (eC (.int (0)))) (eC (.str "treaty")))))) (sRet (eRv (eC (.bool false)))) gNil)
    (gSeq (sIf (tOrM (tNotM (tT (eFrz (eCall F__law_is_name (aCons (eBin ixD (eV 0) (eC (.int (1)))) aNil))))) (tOrM (tNotM (tT (eFrz (eCall F__law_is_number (aCons (eBin ixD (eV 0) (eC (.int (2)))) (aCons (eC (.int (0))) (aCons (eC (.int (36500))) aNil))))))) (tNotM (tT (eFrz (eCall F__law_is_number (aCons (eBin ixD (eV 0) (eC (.int (3)))) (aCons (eC (.int (0))) (aCons (eC (.int (36500))) aNil))))))))) (sRet (eRv (eC (.bool false)))) gNil)
    (gSeq (sIf (tOrM (op2 gtD (eBin ixD (eV 0) (eC (.int (2)))) (eBin ixD (eV 0) (eC (.int (3))))) (tOrM (tNotM (tT (eFrz (eCall F__law_is_name (aCons (eBin ixD (eV 0) (eC (.int (4)))) aNil))))) (tNotM (tT (eFrz (eCall F__law_are_shares (aCons (eBin ixD (eV 0) (eC (.int (5)))) aNil))))))) (sRet (eRv (eC (.bool false)))) gNil)
    (sRet (eRv (eAndM (eCmp ninD (eBin ixD (eV 0) (eC (.int (4)))) (eFrz (eLc (iAnyM (eBin ixD (eV 0) (eC (.int (5))))) (gtN 1) tYesM (eBin ixD (eV 1) (eC (.int (0)))) [1]))) (eAndM (eFrz (eCall F__law_is_kind (aCons (eBin ixD (eV 0) (eC (.int (6)))) aNil))) (eFrz (eCall F__law_is_number (aCons (eBin ixD (eV 0) (eC (.int (7)))) (aCons (eC (.int (0))) (aCons (eBin powD (eC (.int (10))) (eC (.int (12)))) aNil))))))))))))
def F__law_is_treaty : List S → M Rv := runG 1 B__law_is_treaty
def B__law_are_treaties : G :=
    (gSeq (sIf (tOrM (tNotM (tT (eIsa "tuple" (eV 0)))) (op2 gtD (eCd lenG (aCons (eV 0) aNil)) (eC (.int (12))))) (sRet (eRv (eC (.bool false)))) gNil)
    (gSeq (sFor (gtN 1) (iAnyM (eV 0)) (sIf (tNotM (tT (eFrz (eCall F__law_is_treaty (aCons (eV 1) aNil))))) (sRet (eRv (eC (.bool false)))) gNil))
    (gSeq (sSet 2 (eFrz (eLc (iAnyM (eV 0)) (gtN 1) tYesM (eBin ixD (eV 1) (eC (.int (1)))) [1])))
    (gSeq (sSet 3 (eCd sortedSetG (aCons (eBin addD (eFrz (eLc (iAnyM (eV 0)) (gtN 1) tYesM (eBin ixD (eV 1) (eC (.int (4)))) [1])) (eFrz (eCall F__law_takers (aCons (eV 0) aNil)))) aNil)))
    (sRet (eRv (eAndM (eCmp eqD (eCd lenSetG (aCons (eV 2) aNil)) (eCd lenG (aCons (eV 2) aNil))) (eCmp eqD (eCd lenG (aCons (eFrz (eCall F__law_in_order (aCons (eV 0) (aCons (eFrz (eLst aNil)) aNil)))) aNil)) (eCd lenG (aCons (eV 3) aNil))))))))))
def F__law_are_treaties : List S → M Rv := runG 3 B__law_are_treaties
def B__law_spoilt : G :=
    (gSeq (sSet 2 (eBin modD (eFrz (eCallC F__law_draw (aCons (eV 0) aNil))) (eCd lenG (aCons (eV 1) aNil))))
    (gSeq (sSet 3 (eBin ixD (eV 1) (eV 2)))
    (gSeq (sSet 4 (eBin modD (eFrz (eCallC F__law_draw (aCons (eV 0) aNil))) (eC (.int (14)))))
    (gSeq (sSet 5 (eBin modD (eFrz (eCallC F__law_draw (aCons (eV 0) aNil))) (eC (.int (8)))))
    (gSeq (sSet 6 (eFrz (eLst (aCons (eC .none) (aCons (eNeg (eC (.int (1)))) (aCons (eC (.bool true)) (aCons (eC (.str "Alpha")) (aCons (eC (.str "")) (aCons (eC (.str "toolonger")) (aCons (eTup aNil) (aCons (eC (.int (36501))) (aCons (eBin addD (eBin powD (eC (.int (10))) (eC (.int (12)))) (eC (.int (1)))) (aCons (eC (.str "a b")) (aCons (eC (.str "9a")) (aCons (eTup (aCons (eC (.str "part")) aNil)) (aCons (eTup (aCons (eC (.str "risk")) (aCons (eC (.int (1))) aNil))) (aCons (eTup (aCons (eC (.str "part")) (aCons (eC (.int (10001))) aNil))) aNil)))))))))))))))))
    (gSeq (sIf (op2 ltD (eV 4) (eC (.int (6)))) (sSet 3 (eBin addD (eBin addD (eSl (eV 3) oNone (oSome (eV 5))) (eTup (aCons (eBin ixD (eV 6) (eBin modD (eFrz (eCallC F__law_draw (aCons (eV 0) aNil))) (eC (.int (14))))) aNil))) (eSl (eV 3) (oSome (eBin addD (eV 5) (eC (.int (1))))) oNone))) (sIf (op2 eqD (eV 4) (eC (.int (6)))) (sSet 3 (eBin addD (eBin addD (eSl (eV 3) oNone (oSome (eC (.int (5))))) (eTup (aCons (eBin addD (eBin ixD (eV 3) (eC (.int (5)))) (eTup (aCons (eTup (aCons (eBin ixD (eV 3) (eC (.int (4)))) (aCons (eC (.int (1))) aNil))) aNil))) aNil))) (eSl (eV 3) (oSome (eC (.int (6)))) oNone))) (sIf (op2 eqD (eV 4) (eC (.int (7)))) (sSet 3 (eBin addD (eBin addD (eSl (eV 3) oNone (oSome (eC (.int (5))))) (eTup (aCons (eTup (aCons (eTup (aCons (eBin ixD (eV 3) (eC (.int (4)))) (aCons (eC (.int (10000))) aNil))) aNil)) aNil))) (eSl (eV 3) (oSome (eC (.int (6)))) oNone))) (sIf (op2 eqD (eV 4) (eC (.int (8)))) (sSet 3 (eBin addD (eBin addD (eSl (eV 3) oNone (oSome (eC (.int (4))))) (eTup (aCons (eC (.str "omega")) (aCons (eTup (aCons (eTup (aCons (eBin ixD (eBin ixD (eV 1) (eC (.int (0)))) (eC (.int (4)))) (aCons (eC (.int (10000))) aNil))) aNil)) aNil)))) (eSl (eV 3) (oSome (eC (.int (6)))) oNone))) (sIf (op2 eqD (eV 4) (eC (.int (9)))) (sSet 3 (eBin addD (eBin addD (eSl (eV 3) oNone (oSome (eC (.int (2))))) (eTup (aCons (eBin ixD (eV 3) (eC (.int (3)))) (aCons (eBin ixD (eV 3) (eC (.int (2)))) aNil)))) (eSl (eV 3) (oSome (eC (.int (4)))) oNone))) (sIf (op2 eqD (eV 4) (eC (.int (10)))) (sSet 3 (eCd listG (aCons (eV 3) aNil))) (sIf (op2 eqD (eV 4) (eC (.int (11)))) (sSet 3 (eBin addD (eBin addD (eSl (eV 3) oNone (oSome (eC (.int (6))))) (eTup (aCons (eTup (aCons (eC (.str "year")) (aCons (eC (.int (5))) (aCons (eC (.int (1))) (aCons (eBin ixD (eFrz (eLst (aCons (eC (.int (9))) (aCons (eC (.int (8))) (aCons (eC (.bool true)) aNil))))) (eBin modD (eFrz (eCallC F__law_draw (aCons (eV 0) aNil))) (eC (.int (3))))) (aCons (eC (.int (0))) aNil)))))) aNil))) (eSl (eV 3) (oSome (eC (.int (7)))) oNone))) (sIf (op2 eqD (eV 4) (eC (.int (12)))) (sRet (eRv (eBin addD (eV 1) (eTup (aCons (eTup (aCons (eC (.str "treaty")) (aCons (eC (.str "back")) (aCons (eC (.int (0))) (aCons (eC (.int (9))) (aCons (eBin ixD (eBin ixD (eBin ixD (eV 3) (eC (.int (5)))) (eC (.int (0)))) (eC (.int (0)))) (aCons (eTup (aCons (eTup (aCons (eBin ixD (eV 3) (eC (.int (4)))) (aCons (eC (.int (10000))) aNil))) aNil)) (aCons (eTup (aCons (eC (.str "part")) (aCons (eC (.int (1))) aNil))) (aCons (eC (.int (0))) aNil))))))))) aNil))))) (sRet (eRv (eBin ixD (eFrz (eLst (aCons (eBin addD (eV 1) (eSl (eV 1) oNone (oSome (eC (.int (1)))))) (aCons (eCd listG (aCons (eV 1) aNil)) (aCons (eBin addD (eV 1) (eTup (aCons (eC .none) aNil))) (aCons (eC .none) (aCons (eC (.int (5))) aNil))))))) (eBin modD (eFrz (eCallC F__law_draw (aCons (eV 0) aNil))) (eC (.int (5)))))))))))))))
    (sRet (eRv (eBin addD (eBin addD (eSl (eV 1) oNone (oSome (eV 2))) (eTup (aCons (eV 3) aNil))) (eSl (eV 1) (oSome (eBin addD (eV 2) (eC (.int (1))))) oNone))))))))))
def F__law_spoilt : List S → M Rv := runG 5 B__law_spoilt
def B__law_refused : G :=
    (gSeq (sTry 1 exKnown exSub_BadTreaty (fun c a => (gSeq (sIf (tOrM (tNotM (tT (eIsE 1 a (exSub_WhatbefellError c)))) (tOrM (tT (eIsE 1 a (exSub_BadArgument c))) (tT (eIsE 1 a (exSub_BadWords c))))) (sRet (eLst (aCons (eC (.bool false)) aNil))) gNil)
      (sRet (eRv (eIf (tAndM (tNotM (tT (eIsE 1 a (exSub_BadForm c)))) (tNotM (tT (eIsE 1 a (exSub_BadRecord c))))) (eFrz (eLst (aCons (eC (.str "refused")) aNil))) (eFrz (eLst (aCons (eC (.bool false)) aNil)))))))) (sExp (eFrz (eCall F_check_treaties (aCons (eV 0) aNil)))))
    (sRet (eLst (aCons (eC (.str "taken")) aNil))))
def F__law_refused : List S → M Rv := runG 1 B__law_refused
def B_law : G :=
    (gSeq (sNew 1 (eLst (aCons (eFrz (eCall F__law_numbers (aCons (eV 0) aNil))) (aCons (eC (.int (0))) aNil))))
    (gSeq (sSet 2 (eFrz (eCallC F__law_treaties (aCons (eV 1) (aCons (eBin addD (eC (.int (1))) (eBin modD (eFrz (eCallC F__law_draw (aCons (eV 1) aNil))) (eC (.int (5))))) aNil)))))
    (gSeq (sIf (tOrM (tNotM (op1 isnD (eFrz (eCall F_check_treaties (aCons (eV 2) aNil))))) (tNotM (op1 isnD (eFrz (eCall F_check_treaties (aCons (eTup aNil) aNil)))))) (sRet (eRv (eC (.bool false)))) gNil)
    (gSeq (sFor (gtN 3) (iRng (eC (.int (6)))) (gSeq (sSet 4 (eFrz (eCallC F__law_spoilt (aCons (eV 1) (aCons (eV 2) aNil)))))
      (sIf (op2 neD (eFrz (eCall F__law_refused (aCons (eV 4) aNil))) (eBin ixD (eFrz (eLst (aCons (eFrz (eLst (aCons (eC (.str "refused")) aNil))) (aCons (eFrz (eLst (aCons (eC (.str "taken")) aNil))) aNil)))) (eCd intG (aCons (eFrz (eCall F__law_are_treaties (aCons (eV 4) aNil))) aNil)))) (sRet (eRv (eC (.bool false)))) gNil)))
    (sRet (eRv (eC (.bool true))))))))
def F_law : List S → M Rv := runG 4 B_law
end
end Law

set_option Elab.async false
set_option linter.all false
set_option maxRecDepth 100000
set_option maxHeartbeats 1000000
namespace Law
open PySem L2 Dn
/-! the law's own helpers -/
theorem mulD_lt {x y : Int} (hx : x.natAbs < 2 ^ 250) (hy : y.natAbs < 2 ^ 250) : mulD (.int x) (.int y) = some (.int (x * y)) := by
  have h1 := log2_lt (x := x) (k := 250) (by omega) hx
  have h2 := log2_lt (x := y) (k := 250) (by omega) hy
  rw [mulD_int, if_pos (by omega)]
theorem fdivD_lt {x y : Int} (hy : 0 < y) (hy2 : y.natAbs < 2 ^ 250) : fdivD (.int x) (.int y) = some (.int (x / y)) := by
  have h2 := log2_lt (x := y) (k := 250) (by omega) hy2
  rw [fdivD_int, if_pos ⟨hy, by omega⟩]
def mx (n k : Int) : Int := ((n * 48271 + k * 69621 + 12345) % 2147483647 * ((n * 48271 + k * 69621 + 12345) % 2147483647 / 65536 + 3) + k) % 2147483647
theorem mx_lo (n k : Int) : 0 ≤ mx n k := Int.emod_nonneg _ (by decide)
theorem mx_hi (n k : Int) : mx n k < 2147483647 := Int.emod_lt_of_pos _ (by decide)
theorem mixed_ {n k : Int} (hn : n.natAbs < 2 ^ 64) (hk : k.natAbs < 2 ^ 64) : F__law_mixed [.d (.int n), .d (.int k)] [] = .ok (.d (.int (mx n k))) [] := by
  have h1 : mulD (.int n) (.int 48271) = some (.int (n * 48271)) := mulD_lt (Nat.lt_trans hn (by decide)) (by decide)
  have h2 : mulD (.int k) (.int 69621) = some (.int (k * 69621)) := mulD_lt (Nat.lt_trans hk (by decide)) (by decide)
  have h3 : ∀ x : Int, fdivD (.int x) (.int 65536) = some (.int (x / 65536)) := fun x => fdivD_lt (by decide) (by decide)
  have h4 : ∀ x y : Int, x.natAbs < 2 ^ 32 → y.natAbs < 2 ^ 32 → mulD (.int x) (.int y) = some (.int (x * y)) := fun x y hx hy => mulD_lt (Nat.lt_trans hx (by decide)) (Nat.lt_trans hy (by decide))
  have h5 : mulD (.int ((n * 48271 + k * 69621 + 12345) % 2147483647)) (.int ((n * 48271 + k * 69621 + 12345) % 2147483647 / 65536 + 3)) = some (.int ((n * 48271 + k * 69621 + 12345) % 2147483647 * ((n * 48271 + k * 69621 + 12345) % 2147483647 / 65536 + 3))) := by
    generalize n * 48271 + k * 69621 + 12345 = z
    have a1 : 0 ≤ z % 2147483647 := Int.emod_nonneg _ (by decide)
    have a2 : z % 2147483647 < 2147483647 := Int.emod_lt_of_pos _ (by decide)
    exact h4 _ _ (by omega) (by omega)
  simp only [F__law_mixed, B__law_mixed, mx]
  simp [h1, h2, h3, h5, -mulD_int, -fdivD_int]
/-- numbers of the law -/
def InR (l : List Int) : Prop := ∀ x ∈ l, 0 ≤ x ∧ x < 1000000
theorem inR_app {l : List Int} {x : Int} (h : InR l) (h1 : 0 ≤ x) (h2 : x < 1000000) : InR (l ++ [x]) := by
  intro y hy
  rcases List.mem_append.1 hy with hy | hy
  · exact h y hy
  · rw [List.mem_singleton.1 hy]; exact ⟨h1, h2⟩
theorem rngD_map (n : Nat) : ∀ (i : Int), rngD i n = ((List.range n).map fun (k : Nat) => i + (k : Int)).map .int := by
  intro i
  simp [rngD]
theorem num_in1 (x a b : S) : ∀ (js : List Int) (rest : Int) (acc : List Int) (c : S), InR acc → acc.length + js.length ≤ 10000 → ∃ acc' rest' c', gFor (gtN 4) (sIf (op2 gtD (eV 3) (eC (.int (0)))) (gSeq (sExp (eMt appG (eV 1) (aCons (eBin modD (eV 3) (eC (.int (1000000)))) aNil)))
            (sSet 3 (eBin fdivD (eV 3) (eC (.int (1000000)))))) gNil) (js.map .int) [x, .cel 0, a, .d (.int rest), c] [.lst (acc.map .int)] = .nx [x, .cel 0, a, .d (.int rest'), c'] [.lst (acc'.map .int)] ∧ InR acc' ∧ acc'.length ≤ acc.length + js.length
  | [], rest, acc, c, h1, h2 => ⟨acc, rest, c, by simp, h1, by simp⟩
  | j :: js, rest, acc, c, h1, h2 => by
    simp at h2
    have h3 : ∀ x : Int, fdivD (.int x) (.int 1000000) = some (.int (x / 1000000)) := fun x => fdivD_lt (by decide) (by decide)
    rw [List.map_cons, gFor_cons]
    by_cases hc : 0 < rest
    · obtain ⟨acc', rest', c', e, e1, e2⟩ := num_in1 x a b js (rest / 1000000) (acc ++ [rest % 1000000]) (.d (.int j)) (inR_app h1 (by omega) (by omega)) (by simp; omega)
      refine ⟨acc', rest', c', ?_, e1, by simp at e2 ⊢; omega⟩
      have l1 : acc.length < sizeLine := size_lt (by omega)
      have l2 : acc.length ≤ sizeLine := size_ok (by omega)
      simp at e
      simp [hc, h3, l1, l2, e, -fdivD_int]
    · obtain ⟨acc', rest', c', e, e1, e2⟩ := num_in1 x a b js rest acc (.d (.int j)) h1 (by omega)
      refine ⟨acc', rest', c', ?_, e1, by simp; omega⟩
      simp [hc, e]
theorem num_in2 (x b : S) (v : Int) : ∀ (js : List Int) (acc : List Int) (c : S), (∀ j ∈ js, 0 ≤ j ∧ j ≤ 10) → InR acc → acc.length + js.length ≤ 10000 → ∃ acc' c', gFor (gtN 4) (sExp (eMt appG (eV 1) (aCons (eBin modD (eFrz (eCall F__law_mixed (aCons (eFrz (eCall F__law_mixed (aCons (eBin modD (eV 2) (eC (.int (2147483647)))) (aCons (eV 4) aNil)))) (aCons (eBin addD (eV 4) (eC (.int (7)))) aNil)))) (eC (.int (1000000)))) aNil))) (js.map .int) [x, .cel 0, .d (.int v), b, c] [.lst (acc.map .int)] = .nx [x, .cel 0, .d (.int v), b, c'] [.lst (acc'.map .int)] ∧ InR acc' ∧ acc'.length ≤ acc.length + js.length
  | [], acc, c, h0, h1, h2 => ⟨acc, c, by simp, h1, by simp⟩
  | j :: js, acc, c, h0, h1, h2 => by
    simp at h2
    rw [List.map_cons, gFor_cons]
    have hj := h0 j (by simp)
    have a1 : 0 ≤ v % 2147483647 := Int.emod_nonneg _ (by decide)
    have a2 : v % 2147483647 < 2147483647 := Int.emod_lt_of_pos _ (by decide)
    have m1 := mixed_ (n := v % 2147483647) (k := j) (by omega) (by omega)
    have b1 := mx_lo (v % 2147483647) j
    have b2 := mx_hi (v % 2147483647) j
    have m2 := mixed_ (n := mx (v % 2147483647) j) (k := j + 7) (by omega) (by omega)
    obtain ⟨acc', c', e, e1, e2⟩ := num_in2 x b v js (acc ++ [mx (mx (v % 2147483647) j) (j + 7) % 1000000]) (.d (.int j)) (fun k hk => h0 k (by simp [hk])) (inR_app h1 (by omega) (by omega)) (by simp; omega)
    refine ⟨acc', c', ?_, e1, by simp at e2 ⊢; omega⟩
    have l1 : acc.length < sizeLine := size_lt (by omega)
    have l2 : acc.length ≤ sizeLine := size_ok (by omega)
    simp at e
    simp [m1, m2, l1, l2, e]
theorem num_out (x : S) : ∀ (ns : List Int) (acc : List Int) (a b c : S), InR acc → acc.length + 60 * ns.length ≤ 10000 → ∃ acc' a' b' c', gFor (gtN 2) (sIf (op2 geD (eV 2) (eBin powD (eC (.int (10))) (eC (.int (18))))) (gSeq (sSet 3 (eV 2))
        (sFor (gtN 4) (iRng (eC (.int (60)))) (sIf (op2 gtD (eV 3) (eC (.int (0)))) (gSeq (sExp (eMt appG (eV 1) (aCons (eBin modD (eV 3) (eC (.int (1000000)))) aNil)))
            (sSet 3 (eBin fdivD (eV 3) (eC (.int (1000000)))))) gNil))) (gSeq (sExp (eMt appG (eV 1) (aCons (eBin modD (eV 2) (eC (.int (1000000)))) aNil)))
        (sFor (gtN 4) (iRng (eC (.int (5)))) (sExp (eMt appG (eV 1) (aCons (eBin modD (eFrz (eCall F__law_mixed (aCons (eFrz (eCall F__law_mixed (aCons (eBin modD (eV 2) (eC (.int (2147483647)))) (aCons (eV 4) aNil)))) (aCons (eBin addD (eV 4) (eC (.int (7)))) aNil)))) (eC (.int (1000000)))) aNil)))))) (ns.map .int) [x, .cel 0, a, b, c] [.lst (acc.map .int)] = .nx [x, .cel 0, a', b', c'] [.lst (acc'.map .int)] ∧ InR acc' ∧ acc'.length ≤ acc.length + 60 * ns.length
  | [], acc, a, b, c, h1, h2 => ⟨acc, a, b, c, by simp, h1, by simp⟩
  | v :: ns, acc, a, b, c, h1, h2 => by
    simp at h2
    rw [List.map_cons, gFor_cons]
    by_cases hc : (1000000000000000000 : Int) ≤ v
    · obtain ⟨acc1, rest1, c1, e, e1, e2⟩ := num_in1 x (.d (.int v)) b ((List.range 60).map fun (k : Nat) => 0 + (k : Int)) v acc c h1 (by simp; omega)
      rw [← rngD_map] at e
      obtain ⟨acc', a', b', c', f, f1, f2⟩ := num_out x ns acc1 (.d (.int v)) (.d (.int rest1)) c1 e1 (by simp at e2; omega)
      refine ⟨acc', a', b', c', ?_, f1, by simp at e2 ⊢; omega⟩
      simp [hc, e, f]
    · have l1 : acc.length < sizeLine := size_lt (by omega)
      have l2 : acc.length ≤ sizeLine := size_ok (by omega)
      obtain ⟨acc1, c1, e, e1, e2⟩ := num_in2 x b v ((List.range 5).map fun (k : Nat) => 0 + (k : Int)) (acc ++ [v % 1000000]) c (by intro j hj; simp at hj; omega) (inR_app h1 (by omega) (by omega)) (by simp; omega)
      rw [← rngD_map] at e
      obtain ⟨acc', a', b', c', f, f1, f2⟩ := num_out x ns acc1 (.d (.int v)) b c1 e1 (by simp at e2; omega)
      refine ⟨acc', a', b', c', ?_, f1, by simp at e2 ⊢; omega⟩
      simp at e
      simp [hc, l1, l2, e, f]
theorem numbers_ (ns : List Int) (h : ns.length ≤ 100) : ∃ nums, F__law_numbers [.d (.list (ns.map .int))] [] = .ok (.own (.lst (nums.map .int))) [] ∧ InR nums ∧ nums.length ≤ 6000 := by
  obtain ⟨acc', a', b', c', f, f1, f2⟩ := num_out (.d (.list (ns.map .int))) ns [] .no .no .no (by intro x hx; cases hx) (by simp; omega)
  refine ⟨acc', ?_, f1, by simp at f2; omega⟩
  simp at f
  simp [F__law_numbers, B__law_numbers, f, fin_cel]
theorem gdI {l : List Int} {k : Nat} {d : Int} (h : k < l.length) : l.getD k d = l[k] := by
  simp [List.getD_eq_getElem?_getD, h]
/-- the draws, with further cells behind -/
def DSc (nums : List Int) (k : Nat) (c : Store) : Store := .lst [.list (nums.map .int), .int k] :: c
abbrev DS (nums : List Int) (k : Nat) : Store := DSc nums k []
def dr (nums : List Int) (k : Nat) : Int := if k < nums.length then nums.getD k 0 else mx (mx (if 0 < nums.length then 1 + (k : Int) + 1009 * nums.getD 0 0 else 1 + (k : Int)) k) 5 % 1000000
theorem dr_lo {nums : List Int} {k : Nat} (h : InR nums) : 0 ≤ dr nums k := by
  unfold dr
  split
  next hk => rw [gdI hk]; exact (h _ (List.getElem_mem hk)).1
  next => exact Int.emod_nonneg _ (by decide)
theorem dr_hi {nums : List Int} {k : Nat} (h : InR nums) : dr nums k < 1000000 := by
  unfold dr
  split
  next hk => rw [gdI hk]; exact (h _ (List.getElem_mem hk)).2
  next => exact Int.emod_lt_of_pos _ (by decide)
theorem draw_ {nums : List Int} {k : Nat} (h : InR nums) (hk : k < 1000000000000) : F__law_draw [.cel 0] (DS nums k) = .ok (.d (.int (dr nums k))) (DS nums (k + 1)) := by
  have i1 : ixN 2 1 = some 1 := rfl
  by_cases c : k < nums.length
  · have c1 : (k : Int) < nums.length := by omega
    have e1 : atI (nums.map PyData.int) (k : Int) = some (.int (dr nums k)) := by
      refine atI_of rfl ?_
      unfold dr
      rw [if_pos c, gdI c]
      simp [c]
    simp [F__law_draw, B__law_draw, DSc, i1, c1, e1]
  · have c1 : ¬ (k : Int) < nums.length := by omega
    by_cases c2 : 0 < nums.length
    · have c3 : 0 < (nums.length : Int) := by omega
      have c4 : nums.getD 0 0 = nums[0] := by rw [gdI c2]
      have c5 := h nums[0] (List.getElem_mem c2)
      have e1 : atI (nums.map PyData.int) (0 : Int) = some (.int (nums.getD 0 0)) := by
        refine atI_of (n := 0) rfl ?_
        rw [c4]
        simp [c2]
      have e2 : mulD (.int 1009) (.int (nums.getD 0 0)) = some (.int (1009 * nums.getD 0 0)) := mulD_lt (by decide) (Nat.lt_trans (m := 1000000) (by rw [c4]; omega) (by decide))
      have m1 := mixed_ (n := 1 + (k : Int) + 1009 * nums.getD 0 0) (k := k) (by rw [c4]; omega) (by omega)
      have b1 := mx_lo (1 + (k : Int) + 1009 * nums.getD 0 0) k
      have b2 := mx_hi (1 + (k : Int) + 1009 * nums.getD 0 0) k
      have m2 := mixed_ (n := mx (1 + (k : Int) + 1009 * nums.getD 0 0) k) (k := 5) (by omega) (by decide)
      have d1 : dr nums k = mx (mx (1 + (k : Int) + 1009 * nums.getD 0 0) k) 5 % 1000000 := by
        unfold dr; rw [if_neg c, if_pos c2]
      generalize nums.getD 0 0 = z at e1 e2 m1 m2 d1
      simp [F__law_draw, B__law_draw, DSc, i1, c1, c2, e1, e2, m1, m2, d1, -mulD_int]
    · have c3 : nums = [] := by
        cases nums with
        | nil => rfl
        | cons x l => simp at c2
      subst c3
      have m1 := mixed_ (n := 1 + (k : Int)) (k := k) (by omega) (by omega)
      have b1 := mx_lo (1 + (k : Int)) k
      have b2 := mx_hi (1 + (k : Int)) k
      have m2 := mixed_ (n := mx (1 + (k : Int)) k) (k := 5) (by omega) (by decide)
      have c1 : ¬ (k : Int) < 0 := by omega
      simp [F__law_draw, B__law_draw, DSc, i1, c1, m1, m2, dr]
section
variable {nums : List Int} {k k' : Nat} {c : Store}
@[simp] theorem DSc_len : (DSc nums k c).length = c.length + 1 := rfl
@[simp] theorem DSc_take (n : Nat) : (DSc nums k c).take (n + 1) = DSc nums k (c.take n) := rfl
@[simp] theorem DSc_take1 : (DSc nums k c).take 1 = DSc nums k [] := rfl
@[simp] theorem DSc_app (o : Store) : DSc nums k c ++ o = DSc nums k (c ++ o) := rfl
@[simp] theorem DSc_get (n : Nat) : (DSc nums k c)[n + 1]? = c[n]? := rfl
@[simp] theorem DSc_get1 : (DSc nums k c)[1]? = c[0]? := rfl
@[simp] theorem DSc_get2 : (DSc nums k c)[2]? = c[1]? := rfl
@[simp] theorem DSc_set (n : Nat) (o : OC) : (DSc nums k c).set (n + 1) o = DSc nums k (c.set n o) := rfl
@[simp] theorem DSc_set1 (o : OC) : (DSc nums k c).set 1 o = DSc nums k (c.set 0 o) := rfl
@[simp] theorem DSc_cel1 (xs : List D) (r : Store) : celM (.cel 1) (DSc nums k (.lst xs :: r)) = .ok (1, xs) (DSc nums k (.lst xs :: r)) := rfl
@[simp] theorem DSc_vws1 (xs : List D) (r : Store) : vwsM [.cel 1] (DSc nums k (.lst xs :: r)) = .ok [.list xs] (DSc nums k (.lst xs :: r)) := by
  rw [vwsM_cel [] (xs := xs) rfl]; rfl
theorem callC_DS {F : List S → M Rv} {r : List S} {x : D} (hr : noCel r = true) (e : F (.cel 0 :: r) (DSc nums k []) = .ok (.d x) (DSc nums k' [])) : callC F (.cel 0 :: r) (DSc nums k c) = .ok (.d x) (DSc nums k' c) := by
  simp only [DSc] at e ⊢
  simp [hr, e]
theorem callC_DSo {F : List S → M Rv} {r : List S} {x : OC} (hr : noCel r = true) (e : F (.cel 0 :: r) (DSc nums k []) = .ok (.own x) (DSc nums k' [])) : callC F (.cel 0 :: r) (DSc nums k c) = .ok (.own x) (DSc nums k' c) := by
  simp only [DSc] at e ⊢
  simp [hr, e]
theorem drc (h : InR nums) (hk : k < 1000000000000) (k' : Nat) (e : k' = k + 1) : callC F__law_draw [.cel 0] (DSc nums k c) = .ok (.d (.int (dr nums k))) (DSc nums k' c) := by
  subst e; exact callC_DS rfl (draw_ h hk)
end
theorem atI_mod {xs : List D} {P : D → Prop} (v : Int) (n : Int) (hn : n = (xs.length : Int)) (h0 : 0 < xs.length) (h : ∀ x ∈ xs, P x) : ∃ x, P x ∧ atI xs (v % n) = some x := by
  subst hn
  have a1 : 0 ≤ v % (xs.length : Int) := Int.emod_nonneg _ (by omega)
  have a2 : v % (xs.length : Int) < xs.length := Int.emod_lt_of_pos _ (by omega)
  have a3 : (v % (xs.length : Int)).toNat < xs.length := by omega
  refine ⟨xs[(v % (xs.length : Int)).toNat], h _ (List.getElem_mem a3), ?_⟩
  exact atI_of (n := (v % (xs.length : Int)).toNat) (by omega) (by simp [a3])
/-! data whose texts keep p -/
mutual
def dAll (p : Str → Bool) : D → Bool
  | .str x => p x
  | .list xs => dAlls p xs
  | .tuple xs => dAlls p xs
  | .dict _ => false
  | _ => true
def dAlls (p : Str → Bool) : List D → Bool
  | [] => true
  | x :: xs => dAll p x && dAlls p xs
end
theorem dAlls_iff {p : Str → Bool} : ∀ {xs : List D}, dAlls p xs = true ↔ ∀ x ∈ xs, dAll p x = true
  | [] => by simp [dAlls]
  | x :: xs => by simp [dAlls, dAlls_iff (xs := xs)]
def txOk (x : Str) : Bool := decide (x.length ≤ 1000) && PyData.strOk x
/-- plain data: short texts, not deep, no dict -/
structure Sane (p : Str → Bool) (d : D) : Prop where
  a : dAll (fun x => txOk x && p x) d = true
  d : d.depth ≤ 60
mutual
theorem lay_of {p : Str → Bool} : ∀ d : D, dAll (fun x => txOk x && p x) d = true → d.canLay0 = true
  | .none, _ => by simp [PyData.canLay0]
  | .bool _, _ => by simp [PyData.canLay0]
  | .int _, _ => by simp [PyData.canLay0]
  | .str x, h => by simp [dAll, txOk] at h; simp [PyData.canLay0, h]
  | .list xs, h => by simp only [PyData.canLay0]; exact lays_of xs (by simpa [dAll] using h)
  | .tuple xs, h => by simp only [PyData.canLay0]; exact lays_of xs (by simpa [dAll] using h)
  | .dict _, h => by simp [dAll] at h
theorem lays_of {p : Str → Bool} : ∀ xs : List D, dAlls (fun x => txOk x && p x) xs = true → PyData.canLayAll0 xs = true
  | [], _ => by simp [PyData.canLayAll0]
  | x :: xs, h => by
    simp only [dAlls, Bool.and_eq_true] at h
    simp only [PyData.canLayAll0, Bool.and_eq_true]
    exact ⟨lay_of x h.1, lays_of xs h.2⟩
end
theorem dep_mem : ∀ {xs : List D} {x : D}, x ∈ xs → x.depth ≤ PyData.depthAll xs
  | y :: ys, x, h => by
    simp only [PyData.depthAll]
    rcases List.mem_cons.1 h with h | h
    · subst h; exact Nat.le_max_left _ _
    · exact Nat.le_trans (dep_mem h) (Nat.le_max_right _ _)
theorem dep_le {n : Nat} : ∀ {xs : List D}, (∀ x ∈ xs, x.depth ≤ n) → PyData.depthAll xs ≤ n
  | [], _ => by simp [PyData.depthAll]
  | y :: ys, h => by
    simp only [PyData.depthAll]
    exact Nat.max_le.2 ⟨h y (by simp), dep_le fun x hx => h x (by simp [hx])⟩
section
variable {p : Str → Bool} {d x : D} {xs ys : List D}
theorem Sane.sh (h : Sane p d) : SeqAt.shaped d = true := by
  have := h.d
  simp [SeqAt.shaped, lay_of d h.a]; omega
theorem Sane.mem (h : Sane p (.tuple xs)) (m : x ∈ xs) : Sane p x := by
  have a := h.a
  have b := h.d
  simp only [dAll] at a
  simp only [PyData.depth] at b
  have := dep_mem m
  exact ⟨dAlls_iff.1 a x m, by omega⟩
theorem Sane.memL (h : Sane p (.list xs)) (m : x ∈ xs) : Sane p x := by
  have a := h.a
  have b := h.d
  simp only [dAll] at a
  simp only [PyData.depth] at b
  have := dep_mem m
  exact ⟨dAlls_iff.1 a x m, by omega⟩
theorem sane_of {n : Nat} (hn : n + 1 ≤ 60) (h : ∀ x ∈ xs, Sane p x ∧ x.depth ≤ n) : Sane p (.tuple xs) ∧ Sane p (.list xs) := by
  have a : dAlls (fun x => txOk x && p x) xs = true := dAlls_iff.2 fun x hx => (h x hx).1.a
  have b := dep_le fun x hx => (h x hx).2
  exact ⟨⟨by simpa only [dAll] using a, by simp only [PyData.depth]; omega⟩, ⟨by simpa only [dAll] using a, by simp only [PyData.depth]; omega⟩⟩
theorem Sane.sub (h : Sane p (.tuple xs)) (m : ∀ x ∈ ys, x ∈ xs) : Sane p (.tuple ys) ∧ Sane p (.list ys) := by
  have b := h.d
  simp only [PyData.depth] at b
  exact sane_of (n := PyData.depthAll xs) (by omega) fun x hx => ⟨h.mem (m x hx), dep_mem (m x hx)⟩
theorem Sane.subL (h : Sane p (.list xs)) (m : ∀ x ∈ ys, x ∈ xs) : Sane p (.tuple ys) ∧ Sane p (.list ys) := by
  have b := h.d
  simp only [PyData.depth] at b
  exact sane_of (n := PyData.depthAll xs) (by omega) fun x hx => ⟨h.memL (m x hx), dep_mem (m x hx)⟩
theorem Sane.str {x : Str} (h : Sane p (.str x)) : x.length ≤ 1000 ∧ PyData.strOk x = true ∧ p x = true := by
  have a := h.a
  simp [dAll, txOk] at a
  exact ⟨a.1.1, a.1.2, a.2⟩
theorem Sane.int {i : Int} : Sane p (.int i) := ⟨by simp [dAll], by simp [PyData.depth]⟩
theorem Sane.none : Sane p .none := ⟨by simp [dAll], by simp [PyData.depth]⟩
theorem Sane.bool {b : Bool} : Sane p (.bool b) := ⟨by simp [dAll], by simp [PyData.depth]⟩
theorem eq_nil (h : SeqAt.shaped (.list xs) = true) : eqD (.list xs) (.list []) = some xs.isEmpty := by
  rw [eqD_sh h (by decide)]
  cases xs <;> simp [PyData.eqv, PyData.eqvAll]
end
/-! numbers and names -/
def isNum (d : D) (a b : Int) : Bool := match d with
  | .int x => decide (a ≤ x) && decide (x ≤ b)
  | _ => false
theorem is_number_ (d : D) (a b : Int) : F_is_number [.d d, .d (.int a), .d (.int b)] [] = .ok (.d (.bool (isNum d a b))) [] := by
  cases d with
  | int x =>
    simp [F_is_number, B_is_number, isNum]
    by_cases h : a ≤ x <;> simp [h]
  | _ => simp [F_is_number, B_is_number, isaD, isNum]
def lets : List Nat := ("abcdefghijklmnopqrstuvwxyz" : Str).cps.toList
def figs : List Nat := ("0123456789" : Str).cps.toList
def isName (d : D) : Bool := match d with
  | .str x => match x.cps.toList with
    | [] => false
    | c :: r => decide (r.length ≤ 7) && (decide (c ∈ lets) && (c :: r).all fun k => decide (k ∈ lets) || decide (k ∈ figs))
  | _ => false
theorem len_cps (x : Str) : x.length = x.cps.toList.length := by
  show x.cps.size = _
  simp
theorem ix_str {x : Str} {c : Nat} {r : List Nat} (h : x.cps.toList = c :: r) (hl : x.length ≤ 1000) : ixD (.str x) (.int 0) = some (chD c) := by
  show (if x.length ≤ sizeLine then (atI x.cps.toList 0).map fun c => PyData.str ⟨#[c]⟩ else none) = _
  rw [if_pos (size_ok (by omega)), h, atI0]; rfl
theorem len_str {x : Str} (hl : x.length ≤ 1000) : lenG [.str x] = some (.int x.length) := by
  have h : x.length ≤ sizeLine := size_ok (by omega)
  simp [lenG, lenD, h]
theorem ch_shaped {l : List Nat} (h : ∀ c ∈ l, c < 0x110000) : SeqAt.shaped (.list (l.map chD)) = true := by
  have a : PyData.canLayAll0 (l.map chD) = true ∧ PyData.depthAll (l.map chD) = 0 := by
    induction l with
    | nil => simp [PyData.canLayAll0, PyData.depthAll]
    | cons c l ih =>
      have := ih fun k hk => h k (by simp [hk])
      have hc := h c (by simp)
      simp [PyData.canLayAll0, PyData.depthAll, this, chD, PyData.canLay0, PyData.strOk, PyData.depth, hc]
  simp [SeqAt.shaped, PyData.canLay0, PyData.depth, a]
theorem isa_other {T : String} {d : D} (h : isaD T d = false) : isaD T d = false := h
theorem is_name_ {p : Str → Bool} {d : D} (h : Sane p d) : F_is_name [.d d] [] = .ok (.d (.bool (isName d))) [] := by
  cases d with
  | str x =>
    obtain ⟨h1, h2, _⟩ := h.str
    have hl := len_cps x
    have l1 := len_str h1
    cases e : x.cps.toList with
    | nil =>
      rw [e] at hl
      simp at hl
      simp [F_is_name, B_is_name, l1, hl, isName, e]
    | cons c r =>
      rw [e] at hl
      simp only [List.length_cons] at hl
      have i1 := ix_str e h1
      by_cases q1 : r.length ≤ 7
      · have q2 : (x.length : Int) ≤ 8 := by omega
        have q3 : (1 : Int) ≤ x.length := by omega
        by_cases q4 : c ∈ lets
        · have q5 : c ∈ ("abcdefghijklmnopqrstuvwxyz" : Str).cps.toList := q4
          have lc := lcL_pure (cs := []) (tg := gtN 1) (t := tAndM (op2 ninD (eV 1) (eC (.str "abcdefghijklmnopqrstuvwxyz"))) (op2 ninD (eV 1) (eC (.str "0123456789")))) (f := eV 1) (ρ := [.d (.str x), .no])
            (fun y => [.d (.str x), .d y]) (fun y => match y with
              | .str z => !(decide (z.cps.getD 0 0 ∈ lets)) && !(decide (z.cps.getD 0 0 ∈ figs))
              | _ => false) id (x.cps.toList.map chD) [] (by
              intro y hy
              obtain ⟨k, hk, rfl⟩ := List.mem_map.1 hy
              refine ⟨rfl, ?_, fun _ => by simp⟩
              have n1 : inD (chD k) (.str "abcdefghijklmnopqrstuvwxyz") = some (decide (k ∈ lets)) := inD_ch _ _
              have n2 : inD (chD k) (.str "0123456789") = some (decide (k ∈ figs)) := inD_ch _ _
              have n3 : (chD k) = .str ⟨#[k]⟩ := rfl
              by_cases w1 : k ∈ lets <;> simp [n1, n2, w1, ninD_eq, n3] <;> simp [← n3, n1, n2, w1]) (by simp [e]; exact size_ok (by omega))
          have ef : ((x.cps.toList.map chD).filter fun y => match y with
              | .str z => !(decide (z.cps.getD 0 0 ∈ lets)) && !(decide (z.cps.getD 0 0 ∈ figs))
              | _ => false).map id = (x.cps.toList.filter fun k => !(decide (k ∈ lets)) && !(decide (k ∈ figs))).map chD := by
            rw [List.filter_map, List.map_id]; rfl
          rw [List.nil_append, ef] at lc
          have sh := ch_shaped (l := x.cps.toList.filter fun k => !(decide (k ∈ lets)) && !(decide (k ∈ figs))) (by
            intro k hk
            have hm := (List.mem_filter.1 hk).1
            unfold PyData.strOk at h2
            rw [Array.all_eq_true_iff_forall_mem] at h2
            exact of_decide_eq_true (h2 k (Array.mem_toList_iff.1 hm)))
          have en := eq_nil sh
          have ee : (c :: r).all (fun k => decide (k ∈ lets) || decide (k ∈ figs)) = ((x.cps.toList.filter fun k => !(decide (k ∈ lets)) && !(decide (k ∈ figs))).map chD).isEmpty := by
            rw [e]
            rw [Bool.eq_iff_iff]
            simp [List.filter_eq_nil_iff, Classical.or_iff_not_imp_left]
            refine ⟨fun h a ha hl => ?_, fun h => ⟨fun hl => h c (fun z => absurd rfl z) hl, fun y hy => h y (fun _ => hy)⟩⟩
            by_cases q : a = c
            · subst q; exact h.1 hl
            · exact h.2 a (ha q) hl
          generalize (x.cps.toList.filter fun k => !(decide (k ∈ lets)) && !(decide (k ∈ figs))).map chD = fl at *
          rw [e, List.map_cons] at lc
          have q6 : isName (.str x) = fl.isEmpty := by
            show (match x.cps.toList with
              | [] => false
              | c :: r => decide (r.length ≤ 7) && (decide (c ∈ lets) && (c :: r).all fun k => decide (k ∈ lets) || decide (k ∈ figs))) = _
            rw [e]
            simp only [ee, q1, q4, decide_true, Bool.true_and]
          rw [q6]
          simp [F_is_name, B_is_name, l1, i1, q2, q3, q5, lc, en, ninD_eq, e]
        · have q5 : ¬ c ∈ ("abcdefghijklmnopqrstuvwxyz" : Str).cps.toList := q4
          simp [F_is_name, B_is_name, l1, i1, q2, q3, q5, isName, e, q4, ninD_eq]
      · have q2 : ¬ (x.length : Int) ≤ 8 := by omega
        have q3 : (1 : Int) ≤ x.length := by omega
        simp [F_is_name, B_is_name, l1, i1, q2, q3, isName, e, q1]
  | _ => simp [F_is_name, B_is_name, isaD, isName]
theorem is_day_ (d : D) : F_is_day [.d d] [] = .ok (.d (.bool (isNum d 0 36500))) [] := by
  simp [F_is_day, B_is_day, is_number_]
/-- a tuple of so many -/
def isTup (d : D) (a b : Int) : Bool := match d with
  | .tuple xs => decide (a ≤ (xs.length : Int)) && decide ((xs.length : Int) ≤ b)
  | _ => false
theorem is_tuple_ (d : D) (a b : Int) : F_is_tuple [.d d, .d (.int a), .d (.int b)] [] = .ok (.d (.bool (isTup d a b))) [] := by
  cases d with
  | tuple xs =>
    simp [F_is_tuple, B_is_tuple, isTup]
    by_cases h : a ≤ (xs.length : Int) <;> simp [h]
  | _ => simp [F_is_tuple, B_is_tuple, isaD, isTup]
/-- texts -/
def txts : List D → Option (List Str)
  | [] => some []
  | .str x :: r => (txts r).map (x :: ·)
  | _ => none
def unl : List Str → Bool
  | [] => true
  | x :: r => !(decide (x ∈ r)) && unl r
theorem kysD_str : ∀ xs : List Str, kysD (xs.map .str) = some (xs.map Sum.inr)
  | [] => rfl
  | x :: xs => by
    show (match kyD (.str x), kysD (xs.map .str) with
      | some k, some ks => some (k :: ks)
      | _, _ => none) = _
    rw [kysD_str xs]; rfl
theorem unl_nodup : ∀ xs : List Str, unl xs = true ↔ xs.Nodup
  | [] => by simp [unl]
  | x :: xs => by simp [unl, unl_nodup xs]
theorem mK_str (l : List Str) (x : Str) : mK (l.map Sum.inr) (Sum.inr x) = decide (x ∈ l) := by
  rw [Bool.eq_iff_iff, mK_iff]
  simp
theorem fm_len : ∀ (xs l : List Str), l.Nodup → (((xs.map Sum.inr).foldl dd1 (l.map Sum.inr)).length = l.length + xs.length ↔ (l ++ xs).Nodup)
  | [], l, h => by simp [h]
  | x :: xs, l, h => by
    rw [List.map_cons, List.foldl_cons]
    by_cases hx : x ∈ l
    · have e : dd1 (l.map Sum.inr) (Sum.inr x) = l.map Sum.inr := by
        unfold dd1; rw [mK_str, if_pos (decide_eq_true hx)]
      rw [e]
      have le := fmK_le0 (xs.map Sum.inr) (l.map Sum.inr)
      simp only [List.length_map] at le
      constructor
      · intro z; rw [List.length_cons] at z; omega
      · intro z
        rw [List.nodup_append] at z
        exact absurd rfl (z.2.2 x hx x (by simp))
    · have e : dd1 (l.map Sum.inr) (Sum.inr x) = (l ++ [x]).map Sum.inr := by
        unfold dd1; rw [mK_str, if_neg (by simpa using hx)]; simp
      rw [e]
      have ih := fm_len xs (l ++ [x]) (by
        rw [List.nodup_append]
        refine ⟨h, by simp, fun a ha b hb => ?_⟩
        simp at hb
        subst hb
        exact fun z => hx (z ▸ ha))
      rw [List.append_assoc, List.singleton_append, List.length_append, List.length_singleton] at ih
      rw [List.length_cons, ← ih]
      constructor <;> intro z <;> omega
theorem fm_unl (xs : List Str) : ((fmK (xs.map Sum.inr)).length == xs.length) = unl xs := by
  have h := fm_len xs [] (by simp)
  simp only [List.nil_append, List.length_nil, Nat.zero_add, List.map_nil] at h
  rw [Bool.eq_iff_iff, beq_iff_eq, unl_nodup]
  exact h
theorem are_unlike_ (xs : List Str) (hl : xs.length < 4000) : F_are_unlike [.d (.list (xs.map .str))] [] = .ok (.d (.bool (unl xs))) [] := by
  have h := fm_unl xs
  rw [← h]
  simp [F_are_unlike, B_are_unlike, kysD_str, hl]
  rw [Bool.eq_iff_iff]
  simp
  omega
theorem isa_tuple_ne {d : D} (h : ∀ xs, d ≠ .tuple xs) : isaD "tuple" d = false := by
  cases d with
  | tuple xs => exact absurd rfl (h xs)
  | _ => rfl
theorem isa_str_ne {d : D} (h : ∀ xs, d ≠ .str xs) : isaD "str" d = false := by
  cases d with
  | str xs => exact absurd rfl (h xs)
  | _ => rfl
theorem beq_ne {x y : Str} (h : x ≠ y) : (x == y) = false ∧ (y == x) = false := ⟨by simpa using h, by simpa using (fun z => h z.symm)⟩
theorem isNum_int {d : D} {a b : Int} (h : isNum d a b = true) : ∃ i, d = .int i ∧ a ≤ i ∧ i ≤ b := by
  cases d with
  | int i => simp [isNum] at h; exact ⟨i, rfl, h⟩
  | _ => simp [isNum] at h
theorem isName_str {d : D} (h : isName d = true) : ∃ x, d = .str x := by
  cases d with
  | str x => exact ⟨x, rfl⟩
  | _ => simp [isName] at h
theorem law_number_ (d : D) (a b : Int) : F__law_is_number [.d d, .d (.int a), .d (.int b)] [] = .ok (.d (.bool (isNum d a b))) [] := is_number_ d a b
theorem is_money_ (d : D) : F_is_money [.d d] [] = .ok (.d (.bool (isNum d 0 1000000000000))) [] := by
  simp [F_is_money, B_is_money, is_number_]
theorem alnum : ∀ k : Nat, (k ∈ ("abcdefghijklmnopqrstuvwxyz0123456789" : Str).cps.toList) ↔ (k ∈ lets ∨ k ∈ figs) := by
  have e : ("abcdefghijklmnopqrstuvwxyz0123456789" : Str).cps.toList = lets ++ figs := by decide +kernel
  intro k
  rw [e, List.mem_append]
theorem law_name_ {p : Str → Bool} {d : D} (h : Sane p d) : F__law_is_name [.d d] [] = .ok (.d (.bool (isName d))) [] := by
  cases d with
  | str x =>
    obtain ⟨h1, h2, _⟩ := h.str
    have hl := len_cps x
    have l1 := len_str h1
    cases e : x.cps.toList with
    | nil =>
      rw [e] at hl
      simp at hl
      simp [F__law_is_name, B__law_is_name, l1, hl, isName, e]
    | cons c r =>
      rw [e] at hl
      simp only [List.length_cons] at hl
      have i1 := ix_str e h1
      by_cases q1 : r.length ≤ 7
      · have q2 : (x.length : Int) ≤ 8 := by omega
        have q3 : (1 : Int) ≤ x.length := by omega
        by_cases q4 : c ∈ lets
        · have q5 : c ∈ ("abcdefghijklmnopqrstuvwxyz" : Str).cps.toList := q4
          have lc := lcL_pure (cs := []) (tg := gtN 1) (t := op2 ninD (eV 1) (eC (.str "abcdefghijklmnopqrstuvwxyz0123456789"))) (f := eV 1) (ρ := [.d (.str x), .no])
            (fun y => [.d (.str x), .d y]) (fun y => match y with
              | .str z => !(decide (z.cps.getD 0 0 ∈ lets ∨ z.cps.getD 0 0 ∈ figs))
              | _ => false) id (x.cps.toList.map chD) [] (by
              intro y hy
              obtain ⟨k, hk, rfl⟩ := List.mem_map.1 hy
              refine ⟨rfl, ?_, fun _ => by simp⟩
              have n1 : inD (chD k) (.str "abcdefghijklmnopqrstuvwxyz0123456789") = some (decide (k ∈ lets ∨ k ∈ figs)) := by rw [inD_ch]; exact congrArg some (decide_eq_decide.2 (alnum k))
              have n3 : (chD k) = .str ⟨#[k]⟩ := rfl
              rw [n3] at n1
              have n4 : ninD (.str ⟨#[k]⟩) (.str "abcdefghijklmnopqrstuvwxyz0123456789") = some (!decide (k ∈ lets ∨ k ∈ figs)) := by rw [ninD_eq, n1]; rfl
              simp [n3, n4]) (by simp [e]; exact size_ok (by omega))
          have ef : ((x.cps.toList.map chD).filter fun y => match y with
              | .str z => !(decide (z.cps.getD 0 0 ∈ lets ∨ z.cps.getD 0 0 ∈ figs))
              | _ => false).map id = (x.cps.toList.filter fun k => !(decide (k ∈ lets ∨ k ∈ figs))).map chD := by
            rw [List.filter_map, List.map_id]; rfl
          rw [List.nil_append, ef] at lc
          have ee : ((c :: r).all fun k => decide (k ∈ lets) || decide (k ∈ figs)) = ((((x.cps.toList.filter fun k => !(decide (k ∈ lets ∨ k ∈ figs))).map chD).length : Int) == 0) := by
            rw [e, Bool.eq_iff_iff, beq_iff_eq, List.length_map]
            rw [show ((((c :: r).filter fun k => !(decide (k ∈ lets ∨ k ∈ figs))).length : Int) = 0 ↔ ((c :: r).filter fun k => !(decide (k ∈ lets ∨ k ∈ figs))) = []) from by rw [← List.length_eq_zero_iff]; omega]
            rw [List.filter_eq_nil_iff, List.all_eq_true]
            constructor
            · intro h k hk
              have := h k hk
              simp at this ⊢
              exact fun hn => this.resolve_left hn
            · intro h k hk
              have := h k hk
              simp at this ⊢
              exact Classical.or_iff_not_imp_left.2 this
          generalize (x.cps.toList.filter fun k => !(decide (k ∈ lets ∨ k ∈ figs))).map chD = fl at *
          rw [e, List.map_cons] at lc
          have q6 : isName (.str x) = ((fl.length : Int) == 0) := by
            show (match x.cps.toList with
              | [] => false
              | c :: r => decide (r.length ≤ 7) && (decide (c ∈ lets) && (c :: r).all fun k => decide (k ∈ lets) || decide (k ∈ figs))) = _
            rw [e]
            simp only [ee, q1, q4, decide_true, Bool.true_and]
          rw [q6]
          simp [F__law_is_name, B__law_is_name, l1, i1, q2, q3, q5, lc, ninD_eq, e]
        · have q5 : ¬ c ∈ ("abcdefghijklmnopqrstuvwxyz" : Str).cps.toList := q4
          simp [F__law_is_name, B__law_is_name, l1, i1, q2, q3, q5, isName, e, q4, ninD_eq]
      · have q2 : ¬ (x.length : Int) ≤ 8 := by omega
        have q3 : (1 : Int) ≤ x.length := by omega
        simp [F__law_is_name, B__law_is_name, l1, i1, q2, q3, isName, e, q1]
  | _ => simp [F__law_is_name, B__law_is_name, isaD, isName]
abbrev yes : Str → Bool := fun _ => true
/-! shares -/
def pairP (d : D) : Bool := match d with
  | .tuple [a, b] => isName a && isNum b 1 10000
  | _ => false
def fst0 (d : D) : Str := match d with
  | .tuple (.str x :: _) => x
  | _ => default
def snd1 (d : D) : Int := match d with
  | .tuple [_, .int i] => i
  | _ => 0
theorem pairP_is {d : D} (h : pairP d = true) : ∃ n i, d = .tuple [.str n, .int i] ∧ isName (.str n) = true ∧ 1 ≤ i ∧ i ≤ 10000 := by
  unfold pairP at h
  split at h
  · rw [Bool.and_eq_true] at h
    obtain ⟨x, rfl⟩ := isName_str h.1
    obtain ⟨i, rfl, h1, h2⟩ := isNum_int h.2
    exact ⟨x, i, rfl, h.1, h1, h2⟩
  · cases h
def sharesP (d : D) : Bool := match d with
  | .tuple xs => decide (1 ≤ xs.length) && (decide (xs.length ≤ 8) && (xs.all pairP && (unl (xs.map fst0) && decide ((xs.map snd1).sum = 10000))))
  | _ => false
theorem pair_test {x : D} (h : Sane yes x) (v : S) : (tOrM (tNotM (tT (eFrz (eCall F_is_tuple (aCons (eV 1) (aCons (eC (.int (2))) (aCons (eC (.int (2))) aNil))))))) (tOrM (tNotM (tT (eFrz (eCall F_is_name (aCons (eBin ixD (eV 1) (eC (.int (0)))) aNil))))) (tNotM (tT (eFrz (eCall F_is_number (aCons (eBin ixD (eV 1) (eC (.int (1)))) (aCons (eC (.int (1))) (aCons (eC (.int (10000))) aNil))))))))) [v, .d x] [] = .ok (!pairP x) [] := by
  cases x with
  | tuple ys =>
    match ys, h with
    | [], h => simp [is_tuple_, isTup, pairP]
    | [a], h => simp [is_tuple_, isTup, pairP]
    | [a, b], h =>
      have ha := h.mem (x := a) (by simp)
      simp [is_tuple_, isTup, pairP, is_name_ ha, is_number_]
      cases isName a <;> simp [is_number_]
    | a :: b :: c :: r, h =>
      have : ¬ ((r.length : Int) + 1 + 1 + 1 ≤ 2) := by omega
      simp [is_tuple_, isTup, pairP, this]
  | _ => simp [is_tuple_, isTup, pairP]
theorem intsD_map : ∀ l : List Int, intsD (l.map .int) = some l
  | [] => rfl
  | i :: l => by
    show (intsD (l.map .int)).map (i :: ·) = _
    rw [intsD_map l]; rfl
theorem firsts {e : List S → M S} {v : S} {xs : List D} (h : xs.all pairP = true) (he : e = eBin ixD (eV 1) (eC (.int (0)))) (hl : xs.length ≤ 10000) : lcL (gtN 1) tYesM e [v, .no] xs [] [] = .ok (.own (.lst ((xs.map fst0).map .str))) [] := by
  subst he
  have q := lcL_pure (cs := []) (tg := gtN 1) (t := tYesM) (f := eBin ixD (eV 1) (eC (.int (0)))) (ρ := [v, .no]) (fun y => [v, .d y]) (fun _ => true) (fun x => .str (fst0 x)) xs [] (fun x hx => by
    obtain ⟨n, i, rfl, _⟩ := pairP_is (List.all_eq_true.1 h x hx)
    exact ⟨rfl, by simp, fun _ => by simp [fst0]⟩) (by simp; exact size_ok (by omega))
  rw [List.filter_eq_self.2 (by simp)] at q
  simpa [List.map_map, Function.comp_def] using q
theorem seconds {v : S} {xs : List D} (h : xs.all pairP = true) (hl : xs.length ≤ 10000) : lcL (gtN 1) tYesM (eBin ixD (eV 1) (eC (.int (1)))) [v, .no] xs [] [] = .ok (.own (.lst ((xs.map snd1).map .int))) [] := by
  have q := lcL_pure (cs := []) (tg := gtN 1) (t := tYesM) (f := eBin ixD (eV 1) (eC (.int (1)))) (ρ := [v, .no]) (fun y => [v, .d y]) (fun _ => true) (fun x => .int (snd1 x)) xs [] (fun x hx => by
    obtain ⟨n, i, rfl, _⟩ := pairP_is (List.all_eq_true.1 h x hx)
    exact ⟨rfl, by simp, fun _ => by simp [snd1]⟩) (by simp; exact size_ok (by omega))
  rw [List.filter_eq_self.2 (by simp)] at q
  simpa [List.map_map, Function.comp_def] using q
theorem sum_int (l : List Int) : sumG [.list (l.map .int)] = some (.int l.sum) := by
  show (intsD (l.map .int)).map _ = _
  rw [intsD_map]; rfl
theorem are_shares_ {d : D} (h : Sane yes d) : F_are_shares [.d d] [] = .ok (.d (.bool (sharesP d))) [] := by
  cases d with
  | tuple xs =>
    by_cases c1 : 1 ≤ xs.length
    · by_cases c2 : xs.length ≤ 8
      · have k1 : (1 : Int) ≤ xs.length := by omega
        have k2 : (xs.length : Int) ≤ 8 := by omega
        have fa := gFor_all (cs := []) (tg := gtN 1) (body := (sIf (tOrM (tNotM (tT (eFrz (eCall F_is_tuple (aCons (eV 1) (aCons (eC (.int (2))) (aCons (eC (.int (2))) aNil))))))) (tOrM (tNotM (tT (eFrz (eCall F_is_name (aCons (eBin ixD (eV 1) (eC (.int (0)))) aNil))))) (tNotM (tT (eFrz (eCall F_is_number (aCons (eBin ixD (eV 1) (eC (.int (1)))) (aCons (eC (.int (1))) (aCons (eC (.int (10000))) aNil))))))))) (sRet (eRv (eC (.bool false)))) gNil)) pairP (.d (.bool false)) (fun ρ => ∃ s, ρ = [.d (.tuple xs), s]) xs [.d (.tuple xs), .no] ⟨_, rfl⟩ (fun x hx ρ1 hρ => by
          obtain ⟨s, rfl⟩ := hρ
          refine ⟨[.d (.tuple xs), .d x], rfl, ?_⟩
          have t := pair_test (h.mem hx) (.d (.tuple xs))
          cases q : pairP x with
          | true =>
            rw [q] at t
            exact .inl ⟨rfl, [.d (.tuple xs), .d x], by rw [sIf_, stp_, t]; rfl, _, rfl⟩
          | false =>
            rw [q] at t
            exact .inr ⟨rfl, by rw [sIf_, stp_, t]; rfl⟩)
        rcases fa with ⟨a1, ρ', a2, s, rfl⟩ | ⟨a1, a2⟩
        · have f1 := firsts (v := .d (.tuple xs)) a1 rfl (by omega)
          have f2 := seconds (v := .d (.tuple xs)) a1 (by omega)
          have u := are_unlike_ (xs.map fst0) (by simp; omega)
          have su := sum_int (xs.map snd1)
          unfold F_are_shares B_are_shares
          simp [is_tuple_, isTup, k1, k2]
          rw [a2]
          simp only [List.map_map] at f1 f2 u su
          cases qu : unl (xs.map fst0) <;> rw [qu] at u <;> simp [f1, f2, u, su, sharesP, c1, c2, a1, qu]
          rw [Bool.eq_iff_iff]; simp
        · unfold F_are_shares B_are_shares
          simp [is_tuple_, isTup, k1, k2]
          rw [a2]
          simp [sharesP, a1]
      · have k2 : ¬ (xs.length : Int) ≤ 8 := by omega
        simp [F_are_shares, B_are_shares, is_tuple_, isTup, k2, sharesP, c2]
    · have k1 : ¬ (1 : Int) ≤ xs.length := by omega
      simp [F_are_shares, B_are_shares, is_tuple_, isTup, k1, sharesP, c1]
  | _ => simp [F_are_shares, B_are_shares, is_tuple_, isTup, sharesP]
@[simp] theorem sp0 : (("treaty" : Str) == ("part" : Str)) = false := rfl
@[simp] theorem sq0 : (("treaty" : Str) = ("part" : Str)) = False := eq_false (by decide)
@[simp] theorem sp1 : (("treaty" : Str) == ("risk" : Str)) = false := rfl
@[simp] theorem sq1 : (("treaty" : Str) = ("risk" : Str)) = False := eq_false (by decide)
@[simp] theorem sp2 : (("treaty" : Str) == ("event" : Str)) = false := rfl
@[simp] theorem sq2 : (("treaty" : Str) = ("event" : Str)) = False := eq_false (by decide)
@[simp] theorem sp3 : (("treaty" : Str) == ("year" : Str)) = false := rfl
@[simp] theorem sq3 : (("treaty" : Str) = ("year" : Str)) = False := eq_false (by decide)
@[simp] theorem sp4 : (("part" : Str) == ("treaty" : Str)) = false := rfl
@[simp] theorem sq4 : (("part" : Str) = ("treaty" : Str)) = False := eq_false (by decide)
@[simp] theorem sp5 : (("part" : Str) == ("risk" : Str)) = false := rfl
@[simp] theorem sq5 : (("part" : Str) = ("risk" : Str)) = False := eq_false (by decide)
@[simp] theorem sp6 : (("part" : Str) == ("event" : Str)) = false := rfl
@[simp] theorem sq6 : (("part" : Str) = ("event" : Str)) = False := eq_false (by decide)
@[simp] theorem sp7 : (("part" : Str) == ("year" : Str)) = false := rfl
@[simp] theorem sq7 : (("part" : Str) = ("year" : Str)) = False := eq_false (by decide)
@[simp] theorem sp8 : (("risk" : Str) == ("treaty" : Str)) = false := rfl
@[simp] theorem sq8 : (("risk" : Str) = ("treaty" : Str)) = False := eq_false (by decide)
@[simp] theorem sp9 : (("risk" : Str) == ("part" : Str)) = false := rfl
@[simp] theorem sq9 : (("risk" : Str) = ("part" : Str)) = False := eq_false (by decide)
@[simp] theorem sp10 : (("risk" : Str) == ("event" : Str)) = false := rfl
@[simp] theorem sq10 : (("risk" : Str) = ("event" : Str)) = False := eq_false (by decide)
@[simp] theorem sp11 : (("risk" : Str) == ("year" : Str)) = false := rfl
@[simp] theorem sq11 : (("risk" : Str) = ("year" : Str)) = False := eq_false (by decide)
@[simp] theorem sp12 : (("event" : Str) == ("treaty" : Str)) = false := rfl
@[simp] theorem sq12 : (("event" : Str) = ("treaty" : Str)) = False := eq_false (by decide)
@[simp] theorem sp13 : (("event" : Str) == ("part" : Str)) = false := rfl
@[simp] theorem sq13 : (("event" : Str) = ("part" : Str)) = False := eq_false (by decide)
@[simp] theorem sp14 : (("event" : Str) == ("risk" : Str)) = false := rfl
@[simp] theorem sq14 : (("event" : Str) = ("risk" : Str)) = False := eq_false (by decide)
@[simp] theorem sp15 : (("event" : Str) == ("year" : Str)) = false := rfl
@[simp] theorem sq15 : (("event" : Str) = ("year" : Str)) = False := eq_false (by decide)
@[simp] theorem sp16 : (("year" : Str) == ("treaty" : Str)) = false := rfl
@[simp] theorem sq16 : (("year" : Str) = ("treaty" : Str)) = False := eq_false (by decide)
@[simp] theorem sp17 : (("year" : Str) == ("part" : Str)) = false := rfl
@[simp] theorem sq17 : (("year" : Str) = ("part" : Str)) = False := eq_false (by decide)
@[simp] theorem sp18 : (("year" : Str) == ("risk" : Str)) = false := rfl
@[simp] theorem sq18 : (("year" : Str) = ("risk" : Str)) = False := eq_false (by decide)
@[simp] theorem sp19 : (("year" : Str) == ("event" : Str)) = false := rfl
@[simp] theorem sq19 : (("year" : Str) = ("event" : Str)) = False := eq_false (by decide)
/-! the law's look at shares -/
theorem lpair_test {x : D} (h : Sane yes x) (v a t : S) (cs : Store) : (tOrM (tNotM (tT (eIsa "tuple" (eV 3)))) (tOrM (op2 neD (eCd lenG (aCons (eV 3) aNil)) (eC (.int (2)))) (tOrM (tNotM (tT (eFrz (eCall F__law_is_name (aCons (eBin ixD (eV 3) (eC (.int (0)))) aNil))))) (tNotM (tT (eFrz (eCall F__law_is_number (aCons (eBin ixD (eV 3) (eC (.int (1)))) (aCons (eC (.int (1))) (aCons (eC (.int (10000))) aNil)))))))))) [v, a, t, .d x] cs = .ok (!pairP x) cs := by
  cases x with
  | tuple ys =>
    match ys, h with
    | [], h => simp [pairP]
    | [a], h => simp [pairP]
    | [a, b], h =>
      have ha := h.mem (x := a) (by simp)
      simp [pairP, law_name_ ha, law_number_]
      cases isName a <;> simp [law_number_]
    | a :: b :: c :: r, h =>
      have : ¬ ((r.length : Int) + 1 + 1 + 1 = 2) := by omega
      simp [pairP, this]
  | _ => simp [pairP, isaD]
theorem lshare_loop (v : S) : ∀ (xs : List D) (acc : List Str) (t : Int) (s : S), (∀ x ∈ xs, Sane yes x) → acc.length + xs.length ≤ 100 →
    (xs.all pairP = true ∧ ∃ s', gFor (gtN 3) (gSeq (sIf (tOrM (tNotM (tT (eIsa "tuple" (eV 3)))) (tOrM (op2 neD (eCd lenG (aCons (eV 3) aNil)) (eC (.int (2)))) (tOrM (tNotM (tT (eFrz (eCall F__law_is_name (aCons (eBin ixD (eV 3) (eC (.int (0)))) aNil))))) (tNotM (tT (eFrz (eCall F__law_is_number (aCons (eBin ixD (eV 3) (eC (.int (1)))) (aCons (eC (.int (1))) (aCons (eC (.int (10000))) aNil)))))))))) (sRet (eRv (eC (.bool false)))) gNil)
      (gSeq (sExp (eMt appG (eV 1) (aCons (eBin ixD (eV 3) (eC (.int (0)))) aNil)))
      (sSet 2 (eBin addD (eV 2) (eBin ixD (eV 3) (eC (.int (1)))))))) xs [v, .cel 0, .d (.int t), s] [.lst (acc.map .str)] = .nx [v, .cel 0, .d (.int (t + (xs.map snd1).sum)), s'] [.lst ((acc ++ xs.map fst0).map .str)]) ∨
    (xs.all pairP = false ∧ ∃ cs', gFor (gtN 3) (gSeq (sIf (tOrM (tNotM (tT (eIsa "tuple" (eV 3)))) (tOrM (op2 neD (eCd lenG (aCons (eV 3) aNil)) (eC (.int (2)))) (tOrM (tNotM (tT (eFrz (eCall F__law_is_name (aCons (eBin ixD (eV 3) (eC (.int (0)))) aNil))))) (tNotM (tT (eFrz (eCall F__law_is_number (aCons (eBin ixD (eV 3) (eC (.int (1)))) (aCons (eC (.int (1))) (aCons (eC (.int (10000))) aNil)))))))))) (sRet (eRv (eC (.bool false)))) gNil)
      (gSeq (sExp (eMt appG (eV 1) (aCons (eBin ixD (eV 3) (eC (.int (0)))) aNil)))
      (sSet 2 (eBin addD (eV 2) (eBin ixD (eV 3) (eC (.int (1)))))))) xs [v, .cel 0, .d (.int t), s] [.lst (acc.map .str)] = .rt (.d (.bool false)) cs')
  | [], acc, t, s, _, _ => .inl ⟨rfl, s, by simp⟩
  | x :: xs, acc, t, s, h, hl => by
    rw [List.length_cons] at hl
    have tt := lpair_test (h x (by simp)) v (.cel 0) (.d (.int t)) [.lst (acc.map .str)]
    cases q : pairP x with
    | false =>
      right
      refine ⟨by simp [q], [.lst (acc.map .str)], ?_⟩
      rw [q] at tt
      rw [gFor_cons]
      simp only [gtN_, List.set_cons_succ, List.set_cons_zero, gSeq_, sIf_, stp_, tt]
      simp
    | true =>
      obtain ⟨n, i, rfl, _⟩ := pairP_is q
      rw [q] at tt
      have ih := lshare_loop v xs (acc ++ [n]) (t + i) (.d (.tuple [.str n, .int i])) (fun y hy => h y (by simp [hy])) (by simp; omega)
      have l1 : acc.length < sizeLine := size_lt (by omega)
      have l2 : acc.length ≤ sizeLine := size_ok (by omega)
      have step : gFor (gtN 3) (gSeq (sIf (tOrM (tNotM (tT (eIsa "tuple" (eV 3)))) (tOrM (op2 neD (eCd lenG (aCons (eV 3) aNil)) (eC (.int (2)))) (tOrM (tNotM (tT (eFrz (eCall F__law_is_name (aCons (eBin ixD (eV 3) (eC (.int (0)))) aNil))))) (tNotM (tT (eFrz (eCall F__law_is_number (aCons (eBin ixD (eV 3) (eC (.int (1)))) (aCons (eC (.int (1))) (aCons (eC (.int (10000))) aNil)))))))))) (sRet (eRv (eC (.bool false)))) gNil)
      (gSeq (sExp (eMt appG (eV 1) (aCons (eBin ixD (eV 3) (eC (.int (0)))) aNil)))
      (sSet 2 (eBin addD (eV 2) (eBin ixD (eV 3) (eC (.int (1)))))))) (.tuple [.str n, .int i] :: xs) [v, .cel 0, .d (.int t), s] [.lst (acc.map .str)] = gFor (gtN 3) (gSeq (sIf (tOrM (tNotM (tT (eIsa "tuple" (eV 3)))) (tOrM (op2 neD (eCd lenG (aCons (eV 3) aNil)) (eC (.int (2)))) (tOrM (tNotM (tT (eFrz (eCall F__law_is_name (aCons (eBin ixD (eV 3) (eC (.int (0)))) aNil))))) (tNotM (tT (eFrz (eCall F__law_is_number (aCons (eBin ixD (eV 3) (eC (.int (1)))) (aCons (eC (.int (1))) (aCons (eC (.int (10000))) aNil)))))))))) (sRet (eRv (eC (.bool false)))) gNil)
      (gSeq (sExp (eMt appG (eV 1) (aCons (eBin ixD (eV 3) (eC (.int (0)))) aNil)))
      (sSet 2 (eBin addD (eV 2) (eBin ixD (eV 3) (eC (.int (1)))))))) xs [v, .cel 0, .d (.int (t + i)), .d (.tuple [.str n, .int i])] [.lst ((acc ++ [n]).map .str)] := by
        rw [gFor_cons]
        simp only [gtN_, List.set_cons_succ, List.set_cons_zero, gSeq_, sIf_, stp_, tt]
        simp [l1, l2]
      rw [step]
      rcases ih with ⟨a1, s', a2⟩ | ⟨a1, cs', a2⟩
      · refine .inl ⟨by simp [q, a1], s', ?_⟩
        rw [a2]
        simp [snd1, fst0, Int.add_assoc]
      · exact .inr ⟨by simp [a1], cs', a2⟩
theorem law_shares_ {d : D} (h : Sane yes d) : F__law_are_shares [.d d] [] = .ok (.d (.bool (sharesP d))) [] := by
  cases d with
  | tuple xs =>
    by_cases c1 : 1 ≤ xs.length
    · by_cases c2 : xs.length ≤ 8
      · have k1 : (1 : Int) ≤ xs.length := by omega
        have k2 : (xs.length : Int) ≤ 8 := by omega
        have lp := lshare_loop (.d (.tuple xs)) xs [] 0 .no (fun x hx => h.mem hx) (by simp; omega)
        simp only [List.map_nil, List.nil_append, Int.zero_add] at lp
        rcases lp with ⟨a1, s', a2⟩ | ⟨a1, cs', a2⟩
        · have u := fm_unl (xs.map fst0)
          have kk : kysD ((xs.map fst0).map .str) = some ((xs.map fst0).map Sum.inr) := kysD_str _
          have u2 : (((fmK ((xs.map fst0).map Sum.inr)).length : Int) == ((xs.map fst0).length : Int)) = unl (xs.map fst0) := by
            rw [← u, Bool.eq_iff_iff]; simp; omega
          unfold F__law_are_shares B__law_are_shares
          simp [k1, k2]
          rw [a2]
          have hl4 : xs.length < 4000 := by omega
          simp only [List.map_map] at kk u2
          generalize hz : (xs.map snd1).sum = z
          by_cases cz : z = 10000 <;> simp [kk, hl4, sharesP, c1, c2, a1, hz, cz]
          simpa using u2
        · unfold F__law_are_shares B__law_are_shares
          simp [k1, k2]
          rw [a2]
          simp [sharesP, a1]
      · have k2 : ¬ (xs.length : Int) ≤ 8 := by omega
        have k1 : (1 : Int) ≤ xs.length := by omega
        simp [F__law_are_shares, B__law_are_shares, k1, k2, sharesP, c2]
    · have k1 : ¬ (1 : Int) ≤ xs.length := by omega
      simp [F__law_are_shares, B__law_are_shares, k1, sharesP, c1]
  | _ => simp [F__law_are_shares, B__law_are_shares, sharesP, isaD]
/-! kinds -/
def kindP (d : D) : Bool := match d with
  | .tuple (.str w :: r) => if w = "part" then (match r with
      | [a] => isNum a 0 10000
      | _ => false) else if w = "risk" ∨ w = "event" then (match r with
      | [a, b] => isNum a 0 1000000000000 && isNum b 0 1000000000000
      | _ => false) else if w = "year" then (match r with
      | [a, b, c, e] => isNum a 0 1000000000000 && (isNum b 0 1000000000000 && (isNum c 0 8 && isNum e 0 100000))
      | _ => false) else false
  | _ => false
theorem beq_dc (a b : Str) : (a == b) = decide (b = a) := by
  rw [Bool.eq_iff_iff]
  simp only [beq_iff_eq, decide_eq_true_eq]
  exact eq_comm
theorem is_kind_ {d : D} (h : Sane yes d) : F_is_kind [.d d] [] = .ok (.d (.bool (kindP d))) [] := by
  cases d with
  | tuple xs =>
    cases xs with
    | nil => simp [F_is_kind, B_is_kind, kindP]
    | cons x0 r =>
      cases x0 with
      | str w =>
        cases r with
        | nil => by_cases c1 : w = "part" <;> by_cases c2 : w = "risk" ∨ w = "event" <;> by_cases c3 : w = "year" <;> simp [F_is_kind, B_is_kind, kindP]
        | cons a r =>
          have k0 : ¬ ((r.length : Int) + 1 + 1 < 2) := by omega
          have i0 : inD (.str w) (.tuple [.str "risk", .str "event"]) = some (decide (w = "risk" ∨ w = "event")) := by
            rw [inD_str w _ (by rfl)]
            simp only [List.any_cons, List.any_nil, eqv_str, Bool.or_false]
            rw [beq_dc, beq_dc]
            by_cases q1 : w = "risk" <;> by_cases q2 : w = "event" <;> simp [q1, q2]
          by_cases c1 : w = "part"
          · subst c1
            cases r with
            | nil => simp [F_is_kind, B_is_kind, kindP, is_number_]
            | cons b r =>
              have : ¬ ((r.length : Int) + 1 + 1 + 1 = 2) := by omega
              have k1 : ¬ ((r.length : Int) + 1 + 1 + 1 < 2) := by omega
              simp [F_is_kind, B_is_kind, kindP, k1, this]
          · have e1 := beq_ne c1
            by_cases c2 : w = "risk" ∨ w = "event"
            · match r, k0 with
              | [], k0 => simp [F_is_kind, B_is_kind, kindP, e1, c1, c2, i0]
              | [b], k0 =>
                simp [F_is_kind, B_is_kind, kindP, e1, c1, c2, i0, is_money_]
                cases isNum a 0 1000000000000 <;> simp [is_money_]
              | b :: c :: r, k0 =>
                have : ¬ ((r.length : Int) + 1 + 1 + 1 + 1 = 3) := by omega
                have k1 : ¬ ((r.length : Int) + 1 + 1 + 1 + 1 < 2) := by omega
                simp [F_is_kind, B_is_kind, kindP, k1, e1, c1, c2, i0, this]
            · by_cases c3 : w = "year"
              · subst c3
                match r, k0 with
                | [], k0 => simp [F_is_kind, B_is_kind, kindP]
                | [b], k0 => simp [F_is_kind, B_is_kind, kindP]
                | [b, c], k0 => simp [F_is_kind, B_is_kind, kindP]
                | [b, c, e], k0 =>
                  simp [F_is_kind, B_is_kind, kindP, is_money_]
                  cases isNum a 0 1000000000000 <;> simp [is_money_]
                  cases isNum b 0 1000000000000 <;> simp [is_number_]
                  cases isNum c 0 8 <;> simp [is_number_]
                | b :: c :: e :: f :: r, k0 =>
                  have : ¬ ((r.length : Int) + 1 + 1 + 1 + 1 + 1 + 1 = 5) := by omega
                  have k1 : ¬ ((r.length : Int) + 1 + 1 + 1 + 1 + 1 + 1 < 2) := by omega
                  simp [F_is_kind, B_is_kind, kindP, k1, this]
              · have e3 := beq_ne c3
                simp [F_is_kind, B_is_kind, kindP, k0, e1, c1, c2, i0, e3, c3]
      | _ =>
        cases r with
        | nil => simp [F_is_kind, B_is_kind, kindP]
        | cons a r =>
          have k0 : ¬ ((r.length : Int) + 1 + 1 < 2) := by omega
          simp [F_is_kind, B_is_kind, kindP, k0, isaD]
  | _ => simp [F_is_kind, B_is_kind, kindP, isaD]
/-! the law's look at kinds -/
theorem cutD_lh (xs : List D) (a b : Nat) : cutD xs (some (a : Int)) (some (b : Int)) = (xs.drop a).take (b - a) := by
  unfold cutD
  rw [HT.sIx_nat, HT.sIx_nat]
  by_cases h1 : a ≤ xs.length
  · by_cases h2 : b ≤ xs.length
    · rw [Nat.min_eq_left h1, Nat.min_eq_left h2]
    · rw [Nat.min_eq_left h1, Nat.min_eq_right (by omega), List.take_of_length_le (by simp), List.take_of_length_le (by simp; omega)]
  · rw [Nat.min_eq_right (show xs.length ≤ a by omega), List.drop_of_length_le (Nat.le_refl _), List.drop_of_length_le (l := xs) (i := a) (by omega)]
    simp
theorem cut13 (xs : List D) : cutD xs (some 1) (some 3) = (xs.drop 1).take 2 := by
  rw [show (1 : Int) = ((1 : Nat) : Int) from rfl, show (3 : Int) = ((3 : Nat) : Int) from rfl, cutD_lh]
theorem p1012 : powD (.int 10) (.int 12) = some (.int 1000000000000) := by simp
theorem lkind_body (v : S) (x : D) : (sIf (tNotM (tT (eFrz (eCall F__law_is_number (aCons (eV 1) (aCons (eC (.int (0))) (aCons (eBin powD (eC (.int (10))) (eC (.int (12)))) aNil))))))) (sRet (eRv (eC (.bool false)))) gNil) [v, .d x] [] = if isNum x 0 1000000000000 = true then .nx [v, .d x] [] else .rt (.d (.bool false)) [] := by
  simp [p1012, law_number_, -powD_int]
  cases isNum x 0 1000000000000 <;> simp
theorem law_kind_ {d : D} (h : Sane yes d) : F__law_is_kind [.d d] [] = .ok (.d (.bool (kindP d))) [] := by
  cases d with
  | tuple xs =>
    cases xs with
    | nil => simp [F__law_is_kind, B__law_is_kind, kindP]
    | cons x0 r =>
      have k0 : ¬ ((r.length : Int) + 1 < 1) := by omega
      cases x0 with
      | str w =>
        have i0 : inD (.str w) (.tuple [.str "risk", .str "event"]) = some (decide (w = "risk" ∨ w = "event")) := by
          rw [inD_str w _ (by rfl)]
          simp only [List.any_cons, List.any_nil, eqv_str, Bool.or_false]
          rw [beq_dc, beq_dc]
          by_cases q1 : w = "risk" <;> by_cases q2 : w = "event" <;> simp [q1, q2]
        by_cases c1 : w = "part"
        · subst c1
          match r, k0 with
          | [], k0 => simp [F__law_is_kind, B__law_is_kind, kindP]
          | [a], k0 => simp [F__law_is_kind, B__law_is_kind, kindP, law_number_]
          | a :: b :: r, k0 =>
            have : ¬ ((r.length : Int) + 1 + 1 + 1 = 2) := by omega
            have k1 : ¬ ((r.length : Int) + 1 + 1 + 1 < 1) := by omega
            simp [F__law_is_kind, B__law_is_kind, kindP, k1, this]
        · have e1 := beq_ne c1
          -- the walk over the numbers
          have wk : ∀ (l : List D) (ρ2 : S), (∃ s, gFor (gtN 1) (sIf (tNotM (tT (eFrz (eCall F__law_is_number (aCons (eV 1) (aCons (eC (.int (0))) (aCons (eBin powD (eC (.int (10))) (eC (.int (12)))) aNil))))))) (sRet (eRv (eC (.bool false)))) gNil) l [.d (.tuple (.str w :: r)), ρ2] [] = .nx [.d (.tuple (.str w :: r)), s] [] ∧ (l.all fun x => isNum x 0 1000000000000) = true) ∨ (gFor (gtN 1) (sIf (tNotM (tT (eFrz (eCall F__law_is_number (aCons (eV 1) (aCons (eC (.int (0))) (aCons (eBin powD (eC (.int (10))) (eC (.int (12)))) aNil))))))) (sRet (eRv (eC (.bool false)))) gNil) l [.d (.tuple (.str w :: r)), ρ2] [] = .rt (.d (.bool false)) [] ∧ (l.all fun x => isNum x 0 1000000000000) = false) := by
            intro l
            induction l with
            | nil => intro ρ2; exact .inl ⟨ρ2, rfl, rfl⟩
            | cons x l ih =>
              intro ρ2
              have hb := lkind_body (.d (.tuple (.str w :: r))) x
              rw [gFor_cons]
              simp only [gtN_, List.set_cons_succ, List.set_cons_zero, hb]
              cases q : isNum x 0 1000000000000 with
              | true =>
                rcases ih (.d x) with ⟨s, a1, a2⟩ | ⟨a1, a2⟩
                · exact .inl ⟨s, by simpa using a1, by simp [q, a2]⟩
                · exact .inr ⟨by simpa using a1, by simp [q, a2]⟩
              | false => exact .inr ⟨by simp, by simp [q]⟩
          have ct : cutD (.str w :: r) (some 1) (some 3) = r.take 2 := by rw [cut13]; rfl
          have pk : kindP (.tuple (.str w :: r)) = ((r.take 2).all (fun x => isNum x 0 1000000000000) && (if w = "risk" ∨ w = "event" then decide (r.length = 2) else if w = "year" then (decide (r.length = 4) && (isNum (r.getD 2 .none) 0 8 && isNum (r.getD 3 .none) 0 100000)) else false)) := by
            by_cases c2 : w = "risk" ∨ w = "event"
            · match r with
              | [] => simp [kindP, c1, c2]
              | [a] => simp [kindP, c1, c2]
              | [a, b] => simp [kindP, c1, c2]
              | a :: b :: c :: r => simp [kindP, c1, c2]
            · by_cases c3 : w = "year"
              · subst c3
                match r with
                | [] => simp [kindP]
                | [a] => simp [kindP]
                | [a, b] => simp [kindP]
                | [a, b, c] => simp [kindP]
                | [a, b, c, e] => simp [kindP, Bool.and_assoc]
                | a :: b :: c :: e :: f :: r => simp [kindP]
              · simp [kindP, c1, c2, c3]
          rw [pk]
          rcases wk (r.take 2) .no with ⟨s, a1, a2⟩ | ⟨a1, a2⟩
          · by_cases c2 : w = "risk" ∨ w = "event"
            · have l2 : (((r.length : Int) + 1 == 3)) = decide (r.length = 2) := by rw [Bool.eq_iff_iff]; simp; omega
              unfold F__law_is_kind B__law_is_kind
              simp [k0, e1, ct]
              rw [a1]
              simp [i0, c2, a2, l2]
            · by_cases c3 : w = "year"
              · subst c3
                by_cases c4 : r.length = 4
                · match r, c4 with
                  | [a, b, c, e], _ =>
                    unfold F__law_is_kind B__law_is_kind
                    simp [e1, ct]
                    simp at a1 a2
                    rw [a1]
                    simp [law_number_, a2]
                    cases isNum c 0 8 <;> simp [law_number_]
                · have l4 : (((r.length : Int) + 1 == 5)) = false := by simp; omega
                  unfold F__law_is_kind B__law_is_kind
                  simp [k0, e1, ct]
                  rw [a1]
                  simp [i0, a2, l4, c4]
              · have e3 := beq_ne c3
                unfold F__law_is_kind B__law_is_kind
                simp [k0, e1, ct]
                rw [a1]
                simp [i0, c2, c3, e3]
          · unfold F__law_is_kind B__law_is_kind
            simp [k0, e1, ct]
            rw [a1]
            simp [a2]
      | _ => simp [F__law_is_kind, B__law_is_kind, kindP, k0, isaD]
  | _ => simp [F__law_is_kind, B__law_is_kind, kindP, isaD]
/-! treaties -/
def leI (a b : D) : Bool := match a, b with
  | .int i, .int j => decide (i ≤ j)
  | _, _ => false
def strD (d : D) : Str := match d with
  | .str x => x
  | _ => default
def itsD (d : D) : List D := match d with
  | .tuple xs => xs
  | _ => []
def treatyP (d : D) : Bool := match d with
  | .tuple [.str w, nm, a, b, g, sh, kd, pr] => decide (w = "treaty") && (isName nm && (isNum a 0 36500 && (isNum b 0 36500 && (leI a b && (isName g && (sharesP sh && (!(decide (strD g ∈ (itsD sh).map fst0)) && (kindP kd && isNum pr 0 1000000000000))))))))
  | _ => false
theorem in_txts (x : Str) (l : List Str) : inD (.str x) (.list (l.map .str)) = some (decide (x ∈ l)) := by
  rw [inD_strL x _ (by simp)]
  congr 1
  rw [Bool.eq_iff_iff]
  simp
theorem sharesP_is {d : D} (h : sharesP d = true) : ∃ xs, d = .tuple xs ∧ 1 ≤ xs.length ∧ xs.length ≤ 8 ∧ xs.all pairP = true := by
  cases d with
  | tuple xs => simp [sharesP] at h; exact ⟨xs, rfl, h.1, h.2.1, by simpa using h.2.2.1⟩
  | _ => simp [sharesP] at h
theorem treaty8 {w : Str} {nm a b g sh kd pr : D} (h : Sane yes (.tuple [.str w, nm, a, b, g, sh, kd, pr])) :
    F_is_treaty [.d (.tuple [.str w, nm, a, b, g, sh, kd, pr])] [] = .ok (.d (.bool (treatyP (.tuple [.str w, nm, a, b, g, sh, kd, pr])))) [] ∧ F__law_is_treaty [.d (.tuple [.str w, nm, a, b, g, sh, kd, pr])] [] = .ok (.d (.bool (treatyP (.tuple [.str w, nm, a, b, g, sh, kd, pr])))) [] := by
  have s1 := is_name_ (h.mem (x := nm) (by simp))
  have s1' := law_name_ (h.mem (x := nm) (by simp))
  have s4 := is_name_ (h.mem (x := g) (by simp))
  have s4' := law_name_ (h.mem (x := g) (by simp))
  have s5 := are_shares_ (h.mem (x := sh) (by simp))
  have s5' := law_shares_ (h.mem (x := sh) (by simp))
  have s6 := is_kind_ (h.mem (x := kd) (by simp))
  have s6' := law_kind_ (h.mem (x := kd) (by simp))
  have ix5 : ∀ x0 x1 x2 x3 x4 x5 x6 x7 : D, atI [x0, x1, x2, x3, x4, x5, x6, x7] 7 = some x7 := fun _ _ _ _ _ _ _ _ => atI_of (n := 7) rfl rfl
  have e8 : ((1 : Int) + 1 + 1 + 1 + 1 + 1 + 1 + 1 = 8) := by decide
  by_cases c0 : w = "treaty"
  · subst c0
    cases q1 : isName nm with
    | false =>
      rw [q1] at s1 s1'
      exact ⟨by simp [F_is_treaty, B_is_treaty, is_tuple_, isTup, s1, treatyP, q1], by simp [F__law_is_treaty, B__law_is_treaty, s1', treatyP, q1]⟩
    | true =>
      rw [q1] at s1 s1'
      cases q2 : isNum a 0 36500 with
      | false => exact ⟨by simp [F_is_treaty, B_is_treaty, is_tuple_, isTup, s1, treatyP, q1, is_day_, q2], by simp [F__law_is_treaty, B__law_is_treaty, s1', treatyP, q1, law_number_, q2]⟩
      | true =>
        cases q3 : isNum b 0 36500 with
        | false => exact ⟨by simp [F_is_treaty, B_is_treaty, is_tuple_, isTup, s1, treatyP, q1, is_day_, q2, q3], by simp [F__law_is_treaty, B__law_is_treaty, s1', treatyP, q1, law_number_, q2, q3]⟩
        | true =>
          obtain ⟨i, rfl, _, _⟩ := isNum_int q2
          obtain ⟨j, rfl, _, _⟩ := isNum_int q3
          by_cases c4 : j < i
          · have c4' : ¬ i ≤ j := by omega
            exact ⟨by simp [F_is_treaty, B_is_treaty, is_tuple_, isTup, s1, treatyP, q1, is_day_, q2, q3, c4, c4', leI], by simp [F__law_is_treaty, B__law_is_treaty, s1', treatyP, q1, law_number_, q2, q3, c4, c4', leI]⟩
          · have c4' : i ≤ j := by omega
            cases q4 : isName g with
            | false =>
              rw [q4] at s4 s4'
              exact ⟨by simp [F_is_treaty, B_is_treaty, is_tuple_, isTup, s1, treatyP, q1, is_day_, q2, q3, c4, c4', leI, s4, q4], by simp [F__law_is_treaty, B__law_is_treaty, s1', treatyP, q1, law_number_, q2, q3, c4, c4', leI, s4', q4]⟩
            | true =>
              rw [q4] at s4 s4'
              obtain ⟨gx, rfl⟩ := isName_str q4
              cases q5 : sharesP sh with
              | false =>
                rw [q5] at s5 s5'
                exact ⟨by simp [F_is_treaty, B_is_treaty, is_tuple_, isTup, s1, treatyP, q1, is_day_, q2, q3, c4, c4', leI, s4, q4, s5, q5], by simp [F__law_is_treaty, B__law_is_treaty, s1', treatyP, q1, law_number_, q2, q3, c4, c4', leI, s4', q4, s5', q5]⟩
              | true =>
                rw [q5] at s5 s5'
                obtain ⟨xs, rfl, l1, l2, l3⟩ := sharesP_is q5
                have f1 := fun v => firsts (v := v) l3 rfl (by omega)
                have it := in_txts gx (xs.map fst0)
                have nt : ninD (.str gx) (.list ((xs.map fst0).map .str)) = some (!decide (gx ∈ xs.map fst0)) := ninD_of it
                generalize hn : xs.map fst0 = ns at *
                by_cases c6 : gx ∈ ns
                · constructor
                  · simp [F_is_treaty, B_is_treaty, is_tuple_, isTup, s1, treatyP, q1, is_day_, q2, q3, c4, c4', leI, s4, q4, s5, q5, f1, it, c6, itsD, hn, strD]
                  · simp [F__law_is_treaty, B__law_is_treaty, s1', treatyP, q1, law_number_, q2, q3, c4, c4', leI, s4', q4, s5', q5, f1, nt, c6, itsD, hn, strD, -ninD_of, -inD_strL, -inD_str]
                · cases q6 : kindP kd <;> rw [q6] at s6 s6'
                  · constructor
                    · simp [F_is_treaty, B_is_treaty, is_tuple_, isTup, s1, treatyP, q1, is_day_, q2, q3, c4, c4', leI, s4, q4, s5, q5, f1, it, c6, itsD, hn, strD, s6, q6]
                    · simp [F__law_is_treaty, B__law_is_treaty, s1', treatyP, q1, law_number_, q2, q3, c4, c4', leI, s4', q4, s5', q5, f1, nt, c6, itsD, hn, strD, -ninD_of, -inD_strL, -inD_str, s6', q6]
                  · constructor
                    · simp [F_is_treaty, B_is_treaty, is_tuple_, isTup, s1, treatyP, q1, is_day_, q2, q3, c4, c4', leI, s4, q4, s5, q5, f1, it, c6, itsD, hn, strD, s6, q6, is_money_, ix5]
                    · simp [F__law_is_treaty, B__law_is_treaty, s1', treatyP, q1, law_number_, q2, q3, c4, c4', leI, s4', q4, s5', q5, f1, nt, c6, itsD, hn, strD, -ninD_of, -inD_strL, -inD_str, s6', q6, ix5, p1012, -powD_int]
  · have e0 := beq_ne c0
    exact ⟨by simp [F_is_treaty, B_is_treaty, is_tuple_, isTup, e0, treatyP, c0], by simp [F__law_is_treaty, B__law_is_treaty, e0, treatyP, c0]⟩
theorem treaty_ {d : D} (h : Sane yes d) : F_is_treaty [.d d] [] = .ok (.d (.bool (treatyP d))) [] ∧ F__law_is_treaty [.d d] [] = .ok (.d (.bool (treatyP d))) [] := by
  cases d with
  | tuple xs =>
    by_cases hl : xs.length = 8
    · match xs, hl with
      | [x0, x1, x2, x3, x4, x5, x6, x7], _ =>
        cases x0 with
        | str w => exact treaty8 h
        | _ => exact ⟨by simp [F_is_treaty, B_is_treaty, is_tuple_, isTup, treatyP, isaD], by simp [F__law_is_treaty, B__law_is_treaty, treatyP, isaD]⟩
    · have l1 : (decide ((8 : Int) ≤ xs.length) && decide ((xs.length : Int) ≤ 8)) = false := by
        rw [Bool.eq_false_iff]
        simp
        omega
      have l2 : ¬ (xs.length : Int) = 8 := by omega
      have tp : treatyP (.tuple xs) = false := by
        unfold treatyP
        split
        · rename_i he; cases he; simp at hl
        · rfl
      exact ⟨by simp [F_is_treaty, B_is_treaty, is_tuple_, isTup, tp, l1], by simp [F__law_is_treaty, B__law_is_treaty, tp, l2]⟩
  | _ => exact ⟨by simp [F_is_treaty, B_is_treaty, is_tuple_, isTup, treatyP], by simp [F__law_is_treaty, B__law_is_treaty, treatyP, isaD]⟩
/-! rows of companies, givers ahead of takers -/
theorem nodup_len : ∀ (l m : List Str), l.Nodup → (∀ x ∈ l, x ∈ m) → l.length ≤ m.length
  | [], m, _, _ => Nat.zero_le _
  | x :: l, m, h, hs => by
    obtain ⟨h1, h2⟩ := List.nodup_cons.1 h
    have hx := hs x (by simp)
    have ih := nodup_len l (m.erase x) h2 (fun y hy => by
      have hy' := hs y (by simp [hy])
      exact (List.mem_erase_of_ne (fun (z : y = x) => h1 (by rw [← z]; exact hy))).2 hy')
    have := List.length_erase_of_mem hx
    have := List.length_pos_of_mem hx
    rw [List.length_cons]; omega
theorem full_of_len {l m : List Str} (h : l.Nodup) (hm : m.Nodup) (hs : ∀ x ∈ l, x ∈ m) (hl : m.length ≤ l.length) : ∀ x ∈ m, x ∈ l := fun x hx => Classical.byContradiction fun c => by
  have := nodup_len (x :: l) m (List.nodup_cons.2 ⟨c, h⟩) (fun y hy => by
    rcases List.mem_cons.1 hy with rfl | hy
    · exact hx
    · exact hs y hy)
  rw [List.length_cons] at this; omega
theorem stuck_not {R : Str → Str → Prop} {C : Str → Prop} (hR : ∀ g n, R g n → C g) {found : List Str} (h : ∀ n, C n → n ∉ found → ∃ g, R g n ∧ g ∉ found) {n : Str} (ha : Acc R n) : C n → n ∉ found → False := by
  induction ha with
  | intro n _ ih =>
    intro hc hn
    obtain ⟨g, h1, h2⟩ := h n hc hn
    exact ih g h1 (hR g n h1) h2
/-- one pass -/
def pass (gs : Str → List Str) : List Str → List Str → List Str
  | [], found => found
  | c :: r, found => pass gs r (if c ∉ found ∧ ∀ g ∈ gs c, g ∈ found then found ++ [c] else found)
def passes (gs : Str → List Str) (left : List Str) : Nat → List Str → List Str
  | 0, found => found
  | k + 1, found => passes gs left k (pass gs left found)
structure OkF (R : Str → Str → Prop) (left found : List Str) : Prop where
  nd : found.Nodup
  sub : ∀ x ∈ found, x ∈ left
  acc : ∀ x ∈ found, Acc R x
theorem pass_ok {R : Str → Str → Prop} {gs : Str → List Str} (hg : ∀ g n, g ∈ gs n ↔ R g n) {left : List Str} : ∀ (l found : List Str), (∀ x ∈ l, x ∈ left) → OkF R left found → OkF R left (pass gs l found) ∧ (∀ x ∈ found, x ∈ pass gs l found) ∧ found.length ≤ (pass gs l found).length ∧
    ((∃ n ∈ l, n ∉ found ∧ ∀ g ∈ gs n, g ∈ found) → found.length < (pass gs l found).length)
  | [], found, _, h => ⟨h, fun x hx => hx, Nat.le_refl _, fun ⟨n, hn, _⟩ => by cases hn⟩
  | c :: r, found, hl, h => by
    by_cases q : c ∉ found ∧ ∀ g ∈ gs c, g ∈ found
    · have h' : OkF R left (found ++ [c]) := by
        refine ⟨?_, fun x hx => ?_, fun x hx => ?_⟩
        · exact (List.perm_append_singleton c found).nodup_iff.2 (List.nodup_cons.2 ⟨q.1, h.nd⟩)
        · rcases List.mem_append.1 hx with hx | hx
          · exact h.sub x hx
          · rw [List.mem_singleton.1 hx]; exact hl c (by simp)
        · rcases List.mem_append.1 hx with hx | hx
          · exact h.acc x hx
          · rw [List.mem_singleton.1 hx]
            exact Acc.intro c fun g hgc => h.acc g (q.2 g ((hg g c).2 hgc))
      obtain ⟨a1, a2, a3, a4⟩ := pass_ok hg r (found ++ [c]) (fun x hx => hl x (by simp [hx])) h'
      rw [List.length_append, List.length_singleton] at a3
      unfold pass
      rw [if_pos q]
      exact ⟨a1, fun x hx => a2 x (by simp [hx]), by omega, fun _ => by omega⟩
    · obtain ⟨a1, a2, a3, a4⟩ := pass_ok hg r found (fun x hx => hl x (by simp [hx])) h
      unfold pass
      rw [if_neg q]
      refine ⟨a1, a2, a3, fun ⟨n, hn, h1, h2⟩ => ?_⟩
      rcases List.mem_cons.1 hn with rfl | hn
      · exact absurd ⟨h1, h2⟩ q
      · exact a4 ⟨n, hn, h1, h2⟩
theorem passes_ok {R : Str → Str → Prop} {C : Str → Prop} {gs : Str → List Str} (hg : ∀ g n, g ∈ gs n ↔ R g n) (hR : ∀ g n, R g n → C g) {left : List Str} (hC : ∀ n, n ∈ left ↔ C n) (hnd : left.Nodup) (hA : ∀ n, C n → Acc R n) : ∀ (k : Nat) (found : List Str), OkF R left found →
    OkF R left (passes gs left k found) ∧ (found.length + k ≤ (passes gs left k found).length ∨ left.length ≤ (passes gs left k found).length)
  | 0, found, h => ⟨h, .inl (Nat.le_refl _)⟩
  | k + 1, found, h => by
    obtain ⟨a1, a2, a3, a4⟩ := pass_ok hg left found (fun x hx => hx) h
    obtain ⟨b1, b2⟩ := passes_ok hg hR hC hnd hA k _ a1
    refine ⟨b1, ?_⟩
    by_cases full : left.length ≤ found.length
    · have mono : ∀ (k : Nat) (f : List Str), OkF R left f → f.length ≤ (passes gs left k f).length := by
        intro k
        induction k with
        | zero => intro f _; exact Nat.le_refl _
        | succ k ih =>
          intro f hf
          obtain ⟨c1, _, c3, _⟩ := pass_ok hg left f (fun x hx => hx) hf
          exact Nat.le_trans c3 (ih _ c1)
      have m := mono (k + 1) found h
      right
      exact Nat.le_trans full m
    · have grow : found.length < (pass gs left found).length := by
        refine a4 (Classical.byContradiction fun c => ?_)
        have st : ∀ n, C n → n ∉ found → ∃ g, R g n ∧ g ∉ found := fun n hn hf => by
          refine Classical.byContradiction fun z => c ⟨n, (hC n).2 hn, hf, fun g hgn => Classical.byContradiction fun y => z ⟨g, (hg g n).1 hgn, y⟩⟩
        have all : ∀ x ∈ left, x ∈ found := fun x hx => Classical.byContradiction fun y => stuck_not hR st (hA x ((hC x).1 hx)) ((hC x).1 hx) y
        have := nodup_len left found hnd all
        omega
      rcases b2 with b2 | b2
      · left
        show _ ≤ (passes gs left k (pass gs left found)).length
        omega
      · exact .inr b2
theorem passes_mono {R : Str → Str → Prop} {gs : Str → List Str} (hg : ∀ g n, g ∈ gs n ↔ R g n) {left : List Str} : ∀ (k : Nat) (found : List Str), OkF R left found → OkF R left (passes gs left k found)
  | 0, found, h => h
  | k + 1, found, h => passes_mono hg k _ (pass_ok hg left found (fun x hx => hx) h).1
theorem law_iff {R : Str → Str → Prop} {C : Str → Prop} {gs : Str → List Str} (hg : ∀ g n, g ∈ gs n ↔ R g n) (hR : ∀ g n, R g n → C g) {left : List Str} (hC : ∀ n, n ∈ left ↔ C n) (hnd : left.Nodup) :
    (passes gs left left.length []).length = left.length ↔ ∀ n, C n → Acc R n := by
  have h0 : OkF R left [] := ⟨List.nodup_nil, by simp, by simp⟩
  constructor
  · intro e n hn
    have ok := passes_mono hg left.length [] h0
    exact ok.acc n (full_of_len ok.nd hnd ok.sub (by omega) n ((hC n).2 hn))
  · intro hA
    obtain ⟨ok, b⟩ := passes_ok hg hR hC hnd hA left.length [] h0
    have := nodup_len _ left ok.nd ok.sub
    rw [List.length_nil] at b
    omega
/-! the dict of givers -/
def mkD (ks : List Str) (f : Str → List Str) : List (Key × D) := ks.map fun n => (Sum.inr n, PyData.list ((f n).map .str))
def addk (ks : List Str) (n : Str) : List Str := if n ∈ ks then ks else ks ++ [n]
def updF (f : Str → List Str) (n : Str) (l : List Str) : Str → List Str := fun m => if m = n then l else f m
theorem mkD_len (ks : List Str) (f : Str → List Str) : (mkD ks f).length = ks.length := by simp [mkD]
theorem dvK_mk (f : Str → List Str) (n : Str) : ∀ ks : List Str, dvK (mkD ks f) (Sum.inr n) = if n ∈ ks then some (.list ((f n).map .str)) else none
  | [] => rfl
  | k :: ks => by
    have ih := dvK_mk f n ks
    unfold dvK at ih ⊢
    rw [show mkD (k :: ks) f = (Sum.inr k, PyData.list ((f k).map .str)) :: mkD ks f from rfl, List.find?_cons]
    by_cases e : k = n
    · subst e; simp
    · have e1 : decide ((Sum.inr k : Key) = Sum.inr n) = false := by simp [e]
      have e2 : (n ∈ k :: ks) ↔ n ∈ ks := List.mem_cons.trans ⟨fun z => z.resolve_left fun y => e y.symm, .inr⟩
      simp only [e1]
      rw [ih]
      by_cases c : n ∈ ks
      · rw [if_pos c, if_pos (e2.2 c)]
      · rw [if_neg c, if_neg (fun z => c (e2.1 z))]
theorem dpK_mk (f : Str → List Str) (n : Str) (l : List Str) (ks : List Str) : dpK (mkD ks f) (Sum.inr n) (.list (l.map .str)) = mkD (addk ks n) (updF f n l) := by
  have any : ((mkD ks f).any fun p => decide (p.1 = Sum.inr n)) = decide (n ∈ ks) := by
    rw [Bool.eq_iff_iff]
    simp [mkD]
  unfold dpK
  rw [any]
  by_cases c : n ∈ ks
  · rw [if_pos (by simpa using c)]
    unfold addk
    rw [if_pos c]
    unfold mkD
    rw [List.map_map]
    refine List.map_congr_left fun m hm => ?_
    by_cases e : m = n
    · subst e; simp [updF]
    · simp [updF, e]
  · rw [if_neg (by simpa using c)]
    unfold addk
    rw [if_neg c]
    unfold mkD
    rw [List.map_append]
    congr 1
    · refine List.map_congr_left fun m hm => ?_
      have e : ¬ m = n := fun z => c (z ▸ hm)
      simp [updF, e]
    · simp [updF]
theorem addk_mem (ks : List Str) (n m : Str) : m ∈ addk ks n ↔ m ∈ ks ∨ m = n := by
  unfold addk
  split
  · rename_i h
    exact ⟨.inl, fun z => z.elim id fun e => e ▸ h⟩
  · simp
theorem addk_nd {ks : List Str} {n : Str} (h : ks.Nodup) : (addk ks n).Nodup := by
  unfold addk
  split
  · exact h
  · rename_i c
    exact (List.perm_append_singleton n ks).nodup_iff.2 (List.nodup_cons.2 ⟨c, h⟩)
theorem addk_len (ks : List Str) (n : Str) : (addk ks n).length ≤ ks.length + 1 := by
  unfold addk
  split <;> simp
/-! what a treaty tells -/
def el (i : Nat) (d : D) : D := (itsD d).getD i .none
def gv (d : D) : Str := strD (el 4 d)
def tk (d : D) : List Str := (itsD (el 5 d)).map fst0
def nm1 (d : D) : Str := strD (el 1 d)
theorem treatyP_is {d : D} (h : treatyP d = true) : ∃ (nm g : Str) (a b kd pr : D) (ps : List D), d = .tuple [.str "treaty", .str nm, a, b, .str g, .tuple ps, kd, pr] ∧ ps.all pairP = true ∧ ps.length ≤ 8 ∧ isName (.str nm) = true ∧ isName (.str g) = true := by
  unfold treatyP at h
  split at h
  · rename_i w nm a b g sh kd pr
    simp only [Bool.and_eq_true, decide_eq_true_eq] at h
    obtain ⟨rfl, h1, h2, h3, h4, h5, h6, h7, h8, h9⟩ := h
    obtain ⟨x, rfl⟩ := isName_str h1
    obtain ⟨y, rfl⟩ := isName_str h5
    obtain ⟨ps, rfl, _, l2, l3⟩ := sharesP_is h6
    exact ⟨x, y, a, b, kd, pr, ps, rfl, l3, l2, h1, h5⟩
  · cases h
abbrev tD (nm g : Str) (a b kd pr : D) (ps : List D) : D := .tuple [.str "treaty", .str nm, a, b, .str g, .tuple ps, kd, pr]
section
variable {nm g : Str} {a b kd pr : D} {ps : List D}
@[simp] theorem gv_t : gv (tD nm g a b kd pr ps) = g := rfl
@[simp] theorem tk_t : tk (tD nm g a b kd pr ps) = ps.map fst0 := rfl
@[simp] theorem nm1_t : nm1 (tD nm g a b kd pr ps) = nm := rfl
end
def Rx (xs : List D) (g n : Str) : Prop := ∃ d ∈ xs, gv d = g ∧ n ∈ tk d
def Cx' (xs : List D) (n : Str) : Prop := ∃ d ∈ xs, gv d = n ∨ n ∈ tk d
theorem rx_cx {xs : List D} (g n : Str) (h : Rx xs g n) : Cx' xs g := by
  obtain ⟨d, hd, h1, _⟩ := h
  exact ⟨d, hd, .inl h1⟩
structure GI (R : Str → Str → Prop) (C : Str → Prop) (ks : List Str) (f : Str → List Str) (b : Nat) : Prop where
  nd : ks.Nodup
  mem : ∀ n, n ∈ ks ↔ C n
  fm : ∀ g n, g ∈ f n ↔ R g n
  out : ∀ n, n ∉ ks → f n = []
  ln : ks.length ≤ b
  fl : ∀ n, (f n).length ≤ b
theorem GI.congr {R R' : Str → Str → Prop} {C C' : Str → Prop} {ks : List Str} {f : Str → List Str} {b b' : Nat} (h : GI R C ks f b) (hR : ∀ g n, R g n ↔ R' g n) (hC : ∀ n, C n ↔ C' n) (hb : b ≤ b') : GI R' C' ks f b' :=
  ⟨h.nd, fun n => (h.mem n).trans (hC n), fun g n => (h.fm g n).trans (hR g n), h.out, Nat.le_trans h.ln hb, fun n => Nat.le_trans (h.fl n) hb⟩
theorem GI.self {R : Str → Str → Prop} {C : Str → Prop} {ks : List Str} {f : Str → List Str} {b : Nat} (h : GI R C ks f b) (g : Str) : GI R (fun n => C n ∨ n = g) (addk ks g) (updF f g (f g)) (b + 1) := by
  have e : updF f g (f g) = f := by
    funext m
    unfold updF
    split
    · rename_i z; rw [z]
    · rfl
  rw [e]
  refine ⟨addk_nd h.nd, fun n => (addk_mem ks g n).trans (or_congr (h.mem n) Iff.rfl), h.fm, fun n hn => h.out n fun z => hn ((addk_mem ks g n).2 (.inl z)), by have := addk_len ks g; have := h.ln; omega, fun n => by have := h.fl n; omega⟩
theorem GI.put {R : Str → Str → Prop} {C : Str → Prop} {ks : List Str} {f : Str → List Str} {b : Nat} (h : GI R C ks f b) (g n : Str) : GI (fun a m => R a m ∨ (a = g ∧ m = n)) (fun m => C m ∨ m = n) (addk ks n) (updF f n (f n ++ [g])) (b + 1) := by
  refine ⟨addk_nd h.nd, fun m => (addk_mem ks n m).trans (or_congr (h.mem m) Iff.rfl), fun a m => ?_, fun m hm => ?_, by have := addk_len ks n; have := h.ln; omega, fun m => ?_⟩
  · unfold updF
    by_cases e : m = n
    · subst e
      rw [if_pos rfl, List.mem_append, List.mem_singleton, h.fm]
      simp
    · rw [if_neg e, h.fm]
      simp [e]
  · have e : ¬ m = n := fun z => hm ((addk_mem ks n m).2 (.inr z))
    unfold updF
    rw [if_neg e]
    exact h.out m fun z => hm ((addk_mem ks n m).2 (.inl z))
  · unfold updF
    split
    · have := h.fl n; simp; omega
    · have := h.fl m; omega
theorem getD_mk {R : Str → Str → Prop} {C : Str → Prop} {ks : List Str} {f : Str → List Str} {b : Nat} (h : GI R C ks f b) (n : Str) : (dvK (mkD ks f) (Sum.inr n)).getD (.list []) = .list ((f n).map .str) := by
  rw [dvK_mk]
  by_cases c : n ∈ ks
  · rw [if_pos c]; rfl
  · rw [if_neg c, h.out n c]; rfl
theorem give_in {T s5 s6 s7 : S} {nm g : Str} {a b kd pr : D} {qs : List D} : ∀ (ps : List D) (R : Str → Str → Prop) (C : Str → Prop) (ks : List Str) (f : Str → List Str) (bd : Nat) (s3 s4 : S), ps.all pairP = true → bd + ps.length ≤ 1000 → GI R C ks f bd →
    ∃ ks' f' s3' s4', gFor (gtT (gtsCons (gtN 3) (gtsCons (gtN 4) gtsNil))) (sSubK (eV 1) (eV 3) (eBin addD (eGet2 (eV 1) (eV 3) (eFrz (eLst aNil))) (eFrz (eLst (aCons (eBin ixD (eV 2) (eC (.int (4)))) aNil))))) ps [T, .cel 0, .d (tD nm g a b kd pr qs), s3, s4, s5, s6, s7] [.dK (mkD ks f)] = .nx [T, .cel 0, .d (tD nm g a b kd pr qs), s3', s4', s5, s6, s7] [.dK (mkD ks' f')] ∧
      GI (fun a' n => R a' n ∨ (a' = g ∧ n ∈ ps.map fst0)) (fun n => C n ∨ n ∈ ps.map fst0) ks' f' (bd + ps.length)
  | [], R, C, ks, f, bd, s3, s4, _, _, h => ⟨ks, f, s3, s4, by simp, h.congr (by simp) (by simp) (by simp)⟩
  | p :: ps, R, C, ks, f, bd, s3, s4, hp, hb, h => by
    rw [List.all_cons, Bool.and_eq_true] at hp
    rw [List.length_cons] at hb
    obtain ⟨n, i, rfl, _⟩ := pairP_is hp.1
    obtain ⟨ks', f', s3', s4', e, q⟩ := give_in (T := T) (s5 := s5) (s6 := s6) (s7 := s7) (nm := nm) (g := g) (a := a) (b := b) (kd := kd) (pr := pr) (qs := qs) ps _ _ _ _ (bd + 1) (.d (.str n)) (.d (.int i)) hp.2 (by omega) (h.put g n)
    refine ⟨ks', f', s3', s4', ?_, q.congr (fun a' m => ?_) (fun m => ?_) (by rw [List.length_cons]; omega)⟩
    · rw [gFor_cons]
      have l1 : ks.length < sizeLine := size_lt (by have := h.ln; omega)
      have l2 : (f n).length + 1 ≤ sizeLine := size_ok (by have := h.fl n; omega)
      have gd := getD_mk h n
      have dp := dpK_mk f n (f n ++ [g]) ks
      rw [List.map_append] at dp
      simp only [List.map_cons, List.map_nil] at dp
      simp only [gtT_, gtsCons_, gtN_, gtsNil_, Option.bind_some, List.set_cons_succ, List.set_cons_zero]
      generalize hk : mkD ks f = kv at *
      have lk : kv.length = ks.length := by rw [← hk, mkD_len]
      simp [gd, l2, lk, l1, dp, e]
    · simp only [List.map_cons, List.mem_cons, show fst0 (PyData.tuple [.str n, .int i]) = n from rfl]
      constructor
      · rintro ((z | z) | z)
        · exact .inl z
        · exact .inr ⟨z.1, .inl z.2⟩
        · exact .inr ⟨z.1, .inr z.2⟩
      · rintro (z | ⟨z, (y | y)⟩)
        · exact .inl (.inl z)
        · exact .inl (.inr ⟨z, y⟩)
        · exact .inr ⟨z, y⟩
    · simp only [List.map_cons, List.mem_cons, show fst0 (PyData.tuple [.str n, .int i]) = n from rfl, or_assoc]
theorem give_out {T s5 s6 s7 : S} : ∀ (xs : List D) (R : Str → Str → Prop) (C : Str → Prop) (ks : List Str) (f : Str → List Str) (bd : Nat) (s2 s3 s4 : S), xs.all treatyP = true → bd + 9 * xs.length ≤ 500 → GI R C ks f bd →
    ∃ ks' f' s2' s3' s4', gFor (gtN 2) (gSeq (sSubK (eV 1) (eBin ixD (eV 2) (eC (.int (4)))) (eGet2 (eV 1) (eBin ixD (eV 2) (eC (.int (4)))) (eFrz (eLst aNil))))
      (sFor (gtT (gtsCons (gtN 3) (gtsCons (gtN 4) gtsNil))) (iAnyM (eBin ixD (eV 2) (eC (.int (5))))) (sSubK (eV 1) (eV 3) (eBin addD (eGet2 (eV 1) (eV 3) (eFrz (eLst aNil))) (eFrz (eLst (aCons (eBin ixD (eV 2) (eC (.int (4)))) aNil))))))) xs [T, .cel 0, s2, s3, s4, s5, s6, s7] [.dK (mkD ks f)] = .nx [T, .cel 0, s2', s3', s4', s5, s6, s7] [.dK (mkD ks' f')] ∧
      GI (fun a' n => R a' n ∨ Rx xs a' n) (fun n => C n ∨ Cx' xs n) ks' f' (bd + 9 * xs.length)
  | [], R, C, ks, f, bd, s2, s3, s4, _, _, h => ⟨ks, f, s2, s3, s4, by simp, h.congr (by simp [Rx]) (by simp [Cx']) (by simp)⟩
  | x :: xs, R, C, ks, f, bd, s2, s3, s4, hx, hb, h => by
    rw [List.all_cons, Bool.and_eq_true] at hx
    rw [List.length_cons] at hb
    obtain ⟨nm, g, a, b, kd, pr, ps, rfl, p1, p2, _⟩ := treatyP_is hx.1
    obtain ⟨k1, f1, t3, t4, e1, q1⟩ := give_in (T := T) (s5 := s5) (s6 := s6) (s7 := s7) (nm := nm) (g := g) (a := a) (b := b) (kd := kd) (pr := pr) (qs := ps) ps _ _ _ _ (bd + 1) s3 s4 p1 (by omega) (h.self g)
    obtain ⟨k2, f2, t2, u3, u4, e2, q2⟩ := give_out (T := T) (s5 := s5) (s6 := s6) (s7 := s7) xs _ _ k1 f1 (bd + 9) (.d (tD nm g a b kd pr ps)) t3 t4 hx.2 (by omega) (q1.congr (fun _ _ => Iff.rfl) (fun _ => Iff.rfl) (by omega))
    refine ⟨k2, f2, t2, u3, u4, ?_, q2.congr (fun a' m => ?_) (fun m => ?_) (by rw [List.length_cons]; omega)⟩
    · rw [gFor_cons]
      have l1 : ks.length < sizeLine := size_lt (by have := h.ln; omega)
      have gd := getD_mk h g
      have dp := dpK_mk f g (f g) ks
      simp only [gtN_, List.set_cons_succ, List.set_cons_zero]
      generalize hk : mkD ks f = kv at *
      have lk : kv.length = ks.length := by rw [← hk, mkD_len]
      simp [gd, lk, l1, dp, e1, e2]
    · simp only [Rx, List.mem_cons, exists_eq_or_imp, gv_t, tk_t]
      constructor
      · rintro ((z | z) | z)
        · exact .inl z
        · exact .inr (.inl ⟨z.1.symm, z.2⟩)
        · exact .inr (.inr z)
      · rintro (z | (z | z))
        · exact .inl (.inl z)
        · exact .inl (.inr ⟨z.1.symm, z.2⟩)
        · exact .inr z
    · simp only [Cx', List.mem_cons, exists_eq_or_imp, gv_t, tk_t]
      constructor
      · rintro (((z | z) | z) | z)
        · exact .inl z
        · exact .inr (.inl (.inl z.symm))
        · exact .inr (.inl (.inr z))
        · exact .inr (.inr z)
      · rintro (z | ((z | z) | z))
        · exact .inl (.inl (.inl z))
        · exact .inl (.inl (.inr z.symm))
        · exact .inl (.inr z)
        · exact .inr z
theorem strOk_name {x : Str} (h : isName (.str x) = true) : PyData.strOk x = true := by
  unfold PyData.strOk
  rw [Array.all_eq_true_iff_forall_mem]
  intro c hc
  have hc' : c ∈ x.cps.toList := Array.mem_toList_iff.2 hc
  have small : ∀ k, k ∈ lets ∨ k ∈ figs → k < 0x110000 := by
    intro k hk
    have a : lets.all (fun k => decide (k < 0x110000)) = true := by decide +kernel
    have b : figs.all (fun k => decide (k < 0x110000)) = true := by decide +kernel
    rcases hk with hk | hk
    · exact of_decide_eq_true (List.all_eq_true.1 a k hk)
    · exact of_decide_eq_true (List.all_eq_true.1 b k hk)
  have h' : (match x.cps.toList with
      | [] => false
      | c :: r => decide (r.length ≤ 7) && (decide (c ∈ lets) && (c :: r).all fun k => decide (k ∈ lets) || decide (k ∈ figs))) = true := h
  cases e : x.cps.toList with
  | nil => rw [e] at hc'; cases hc'
  | cons d r =>
    rw [e] at h' hc'
    simp only [Bool.and_eq_true, List.all_eq_true, Bool.or_eq_true, decide_eq_true_eq] at h'
    exact decide_eq_true (small c (h'.2.2 c hc'))
theorem names_shaped {l : List Str} (h : ∀ w ∈ l, PyData.strOk w = true) : SeqAt.shaped (.list (l.map .str)) = true := by
  have a : PyData.canLayAll0 (l.map .str) = true ∧ PyData.depthAll (l.map .str) = 0 := by
    induction l with
    | nil => simp [PyData.canLayAll0, PyData.depthAll]
    | cons c l ih =>
      have := ih fun k hk => h k (by simp [hk])
      simp [PyData.canLayAll0, PyData.depthAll, this, PyData.canLay0, PyData.depth, h c (by simp)]
  simp [SeqAt.shaped, PyData.canLay0, PyData.depth, a]
theorem cx_ok {xs : List D} (h : xs.all treatyP = true) {n : Str} (hn : Cx' xs n) : PyData.strOk n = true := by
  obtain ⟨d, hd, hn⟩ := hn
  obtain ⟨nm, g, a, b, kd, pr, ps, rfl, p1, _, _, hg⟩ := treatyP_is (List.all_eq_true.1 h d hd)
  simp only [gv_t, tk_t] at hn
  rcases hn with rfl | hn
  · exact strOk_name hg
  · obtain ⟨p, hp, rfl⟩ := List.mem_map.1 hn
    obtain ⟨n, i, rfl, h1, _⟩ := pairP_is (List.all_eq_true.1 p1 p hp)
    exact strOk_name h1
theorem nin_txts (x : Str) (l : List Str) : ninD (.str x) (.list (l.map .str)) = some (!decide (x ∈ l)) := ninD_of (in_txts x l)
/-- a comprehension of texts that keeps some -/
theorem lc_keep {i : Nat} {ρ : List S} {cs : Store} {t : List S → M Bool} {e : List S → M S} (p : Str → Bool) (l : List Str) (hl : l.length ≤ 100000) (ht : ∀ x ∈ l, t (ρ.set i (.d (.str x))) cs = .ok (p x) cs) (he : ∀ x ∈ l, e (ρ.set i (.d (.str x))) cs = .ok (.d (.str x)) cs) :
    lcL (gtN i) t e ρ (l.map .str) [] cs = .ok (.own (.lst ((l.filter p).map .str))) cs := by
  have q := lcL_pure (cs := cs) (tg := gtN i) (t := t) (f := e) (ρ := ρ) (fun y => ρ.set i (.d y)) (fun y => match y with
    | .str x => p x
    | _ => false) id (l.map .str) [] (fun y hy => by
    obtain ⟨x, hx, rfl⟩ := List.mem_map.1 hy
    exact ⟨rfl, ht x hx, fun _ => he x hx⟩) (by simp; exact size_ok (by omega))
  rw [List.nil_append, List.filter_map, List.map_id] at q
  exact q
section
variable {xs : List D} {ks : List Str} {f : Str → List Str} {bd : Nat} (h : GI (Rx xs) (Cx' xs) ks f bd) (hx : xs.all treatyP = true) (hb : bd ≤ 63)
include h hx hb
theorem give_step {T s2 s3 s4 s6 s7 : S} {found : List Str} (hl : found.length ≤ 1000) :
    ((∀ n, Cx' xs n → n ∉ found → ∃ g, Rx xs g n ∧ g ∉ found) ∧ (gSeq (sSet 6 (eFrz (eLc (iAnyM (eSortK (eV 1))) (gtN 3) (op2 ninD (eV 3) (eV 5)) (eV 3) [3])))
      (gSeq (sSet 6 (eFrz (eLc (iAnyM (eV 6)) (gtN 3) (op2 eqD (eFrz (eLc (iAnyM (eIxK (eV 1) (eV 3))) (gtN 7) (op2 ninD (eV 7) (eV 5)) (eV 7) [7])) (eFrz (eLst aNil))) (eV 3) [3])))
      (gSeq (sIf (tNotM (tT (eV 6))) (sRet (eRv (eC .none))) gNil)
      (sExp (eMt appG (eV 5) (aCons (eBin ixD (eV 6) (eC (.int (0)))) aNil)))))) [T, .cel 0, s2, s3, s4, .cel 1, s6, s7] [.dK (mkD ks f), .lst (found.map .str)] = .rt (.d .none) [.dK (mkD ks f), .lst (found.map .str)]) ∨
    ∃ n s6', Cx' xs n ∧ n ∉ found ∧ (∀ g, Rx xs g n → g ∈ found) ∧ (gSeq (sSet 6 (eFrz (eLc (iAnyM (eSortK (eV 1))) (gtN 3) (op2 ninD (eV 3) (eV 5)) (eV 3) [3])))
      (gSeq (sSet 6 (eFrz (eLc (iAnyM (eV 6)) (gtN 3) (op2 eqD (eFrz (eLc (iAnyM (eIxK (eV 1) (eV 3))) (gtN 7) (op2 ninD (eV 7) (eV 5)) (eV 7) [7])) (eFrz (eLst aNil))) (eV 3) [3])))
      (gSeq (sIf (tNotM (tT (eV 6))) (sRet (eRv (eC .none))) gNil)
      (sExp (eMt appG (eV 5) (aCons (eBin ixD (eV 6) (eC (.int (0)))) aNil)))))) [T, .cel 0, s2, s3, s4, .cel 1, s6, s7] [.dK (mkD ks f), .lst (found.map .str)] = .nx [T, .cel 0, s2, s3, s4, .cel 1, s6', s7] [.dK (mkD ks f), .lst ((found ++ [n]).map .str)] := by
  have kl := h.ln
  have sl : (sortT ks).length = ks.length := (sortT_perm ks).length_eq
  have sm : ∀ n, n ∈ sortT ks ↔ n ∈ ks := fun n => (sortT_perm ks).mem_iff
  have key : sortKT ((mkD ks f).map (fun q : Key × D => q.1)) = some ks := by
    rw [show (mkD ks f).map (fun q : Key × D => q.1) = ks.map Sum.inr from by simp [mkD, List.map_map, Function.comp_def]]
    exact sortKT_map ks
  have k64 : ks.length < 64 := by omega
  have l1 := lc_keep (i := 3) (ρ := [T, .cel 0, s2, .no, s4, .cel 1, s6, s7]) (cs := [.dK (mkD ks f), .lst (found.map .str)]) (t := op2 ninD (eV 3) (eV 5)) (e := eV 3) (fun x => !decide (x ∈ found)) (sortT ks) (by omega) (fun x _ => by simp [nin_txts, -ninD_of]) (fun x _ => by simp)
  generalize hr1 : (sortT ks).filter (fun x => !decide (x ∈ found)) = r1 at l1
  have r1m : ∀ n, n ∈ r1 ↔ n ∈ ks ∧ n ∉ found := fun n => by rw [← hr1, List.mem_filter, sm]; simp
  have r1l : r1.length ≤ ks.length := by rw [← hr1, ← sl]; exact List.length_filter_le _ _
  have inner : ∀ n ∈ r1, ∀ s6 : S, lcL (gtN 7) (op2 ninD (eV 7) (eV 5)) (eV 7) [T, .cel 0, s2, .d (.str n), s4, .cel 1, s6, .no] ((f n).map .str) [] [.dK (mkD ks f), .lst (found.map .str)] = .ok (.own (.lst (((f n).filter fun x => !decide (x ∈ found)).map .str))) [.dK (mkD ks f), .lst (found.map .str)] := fun n _ s6 =>
    lc_keep (i := 7) (ρ := [T, .cel 0, s2, .d (.str n), s4, .cel 1, s6, .no]) (fun x => !decide (x ∈ found)) (f n) (by have := h.fl n; omega) (fun x _ => by simp [nin_txts, -ninD_of]) (fun x _ => by simp)
  have l2 := lc_keep (i := 3) (ρ := [T, .cel 0, s2, .no, s4, .cel 1, .d (.list (r1.map .str)), s7]) (cs := [.dK (mkD ks f), .lst (found.map .str)]) (t := op2 eqD (eFrz (eLc (iAnyM (eIxK (eV 1) (eV 3))) (gtN 7) (op2 ninD (eV 7) (eV 5)) (eV 7) [7])) (eFrz (eLst aNil))) (e := eV 3) (fun x => ((f x).filter fun y => !decide (y ∈ found)).isEmpty) r1 (by omega) (fun n hn => by
    have hk := ((r1m n).1 hn).1
    have dv : dvK (mkD ks f) (Sum.inr n) = some (.list ((f n).map .str)) := by rw [dvK_mk, if_pos hk]
    have i1 := inner n hn (.d (.list (r1.map .str)))
    have sh := names_shaped (l := (f n).filter fun y => !decide (y ∈ found)) (fun w hw => by
      have hw' := (List.mem_filter.1 hw).1
      exact cx_ok hx (rx_cx w n ((h.fm w n).1 hw')))
    have en := eq_nil sh
    generalize hk2 : (f n).filter (fun y => !decide (y ∈ found)) = fl at *
    have em : (fl.map PyData.str).isEmpty = fl.isEmpty := by cases fl <;> rfl
    rw [em] at en
    generalize mkD ks f = kv at *
    simp [dv, i1, en]) (fun x _ => by simp)
  generalize hr2 : r1.filter (fun x => ((f x).filter fun y => !decide (y ∈ found)).isEmpty) = r2 at l2
  have r2m : ∀ n, n ∈ r2 ↔ n ∈ ks ∧ n ∉ found ∧ ∀ g, Rx xs g n → g ∈ found := fun n => by
    rw [← hr2, List.mem_filter, r1m, and_assoc]
    refine and_congr Iff.rfl (and_congr Iff.rfl ?_)
    rw [List.isEmpty_iff, List.filter_eq_nil_iff]
    constructor
    · intro z g hg
      have := z g ((h.fm g n).2 hg)
      simpa using this
    · intro z g hg
      have := z g ((h.fm g n).1 hg)
      simpa using this
  have m1 : ∀ s, (sortT ks).map PyData.str = s → s = s := fun s _ => rfl
  have fl1 : found.length < sizeLine := size_lt (by omega)
  have fl2 : found.length ≤ sizeLine := size_ok (by omega)
  generalize hkv : mkD ks f = kv at *
  cases r2 with
  | nil =>
    left
    refine ⟨fun n hc hf => Classical.byContradiction fun z => ?_, ?_⟩
    · have : n ∈ ([] : List Str) := (r2m n).2 ⟨(h.mem n).2 hc, hf, fun g hg => Classical.byContradiction fun y => z ⟨g, hg, y⟩⟩
      cases this
    · simp [key, k64, l1, l2]
  | cons n r =>
    right
    obtain ⟨a1, a2, a3⟩ := (r2m n).1 (by simp)
    refine ⟨n, .d (.list ((n :: r).map .str)), (h.mem n).1 a1, a2, a3, ?_⟩
    simp only [List.map_cons] at l2
    simp [key, k64, l1, l2, fl1, fl2]
theorem give_loop {T s2 s3 s4 s7 : S} : ∀ (n : Nat) (found : List Str) (s6 : S), ks.length < n + found.length → OkF (Rx xs) ks found →
    (¬ (∀ n, Cx' xs n → Acc (Rx xs) n) ∧ ∃ cs', gWhile (op2 ltD (eCd lenG (aCons (eV 5) aNil)) (eLenK (eV 1))) (gSeq (sSet 6 (eFrz (eLc (iAnyM (eSortK (eV 1))) (gtN 3) (op2 ninD (eV 3) (eV 5)) (eV 3) [3])))
      (gSeq (sSet 6 (eFrz (eLc (iAnyM (eV 6)) (gtN 3) (op2 eqD (eFrz (eLc (iAnyM (eIxK (eV 1) (eV 3))) (gtN 7) (op2 ninD (eV 7) (eV 5)) (eV 7) [7])) (eFrz (eLst aNil))) (eV 3) [3])))
      (gSeq (sIf (tNotM (tT (eV 6))) (sRet (eRv (eC .none))) gNil)
      (sExp (eMt appG (eV 5) (aCons (eBin ixD (eV 6) (eC (.int (0)))) aNil)))))) n [T, .cel 0, s2, s3, s4, .cel 1, s6, s7] [.dK (mkD ks f), .lst (found.map .str)] = .rt (.d .none) cs') ∨
    ((∀ n, Cx' xs n → Acc (Rx xs) n) ∧ ∃ s6' l, gWhile (op2 ltD (eCd lenG (aCons (eV 5) aNil)) (eLenK (eV 1))) (gSeq (sSet 6 (eFrz (eLc (iAnyM (eSortK (eV 1))) (gtN 3) (op2 ninD (eV 3) (eV 5)) (eV 3) [3])))
      (gSeq (sSet 6 (eFrz (eLc (iAnyM (eV 6)) (gtN 3) (op2 eqD (eFrz (eLc (iAnyM (eIxK (eV 1) (eV 3))) (gtN 7) (op2 ninD (eV 7) (eV 5)) (eV 7) [7])) (eFrz (eLst aNil))) (eV 3) [3])))
      (gSeq (sIf (tNotM (tT (eV 6))) (sRet (eRv (eC .none))) gNil)
      (sExp (eMt appG (eV 5) (aCons (eBin ixD (eV 6) (eC (.int (0)))) aNil)))))) n [T, .cel 0, s2, s3, s4, .cel 1, s6, s7] [.dK (mkD ks f), .lst (found.map .str)] = .nx [T, .cel 0, s2, s3, s4, .cel 1, s6', s7] [.dK (mkD ks f), .lst l])
  | 0, found, s6, hn, ok => by
    have := nodup_len found ks ok.nd ok.sub
    omega
  | n + 1, found, s6, hn, ok => by
    have fle := nodup_len found ks ok.nd ok.sub
    have kl := h.ln
    have lk := mkD_len ks f
    rw [gWhile_succ]
    have cond : op2 ltD (eCd lenG (aCons (eV 5) aNil)) (eLenK (eV 1)) [T, .cel 0, s2, s3, s4, .cel 1, s6, s7] [.dK (mkD ks f), .lst (found.map .str)] = .ok (decide ((found.length : Int) < ks.length)) [.dK (mkD ks f), .lst (found.map .str)] := by
      generalize mkD ks f = kv at *
      simp [lk]
    rw [stp_, cond]
    by_cases c : found.length < ks.length
    · have c' : decide ((found.length : Int) < ks.length) = true := by simp; omega
      rw [c']
      simp only [if_true]
      rcases give_step h hx hb (T := T) (s2 := s2) (s3 := s3) (s4 := s4) (s6 := s6) (s7 := s7) (found := found) (by omega) with ⟨a1, a2⟩ | ⟨m, s6', a1, a2, a3, a4⟩
      · rw [a2]
        refine .inl ⟨fun hA => ?_, _, rfl⟩
        have all : ∀ x ∈ ks, x ∈ found := fun x hx' => Classical.byContradiction fun y => stuck_not rx_cx a1 (hA x ((h.mem x).1 hx')) ((h.mem x).1 hx') y
        have := nodup_len ks found h.nd all
        omega
      · rw [a4]
        exact give_loop n (found ++ [m]) s6' (by simp; omega) ⟨(List.perm_append_singleton m found).nodup_iff.2 (List.nodup_cons.2 ⟨a2, ok.nd⟩), fun x hx' => by
            rcases List.mem_append.1 hx' with z | z
            · exact ok.sub x z
            · rw [List.mem_singleton.1 z]; exact (h.mem m).2 a1, fun x hx' => by
            rcases List.mem_append.1 hx' with z | z
            · exact ok.acc x z
            · rw [List.mem_singleton.1 z]; exact Acc.intro m fun g hg => ok.acc g (a3 g hg)⟩
    · have c' : decide ((found.length : Int) < ks.length) = false := by simp; omega
      rw [c']
      refine .inr ⟨fun n hc => ok.acc n (full_of_len ok.nd h.nd ok.sub (by omega) n ((h.mem n).2 hc)), s6, _, rfl⟩
end
theorem givers_ {xs : List D} (hx : xs.all treatyP = true) (hl : xs.length ≤ 7) : ((¬ ∀ n, Cx' xs n → Acc (Rx xs) n) ∧ F_givers_first [.d (.tuple xs)] [] = .ok (.d .none) []) ∨ ((∀ n, Cx' xs n → Acc (Rx xs) n) ∧ ∃ l, F_givers_first [.d (.tuple xs)] [] = .ok (.own (.lst l)) []) := by
  have g0 : GI (fun _ _ => False) (fun _ => False) [] (fun _ => []) 0 := ⟨List.nodup_nil, by simp, by simp, by simp, by simp, by simp⟩
  obtain ⟨ks, f, s2, s3, s4, e, g⟩ := give_out (T := .d (.tuple xs)) (s5 := .no) (s6 := .no) (s7 := .no) xs _ _ [] (fun _ => []) 0 .no .no .no hx (by omega) g0
  have g' : GI (Rx xs) (Cx' xs) ks f 63 := g.congr (by simp) (by simp) (by omega)
  have kl := g'.ln
  rw [show mkD [] (fun _ => []) = [] from rfl] at e
  rcases give_loop g' hx (by omega) (T := .d (.tuple xs)) (s2 := s2) (s3 := s3) (s4 := s4) (s7 := .no) 100 [] .no (by simp; omega) ⟨List.nodup_nil, by simp, by simp⟩ with ⟨a1, cs', a2⟩ | ⟨a1, s6', l, a2⟩
  · refine .inl ⟨a1, ?_⟩
    unfold F_givers_first B_givers_first
    simp only [List.map_nil] at a2
    generalize mkD ks f = kv at *
    simp [e, sWhile, a2]
  · refine .inr ⟨a1, l, ?_⟩
    unfold F_givers_first B_givers_first
    simp only [List.map_nil] at a2
    generalize mkD ks f = kv at *
    simp [e, sWhile, a2, fin_cel]
/-! the law's rows of companies -/
theorem firstsI {i : Nat} {e : List S → M S} {ρ : List S} {cs : Store} {ps : List D} (h : ps.all pairP = true) (he : e = eBin ixD (eV i) (eC (.int (0)))) (hi : ∀ x, (ρ.set i x)[i]? = some x) (hl : ps.length ≤ 10000) : lcL (gtN i) tYesM e ρ ps [] cs = .ok (.own (.lst ((ps.map fst0).map .str))) cs := by
  subst he
  have q := lcL_pure (cs := cs) (tg := gtN i) (t := tYesM) (f := eBin ixD (eV i) (eC (.int (0)))) (ρ := ρ) (fun y => ρ.set i (.d y)) (fun _ => true) (fun x => .str (fst0 x)) ps [] (fun x hx => by
    obtain ⟨n, k, rfl, _⟩ := pairP_is (List.all_eq_true.1 h x hx)
    exact ⟨rfl, by simp, fun _ => by simp [hi, fst0]⟩) (by simp; exact size_ok (by omega))
  rw [List.filter_eq_self.2 (by simp)] at q
  simpa [List.map_map, Function.comp_def] using q
theorem takers_loop {T : S} : ∀ (xs : List D) (acc : List Str) (s2 s3 : S), xs.all treatyP = true → acc.length + 8 * xs.length ≤ 1000 →
    ∃ s2', gFor (gtN 2) (sSet 1 (eBin addD (eV 1) (eFrz (eLc (iAnyM (eBin ixD (eV 2) (eC (.int (5))))) (gtN 3) tYesM (eBin ixD (eV 3) (eC (.int (0)))) [3])))) xs [T, .d (.list (acc.map .str)), s2, s3] [] = .nx [T, .d (.list ((acc ++ xs.flatMap tk).map .str)), s2', s3] []
  | [], acc, s2, s3, _, _ => ⟨s2, by simp⟩
  | x :: xs, acc, s2, s3, hx, hb => by
    rw [List.all_cons, Bool.and_eq_true] at hx
    rw [List.length_cons] at hb
    obtain ⟨nm, g, a, b, kd, pr, ps, rfl, p1, p2, _⟩ := treatyP_is hx.1
    obtain ⟨s2', e⟩ := takers_loop (T := T) xs (acc ++ ps.map fst0) (.d (tD nm g a b kd pr ps)) s3 hx.2 (by simp; omega)
    refine ⟨s2', ?_⟩
    have f1 := firstsI (i := 3) (ρ := [T, .d (.list (acc.map .str)), .d (tD nm g a b kd pr ps), .no]) (cs := []) p1 rfl (by simp) (by omega)
    have l1 : acc.length + ps.length ≤ sizeLine := size_ok (by omega)
    rw [gFor_cons, show (tD nm g a b kd pr ps :: xs).flatMap tk = ps.map fst0 ++ xs.flatMap tk from rfl, ← List.append_assoc, ← e]
    rw [List.map_append]
    generalize hns : ps.map fst0 = ns at *
    have l2 : acc.length + ns.length ≤ sizeLine := by rw [← hns, List.length_map]; exact l1
    simp [f1, l2]
theorem takers_ {xs : List D} (hx : xs.all treatyP = true) (hl : xs.length ≤ 12) : F__law_takers [.d (.tuple xs)] [] = .ok (.d (.list ((xs.flatMap tk).map .str))) [] := by
  obtain ⟨s2, e⟩ := takers_loop (T := .d (.tuple xs)) xs [] .no .no hx (by simp; omega)
  simp only [List.map_nil, List.nil_append] at e
  unfold F__law_takers B__law_takers
  simp [e]
def gsL (xs : List D) (n : Str) : List Str := (xs.filter fun d => decide (n ∈ tk d)).map gv
theorem gsL_mem (xs : List D) (g n : Str) : g ∈ gsL xs n ↔ Rx xs g n := by
  simp only [gsL, Rx, List.mem_map, List.mem_filter, decide_eq_true_eq]
  constructor
  · rintro ⟨d, ⟨h1, h2⟩, h3⟩; exact ⟨d, h1, h3, h2⟩
  · rintro ⟨d, h1, h3, h2⟩; exact ⟨d, ⟨h1, h2⟩, h3⟩
theorem fourths {i : Nat} {ρ : List S} {cs : Store} {xs : List D} {t : List S → M Bool} (p : D → Bool) (hx : xs.all treatyP = true) (hi : ∀ x, (ρ.set i x)[i]? = some x) (hl : xs.length ≤ 10000) (ht : ∀ x ∈ xs, t (ρ.set i (.d x)) cs = .ok (p x) cs) : lcL (gtN i) t (eBin ixD (eV i) (eC (.int (4)))) ρ xs [] cs = .ok (.own (.lst (((xs.filter p).map gv).map .str))) cs := by
  have q := lcL_pure (cs := cs) (tg := gtN i) (t := t) (f := eBin ixD (eV i) (eC (.int (4)))) (ρ := ρ) (fun y => ρ.set i (.d y)) p (fun x => .str (gv x)) xs [] (fun x hx' => by
    obtain ⟨nm, g, a, b, kd, pr, ps, rfl, p1, p2, _⟩ := treatyP_is (List.all_eq_true.1 hx x hx')
    exact ⟨rfl, ht _ hx', fun _ => by simp [hi]⟩) (by simp; exact size_ok (by omega))
  simpa [List.map_map, Function.comp_def] using q
theorem eCd_one {g : List D → Option D} {f : List S → M S} {ρ : List S} {cs cs' : Store} {x d : D} (h : f ρ cs = .ok (.d x) cs') (hg : g [x] = some d) : eCd g (aCons f aNil) ρ cs = .ok (.d d) cs' := by
  simp [h, hg]
theorem sFor_of {tg : D → List S → Option (List S)} {it : List S → M (List D)} {body : G} {ρ : List S} {cs cs1 : Store} {xs : List D} {o : Out} (h1 : it ρ cs = .ok xs cs1) (h2 : gFor tg body xs ρ cs1 = o) : sFor tg it body ρ cs = o := by
  simp [h1, h2]
theorem gSeq_of {g h : G} {ρ ρ' : List S} {cs cs' : Store} {o : Out} (h1 : g ρ cs = .nx ρ' cs') (h2 : h ρ' cs' = o) : gSeq g h ρ cs = o := by
  rw [gSeq_, h1]; exact h2
theorem iRngNat {f : List S → M S} {ρ : List S} {cs : Store} {n : Nat} (h : f ρ cs = .ok (.d (.int (n : Int))) cs) (hn : n ≤ 1000000) : iRng f ρ cs = .ok (rngD 0 n) cs := by
  have a : -(2 ^ 62) ≤ (n : Int) ∧ (n : Int) < 2 ^ 62 := ⟨by omega, by omega⟩
  rw [iRng_]
  unfold bnd
  rw [h]
  show (if -(2 ^ 62) ≤ (n : Int) ∧ (n : Int) < 2 ^ 62 then ret (rngD 0 (n : Int).toNat) else stuck) cs = _
  rw [if_pos a, Int.toNat_natCast]
  rfl
section
variable {xs : List D} (hx : xs.all treatyP = true) (hl : xs.length ≤ 12) {left : List Str}
include hx hl
theorem pass_step {s1 s4 s6 s7 s8 s9 L : S} {c : Str} {found : List Str} (hf : found.length ≤ 1000) : ∃ s6', (gSeq (sSet 6 (eFrz (eLc (iAnyM (eV 0)) (gtN 7) (op2 inD (eV 5) (eFrz (eLc (iAnyM (eBin ixD (eV 7) (eC (.int (5))))) (gtN 8) tYesM (eBin ixD (eV 8) (eC (.int (0)))) [8]))) (eBin ixD (eV 7) (eC (.int (4)))) [7])))
        (sIf (tAndM (op2 ninD (eV 5) (eV 3)) (op2 eqD (eCd lenG (aCons (eFrz (eLc (iAnyM (eV 6)) (gtN 9) (op2 ninD (eV 9) (eV 3)) (eV 9) [9])) aNil)) (eC (.int (0))))) (sExp (eMt appG (eV 3) (aCons (eV 5) aNil))) gNil)) [.d (.tuple xs), s1, L, .cel 0, s4, .d (.str c), s6, s7, s8, s9] [.lst (found.map .str)] = .nx [.d (.tuple xs), s1, L, .cel 0, s4, .d (.str c), s6', s7, s8, s9] [.lst ((if c ∉ found ∧ ∀ g ∈ gsL xs c, g ∈ found then found ++ [c] else found).map .str)] := by
  refine ⟨.d (.list ((gsL xs c).map .str)), ?_⟩
  have l1 := fourths (i := 7) (ρ := [.d (.tuple xs), s1, L, .cel 0, s4, .d (.str c), s6, .no, s8, s9]) (cs := [.lst (found.map .str)]) (t := op2 inD (eV 5) (eFrz (eLc (iAnyM (eBin ixD (eV 7) (eC (.int (5))))) (gtN 8) tYesM (eBin ixD (eV 8) (eC (.int (0)))) [8]))) (fun d => decide (c ∈ tk d)) hx (by simp) (by omega) (fun x hx' => by
    obtain ⟨nm, g, a, b, kd, pr, ps, rfl, p1, p2, _⟩ := treatyP_is (List.all_eq_true.1 hx x hx')
    have f1 := firstsI (i := 8) (ρ := [.d (.tuple xs), s1, L, .cel 0, s4, .d (.str c), s6, .d (tD nm g a b kd pr ps), .no, s9]) (cs := [.lst (found.map .str)]) p1 rfl (by simp) (by omega)
    have it := in_txts c (ps.map fst0)
    rw [tk_t]
    generalize ps.map fst0 = ns at *
    simp [f1, it, -inD_strL, -inD_str])
  have l2 := lc_keep (i := 9) (ρ := [.d (.tuple xs), s1, L, .cel 0, s4, .d (.str c), .d (.list ((gsL xs c).map .str)), s7, s8, .no]) (cs := [.lst (found.map .str)]) (t := op2 ninD (eV 9) (eV 3)) (e := eV 9) (fun x => !decide (x ∈ found)) (gsL xs c) (by
    unfold gsL
    rw [List.length_map]
    exact Nat.le_trans (List.length_filter_le _ _) (by omega)) (fun x _ => by simp [nin_txts, -ninD_of]) (fun x _ => by simp)
  rw [show (xs.filter fun d => decide (c ∈ tk d)).map gv = gsL xs c from rfl] at l1
  generalize hgs : gsL xs c = gs at *
  have al : (gs.filter fun x => !decide (x ∈ found)) = [] ↔ ∀ g ∈ gs, g ∈ found := by rw [List.filter_eq_nil_iff]; simp
  generalize (gs.filter fun x => !decide (x ∈ found)) = fl at *
  have nt := nin_txts c found
  have it := in_txts c found
  have fl1 : found.length < sizeLine := size_lt (by omega)
  have fl2 : found.length ≤ sizeLine := size_ok (by omega)
  by_cases c1 : c ∈ found
  · rw [if_neg (fun z => z.1 c1)]
    simp [l1, nt, c1, -ninD_of, -inD_strL, -inD_str]
  · cases fl with
    | nil =>
      rw [if_pos ⟨c1, al.1 rfl⟩]
      simp only [List.map_nil] at l2
      simp [l1, l2, nt, c1, fl1, fl2, -ninD_of, -inD_strL, -inD_str]
    | cons y fl =>
      rw [if_neg (fun z => by have := al.2 z.2; cases this)]
      have k0 : ¬ ((fl.length : Int) + 1 = 0) := by omega
      simp only [List.map_cons] at l2
      simp [l1, l2, nt, c1, k0, -ninD_of, -inD_strL, -inD_str]
theorem pass_loop {s1 s4 s7 s8 s9 L : S} : ∀ (l : List Str) (found : List Str) (s5 s6 : S), found.length + l.length ≤ 1000 → ∃ s5' s6', gFor (gtN 5) (gSeq (sSet 6 (eFrz (eLc (iAnyM (eV 0)) (gtN 7) (op2 inD (eV 5) (eFrz (eLc (iAnyM (eBin ixD (eV 7) (eC (.int (5))))) (gtN 8) tYesM (eBin ixD (eV 8) (eC (.int (0)))) [8]))) (eBin ixD (eV 7) (eC (.int (4)))) [7])))
        (sIf (tAndM (op2 ninD (eV 5) (eV 3)) (op2 eqD (eCd lenG (aCons (eFrz (eLc (iAnyM (eV 6)) (gtN 9) (op2 ninD (eV 9) (eV 3)) (eV 9) [9])) aNil)) (eC (.int (0))))) (sExp (eMt appG (eV 3) (aCons (eV 5) aNil))) gNil)) (l.map .str) [.d (.tuple xs), s1, L, .cel 0, s4, s5, s6, s7, s8, s9] [.lst (found.map .str)] = .nx [.d (.tuple xs), s1, L, .cel 0, s4, s5', s6', s7, s8, s9] [.lst ((pass (gsL xs) l found).map .str)]
  | [], found, s5, s6, _ => ⟨s5, s6, rfl⟩
  | c :: l, found, s5, s6, hf => by
    rw [List.length_cons] at hf
    obtain ⟨s6', e⟩ := pass_step hx hl (s1 := s1) (s4 := s4) (s6 := s6) (s7 := s7) (s8 := s8) (s9 := s9) (L := L) (c := c) (found := found) (by omega)
    have le : (if c ∉ found ∧ ∀ g ∈ gsL xs c, g ∈ found then found ++ [c] else found).length ≤ found.length + 1 := by split <;> simp
    obtain ⟨s5', s6'', e2⟩ := pass_loop (s1 := s1) (s4 := s4) (s7 := s7) (s8 := s8) (s9 := s9) (L := L) l (if c ∉ found ∧ ∀ g ∈ gsL xs c, g ∈ found then found ++ [c] else found) (.d (.str c)) s6' (by omega)
    refine ⟨s5', s6'', ?_⟩
    rw [List.map_cons, gFor_cons]
    simp only [gtN_, List.set_cons_succ, List.set_cons_zero]
    rw [e]
    exact e2
theorem pass_len : ∀ (l found : List Str), (pass (gsL xs) l found).length ≤ found.length + l.length
  | [], found => Nat.le_refl _
  | c :: l, found => by
    have le : (if c ∉ found ∧ ∀ g ∈ gsL xs c, g ∈ found then found ++ [c] else found).length ≤ found.length + 1 := by split <;> simp
    have ih := pass_len l (if c ∉ found ∧ ∀ g ∈ gsL xs c, g ∈ found then found ++ [c] else found)
    show (pass (gsL xs) l _).length ≤ _
    rw [List.length_cons]; omega
theorem turns_loop {s1 s7 s8 s9 : S} {left : List Str} (hll : left.length ≤ 200) (hnd : left.Nodup) : ∀ (js : List D) (found : List Str) (s4 s5 s6 : S), OkF (Rx xs) left found → ∃ s4' s5' s6', gFor (gtN 4) (sFor (gtN 5) (iAnyM (eV 2)) (gSeq (sSet 6 (eFrz (eLc (iAnyM (eV 0)) (gtN 7) (op2 inD (eV 5) (eFrz (eLc (iAnyM (eBin ixD (eV 7) (eC (.int (5))))) (gtN 8) tYesM (eBin ixD (eV 8) (eC (.int (0)))) [8]))) (eBin ixD (eV 7) (eC (.int (4)))) [7])))
        (sIf (tAndM (op2 ninD (eV 5) (eV 3)) (op2 eqD (eCd lenG (aCons (eFrz (eLc (iAnyM (eV 6)) (gtN 9) (op2 ninD (eV 9) (eV 3)) (eV 9) [9])) aNil)) (eC (.int (0))))) (sExp (eMt appG (eV 3) (aCons (eV 5) aNil))) gNil))) js [.d (.tuple xs), s1, .d (.list (left.map .str)), .cel 0, s4, s5, s6, s7, s8, s9] [.lst (found.map .str)] = .nx [.d (.tuple xs), s1, .d (.list (left.map .str)), .cel 0, s4', s5', s6', s7, s8, s9] [.lst ((passes (gsL xs) left js.length found).map .str)]
  | [], found, s4, s5, s6, _ => ⟨s4, s5, s6, rfl⟩
  | j :: js, found, s4, s5, s6, ok => by
    have fl := nodup_len found left ok.nd ok.sub
    obtain ⟨s5', s6', e⟩ := pass_loop hx hl (s1 := s1) (s4 := .d j) (s7 := s7) (s8 := s8) (s9 := s9) (L := .d (.list (left.map .str))) left found s5 s6 (by omega)
    obtain ⟨t4, t5, t6, e2⟩ := turns_loop (s1 := s1) (s7 := s7) (s8 := s8) (s9 := s9) hll hnd js (pass (gsL xs) left found) (.d j) s5' s6' (pass_ok (gsL_mem xs) left found (fun x h => h) ok).1
    refine ⟨t4, t5, t6, ?_⟩
    rw [gFor_cons]
    simp only [gtN_, List.set_cons_succ, List.set_cons_zero]
    simp [e]
    exact e2
def compL (xs : List D) : List Str := sortT (uqS [] (xs.map gv ++ xs.flatMap tk))
omit hx hl in
theorem comp_mem (xs : List D) (n : Str) : n ∈ compL xs ↔ Cx' xs n := by
  unfold compL
  rw [(sortT_perm _).mem_iff, uq_mem]
  simp only [List.not_mem_nil, false_or, List.mem_append, List.mem_map, List.mem_flatMap, Cx']
  constructor
  · rintro (⟨d, h1, h2⟩ | ⟨d, h1, h2⟩)
    · exact ⟨d, h1, .inl h2⟩
    · exact ⟨d, h1, .inr h2⟩
  · rintro ⟨d, h1, h2 | h2⟩
    · exact .inl ⟨d, h1, h2⟩
    · exact .inr ⟨d, h1, h2⟩
omit hx hl in
theorem comp_nd (xs : List D) : (compL xs).Nodup := (sortT_perm _).nodup_iff.2 (uq_nodup _ [] (by simp))
theorem names_len : (xs.map gv ++ xs.flatMap tk).length ≤ 9 * xs.length := by
  clear hl
  induction xs with
  | nil => simp
  | cons x xs ih =>
    rw [List.all_cons, Bool.and_eq_true] at hx
    have ih' := ih hx.2
    obtain ⟨nm, g, a, b, kd, pr, ps, rfl, p1, p2, _⟩ := treatyP_is hx.1
    simp only [List.length_append, List.length_map, List.length_cons, List.flatMap_cons, tk_t] at ih' ⊢
    omega
theorem comp_len : (compL xs).length ≤ 108 := by
  have h1 := names_len hx hl
  have h2 := uq_len (xs.map gv ++ xs.flatMap tk) []
  unfold compL
  rw [(sortT_perm _).length_eq]
  simp only [List.length_nil] at h2
  omega
theorem srt_comp : sortedSetG [.list ((xs.map gv).map .str ++ (xs.flatMap tk).map .str)] = some (.list ((compL xs).map .str)) := by
  have nl := names_len hx hl
  have h4 : (xs.map gv ++ xs.flatMap tk).length < 4000 := by omega
  have q := srt_txt h4
  rw [List.map_append] at q
  exact q
omit hx hl in
theorem ir_ (L : List Str) (h : L.length ≤ 1000) (T s1 : S) : iRng (eCd lenG (aCons (eV 2) aNil)) [T, s1, .d (.list (L.map .str)), .cel 0, .no, .no, .no, .no, .no, .no] [.lst []] = .ok (rngD 0 L.length) [.lst []] :=
  iRngNat (by simp) (Nat.le_trans h (by decide))
theorem in_order_ : F__law_in_order [.d (.tuple xs), .d (.list [])] [] = .ok (.own (.lst ((passes (gsL xs) (compL xs) (compL xs).length []).map .str))) [] := by
  have nl := names_len hx hl
  have cl := comp_len hx hl
  have l1 := fourths (i := 7) (ρ := [.d (.tuple xs), .d (.list []), .no, .no, .no, .no, .no, .no, .no, .no]) (cs := []) (t := tYesM) (fun _ => true) hx (by simp) (by omega) (fun _ _ => by simp)
  rw [List.filter_eq_self.2 (by simp)] at l1
  have tk1 := takers_ hx hl
  have st := srt_comp hx hl
  have n1 : (xs.map gv).length ≤ sizeLine := size_ok (by simp; omega)
  have n2 : (xs.map gv).length + (xs.flatMap tk).length ≤ sizeLine := size_ok (by rw [List.length_append] at nl; omega)
  have ir := ir_ (compL xs) (by omega) (.d (.tuple xs)) (.d (.list []))
  obtain ⟨s4, s5, s6, e⟩ := turns_loop hx hl (s1 := .d (.list [])) (s7 := .no) (s8 := .no) (s9 := .no) (left := compL xs) (by omega) (comp_nd xs) (rngD 0 (compL xs).length) [] .no .no .no ⟨List.nodup_nil, by simp, by simp⟩
  rw [show (rngD 0 (compL xs).length).length = (compL xs).length from by simp [rngD]] at e
  have a1 : eBin addD (eBin addD (eV 1) (eFrz (eLc (iAnyM (eV 0)) (gtN 7) tYesM (eBin ixD (eV 7) (eC (.int (4)))) [7]))) (eFrz (eCall F__law_takers (aCons (eV 0) aNil))) [.d (.tuple xs), .d (.list []), .no, .no, .no, .no, .no, .no, .no, .no] [] = .ok (.d (.list ((xs.map gv).map .str ++ (xs.flatMap tk).map .str))) [] := by
    generalize xs.map gv = G1 at *
    generalize xs.flatMap tk = G2 at *
    simp [l1, tk1, n1, n2]
  have a2 := eCd_one a1 st
  have a3 : sNew 3 (eLst aNil) [.d (.tuple xs), .d (.list []), .d (.list ((compL xs).map .str)), .no, .no, .no, .no, .no, .no, .no] [] = .nx [.d (.tuple xs), .d (.list []), .d (.list ((compL xs).map .str)), .cel 0, .no, .no, .no, .no, .no, .no] [.lst []] := by simp
  simp only [List.map_nil] at e
  have a4 := sFor_of ir e
  have a5 : sRet (eRv (eV 3)) [S.d (.tuple xs), .d (.list []), .d (.list ((compL xs).map .str)), .cel 0, s4, s5, s6, .no, .no, .no] [.lst ((passes (gsL xs) (compL xs) (compL xs).length []).map .str)] = .rt (.cel 0) [.lst ((passes (gsL xs) (compL xs) (compL xs).length []).map .str)] := by simp
  have a6 : sSet 2 (eCd sortedSetG (aCons (eBin addD (eBin addD (eV 1) (eFrz (eLc (iAnyM (eV 0)) (gtN 7) tYesM (eBin ixD (eV 7) (eC (.int (4)))) [7]))) (eFrz (eCall F__law_takers (aCons (eV 0) aNil)))) aNil)) [.d (.tuple xs), .d (.list []), .no, .no, .no, .no, .no, .no, .no, .no] [] = .nx [.d (.tuple xs), .d (.list []), .d (.list ((compL xs).map .str)), .no, .no, .no, .no, .no, .no, .no] [] := by
    rw [sSet_, stp_, a2]; rfl
  have a7 := gSeq_of a6 (gSeq_of a3 (gSeq_of a4 a5))
  unfold F__law_in_order
  rw [runG_]
  exact (congrArg (fin 0) a7).trans (by simp [fin_cel])
end
/-! all treaties -/
open Classical in
noncomputable def allA (xs : List D) : Bool := decide (∀ n, Cx' xs n → Acc (Rx xs) n)
theorem allA_iff (xs : List D) : allA xs = true ↔ ∀ n, Cx' xs n → Acc (Rx xs) n := by
  unfold allA
  exact @decide_eq_true_iff _ (Classical.propDecidable _)
noncomputable def TR (d : D) : Bool := match d with
  | .tuple xs => xs.all treatyP && (unl (xs.map nm1) && allA xs)
  | _ => false
theorem ones {i : Nat} {ρ : List S} {cs : Store} {xs : List D} (hx : xs.all treatyP = true) (hi : ∀ x, (ρ.set i x)[i]? = some x) (hl : xs.length ≤ 10000) : lcL (gtN i) tYesM (eBin ixD (eV i) (eC (.int (1)))) ρ xs [] cs = .ok (.own (.lst ((xs.map nm1).map .str))) cs := by
  have q := lcL_pure (cs := cs) (tg := gtN i) (t := tYesM) (f := eBin ixD (eV i) (eC (.int (1)))) (ρ := ρ) (fun y => ρ.set i (.d y)) (fun _ => true) (fun x => .str (nm1 x)) xs [] (fun x hx' => by
    obtain ⟨nm, g, a, b, kd, pr, ps, rfl, p1, p2, _⟩ := treatyP_is (List.all_eq_true.1 hx x hx')
    exact ⟨rfl, by simp, fun _ => by simp [hi]⟩) (by simp; exact size_ok (by omega))
  rw [List.filter_eq_self.2 (by simp)] at q
  simpa [List.map_map, Function.comp_def] using q
theorem filt_nil {xs : List D} (f : D → Bool) : (xs.filter fun x => !f x).isEmpty = xs.all f := by
  rw [Bool.eq_iff_iff]
  simp [List.filter_eq_nil_iff]
theorem are_treaties_ {xs : List D} (h : Sane yes (.tuple xs)) (hl : xs.length ≤ 7) : F_are_treaties [.d (.tuple xs)] [] = .ok (.d (.bool (TR (.tuple xs)))) [] := by
  have k1 : (0 : Int) ≤ xs.length := by omega
  have k2 : (xs.length : Int) ≤ 12 := by omega
  have lc := lcL_pure (cs := []) (tg := gtN 1) (t := tNotM (tT (eFrz (eCall F_is_treaty (aCons (eV 1) aNil))))) (f := eV 1) (ρ := [.d (.tuple xs), .no]) (fun y => [.d (.tuple xs), .d y]) (fun x => !treatyP x) id xs [] (fun x hx => ⟨rfl, by simp [(treaty_ (h.mem hx)).1], fun _ => by simp⟩) (by simp; exact size_ok (by omega))
  rw [List.nil_append, List.map_id] at lc
  have fn := filt_nil (xs := xs) treatyP
  generalize xs.filter (fun x => !treatyP x) = bad at lc fn
  cases q1 : xs.all treatyP with
  | false =>
    rw [q1] at fn
    have tr : TR (.tuple xs) = false := by simp [TR, q1]
    rw [tr]
    simp [F_are_treaties, B_are_treaties, is_tuple_, isTup, k1, k2, lc, fn]
  | true =>
    rw [q1] at fn
    have o := ones (i := 1) (ρ := [.d (.tuple xs), .no]) (cs := []) q1 (by simp) (by omega)
    have u := are_unlike_ (xs.map nm1) (by simp; omega)
    have gv' := givers_ q1 (by omega)
    have tr : TR (.tuple xs) = (unl (xs.map nm1) && allA xs) := by simp [TR, q1]
    rw [tr]
    generalize hns : xs.map nm1 = ns at o u ⊢
    cases q2 : unl ns with
    | false =>
      rw [q2] at u
      simp [F_are_treaties, B_are_treaties, is_tuple_, isTup, k1, k2, lc, fn, o, u]
    | true =>
      rw [q2] at u
      rcases gv' with ⟨a1, a2⟩ | ⟨a1, l, a2⟩
      · have dc : allA xs = false := by
          rw [Bool.eq_false_iff]; exact fun z => a1 ((allA_iff xs).1 z)
        rw [dc]
        simp [F_are_treaties, B_are_treaties, is_tuple_, isTup, k1, k2, lc, fn, o, u, a2]
      · have dc : allA xs = true := (allA_iff xs).2 a1
        rw [dc]
        simp [F_are_treaties, B_are_treaties, is_tuple_, isTup, k1, k2, lc, fn, o, u, a2]
theorem are_treaties_no {d : D} (h : ∀ xs, d ≠ .tuple xs) : F_are_treaties [.d d] [] = .ok (.d (.bool (TR d))) [] := by
  have ti : isTup d 0 12 = false := by
    cases d with
    | tuple xs => exact absurd rfl (h xs)
    | _ => rfl
  have tr : TR d = false := by
    cases d with
    | tuple xs => exact absurd rfl (h xs)
    | _ => rfl
  simp [F_are_treaties, B_are_treaties, is_tuple_, ti, tr]
theorem law_treaties_no {d : D} (h : ∀ xs, d ≠ .tuple xs) : F__law_are_treaties [.d d] [] = .ok (.d (.bool (TR d))) [] := by
  have ti := isa_tuple_ne h
  have tr : TR d = false := by
    cases d with
    | tuple xs => exact absurd rfl (h xs)
    | _ => rfl
  simp [F__law_are_treaties, B__law_are_treaties, ti, tr]
theorem law_treaties_ {xs : List D} (h : Sane yes (.tuple xs)) (hl : xs.length ≤ 7) : F__law_are_treaties [.d (.tuple xs)] [] = .ok (.d (.bool (TR (.tuple xs)))) [] := by
  have k2 : ¬ (12 : Int) < xs.length := by omega
  have fa := gFor_all (cs := []) (tg := gtN 1) (body := (sIf (tNotM (tT (eFrz (eCall F__law_is_treaty (aCons (eV 1) aNil))))) (sRet (eRv (eC (.bool false)))) gNil)) treatyP (.d (.bool false)) (fun ρ => ∃ s, ρ = [.d (.tuple xs), s, .no, .no]) xs [.d (.tuple xs), .no, .no, .no] ⟨_, rfl⟩ (fun x hx ρ1 hρ => by
    obtain ⟨s, rfl⟩ := hρ
    refine ⟨[.d (.tuple xs), .d x, .no, .no], rfl, ?_⟩
    have t := (treaty_ (h.mem hx)).2
    cases q : treatyP x with
    | true =>
      rw [q] at t
      exact .inl ⟨rfl, [.d (.tuple xs), .d x, .no, .no], by simp [t], _, rfl⟩
    | false =>
      rw [q] at t
      exact .inr ⟨rfl, by simp [t]⟩)
  rcases fa with ⟨a1, ρ', a2, s, rfl⟩ | ⟨a1, a2⟩
  · have o := ones (i := 1) (ρ := [.d (.tuple xs), .no, .no, .no]) (cs := []) a1 (by simp) (by omega)
    have l1 := fourths (i := 1) (ρ := [.d (.tuple xs), .no, .d (.list ((xs.map nm1).map .str)), .no]) (cs := []) (t := tYesM) (fun _ => true) a1 (by simp) (by omega) (fun _ _ => by simp)
    rw [List.filter_eq_self.2 (by simp)] at l1
    have tk1 := takers_ a1 (by omega)
    have st := srt_comp a1 (by omega)
    have io := in_order_ a1 (by omega)
    have nl := names_len a1 (by omega)
    have n1 : (xs.map gv).length + (xs.flatMap tk).length ≤ sizeLine := size_ok (by rw [List.length_append] at nl; omega)
    have u := fm_unl (xs.map nm1)
    have kk : kysD ((xs.map nm1).map .str) = some ((xs.map nm1).map Sum.inr) := kysD_str _
    have hl4 : (xs.map nm1).length < 4000 := by simp; omega
    have u2 : (((fmK ((xs.map nm1).map Sum.inr)).length : Int) == ((xs.map nm1).length : Int)) = unl (xs.map nm1) := by
      rw [← u, Bool.eq_iff_iff]; simp; omega
    have li := law_iff (C := Cx' xs) (gsL_mem xs) rx_cx (comp_mem xs) (comp_nd xs)
    have tr : TR (.tuple xs) = (unl (xs.map nm1) && allA xs) := by simp [TR, a1]
    have dc : allA xs = (((passes (gsL xs) (compL xs) (compL xs).length []).length : Int) == ((compL xs).length : Int)) := by
      rw [Bool.eq_iff_iff, allA_iff, ← li, beq_iff_eq]
      omega
    rw [tr, dc, ← u2]
    generalize passes (gsL xs) (compL xs) (compL xs).length [] = PS at *
    generalize compL xs = L at *
    generalize xs.map nm1 = ns at *
    have b1 : eBin addD (eFrz (eLc (iAnyM (eV 0)) (gtN 1) tYesM (eBin ixD (eV 1) (eC (.int (4)))) [1])) (eFrz (eCall F__law_takers (aCons (eV 0) aNil))) [.d (.tuple xs), s, .d (.list (ns.map .str)), .no] [] = .ok (.d (.list ((xs.map gv).map .str ++ (xs.flatMap tk).map .str))) [] := by
      generalize xs.map gv = G1 at *
      generalize xs.flatMap tk = G2 at *
      simp [l1, tk1, n1]
    have b2 := eCd_one b1 st
    have b3 : sSet 3 (eCd sortedSetG (aCons (eBin addD (eFrz (eLc (iAnyM (eV 0)) (gtN 1) tYesM (eBin ixD (eV 1) (eC (.int (4)))) [1])) (eFrz (eCall F__law_takers (aCons (eV 0) aNil)))) aNil)) [.d (.tuple xs), s, .d (.list (ns.map .str)), .no] [] = .nx [.d (.tuple xs), s, .d (.list (ns.map .str)), .d (.list (L.map .str))] [] := by
      rw [sSet_, stp_, b2]; rfl
    have b0 : sSet 2 (eFrz (eLc (iAnyM (eV 0)) (gtN 1) tYesM (eBin ixD (eV 1) (eC (.int (1)))) [1])) [.d (.tuple xs), s, .no, .no] [] = .nx [.d (.tuple xs), s, .d (.list (ns.map .str)), .no] [] := by simp [o]
    have bF : sFor (gtN 1) (iAnyM (eV 0)) (sIf (tNotM (tT (eFrz (eCall F__law_is_treaty (aCons (eV 1) aNil))))) (sRet (eRv (eC (.bool false)))) gNil) [.d (.tuple xs), .no, .no, .no] [] = .nx [.d (.tuple xs), s, .no, .no] [] := sFor_of (by simp) a2
    have bI : sIf (tOrM (tNotM (tT (eIsa "tuple" (eV 0)))) (op2 gtD (eCd lenG (aCons (eV 0) aNil)) (eC (.int (12))))) (sRet (eRv (eC (.bool false)))) gNil [.d (.tuple xs), .no, .no, .no] [] = .nx [.d (.tuple xs), .no, .no, .no] [] := by simp [k2]
    have bR : sRet (eRv (eAndM (eCmp eqD (eCd lenSetG (aCons (eV 2) aNil)) (eCd lenG (aCons (eV 2) aNil))) (eCmp eqD (eCd lenG (aCons (eFrz (eCall F__law_in_order (aCons (eV 0) (aCons (eFrz (eLst aNil)) aNil)))) aNil)) (eCd lenG (aCons (eV 3) aNil))))) [.d (.tuple xs), s, .d (.list (ns.map .str)), .d (.list (L.map .str))] [] = .rt (.d (.bool ((((fmK (ns.map Sum.inr)).length : Int) == (ns.length : Int)) && ((PS.length : Int) == (L.length : Int))))) [] := by
      cases q : (((fmK (ns.map Sum.inr)).length : Int) == (ns.length : Int)) with
      | false => simp [kk, hl4, q]
      | true => simp [kk, hl4, q, io]
    have fin' := gSeq_of bI (gSeq_of bF (gSeq_of b0 (gSeq_of b3 bR)))
    unfold F__law_are_treaties
    rw [runG_]
    exact (congrArg (fin 0) fin').trans (by simp)
  · have tr : TR (.tuple xs) = false := by simp [TR, a1]
    rw [tr]
    unfold F__law_are_treaties B__law_are_treaties
    simp [k2]
    rw [a2]
    simp
def SD (n : Nat) (d : D) : Prop := Sane yes d ∧ d.depth ≤ n
theorem SD.mono {m n : Nat} {d : D} (h : SD m d) (hl : m ≤ n) : SD n d := ⟨h.1, by have := h.2; omega⟩
theorem sd_lit (s : String) (h : (decide ((s : Str).length ≤ 1000) && yes s) = true) : SD 0 (.str s) := by
  simp only [Bool.and_eq_true, decide_eq_true_eq] at h
  exact ⟨⟨by simp [dAll, txOk, h], by simp [PyData.depth]⟩, by simp [PyData.depth]⟩
theorem sd_int (i : Int) : SD 0 (.int i) := ⟨Sane.int, by simp [PyData.depth]⟩
theorem sd_non : SD 0 .none := ⟨Sane.none, by simp [PyData.depth]⟩
theorem sd_bl (b : Bool) : SD 0 (.bool b) := ⟨Sane.bool, by simp [PyData.depth]⟩
theorem sd_tup {n : Nat} {xs : List D} (h : ∀ x ∈ xs, SD n x) (hn : n + 1 ≤ 60) : SD (n + 1) (.tuple xs) :=
  ⟨(sane_of hn h).1, by simp only [PyData.depth]; have := dep_le fun x hx => (h x hx).2; omega⟩
theorem sd_lst {n : Nat} {xs : List D} (h : ∀ x ∈ xs, SD n x) (hn : n + 1 ≤ 60) : SD (n + 1) (.list xs) :=
  ⟨(sane_of hn h).2, by simp only [PyData.depth]; have := dep_le fun x hx => (h x hx).2; omega⟩
theorem SD.mem {n : Nat} {xs : List D} {x : D} (h : SD (n + 1) (.tuple xs)) (hx : x ∈ xs) : SD n x :=
  ⟨h.1.mem hx, by have := h.2; simp only [PyData.depth] at this; have := dep_mem hx; omega⟩
theorem rngD_succ (i : Int) (n : Nat) : rngD i (n + 1) = .int i :: rngD (i + 1) n := by
  simp only [rngD, List.range_succ_eq_map, List.map_cons, List.map_map]
  congr 1
  · simp
  · refine List.map_congr_left fun k _ => ?_
    simp only [Function.comp]
    congr 1
    simp
    omega
/-! draws -/
def encP (p : Str × Int) : D := .tuple [.str p.1, .int p.2]
structure ShI (base order : List Str) (found : List (Str × Int)) (left : Int) (r : Nat) : Prop where
  ond : order.Nodup
  osub : ∀ n ∈ order, n ∈ base
  ol : r ≤ order.length
  fnd : (found.map (·.1)).Nodup
  fsub : ∀ p ∈ found, p.1 ∈ base
  dis : ∀ n ∈ order, n ∉ found.map (·.1)
  ll : (r : Int) ≤ left
  lh : left ≤ 10000
  sum : (found.map (·.2)).sum + left = 10000
  rng : ∀ p ∈ found, 1 ≤ p.2 ∧ p.2 ≤ 10000
theorem filt_len {l : List Str} {x : Str} (h : l.Nodup) (hx : x ∈ l) : (l.filter fun y => !(y == x)).length + 1 = l.length := by
  induction l with
  | nil => cases hx
  | cons y l ih =>
    obtain ⟨h1, h2⟩ := List.nodup_cons.1 h
    by_cases e : y = x
    · subst e
      have : l.filter (fun z => !(z == y)) = l := List.filter_eq_self.2 fun z hz => by
        have : z ≠ y := fun w => h1 (w ▸ hz)
        simpa using this
      simp [List.filter_cons, this]
    · have hx' : x ∈ l := by
        rcases List.mem_cons.1 hx with z | z
        · exact absurd z.symm e
        · exact z
      have := ih h2 hx'
      simp [List.filter_cons, e]
      omega
theorem ShI.step {base order : List Str} {found : List (Str × Int)} {left : Int} {r : Nat} (I : ShI base order found left (r + 1)) {x : Str} (hx : x ∈ order) {s : Int} (h1 : 1 ≤ s) (h2 : s ≤ left - r) : ShI base (order.filter fun y => !(y == x)) (found ++ [(x, s)]) (left - s) r := by
  have fl := filt_len I.ond hx
  have ol := I.ol
  have lh := I.lh
  have sm := I.sum
  refine ⟨I.ond.sublist List.filter_sublist, fun n hn => I.osub n (List.mem_filter.1 hn).1, by omega, ?_, fun p hp => ?_, fun n hn => ?_, by omega, by omega, ?_, fun p hp => ?_⟩
  · rw [List.map_append, List.map_cons, List.map_nil]
    exact (List.perm_append_singleton x _).nodup_iff.2 (List.nodup_cons.2 ⟨I.dis x hx, I.fnd⟩)
  · rcases List.mem_append.1 hp with hp | hp
    · exact I.fsub p hp
    · rw [List.mem_singleton.1 hp]; exact I.osub x hx
  · obtain ⟨a1, a2⟩ := List.mem_filter.1 hn
    rw [List.map_append, List.map_cons, List.map_nil, List.mem_append, List.mem_singleton]
    rintro (z | z)
    · exact I.dis n a1 z
    · subst z; simp at a2
  · rw [List.map_append, List.map_cons, List.map_nil, List.sum_append]
    simp
    omega
  · rcases List.mem_append.1 hp with hp | hp
    · exact I.rng p hp
    · rw [List.mem_singleton.1 hp]
      have := I.ll
      constructor
      · exact h1
      · show s ≤ 10000
        have : (0 : Int) ≤ r := by omega
        omega
section
variable {nums : List Int} (hI : InR nums)
include hI
theorem amount_ (k : Nat) (hk : k < 100000000) (c : Store) : ∃ a : Int, 1 ≤ a ∧ a ≤ 4000 ∧ callC F__law_amount [.cel 0] (DSc nums k c) = .ok (.d (.int a)) (DSc nums (k + 2) c) := by
  obtain ⟨_, ⟨a, rfl, a1, a2⟩, ha⟩ := atI_mod (xs := [.int 1, .int 2, .int 5, .int 10, .int 20, .int 50, .int 100, .int 7, .int 64, .int 1000]) (P := fun x => ∃ i, x = .int i ∧ 1 ≤ i ∧ i ≤ 1000) (dr nums k) 10 rfl (by decide) (by simp)
  have d0 : ∀ c, callC F__law_draw [.cel 0] (DSc nums k c) = .ok (.d (.int (dr nums k))) (DSc nums (k + 1) c) := fun c => drc hI (by omega) _ rfl
  have d1 : ∀ c, callC F__law_draw [.cel 0] (DSc nums (k + 1) c) = .ok (.d (.int (dr nums (k + 1)))) (DSc nums (k + 2) c) := fun c => drc hI (by omega) _ rfl
  have b1 : 0 ≤ dr nums (k + 1) % 4 := Int.emod_nonneg _ (by decide)
  have b2 : dr nums (k + 1) % 4 < 4 := Int.emod_lt_of_pos _ (by decide)
  generalize hv : dr nums (k + 1) % 4 = v at b1 b2
  have m : mulD (.int a) (.int (1 + v)) = some (.int (a * (1 + v))) := mulD_lt (Nat.lt_of_le_of_lt (m := 1000) (by omega) (by decide)) (Nat.lt_of_le_of_lt (m := 4) (by omega) (by decide))
  have p1 : 1 ≤ a * (1 + v) := by
    have : 1 * 1 ≤ a * (1 + v) := Int.mul_le_mul a1 (by omega) (by omega) (by omega)
    omega
  have p2 : a * (1 + v) ≤ 1000 * 4 := Int.mul_le_mul a2 (by omega) (by omega) (by omega)
  refine ⟨a * (1 + v), p1, by omega, callC_DS rfl ?_⟩
  simp [F__law_amount, B__law_amount, d0, d1, ha, hv, m, -callC_, -mulD_int]
theorem shares_loop {base : List Str} {s1 : S} {many : Nat} (hm : many ≤ 100) : ∀ (r j : Nat) (order : List Str) (found : List (Str × Int)) (left : Int) (k : Nat) (s6 s7 s8 : S), j + r = many → ShI base order found left r → found.length + r ≤ 1000 → order.length ≤ 1000 → k + 2 * r < 10000000 →
    ∃ order' found' k' s6' s7' s8', gFor (gtN 6) (gSeq (sSet 7 (eBin ixD (eV 3) (eBin modD (eFrz (eCallC F__law_draw (aCons (eV 0) aNil))) (eCd lenG (aCons (eV 3) aNil)))))
      (gSeq (sSet 3 (eFrz (eLc (iAnyM (eV 3)) (gtN 9) (op2 neD (eV 9) (eV 7)) (eV 9) [9])))
      (gSeq (sSet 8 (eV 5))
      (gSeq (sIf (op2 ltD (eV 6) (eBin subD (eV 2) (eC (.int (1))))) (gSeq (sSet 8 (eBin ixD (eFrz (eLst (aCons (eC (.int (5000))) (aCons (eC (.int (2500))) (aCons (eC (.int (1000))) (aCons (eC (.int (3333))) (aCons (eC (.int (1))) (aCons (eC (.int (4999))) aNil)))))))) (eBin modD (eFrz (eCallC F__law_draw (aCons (eV 0) aNil))) (eC (.int (6))))))
        (sSet 8 (eCd maxG (aCons (eC (.int (1))) (aCons (eCd minG (aCons (eV 8) (aCons (eBin subD (eV 5) (eBin subD (eBin subD (eV 2) (eC (.int (1)))) (eV 6))) aNil))) aNil))))) gNil)
      (gSeq (sSet 5 (eBin subD (eV 5) (eV 8)))
      (sExp (eMt appG (eV 4) (aCons (eTup (aCons (eV 7) (aCons (eV 8) aNil))) aNil)))))))) (rngD j r) [.cel 0, s1, .d (.int many), .d (.list (order.map .str)), .cel 1, .d (.int left), s6, s7, s8, .no] (DSc nums k [.lst (found.map encP)]) = .nx [.cel 0, s1, .d (.int many), .d (.list (order'.map .str)), .cel 1, .d (.int (if r = 0 then left else 0)), s6', s7', s8', .no] (DSc nums k' [.lst (found'.map encP)]) ∧
      ShI base order' found' (if r = 0 then left else 0) 0 ∧ found'.length = found.length + r ∧ k ≤ k' ∧ k' ≤ k + 2 * r
  | 0, j, order, found, left, k, s6, s7, s8, _, I, _, _, _ => ⟨order, found, k, s6, s7, s8, by simp [rngD], by simpa using I, rfl, Nat.le_refl _, by omega⟩
  | r + 1, j, order, found, left, k, s6, s7, s8, hj, I, hl, hol, hk => by
    have ol := I.ol
    have ll := I.ll
    have lh := I.lh
    obtain ⟨_, ⟨x, rfl, hx⟩, hxe⟩ := atI_mod (xs := order.map .str) (P := fun y => ∃ x, y = .str x ∧ x ∈ order) (dr nums k) order.length (by simp) (by simp; omega) (by simp)
    have d0 : ∀ c, callC F__law_draw [.cel 0] (DSc nums k c) = .ok (.d (.int (dr nums k))) (DSc nums (k + 1) c) := fun c => drc hI (by omega) _ rfl
    have d1 : ∀ c, callC F__law_draw [.cel 0] (DSc nums (k + 1) c) = .ok (.d (.int (dr nums (k + 1)))) (DSc nums (k + 2) c) := fun c => drc hI (by omega) _ rfl
    have lc := fun c : Store => lc_keep (i := 9) (ρ := [.cel 0, s1, .d (.int many), .d (.list (order.map .str)), .cel 1, .d (.int left), .d (.int j), .d (.str x), s8, .no]) (cs := c) (t := op2 neD (eV 9) (eV 7)) (e := eV 9) (fun y => !(y == x)) order (by omega) (fun y _ => by simp) (fun y _ => by simp)
    have op : 0 < order.length := by omega
    have z1 : found.length < sizeLine := size_lt (by omega)
    have z2 : found.length ≤ sizeLine := size_ok (by omega)
    have fl := filt_len I.ond hx
    rw [rngD_succ, gFor_cons]
    simp only [gtN_, List.set_cons_succ, List.set_cons_zero]
    cases r with
    | zero =>
      have I' := I.step hx (s := left) (by omega) (by omega)
      have cj : ¬ (j : Int) < (many : Int) - 1 := by omega
      rw [Int.sub_self] at I'
      refine ⟨_, _, k + 1, .d (.int j), .d (.str x), .d (.int left), ?_, by simpa using I', by simp, by omega, by omega⟩
      generalize order.filter (fun y => !(y == x)) = o2 at *
      simp [d0, hxe, lc, op, cj, z1, z2, rngD, encP, -callC_]
    | succ r =>
      obtain ⟨_, ⟨t, rfl, t1, t2⟩, ht⟩ := atI_mod (xs := [.int 5000, .int 2500, .int 1000, .int 3333, .int 1, .int 4999]) (P := fun x => ∃ i, x = .int i ∧ 1 ≤ i ∧ i ≤ 5000) (dr nums (k + 1)) 6 rfl (by decide) (by simp)
      have cj : (j : Int) < (many : Int) - 1 := by omega
      have cm : left - ((many : Int) - 1 - j) = left - ((r + 1 : Nat) : Int) := by omega
      have sh : ∃ s : Int, 1 ≤ s ∧ s ≤ left - ((r + 1 : Nat) : Int) ∧ (if 1 < (if left - ((r + 1 : Nat) : Int) < t then left - ((r + 1 : Nat) : Int) else t) then (if left - ((r + 1 : Nat) : Int) < t then left - ((r + 1 : Nat) : Int) else t) else 1) = s := by
        refine ⟨_, ?_, ?_, rfl⟩ <;> split <;> split <;> omega
      obtain ⟨s, s1', s2', hs⟩ := sh
      have I' := I.step hx s1' s2'
      obtain ⟨o', f', k', t6, t7, t8, e, I2, q1, q2, q3⟩ := shares_loop (s1 := s1) hm (r + 1) (j + 1) _ _ _ (k + 2) (.d (.int j)) (.d (.str x)) (.d (.int s)) (by omega) I' (by simp; omega) (by omega) (by omega)
      have e0 : (if r + 1 = 0 then left - s else 0) = (if r + 1 + 1 = 0 then left else 0) := by simp
      rw [e0] at e I2
      refine ⟨o', f', k', t6, t7, t8, ?_, I2, by simp at q1; omega, by omega, by omega⟩
      rw [← e, show ((j + 1 : Nat) : Int) = (j : Int) + 1 by omega]
      rw [← cm] at hs
      generalize order.filter (fun y => !(y == x)) = o2 at *
      rw [List.map_append]
      simp only [List.map_cons, List.map_nil, show encP (x, s) = .tuple [.str x, .int s] from rfl]
      generalize (if r + 1 + 1 = 0 then left else 0) = rr at *
      simp [d0, d1, hxe, ht, lc, op, cj, z1, z2, hs, -callC_]
end
def NM : List Str := ["alpha", "beta", "gamma", "rho", "sigma", "tau"]
theorem nm_all : NM.all (fun x => decide (x.length ≤ 8) && (isName (.str x) && PyData.strOk x)) = true := by decide +kernel
theorem nm_nd : NM.Nodup := by decide +kernel
theorem nm_ok {x : Str} (h : x ∈ NM) : x.length ≤ 8 ∧ isName (.str x) = true ∧ PyData.strOk x = true := by
  have := List.all_eq_true.1 nm_all x h
  simpa using this
theorem sd_str {x : Str} (h1 : x.length ≤ 1000) (h2 : PyData.strOk x = true) : SD 0 (.str x) := ⟨⟨by simp [dAll, txOk, h1, h2], by simp [PyData.depth]⟩, by simp [PyData.depth]⟩
theorem sd_nm {x : Str} (h : x ∈ NM) : SD 0 (.str x) := sd_str (by have := (nm_ok h).1; omega) (nm_ok h).2.2
theorem shares_good {base : List Str} (hb : ∀ n ∈ base, n ∈ NM) {order : List Str} {found : List (Str × Int)} (I : ShI base order found 0 0) (h1 : 1 ≤ found.length) (h2 : found.length ≤ 8) :
    sharesP (.tuple (found.map encP)) = true ∧ SD 2 (.tuple (found.map encP)) ∧ (found.map encP).map fst0 = found.map (·.1) := by
  have f0 : (found.map encP).map fst0 = found.map (·.1) := by rw [List.map_map]; rfl
  have f1 : (found.map encP).map snd1 = found.map (·.2) := by rw [List.map_map]; rfl
  have sm := I.sum
  have pp : (found.map encP).all pairP = true := by
    rw [List.all_eq_true]
    intro d hd
    obtain ⟨p, hp, rfl⟩ := List.mem_map.1 hd
    have r := I.rng p hp
    have n := (nm_ok (hb _ (I.fsub p hp))).2.1
    simp [pairP, encP, n, isNum, r]
  refine ⟨?_, ?_, f0⟩
  · have u : unl (found.map (·.1)) = true := (unl_nodup _).2 I.fnd
    have s0 : (found.map (·.2)).sum = 10000 := by omega
    show (decide (1 ≤ (found.map encP).length) && (decide ((found.map encP).length ≤ 8) && ((found.map encP).all pairP && (unl ((found.map encP).map fst0) && decide (((found.map encP).map snd1).sum = 10000))))) = true
    rw [f0, f1, u, pp, s0, List.length_map]
    simp [h1, h2]
  · refine sd_tup (fun d hd => ?_) (by omega)
    obtain ⟨p, hp, rfl⟩ := List.mem_map.1 hd
    exact sd_tup (by simpa using ⟨sd_nm (hb _ (I.fsub p hp)), sd_int p.2⟩) (by omega)
section
variable {nums : List Int} (hI : InR nums)
include hI
theorem shares_ {base : List Str} (hb : ∀ n ∈ base, n ∈ NM) (hnd : base.Nodup) (hbl : base.length ≤ 6) {many : Nat} (m1 : 1 ≤ many) (m2 : many ≤ base.length) (k : Nat) (hk : k < 1000000) (c : Store) :
    ∃ (found : List (Str × Int)) (k' : Nat), callC F__law_shares [.cel 0, .d (.list (base.map .str)), .d (.int many)] (DSc nums k c) = .ok (.d (.tuple (found.map encP))) (DSc nums k' c) ∧ (∀ p ∈ found, p.1 ∈ base) ∧ sharesP (.tuple (found.map encP)) = true ∧ SD 2 (.tuple (found.map encP)) ∧ (found.map encP).map fst0 = found.map (·.1) ∧ k ≤ k' ∧ k' ≤ k + 20 := by
  obtain ⟨o', f', k', t6, t7, t8, e, I, q1, q2, q3⟩ := shares_loop hI (base := base) (s1 := .d (.list (base.map .str))) (many := many) (by omega) many 0 base [] 10000 k .no .no .no (by omega) ⟨hnd, fun n h => h, m2, by simp, by simp, by simp, by omega, by omega, by simp, by simp⟩ (by simp; omega) (by omega) (by omega)
  rw [if_neg (by omega)] at e I
  obtain ⟨g1, g2, g3⟩ := shares_good hb I (by simp at q1; omega) (by simp at q1; omega)
  refine ⟨f', k', callC_DS rfl ?_, I.fsub, g1, g2, g3, q2, by omega⟩
  have ir : iRng (eV 2) [.cel 0, .d (.list (base.map .str)), .d (.int many), .d (.list (base.map .str)), .cel 1, .d (.int 10000), .no, .no, .no, .no] (DSc nums k [.lst []]) = .ok (rngD 0 many) (DSc nums k [.lst []]) := iRngNat (by simp) (by omega)
  simp only [List.map_nil, show ((0 : Nat) : Int) = 0 from rfl] at e
  have a4 := sFor_of ir e
  have b1 : sSet 3 (eCd listG (aCons (eV 1) aNil)) [.cel 0, .d (.list (base.map .str)), .d (.int many), .no, .no, .no, .no, .no, .no, .no] (DSc nums k []) = .nx [.cel 0, .d (.list (base.map .str)), .d (.int many), .d (.list (base.map .str)), .no, .no, .no, .no, .no, .no] (DSc nums k []) := by simp
  have b2 : sNew 4 (eLst aNil) [.cel 0, .d (.list (base.map .str)), .d (.int many), .d (.list (base.map .str)), .no, .no, .no, .no, .no, .no] (DSc nums k []) = .nx [.cel 0, .d (.list (base.map .str)), .d (.int many), .d (.list (base.map .str)), .cel 1, .no, .no, .no, .no, .no] (DSc nums k [.lst []]) := by simp
  have b3 : sSet 5 (eC (.int (10000))) [.cel 0, .d (.list (base.map .str)), .d (.int many), .d (.list (base.map .str)), .cel 1, .no, .no, .no, .no, .no] (DSc nums k [.lst []]) = .nx [.cel 0, .d (.list (base.map .str)), .d (.int many), .d (.list (base.map .str)), .cel 1, .d (.int 10000), .no, .no, .no, .no] (DSc nums k [.lst []]) := by simp
  have b5 : sRet (eRv (eCd tupleG (aCons (eV 4) aNil))) [.cel 0, .d (.list (base.map .str)), .d (.int many), .d (.list (o'.map .str)), .cel 1, .d (.int 0), t6, t7, t8, .no] (DSc nums k' [.lst (f'.map encP)]) = .rt (.d (.tuple (f'.map encP))) (DSc nums k' [.lst (f'.map encP)]) := by simp
  have b6 := gSeq_of b1 (gSeq_of b2 (gSeq_of b3 (gSeq_of a4 b5)))
  unfold F__law_shares
  rw [runG_]
  exact (congrArg (fin 1) b6).trans (by simp)
theorem kind_ (k : Nat) (hk : k < 1000000) (c : Store) : ∃ d k', callC F__law_kind [.cel 0] (DSc nums k c) = .ok (.d d) (DSc nums k' c) ∧ kindP d = true ∧ SD 1 d ∧ k ≤ k' ∧ k' ≤ k + 10 := by
  obtain ⟨a, a1, a2, ea⟩ := amount_ hI k (by omega) []
  obtain ⟨b, b1, b2, eb⟩ := amount_ hI (k + 2) (by omega) []
  have d4 : ∀ c, callC F__law_draw [.cel 0] (DSc nums (k + 4) c) = .ok (.d (.int (dr nums (k + 4)))) (DSc nums (k + 5) c) := fun c => drc hI (by omega) _ rfl
  have d5 : ∀ c, callC F__law_draw [.cel 0] (DSc nums (k + 5) c) = .ok (.d (.int (dr nums (k + 5)))) (DSc nums (k + 6) c) := fun c => drc hI (by omega) _ rfl
  have d6 : ∀ c, callC F__law_draw [.cel 0] (DSc nums (k + 6) c) = .ok (.d (.int (dr nums (k + 6)))) (DSc nums (k + 7) c) := fun c => drc hI (by omega) _ rfl
  obtain ⟨_, ⟨t, rfl, t1, t2⟩, ht⟩ := atI_mod (xs := [.int 5000, .int 3333, .int 10000, .int 0, .int 1]) (P := fun x => ∃ i, x = .int i ∧ 0 ≤ i ∧ i ≤ 10000) (dr nums (k + 4)) 5 rfl (by decide) (by simp)
  have m2 : mulD (.int 2) (.int a) = some (.int (2 * a)) := mulD_lt (by decide) (Nat.lt_of_le_of_lt (m := 4000) (by omega) (by decide))
  have m3 : mulD (.int 3) (.int a) = some (.int (3 * a)) := mulD_lt (by decide) (Nat.lt_of_le_of_lt (m := 4000) (by omega) (by decide))
  have v1 : 0 ≤ dr nums (k + 5) % 3 := Int.emod_nonneg _ (by decide)
  have v2 : dr nums (k + 5) % 3 < 3 := Int.emod_lt_of_pos _ (by decide)
  generalize hv : dr nums (k + 5) % 3 = v at v1 v2
  obtain ⟨d, ⟨kd, ks⟩, hd⟩ := atI_mod (xs := [.tuple [.str "part", .int t], .tuple [.str "risk", .int a, .int b], .tuple [.str "event", .int (2 * a), .int b], .tuple [.str "year", .int (3 * a), .int b, .int v, .int 2500]]) (P := fun d => kindP d = true ∧ SD 1 d) (dr nums (k + 6)) 4 rfl (by simp) (by
    intro x hx
    simp only [List.mem_cons, List.not_mem_nil, or_false] at hx
    have w : ∀ s : String, (decide ((s : Str).length ≤ 1000) && yes s) = true → SD 0 (.str s) := sd_lit
    rcases hx with rfl | rfl | rfl | rfl
    · exact ⟨by simp [kindP, isNum]; omega, sd_tup (by simpa using ⟨w "part" (by decide), sd_int t⟩) (by omega)⟩
    · exact ⟨by simp [kindP, isNum]; omega, sd_tup (by simpa using ⟨w "risk" (by decide), sd_int a, sd_int b⟩) (by omega)⟩
    · exact ⟨by simp [kindP, isNum]; omega, sd_tup (by simpa using ⟨w "event" (by decide), sd_int (2 * a), sd_int b⟩) (by omega)⟩
    · exact ⟨by simp [kindP, isNum]; omega, sd_tup (by simpa using ⟨w "year" (by decide), sd_int (3 * a), sd_int b, sd_int v, sd_int 2500⟩) (by omega)⟩)
  refine ⟨d, k + 7, callC_DS rfl ?_, kd, ks, by omega, by omega⟩
  simp [F__law_kind, B__law_kind, ea, eb, d4, d5, d6, ht, m2, m3, hv, hd, -callC_, -mulD_int]
end
/-! the treaties drawn -/
def tn (j : Nat) : Str := ("t" : Str) ++ Str.ofString (toString (j : Int))
theorem tn_ok {j : Nat} (h : j < 5) : isName (.str (tn j)) = true ∧ (tn j).length ≤ 8 ∧ PyData.strOk (tn j) = true ∧ ("t" : Str).length + (Str.ofString (toString (j : Int))).length ≤ 8 := by
  rcases (by omega : j = 0 ∨ j = 1 ∨ j = 2 ∨ j = 3 ∨ j = 4) with rfl | rfl | rfl | rfl | rfl <;> decide +kernel
theorem tn_unl {n : Nat} (h : n ≤ 5) : unl ((List.range n).map tn) = true := by
  rcases (by omega : n = 0 ∨ n = 1 ∨ n = 2 ∨ n = 3 ∨ n = 4 ∨ n = 5) with rfl | rfl | rfl | rfl | rfl | rfl <;> decide +kernel
theorem tn_str {j : Nat} (h : j < 5) : strG [.int (j : Int)] = some (.str (Str.ofString (toString (j : Int)))) := by
  have : ((j : Int)).natAbs.log2 < 1920 := log2_lt (by omega) (Nat.lt_of_lt_of_le (m := 2 ^ 3) (by omega) (Nat.pow_le_pow_right (by decide) (by decide)))
  rw [strG_int, if_pos this]
theorem tn_add {j : Nat} (h : j < 5) : addD (.str "t") (.str (Str.ofString (toString (j : Int)))) = some (.str (tn j)) := by
  rw [addD_str, if_pos (size_ok (by have := (tn_ok h).2.2.2; omega))]; rfl
structure DT (j : Nat) (d : D) : Prop where
  tp : treatyP d = true
  nm : nm1 d = tn j
  dag : ∃ a, a < 6 ∧ gv d = NM.getD a default ∧ ∀ n ∈ tk d, ∃ b, a < b ∧ b < 6 ∧ n = NM.getD b default
  sd : SD 3 d
theorem nm_at {a : Nat} (h : a < 6) : NM.getD a default ∈ NM ∧ atI (NM.map PyData.str) (a : Int) = some (PyData.str (NM.getD a default)) := by
  have hl : a < NM.length := h
  have e : NM.getD a default = NM[a] := by simp [List.getD_eq_getElem?_getD, hl]
  rw [e]
  exact ⟨List.getElem_mem hl, atI_of rfl (by simp [hl])⟩
theorem nm_inj_all : ((List.range 6).all fun a => (List.range 6).all fun b => decide (NM.getD a default = NM.getD b default → a = b)) = true := by decide +kernel
theorem nm_inj {a b : Nat} (ha : a < 6) (hb : b < 6) (h : NM.getD a default = NM.getD b default) : a = b := by
  have q := List.all_eq_true.1 (List.all_eq_true.1 nm_inj_all a (by simpa using ha)) b (by simpa using hb)
  exact of_decide_eq_true q h
theorem TR_drawn {ds : List D} (h : ∀ (i : Nat) (d : D), ds[i]? = some d → DT i d) (hl : ds.length ≤ 5) : TR (.tuple ds) = true := by
  have mem : ∀ d ∈ ds, ∃ i, DT i d := fun d hd => by
    obtain ⟨i, hi, e⟩ := List.mem_iff_getElem.1 hd
    exact ⟨i, h i d (by rw [List.getElem?_eq_getElem hi, e])⟩
  have all : ds.all treatyP = true := by
    rw [List.all_eq_true]
    intro d hd
    obtain ⟨i, q⟩ := mem d hd
    exact q.tp
  have names : ds.map nm1 = (List.range ds.length).map tn := by
    apply List.ext_getElem?
    intro i
    rw [List.getElem?_map, List.getElem?_map]
    by_cases hi : i < ds.length
    · have e := List.getElem?_eq_getElem hi
      rw [e, List.getElem?_eq_getElem (by simpa using hi)]
      simp [(h i _ e).nm]
    · rw [List.getElem?_eq_none (by omega), List.getElem?_eq_none (by simp; omega)]; rfl
  have acc : ∀ (m b : Nat), b < m → b < 6 → Acc (Rx ds) (NM.getD b default) := by
    intro m
    induction m with
    | zero => intro b hb; omega
    | succ m ih =>
      intro b hb hb6
      refine Acc.intro _ fun g hg => ?_
      obtain ⟨d, hd, e1, e2⟩ := hg
      obtain ⟨i, q⟩ := mem d hd
      obtain ⟨a, ha, ga, gb⟩ := q.dag
      obtain ⟨b', l1, l2, eb⟩ := gb _ e2
      have := nm_inj hb6 l2 eb
      subst this
      rw [← e1, ga]
      exact ih a (by omega) ha
  have al : allA ds = true := (allA_iff ds).2 fun n hn => by
    obtain ⟨d, hd, hn⟩ := hn
    obtain ⟨i, q⟩ := mem d hd
    obtain ⟨a, ha, ga, gb⟩ := q.dag
    rcases hn with rfl | hn
    · rw [ga]; exact acc 6 a ha ha
    · obtain ⟨b, l1, l2, rfl⟩ := gb n hn
      exact acc 6 b l2 l2
  show (ds.all treatyP && (unl (ds.map nm1) && allA ds)) = true
  rw [all, names, tn_unl hl, al]; rfl
theorem nm_drop {m : Nat} {n : Str} (h : n ∈ NM.drop m) : ∃ b, m ≤ b ∧ b < 6 ∧ n = NM.getD b default := by
  obtain ⟨i, hi, rfl⟩ := List.mem_iff_getElem.1 h
  rw [List.length_drop] at hi
  have hl : NM.length = 6 := rfl
  refine ⟨m + i, by omega, by omega, ?_⟩
  rw [List.getElem_drop, List.getD_eq_getElem?_getD, List.getElem?_eq_getElem (by omega)]
  rfl
abbrev NMd : List D := [.str "alpha", .str "beta", .str "gamma", .str "rho", .str "sigma", .str "tau"]
theorem eBin_of {g : D → D → Option D} {fa fb : List S → M S} {ρ : List S} {cs cs1 cs2 : Store} {x y d : D} (ha : fa ρ cs = .ok (.d x) cs1) (hb : fb ρ cs1 = .ok (.d y) cs2) (hg : g x y = some d) : eBin g fa fb ρ cs = .ok (.d d) cs2 := by
  simp [ha, hb, hg]
section
variable {nums : List Int} (hI : InR nums)
include hI
theorem modN (k : Nat) {n : Nat} (hn : 0 < n) : ∃ a : Nat, a < n ∧ dr nums k % (n : Int) = a := by
  have h1 : 0 ≤ dr nums k % (n : Int) := Int.emod_nonneg _ (by omega)
  have h2 : dr nums k % (n : Int) < n := Int.emod_lt_of_pos _ (by omega)
  exact ⟨(dr nums k % (n : Int)).toNat, by omega, by omega⟩
theorem treat_step {j : Nat} (hj : j < 5) (ds : List D) (hds : ds.length ≤ 100) (k : Nat) (hk : k < 100000) (s1 s5 s6 s7 s8 s9 : S) : ∃ d k' t5 t6 t7 t8 t9, DT j d ∧ k ≤ k' ∧ k' ≤ k + 100 ∧
    (gSeq (sSet 5 (eBin modD (eFrz (eCallC F__law_draw (aCons (eV 0) aNil))) (eC (.int (5)))))
      (gSeq (sSet 6 (eSl (eV 2) (oSome (eCd maxG (aCons (eBin addD (eV 5) (eC (.int (1)))) (aCons (eBin addD (eC (.int (2))) (eBin modD (eFrz (eCallC F__law_draw (aCons (eV 0) aNil))) (eC (.int (3))))) aNil)))) oNone))
      (gSeq (sSet 7 (eBin ixD (eFrz (eLst (aCons (eC (.int (0))) (aCons (eC (.int (0))) (aCons (eC (.int (50))) aNil))))) (eBin modD (eFrz (eCallC F__law_draw (aCons (eV 0) aNil))) (eC (.int (3))))))
      (gSeq (sSet 8 (eBin addD (eV 7) (eBin ixD (eFrz (eLst (aCons (eC (.int (2000))) (aCons (eC (.int (500))) (aCons (eC (.int (100))) aNil))))) (eBin modD (eFrz (eCallC F__law_draw (aCons (eV 0) aNil))) (eC (.int (3)))))))
      (gSeq (sSet 9 (eFrz (eCallC F__law_shares (aCons (eV 0) (aCons (eV 6) (aCons (eBin addD (eC (.int (1))) (eBin modD (eFrz (eCallC F__law_draw (aCons (eV 0) aNil))) (eCd minG (aCons (eC (.int (3))) (aCons (eCd lenG (aCons (eV 6) aNil)) aNil))))) aNil))))))
      (sExp (eMt appG (eV 3) (aCons (eTup (aCons (eC (.str "treaty")) (aCons (eBin addD (eC (.str "t")) (eCd strG (aCons (eV 4) aNil))) (aCons (eV 7) (aCons (eV 8) (aCons (eBin ixD (eV 2) (eV 5)) (aCons (eV 9) (aCons (eFrz (eCallC F__law_kind (aCons (eV 0) aNil))) (aCons (eBin ixD (eFrz (eLst (aCons (eC (.int (0))) (aCons (eC (.int (365))) (aCons (eC (.int (100))) aNil))))) (eBin modD (eFrz (eCallC F__law_draw (aCons (eV 0) aNil))) (eC (.int (3))))) aNil))))))))) aNil)))))))) [.cel 0, s1, .d (.list NMd), .cel 1, .d (.int j), s5, s6, s7, s8, s9] (DSc nums k [.lst ds]) = .nx [.cel 0, s1, .d (.list NMd), .cel 1, .d (.int j), t5, t6, t7, t8, t9] (DSc nums k' [.lst (ds ++ [d])]) := by
  have dw : ∀ (n : Nat) (c : Store), n ≤ 100 → callC F__law_draw [.cel 0] (DSc nums (k + n) c) = .ok (.d (.int (dr nums (k + n)))) (DSc nums (k + n + 1) c) := fun n c h => drc hI (by omega) _ rfl
  obtain ⟨a, ha, ea⟩ := modN hI k (n := 5) (by decide)
  obtain ⟨v, hv, ev⟩ := modN hI (k + 1) (n := 3) (by decide)
  have hm : ∃ m : Nat, (if (a : Int) + 1 < 2 + (v : Int) then 2 + (v : Int) else (a : Int) + 1) = m ∧ a < m ∧ m ≤ 5 := by
    by_cases q : (a : Int) + 1 < 2 + (v : Int)
    · exact ⟨2 + v, by rw [if_pos q]; omega, by omega, by omega⟩
    · exact ⟨a + 1, by rw [if_neg q]; omega, by omega, by omega⟩
  obtain ⟨m, em, am, m5⟩ := hm
  have c1 : cutD NMd (some (m : Int)) none = (NM.drop m).map .str := by
    rw [cutD_from, List.map_drop]; rfl
  obtain ⟨_, ⟨i1, rfl, f1, f2⟩, hf⟩ := atI_mod (xs := [.int 0, .int 0, .int 50]) (P := fun x => ∃ i, x = .int i ∧ 0 ≤ i ∧ i ≤ 50) (dr nums (k + 2)) 3 rfl (by decide) (by simp)
  obtain ⟨_, ⟨i2, rfl, g1, g2⟩, hg⟩ := atI_mod (xs := [.int 2000, .int 500, .int 100]) (P := fun x => ∃ i, x = .int i ∧ 0 ≤ i ∧ i ≤ 2000) (dr nums (k + 3)) 3 rfl (by decide) (by simp)
  have hNM : NM.length = 6 := rfl
  have bl : (NM.drop m).length = 6 - m := by rw [List.length_drop, hNM]
  have bsub : ∀ n ∈ NM.drop m, n ∈ NM := fun n hn => List.mem_of_mem_drop hn
  have bnd' : (NM.drop m).Nodup := nm_nd.sublist (List.drop_sublist m NM)
  have bix : ∀ n ∈ NM.drop m, ∃ b, m ≤ b ∧ b < 6 ∧ n = NM.getD b default := fun n hn => nm_drop hn
  generalize hbase : NM.drop m = base at c1 bl bsub bnd' bix
  have hw : ∃ w : Nat, (if (base.length : Int) < 3 then (base.length : Int) else 3) = w ∧ 1 ≤ w ∧ w ≤ 3 ∧ w ≤ base.length := by
    by_cases q : (base.length : Int) < 3
    · exact ⟨base.length, by rw [if_pos q], by omega, by omega, by omega⟩
    · exact ⟨3, by rw [if_neg q]; rfl, by omega, by omega, by omega⟩
  obtain ⟨w, ew, w1, w3, wl⟩ := hw
  obtain ⟨z, hz, ez⟩ := modN hI (k + 4) (n := w) (by omega)
  obtain ⟨found, k1, e9, fsub, shp, shs, shf, l1, l2⟩ := shares_ hI bsub bnd' (by omega) (many := 1 + z) (by omega) (by omega) (k + 5) (by omega) [.lst ds]
  obtain ⟨kd, k2, eK, kp, ks, l3, l4⟩ := kind_ hI k1 (by omega) [.lst ds]
  have dp : callC F__law_draw [.cel 0] (DSc nums k2 [.lst ds]) = .ok (.d (.int (dr nums k2))) (DSc nums (k2 + 1) [.lst ds]) := drc hI (by omega) _ rfl
  obtain ⟨_, ⟨pr, rfl, p1, p2⟩, hp⟩ := atI_mod (xs := [.int 0, .int 365, .int 100]) (P := fun x => ∃ i, x = .int i ∧ 0 ≤ i ∧ i ≤ 365) (dr nums k2) 3 rfl (by decide) (by simp)
  obtain ⟨nmem, nat⟩ := nm_at (a := a) (by omega)
  have nat' : atI NMd (a : Int) = some (.str (NM.getD a default)) := nat
  have nok := nm_ok nmem
  have tok := tn_ok hj
  generalize hG : NM.getD a default = g at nmem nat nat' nok
  have d0 := fun c => dw 0 c (by omega)
  have d1 := fun c => dw 1 c (by omega)
  have d2 := fun c => dw 2 c (by omega)
  have d3 := fun c => dw 3 c (by omega)
  have d4 := fun c => dw 4 c (by omega)
  simp only [Nat.add_zero, Nat.add_assoc, Nat.reduceAdd] at d0 d1 d2 d3 d4
  rw [show ((5 : Nat) : Int) = 5 from rfl] at ea
  rw [show ((3 : Nat) : Int) = 3 from rfl] at ev
  have S5 : sSet 5 (eBin modD (eFrz (eCallC F__law_draw (aCons (eV 0) aNil))) (eC (.int (5)))) [.cel 0, s1, .d (.list NMd), .cel 1, .d (.int j), s5, s6, s7, s8, s9] (DSc nums k [.lst ds]) = .nx [.cel 0, s1, .d (.list NMd), .cel 1, .d (.int j), .d (.int a), s6, s7, s8, s9] (DSc nums (k + 1) [.lst ds]) := by
    simp [d0, ea, -callC_]
  have S6 : sSet 6 (eSl (eV 2) (oSome (eCd maxG (aCons (eBin addD (eV 5) (eC (.int (1)))) (aCons (eBin addD (eC (.int (2))) (eBin modD (eFrz (eCallC F__law_draw (aCons (eV 0) aNil))) (eC (.int (3))))) aNil)))) oNone) [.cel 0, s1, .d (.list NMd), .cel 1, .d (.int j), .d (.int a), s6, s7, s8, s9] (DSc nums (k + 1) [.lst ds]) = .nx [.cel 0, s1, .d (.list NMd), .cel 1, .d (.int j), .d (.int a), .d (.list (base.map .str)), s7, s8, s9] (DSc nums (k + 2) [.lst ds]) := by
    simp [d1, ev, em, c1, -callC_]
  have S7 : sSet 7 (eBin ixD (eFrz (eLst (aCons (eC (.int (0))) (aCons (eC (.int (0))) (aCons (eC (.int (50))) aNil))))) (eBin modD (eFrz (eCallC F__law_draw (aCons (eV 0) aNil))) (eC (.int (3))))) [.cel 0, s1, .d (.list NMd), .cel 1, .d (.int j), .d (.int a), .d (.list (base.map .str)), s7, s8, s9] (DSc nums (k + 2) [.lst ds]) = .nx [.cel 0, s1, .d (.list NMd), .cel 1, .d (.int j), .d (.int a), .d (.list (base.map .str)), .d (.int i1), s8, s9] (DSc nums (k + 3) [.lst ds]) := by
    simp [d2, hf, -callC_]
  have S8 : sSet 8 (eBin addD (eV 7) (eBin ixD (eFrz (eLst (aCons (eC (.int (2000))) (aCons (eC (.int (500))) (aCons (eC (.int (100))) aNil))))) (eBin modD (eFrz (eCallC F__law_draw (aCons (eV 0) aNil))) (eC (.int (3)))))) [.cel 0, s1, .d (.list NMd), .cel 1, .d (.int j), .d (.int a), .d (.list (base.map .str)), .d (.int i1), s8, s9] (DSc nums (k + 3) [.lst ds]) = .nx [.cel 0, s1, .d (.list NMd), .cel 1, .d (.int j), .d (.int a), .d (.list (base.map .str)), .d (.int i1), .d (.int (i1 + i2)), s9] (DSc nums (k + 4) [.lst ds]) := by
    simp [d3, hg, -callC_]
  have w0 : (0 : Int) < w := by omega
  have e9' : callC F__law_shares [.cel 0, .d (.list (base.map .str)), .d (.int (1 + (z : Int)))] (DSc nums (k + 5) [.lst ds]) = .ok (.d (.tuple (found.map encP))) (DSc nums k1 [.lst ds]) := by
    rw [show (1 : Int) + (z : Int) = ((1 + z : Nat) : Int) by omega]; exact e9
  have mA : eBin modD (eFrz (eCallC F__law_draw (aCons (eV 0) aNil))) (eCd minG (aCons (eC (.int (3))) (aCons (eCd lenG (aCons (eV 6) aNil)) aNil))) [.cel 0, s1, .d (.list NMd), .cel 1, .d (.int j), .d (.int a), .d (.list (base.map .str)), .d (.int i1), .d (.int (i1 + i2)), s9] (DSc nums (k + 4) [.lst ds]) = .ok (.d (.int z)) (DSc nums (k + 5) [.lst ds]) := by
    have q : modD (.int (dr nums (k + 4))) (.int (if (base.length : Int) < 3 then (base.length : Int) else 3)) = some (.int z) := by
      rw [ew, modD_int, if_pos w0, ez]
    generalize dr nums (k + 4) = y at *
    simp only [eBin_, op2_, eFrz_, eCallC_, aCons_, aNil_, eV_, eC_, eCd_, List.getElem?_cons_zero, List.getElem?_cons_succ, bnd_, ret_, d4, frz_d, vwsM_d, vwsM_nil, lenG_list, List.length_map, ofO_some, minG_, vwM_d, q]
  have S9 : sSet 9 (eFrz (eCallC F__law_shares (aCons (eV 0) (aCons (eV 6) (aCons (eBin addD (eC (.int (1))) (eBin modD (eFrz (eCallC F__law_draw (aCons (eV 0) aNil))) (eCd minG (aCons (eC (.int (3))) (aCons (eCd lenG (aCons (eV 6) aNil)) aNil))))) aNil))))) [.cel 0, s1, .d (.list NMd), .cel 1, .d (.int j), .d (.int a), .d (.list (base.map .str)), .d (.int i1), .d (.int (i1 + i2)), s9] (DSc nums (k + 4) [.lst ds]) = .nx [.cel 0, s1, .d (.list NMd), .cel 1, .d (.int j), .d (.int a), .d (.list (base.map .str)), .d (.int i1), .d (.int (i1 + i2)), .d (.tuple (found.map encP))] (DSc nums k1 [.lst ds]) := by
    have mB : eBin addD (eC (.int (1))) (eBin modD (eFrz (eCallC F__law_draw (aCons (eV 0) aNil))) (eCd minG (aCons (eC (.int (3))) (aCons (eCd lenG (aCons (eV 6) aNil)) aNil)))) [.cel 0, s1, .d (.list NMd), .cel 1, .d (.int j), .d (.int a), .d (.list (base.map .str)), .d (.int i1), .d (.int (i1 + i2)), s9] (DSc nums (k + 4) [.lst ds]) = .ok (.d (.int (1 + (z : Int)))) (DSc nums (k + 5) [.lst ds]) := eBin_of (eC_ _) mA (addD_int 1 z)
    simp only [sSet_, stp_, eFrz_, eCallC_, aCons_, aNil_, eV_, List.getElem?_cons_zero, List.getElem?_cons_succ, bnd_, ret_, mB, e9', frz_d, List.set_cons_succ, List.set_cons_zero]
  have z1 : ds.length < sizeLine := size_lt (by omega)
  have z2 : ds.length ≤ sizeLine := size_ok (by omega)
  have ts := tn_str hj
  have ta := tn_add hj
  refine ⟨tD (tn j) g (.int i1) (.int (i1 + i2)) kd (.int pr) (found.map encP), k2 + 1, .d (.int a), .d (.list (base.map .str)), .d (.int i1), .d (.int (i1 + i2)), .d (.tuple (found.map encP)), ⟨?_, rfl, ⟨a, by omega, hG.symm, fun n hn => ?_⟩, ?_⟩, by omega, by omega, gSeq_of S5 (gSeq_of S6 (gSeq_of S7 (gSeq_of S8 (gSeq_of S9 ?_))))⟩
  · have h2 : isNum (.int i1) 0 36500 = true := by simp [isNum]; omega
    have h3 : isNum (.int (i1 + i2)) 0 36500 = true := by simp [isNum]; omega
    have h7 : isNum (.int pr) 0 1000000000000 = true := by simp [isNum]; omega
    have h4 : leI (.int i1) (.int (i1 + i2)) = true := by simp [leI]; omega
    have h6 : (!(decide (g ∈ (found.map encP).map fst0))) = true := by
      rw [shf]
      simp only [Bool.not_eq_true', decide_eq_false_iff_not, List.mem_map]
      rintro ⟨p, hp', rfl⟩
      obtain ⟨b, hb1, hb2, hb3⟩ := bix _ (fsub p hp')
      have := nm_inj (a := a) (b := b) (by omega) hb2 (hG.trans hb3)
      omega
    show (decide (("treaty" : Str) = "treaty") && (isName (.str (tn j)) && (isNum (.int i1) 0 36500 && (isNum (.int (i1 + i2)) 0 36500 && (leI (.int i1) (.int (i1 + i2)) && (isName (.str g) && (sharesP (.tuple (found.map encP)) && (!(decide (strD (.str g) ∈ (itsD (.tuple (found.map encP))).map fst0)) && (kindP kd && isNum (.int pr) 0 1000000000000))))))))) = true
    have h6' : (!(decide (strD (.str g) ∈ (itsD (.tuple (found.map encP))).map fst0))) = true := h6
    rw [tok.1, h2, h3, h4, nok.2.1, shp, kp, h7, h6']
    simp
  · rw [tk_t, shf] at hn
    obtain ⟨p, hp', rfl⟩ := List.mem_map.1 hn
    obtain ⟨b, hb1, hb2, hb3⟩ := bix _ (fsub p hp')
    exact ⟨b, by omega, hb2, hb3⟩
  · exact sd_tup (by simpa using ⟨(sd_lit "treaty" (by decide)).mono (by omega), (sd_str (by omega) tok.2.2.1).mono (by omega), (sd_int i1).mono (by omega), (sd_int (i1 + i2)).mono (by omega), (sd_nm nmem).mono (by omega), shs, ks.mono (by omega), (sd_int pr).mono (by omega)⟩) (by omega)
  · generalize found.map encP = ps at *
    generalize Str.ofString (toString (j : Int)) = tj at ts ta
    simp [ts, ta, nat', eK, dp, hp, z1, z2, -callC_, -addD_str, -strG_int]
end
def Good (v : D) : Prop := (∃ xs, v = .tuple xs ∧ xs.length ≤ 7 ∧ Sane yes v) ∨ ∀ xs, v ≠ .tuple xs
theorem cutD_to (xs : List D) (n : Nat) : cutD xs none (some (n : Int)) = xs.take n := by
  unfold cutD
  rw [HT.sIx_nat, HT.sIx_none]
  by_cases h : n ≤ xs.length
  · rw [Nat.min_eq_left h]; simp
  · rw [Nat.min_eq_right (by omega)]; simp; exact (List.take_of_length_le (by omega)).symm
theorem ct (xs : List D) : cutD xs none (some 2) = xs.take 2 ∧ cutD xs none (some 4) = xs.take 4 ∧ cutD xs none (some 5) = xs.take 5 ∧ cutD xs none (some 6) = xs.take 6 ∧ cutD xs none (some 1) = xs.take 1 ∧ cutD xs (some 4) none = xs.drop 4 ∧ cutD xs (some 6) none = xs.drop 6 ∧ cutD xs (some 7) none = xs.drop 7 :=
  ⟨cutD_to xs 2, cutD_to xs 4, cutD_to xs 5, cutD_to xs 6, cutD_to xs 1, cutD_from xs 4, cutD_from xs 6, cutD_from xs 7⟩
section
variable {nums : List Int} (hI : InR nums)
include hI
theorem treat_loop {s1 : S} : ∀ (r j : Nat) (ds : List D) (k : Nat) (s4 s5 s6 s7 s8 s9 : S), j + r ≤ 5 → ds.length = j → (∀ (i : Nat) (d : D), ds[i]? = some d → DT i d) → k + 100 * r < 90000 →
    ∃ ds' k' t4 t5 t6 t7 t8 t9, gFor (gtN 4) (gSeq (sSet 5 (eBin modD (eFrz (eCallC F__law_draw (aCons (eV 0) aNil))) (eC (.int (5)))))
      (gSeq (sSet 6 (eSl (eV 2) (oSome (eCd maxG (aCons (eBin addD (eV 5) (eC (.int (1)))) (aCons (eBin addD (eC (.int (2))) (eBin modD (eFrz (eCallC F__law_draw (aCons (eV 0) aNil))) (eC (.int (3))))) aNil)))) oNone))
      (gSeq (sSet 7 (eBin ixD (eFrz (eLst (aCons (eC (.int (0))) (aCons (eC (.int (0))) (aCons (eC (.int (50))) aNil))))) (eBin modD (eFrz (eCallC F__law_draw (aCons (eV 0) aNil))) (eC (.int (3))))))
      (gSeq (sSet 8 (eBin addD (eV 7) (eBin ixD (eFrz (eLst (aCons (eC (.int (2000))) (aCons (eC (.int (500))) (aCons (eC (.int (100))) aNil))))) (eBin modD (eFrz (eCallC F__law_draw (aCons (eV 0) aNil))) (eC (.int (3)))))))
      (gSeq (sSet 9 (eFrz (eCallC F__law_shares (aCons (eV 0) (aCons (eV 6) (aCons (eBin addD (eC (.int (1))) (eBin modD (eFrz (eCallC F__law_draw (aCons (eV 0) aNil))) (eCd minG (aCons (eC (.int (3))) (aCons (eCd lenG (aCons (eV 6) aNil)) aNil))))) aNil))))))
      (sExp (eMt appG (eV 3) (aCons (eTup (aCons (eC (.str "treaty")) (aCons (eBin addD (eC (.str "t")) (eCd strG (aCons (eV 4) aNil))) (aCons (eV 7) (aCons (eV 8) (aCons (eBin ixD (eV 2) (eV 5)) (aCons (eV 9) (aCons (eFrz (eCallC F__law_kind (aCons (eV 0) aNil))) (aCons (eBin ixD (eFrz (eLst (aCons (eC (.int (0))) (aCons (eC (.int (365))) (aCons (eC (.int (100))) aNil))))) (eBin modD (eFrz (eCallC F__law_draw (aCons (eV 0) aNil))) (eC (.int (3))))) aNil))))))))) aNil)))))))) (rngD j r) [.cel 0, s1, .d (.list NMd), .cel 1, s4, s5, s6, s7, s8, s9] (DSc nums k [.lst ds]) = .nx [.cel 0, s1, .d (.list NMd), .cel 1, t4, t5, t6, t7, t8, t9] (DSc nums k' [.lst ds']) ∧
      ds'.length = j + r ∧ (∀ (i : Nat) (d : D), ds'[i]? = some d → DT i d) ∧ k ≤ k' ∧ k' ≤ k + 100 * r
  | 0, j, ds, k, s4, s5, s6, s7, s8, s9, _, h1, h2, _ => ⟨ds, k, s4, s5, s6, s7, s8, s9, by simp [rngD], h1, h2, Nat.le_refl _, by omega⟩
  | r + 1, j, ds, k, s4, s5, s6, s7, s8, s9, hj, h1, h2, hk => by
    obtain ⟨d, k1, t5, t6, t7, t8, t9, hd, l1, l2, e⟩ := treat_step hI (j := j) (by omega) ds (by omega) k (by omega) s1 s5 s6 s7 s8 s9
    obtain ⟨ds', k', u4, u5, u6, u7, u8, u9, e2, q1, q2, q3, q4⟩ := treat_loop (s1 := s1) r (j + 1) (ds ++ [d]) k1 (.d (.int j)) t5 t6 t7 t8 t9 (by omega) (by simp [h1]) (fun i x hx => by
      by_cases hi : i < ds.length
      · rw [List.getElem?_append_left hi] at hx; exact h2 i x hx
      · rw [List.getElem?_append_right (by omega)] at hx
        have : i - ds.length = 0 := by
          have := (List.getElem?_eq_some_iff.1 hx).1
          simp at this; omega
        have hij : i = j := by omega
        rw [this] at hx
        simp at hx
        subst hx; subst hij; exact hd) (by omega)
    refine ⟨ds', k', u4, u5, u6, u7, u8, u9, ?_, by omega, q2, by omega, by omega⟩
    rw [rngD_succ, gFor_cons]
    simp only [gtN_, List.set_cons_succ, List.set_cons_zero]
    rw [e]
    rw [show ((j + 1 : Nat) : Int) = (j : Int) + 1 by omega] at e2
    exact e2
theorem treaties_ {many : Nat} (m1 : 1 ≤ many) (m2 : many ≤ 5) (k : Nat) (hk : k < 50000) (c : Store) : ∃ ds k', callC F__law_treaties [.cel 0, .d (.int many)] (DSc nums k c) = .ok (.d (.tuple ds)) (DSc nums k' c) ∧ ds.length = many ∧ (∀ (i : Nat) (d : D), ds[i]? = some d → DT i d) ∧ k ≤ k' ∧ k' ≤ k + 500 := by
  obtain ⟨ds, k', t4, t5, t6, t7, t8, t9, e, q1, q2, q3, q4⟩ := treat_loop hI (s1 := .d (.int many)) many 0 [] k .no .no .no .no .no .no (by omega) rfl (by simp) (by omega)
  refine ⟨ds, k', callC_DS rfl ?_, by omega, q2, q3, by omega⟩
  have ir : iRng (eV 1) [.cel 0, .d (.int many), .d (.list NMd), .cel 1, .no, .no, .no, .no, .no, .no] (DSc nums k [.lst []]) = .ok (rngD 0 many) (DSc nums k [.lst []]) := iRngNat (by simp) (by omega)
  rw [show ((0 : Nat) : Int) = 0 from rfl] at e
  have a4 := sFor_of ir e
  have b1 : sSet 2 (eFrz (eLst (aCons (eC (.str "alpha")) (aCons (eC (.str "beta")) (aCons (eC (.str "gamma")) (aCons (eC (.str "rho")) (aCons (eC (.str "sigma")) (aCons (eC (.str "tau")) aNil)))))))) [.cel 0, .d (.int many), .no, .no, .no, .no, .no, .no, .no, .no] (DSc nums k []) = .nx [.cel 0, .d (.int many), .d (.list NMd), .no, .no, .no, .no, .no, .no, .no] (DSc nums k []) := by simp
  have b2 : sNew 3 (eLst aNil) [.cel 0, .d (.int many), .d (.list NMd), .no, .no, .no, .no, .no, .no, .no] (DSc nums k []) = .nx [.cel 0, .d (.int many), .d (.list NMd), .cel 1, .no, .no, .no, .no, .no, .no] (DSc nums k [.lst []]) := by simp
  have b5 : sRet (eRv (eCd tupleG (aCons (eV 3) aNil))) [.cel 0, .d (.int many), .d (.list NMd), .cel 1, t4, t5, t6, t7, t8, t9] (DSc nums k' [.lst ds]) = .rt (.d (.tuple ds)) (DSc nums k' [.lst ds]) := by simp
  have b6 := gSeq_of b1 (gSeq_of b2 (gSeq_of a4 b5))
  unfold F__law_treaties
  rw [runG_]
  exact (congrArg (fin 1) b6).trans (by simp)
theorem spoilt_ {ds : List D} (hd : ∀ (i : Nat) (d : D), ds[i]? = some d → DT i d) (l1 : 1 ≤ ds.length) (l5 : ds.length ≤ 5) (k : Nat) (hk : k < 1000000) (c : Store) : ∃ v k', callC F__law_spoilt [.cel 0, .d (.tuple ds)] (DSc nums k c) = .ok (.d v) (DSc nums k' c) ∧ Good v ∧ k ≤ k' ∧ k' ≤ k + 10 := by
  have dw : ∀ (n : Nat) (c : Store), n ≤ 100 → callC F__law_draw [.cel 0] (DSc nums (k + n) c) = .ok (.d (.int (dr nums (k + n)))) (DSc nums (k + n + 1) c) := fun n c h => drc hI (by omega) _ rfl
  have d0 := fun c => dw 0 c (by omega)
  have d1 := fun c => dw 1 c (by omega)
  have d2 := fun c => dw 2 c (by omega)
  have d3 := fun c => dw 3 c (by omega)
  simp only [Nat.add_zero, Nat.add_assoc, Nat.reduceAdd] at d0 d1 d2 d3
  obtain ⟨a, ha, ea⟩ := modN hI k (n := ds.length) (by omega)
  obtain ⟨q, hq, eq⟩ := modN hI (k + 1) (n := 14) (by decide)
  obtain ⟨p, hp, ep⟩ := modN hI (k + 2) (n := 8) (by decide)
  rw [show ((14 : Nat) : Int) = 14 from rfl] at eq
  rw [show ((8 : Nat) : Int) = 8 from rfl] at ep
  have sds : ∀ d ∈ ds, SD 3 d := fun d hd' => by
    obtain ⟨i, hi, e⟩ := List.mem_iff_getElem.1 hd'
    exact (hd i d (by rw [List.getElem?_eq_getElem hi, e])).sd
  have ge := List.getElem?_eq_getElem ha
  have at1 : atI ds (a : Int) = some ds[a] := atI_of rfl ge
  obtain ⟨nm, g, xa, xb, kd, pr, ps, et, pp, pl, _⟩ := treatyP_is (hd a _ ge).tp
  have tsd := sds _ (List.getElem_mem ha)
  rw [et] at at1 tsd
  have c1 : cutD ds none (some (a : Int)) = ds.take a := cutD_to ds a
  have c2 : cutD ds (some ((a : Int) + 1)) none = ds.drop (a + 1) := cutD_from ds (a + 1)
  have A1 : ∀ x ∈ ds.take a, SD 3 x := fun x hx => sds x (List.mem_of_mem_take hx)
  have B1 : ∀ x ∈ ds.drop (a + 1), SD 3 x := fun x hx => sds x (List.mem_of_mem_drop hx)
  have AL : (ds.take a).length ≤ 5 := by rw [List.length_take]; omega
  have BL : (ds.drop (a + 1)).length ≤ 5 := by rw [List.length_drop]; omega
  have AB : (ds.take a).length + 1 + (ds.drop (a + 1)).length ≤ 5 := by rw [List.length_take, List.length_drop]; omega
  have at0 : atI ds 0 = some (ds[0]'(by omega)) := atI_of (n := 0) rfl (List.getElem?_eq_getElem (by omega))
  obtain ⟨nm0, g0, xa0, xb0, kd0, pr0, ps0, et0, _⟩ := treatyP_is (hd 0 _ (List.getElem?_eq_getElem (by omega : 0 < ds.length))).tp
  have tsd0 := sds _ (List.getElem_mem (by omega : 0 < ds.length))
  rw [et0] at at0 tsd0
  have g0s : SD 0 (.str g0) := by
    have := (tsd0.mem (x := .str g0) (by simp)).1
    exact ⟨this, by simp [PyData.depth]⟩
  have gs : SD 0 (.str g) := by
    have := (tsd.mem (x := .str g) (by simp)).1
    exact ⟨this, by simp [PyData.depth]⟩
  have s1 : SD 2 (.str nm) := tsd.mem (by simp)
  have s2 : SD 2 xa := tsd.mem (by simp)
  have s3 : SD 2 xb := tsd.mem (by simp)
  have s5 : SD 2 (.tuple ps) := tsd.mem (by simp)
  have s6 : SD 2 kd := tsd.mem (by simp)
  have s7 : SD 2 pr := tsd.mem (by simp)
  have s0 : SD 0 (.str "treaty") := sd_lit _ (by decide)
  have psm : ∀ x ∈ ps, SD 1 x := fun x hx => s5.mem hx
  have lp : 0 < ds.length := by omega
  have ct8 := ct [.str "treaty", .str nm, xa, xb, .str g, .tuple ps, kd, pr]
  obtain ⟨k2, k4, k5, k6, _, f4, f6, f7⟩ := ct8
  simp only [List.take, List.drop] at k2 k4 k5 k6 f4 f6 f7
  have zA : (ds.take a).length + 1 ≤ sizeLine := size_ok (by omega)
  have zB : (ds.take a).length + 1 + (ds.drop (a + 1)).length ≤ sizeLine := size_ok (by omega)
  have zP : ps.length + 1 ≤ sizeLine := size_ok (by omega)
  have i6 : ∀ x0 x1 x2 x3 x4 x5 x6 x7 : D, atI [x0, x1, x2, x3, x4, x5, x6, x7] 5 = some x5 := fun _ _ _ _ _ _ _ _ => atI_of (n := 5) rfl rfl
  have put : ∀ t', SD 6 t' → Good (.tuple (ds.take a ++ (t' :: ds.drop (a + 1)))) := fun t' ht => by
    refine .inl ⟨_, rfl, by simp only [List.length_append, List.length_cons]; omega, (sd_tup (n := 6) (fun x hx => ?_) (by omega)).1⟩
    rcases List.mem_append.1 hx with hx | hx
    · exact (A1 x hx).mono (by omega)
    · rcases List.mem_cons.1 hx with rfl | hx
      · exact ht
      · exact (B1 x hx).mono (by omega)
  generalize ds.take a = A at *
  generalize ds.drop (a + 1) = B at *
  have e8 : ∀ (o : D), SD 5 o → SD 6 (.tuple [.str "treaty", .str nm, xa, xb, .str g, o, kd, pr]) := fun o ho => sd_tup (by simpa using ⟨s0.mono (by omega), s1.mono (by omega), s2.mono (by omega), s3.mono (by omega), gs.mono (by omega), ho, s6.mono (by omega), s7.mono (by omega)⟩) (by omega)
  have hT : SD 1 (.tuple []) := sd_tup (by simp) (by omega)
  obtain ⟨o, so, ho⟩ := atI_mod (xs := [.none, .int (-1), .bool true, .str "Alpha", .str "", .str "toolonger", .tuple [], .int 36501, .int 1000000000001, .str "a b", .str "9a", .tuple [.str "part"], .tuple [.str "risk", .int 1], .tuple [.str "part", .int 10001]]) (P := SD 1) (dr nums (k + 3)) 14 rfl (by simp) (by
    intro x hx
    simp only [List.mem_cons, List.not_mem_nil, or_false] at hx
    have w : ∀ s : String, (decide ((s : Str).length ≤ 1000) && yes s) = true → SD 0 (.str s) := sd_lit
    rcases hx with rfl | rfl | rfl | rfl | rfl | rfl | rfl | rfl | rfl | rfl | rfl | rfl | rfl | rfl
    · exact sd_non.mono (by omega)
    · exact (sd_int _).mono (by omega)
    · exact (sd_bl _).mono (by omega)
    · exact (w "Alpha" (by decide)).mono (by omega)
    · exact (w "" (by decide)).mono (by omega)
    · exact (w "toolonger" (by decide)).mono (by omega)
    · exact hT
    · exact (sd_int _).mono (by omega)
    · exact (sd_int _).mono (by omega)
    · exact (w "a b" (by decide)).mono (by omega)
    · exact (w "9a" (by decide)).mono (by omega)
    · exact sd_tup (by simpa using w "part" (by decide)) (by omega)
    · exact sd_tup (by simpa using ⟨w "risk" (by decide), sd_int 1⟩) (by omega)
    · exact sd_tup (by simpa using ⟨w "part" (by decide), sd_int 10001⟩) (by omega))
  have P2 : sSet 2 (eBin modD (eFrz (eCallC F__law_draw (aCons (eV 0) aNil))) (eCd lenG (aCons (eV 1) aNil))) [.cel 0, .d (.tuple ds), .no, .no, .no, .no, .no] (DSc nums k []) = .nx [.cel 0, .d (.tuple ds), .d (.int a), .no, .no, .no, .no] (DSc nums (k + 1) []) := by
    simp [d0, lp, ea, -callC_]
  have P3 : sSet 3 (eBin ixD (eV 1) (eV 2)) [.cel 0, .d (.tuple ds), .d (.int a), .no, .no, .no, .no] (DSc nums (k + 1) []) = .nx [.cel 0, .d (.tuple ds), .d (.int a), .d (tD nm g xa xb kd pr ps), .no, .no, .no] (DSc nums (k + 1) []) := by
    simp [at1]
  have P4 : sSet 4 (eBin modD (eFrz (eCallC F__law_draw (aCons (eV 0) aNil))) (eC (.int (14)))) [.cel 0, .d (.tuple ds), .d (.int a), .d (tD nm g xa xb kd pr ps), .no, .no, .no] (DSc nums (k + 1) []) = .nx [.cel 0, .d (.tuple ds), .d (.int a), .d (tD nm g xa xb kd pr ps), .d (.int q), .no, .no] (DSc nums (k + 2) []) := by
    simp [d1, eq, -callC_]
  have P5 : sSet 5 (eBin modD (eFrz (eCallC F__law_draw (aCons (eV 0) aNil))) (eC (.int (8)))) [.cel 0, .d (.tuple ds), .d (.int a), .d (tD nm g xa xb kd pr ps), .d (.int q), .no, .no] (DSc nums (k + 2) []) = .nx [.cel 0, .d (.tuple ds), .d (.int a), .d (tD nm g xa xb kd pr ps), .d (.int q), .d (.int p), .no] (DSc nums (k + 3) []) := by
    simp [d2, ep, -callC_]
  have P6 : sSet 6 (eFrz (eLst (aCons (eC .none) (aCons (eNeg (eC (.int (1)))) (aCons (eC (.bool true)) (aCons (eC (.str "Alpha")) (aCons (eC (.str "")) (aCons (eC (.str "toolonger")) (aCons (eTup aNil) (aCons (eC (.int (36501))) (aCons (eBin addD (eBin powD (eC (.int (10))) (eC (.int (12)))) (eC (.int (1)))) (aCons (eC (.str "a b")) (aCons (eC (.str "9a")) (aCons (eTup (aCons (eC (.str "part")) aNil)) (aCons (eTup (aCons (eC (.str "risk")) (aCons (eC (.int (1))) aNil))) (aCons (eTup (aCons (eC (.str "part")) (aCons (eC (.int (10001))) aNil))) aNil)))))))))))))))) [.cel 0, .d (.tuple ds), .d (.int a), .d (tD nm g xa xb kd pr ps), .d (.int q), .d (.int p), .no] (DSc nums (k + 3) []) = .nx [.cel 0, .d (.tuple ds), .d (.int a), .d (tD nm g xa xb kd pr ps), .d (.int q), .d (.int p), .d (.list [.none, .int (-1), .bool true, .str "Alpha", .str "", .str "toolonger", .tuple [], .int 36501, .int 1000000000001, .str "a b", .str "9a", .tuple [.str "part"], .tuple [.str "risk", .int 1], .tuple [.str "part", .int 10001]])] (DSc nums (k + 3) []) := by
    simp
  generalize hodd : ([PyData.none, .int (-1), .bool true, .str "Alpha", .str "", .str "toolonger", .tuple [], .int 36501, .int 1000000000001, .str "a b", .str "9a", .tuple [.str "part"], .tuple [.str "risk", .int 1], .tuple [.str "part", .int 10001]] : List D) = odd at ho P6
  have run : ∀ (v : D) (k' : Nat), (gSeq (sIf (op2 ltD (eV 4) (eC (.int (6)))) (sSet 3 (eBin addD (eBin addD (eSl (eV 3) oNone (oSome (eV 5))) (eTup (aCons (eBin ixD (eV 6) (eBin modD (eFrz (eCallC F__law_draw (aCons (eV 0) aNil))) (eC (.int (14))))) aNil))) (eSl (eV 3) (oSome (eBin addD (eV 5) (eC (.int (1))))) oNone))) (sIf (op2 eqD (eV 4) (eC (.int (6)))) (sSet 3 (eBin addD (eBin addD (eSl (eV 3) oNone (oSome (eC (.int (5))))) (eTup (aCons (eBin addD (eBin ixD (eV 3) (eC (.int (5)))) (eTup (aCons (eTup (aCons (eBin ixD (eV 3) (eC (.int (4)))) (aCons (eC (.int (1))) aNil))) aNil))) aNil))) (eSl (eV 3) (oSome (eC (.int (6)))) oNone))) (sIf (op2 eqD (eV 4) (eC (.int (7)))) (sSet 3 (eBin addD (eBin addD (eSl (eV 3) oNone (oSome (eC (.int (5))))) (eTup (aCons (eTup (aCons (eTup (aCons (eBin ixD (eV 3) (eC (.int (4)))) (aCons (eC (.int (10000))) aNil))) aNil)) aNil))) (eSl (eV 3) (oSome (eC (.int (6)))) oNone))) (sIf (op2 eqD (eV 4) (eC (.int (8)))) (sSet 3 (eBin addD (eBin addD (eSl (eV 3) oNone (oSome (eC (.int (4))))) (eTup (aCons (eC (.str "omega")) (aCons (eTup (aCons (eTup (aCons (eBin ixD (eBin ixD (eV 1) (eC (.int (0)))) (eC (.int (4)))) (aCons (eC (.int (10000))) aNil))) aNil)) aNil)))) (eSl (eV 3) (oSome (eC (.int (6)))) oNone))) (sIf (op2 eqD (eV 4) (eC (.int (9)))) (sSet 3 (eBin addD (eBin addD (eSl (eV 3) oNone (oSome (eC (.int (2))))) (eTup (aCons (eBin ixD (eV 3) (eC (.int (3)))) (aCons (eBin ixD (eV 3) (eC (.int (2)))) aNil)))) (eSl (eV 3) (oSome (eC (.int (4)))) oNone))) (sIf (op2 eqD (eV 4) (eC (.int (10)))) (sSet 3 (eCd listG (aCons (eV 3) aNil))) (sIf (op2 eqD (eV 4) (eC (.int (11)))) (sSet 3 (eBin addD (eBin addD (eSl (eV 3) oNone (oSome (eC (.int (6))))) (eTup (aCons (eTup (aCons (eC (.str "year")) (aCons (eC (.int (5))) (aCons (eC (.int (1))) (aCons (eBin ixD (eFrz (eLst (aCons (eC (.int (9))) (aCons (eC (.int (8))) (aCons (eC (.bool true)) aNil))))) (eBin modD (eFrz (eCallC F__law_draw (aCons (eV 0) aNil))) (eC (.int (3))))) (aCons (eC (.int (0))) aNil)))))) aNil))) (eSl (eV 3) (oSome (eC (.int (7)))) oNone))) (sIf (op2 eqD (eV 4) (eC (.int (12)))) (sRet (eRv (eBin addD (eV 1) (eTup (aCons (eTup (aCons (eC (.str "treaty")) (aCons (eC (.str "back")) (aCons (eC (.int (0))) (aCons (eC (.int (9))) (aCons (eBin ixD (eBin ixD (eBin ixD (eV 3) (eC (.int (5)))) (eC (.int (0)))) (eC (.int (0)))) (aCons (eTup (aCons (eTup (aCons (eBin ixD (eV 3) (eC (.int (4)))) (aCons (eC (.int (10000))) aNil))) aNil)) (aCons (eTup (aCons (eC (.str "part")) (aCons (eC (.int (1))) aNil))) (aCons (eC (.int (0))) aNil))))))))) aNil))))) (sRet (eRv (eBin ixD (eFrz (eLst (aCons (eBin addD (eV 1) (eSl (eV 1) oNone (oSome (eC (.int (1)))))) (aCons (eCd listG (aCons (eV 1) aNil)) (aCons (eBin addD (eV 1) (eTup (aCons (eC .none) aNil))) (aCons (eC .none) (aCons (eC (.int (5))) aNil))))))) (eBin modD (eFrz (eCallC F__law_draw (aCons (eV 0) aNil))) (eC (.int (5)))))))))))))))
    (sRet (eRv (eBin addD (eBin addD (eSl (eV 1) oNone (oSome (eV 2))) (eTup (aCons (eV 3) aNil))) (eSl (eV 1) (oSome (eBin addD (eV 2) (eC (.int (1))))) oNone))))) [.cel 0, .d (.tuple ds), .d (.int a), .d (tD nm g xa xb kd pr ps), .d (.int q), .d (.int p), .d (.list odd)] (DSc nums (k + 3) []) = .rt (.d v) (DSc nums k' []) → callC F__law_spoilt [.cel 0, .d (.tuple ds)] (DSc nums k c) = .ok (.d v) (DSc nums k' c) := fun v k' h => by
    refine callC_DS rfl ?_
    have h6 := gSeq_of P2 (gSeq_of P3 (gSeq_of P4 (gSeq_of P5 (gSeq_of P6 h))))
    unfold F__law_spoilt
    rw [runG_]
    exact (congrArg (fin 1) h6).trans (by simp)
  by_cases c6 : q < 6
  · obtain ⟨TA, TB, hTA, hTB, tl, tm⟩ : ∃ TA TB, cutD [.str "treaty", .str nm, xa, xb, .str g, .tuple ps, kd, pr] none (some (p : Int)) = TA ∧ cutD [.str "treaty", .str nm, xa, xb, .str g, .tuple ps, kd, pr] (some ((p : Int) + 1)) none = TB ∧ TA.length + 1 + TB.length ≤ 30 ∧ ∀ x ∈ TA ++ TB, SD 2 x := by
      refine ⟨_, _, cutD_to _ p, cutD_from _ (p + 1), by rw [List.length_take, List.length_drop]; simp; omega, fun x hx => ?_⟩
      rcases List.mem_append.1 hx with hx | hx
      · exact tsd.mem (List.mem_of_mem_take hx)
      · exact tsd.mem (List.mem_of_mem_drop hx)
    have y1 : TA.length + 1 ≤ sizeLine := size_ok (by omega)
    have y2 : TA.length + 1 + TB.length ≤ sizeLine := size_ok (by omega)
    have c6' : (q : Int) < 6 := by omega
    refine ⟨_, k + 4, run (.tuple (A ++ (.tuple (TA ++ o :: TB) :: B))) _ ?_, put (.tuple (TA ++ o :: TB)) ((sd_tup (n := 2) (fun x hx => ?_) (by omega)).mono (by omega)), by omega, by omega⟩
    · simp [c6', hTA, hTB, d3, ho, y1, y2, c1, c2, zA, zB, -callC_, -cutD1, -cutD2, -cutD3]
    · rcases List.mem_append.1 hx with hx | hx
      · exact tm x (by simp [hx])
      · rcases List.mem_cons.1 hx with rfl | hx
        · exact so.mono (by omega)
        · exact tm x (by simp [hx])
  · have nq : ¬ (q : Int) < 6 := by omega
    have mk : ∀ (t' : D) (k' : Nat), SD 6 t' → k ≤ k' → k' ≤ k + 10 → (gSeq (sIf (op2 ltD (eV 4) (eC (.int (6)))) (sSet 3 (eBin addD (eBin addD (eSl (eV 3) oNone (oSome (eV 5))) (eTup (aCons (eBin ixD (eV 6) (eBin modD (eFrz (eCallC F__law_draw (aCons (eV 0) aNil))) (eC (.int (14))))) aNil))) (eSl (eV 3) (oSome (eBin addD (eV 5) (eC (.int (1))))) oNone))) (sIf (op2 eqD (eV 4) (eC (.int (6)))) (sSet 3 (eBin addD (eBin addD (eSl (eV 3) oNone (oSome (eC (.int (5))))) (eTup (aCons (eBin addD (eBin ixD (eV 3) (eC (.int (5)))) (eTup (aCons (eTup (aCons (eBin ixD (eV 3) (eC (.int (4)))) (aCons (eC (.int (1))) aNil))) aNil))) aNil))) (eSl (eV 3) (oSome (eC (.int (6)))) oNone))) (sIf (op2 eqD (eV 4) (eC (.int (7)))) (sSet 3 (eBin addD (eBin addD (eSl (eV 3) oNone (oSome (eC (.int (5))))) (eTup (aCons (eTup (aCons (eTup (aCons (eBin ixD (eV 3) (eC (.int (4)))) (aCons (eC (.int (10000))) aNil))) aNil)) aNil))) (eSl (eV 3) (oSome (eC (.int (6)))) oNone))) (sIf (op2 eqD (eV 4) (eC (.int (8)))) (sSet 3 (eBin addD (eBin addD (eSl (eV 3) oNone (oSome (eC (.int (4))))) (eTup (aCons (eC (.str "omega")) (aCons (eTup (aCons (eTup (aCons (eBin ixD (eBin ixD (eV 1) (eC (.int (0)))) (eC (.int (4)))) (aCons (eC (.int (10000))) aNil))) aNil)) aNil)))) (eSl (eV 3) (oSome (eC (.int (6)))) oNone))) (sIf (op2 eqD (eV 4) (eC (.int (9)))) (sSet 3 (eBin addD (eBin addD (eSl (eV 3) oNone (oSome (eC (.int (2))))) (eTup (aCons (eBin ixD (eV 3) (eC (.int (3)))) (aCons (eBin ixD (eV 3) (eC (.int (2)))) aNil)))) (eSl (eV 3) (oSome (eC (.int (4)))) oNone))) (sIf (op2 eqD (eV 4) (eC (.int (10)))) (sSet 3 (eCd listG (aCons (eV 3) aNil))) (sIf (op2 eqD (eV 4) (eC (.int (11)))) (sSet 3 (eBin addD (eBin addD (eSl (eV 3) oNone (oSome (eC (.int (6))))) (eTup (aCons (eTup (aCons (eC (.str "year")) (aCons (eC (.int (5))) (aCons (eC (.int (1))) (aCons (eBin ixD (eFrz (eLst (aCons (eC (.int (9))) (aCons (eC (.int (8))) (aCons (eC (.bool true)) aNil))))) (eBin modD (eFrz (eCallC F__law_draw (aCons (eV 0) aNil))) (eC (.int (3))))) (aCons (eC (.int (0))) aNil)))))) aNil))) (eSl (eV 3) (oSome (eC (.int (7)))) oNone))) (sIf (op2 eqD (eV 4) (eC (.int (12)))) (sRet (eRv (eBin addD (eV 1) (eTup (aCons (eTup (aCons (eC (.str "treaty")) (aCons (eC (.str "back")) (aCons (eC (.int (0))) (aCons (eC (.int (9))) (aCons (eBin ixD (eBin ixD (eBin ixD (eV 3) (eC (.int (5)))) (eC (.int (0)))) (eC (.int (0)))) (aCons (eTup (aCons (eTup (aCons (eBin ixD (eV 3) (eC (.int (4)))) (aCons (eC (.int (10000))) aNil))) aNil)) (aCons (eTup (aCons (eC (.str "part")) (aCons (eC (.int (1))) aNil))) (aCons (eC (.int (0))) aNil))))))))) aNil))))) (sRet (eRv (eBin ixD (eFrz (eLst (aCons (eBin addD (eV 1) (eSl (eV 1) oNone (oSome (eC (.int (1)))))) (aCons (eCd listG (aCons (eV 1) aNil)) (aCons (eBin addD (eV 1) (eTup (aCons (eC .none) aNil))) (aCons (eC .none) (aCons (eC (.int (5))) aNil))))))) (eBin modD (eFrz (eCallC F__law_draw (aCons (eV 0) aNil))) (eC (.int (5)))))))))))))))
    (sRet (eRv (eBin addD (eBin addD (eSl (eV 1) oNone (oSome (eV 2))) (eTup (aCons (eV 3) aNil))) (eSl (eV 1) (oSome (eBin addD (eV 2) (eC (.int (1))))) oNone))))) [.cel 0, .d (.tuple ds), .d (.int a), .d (tD nm g xa xb kd pr ps), .d (.int q), .d (.int p), .d (.list odd)] (DSc nums (k + 3) []) = .rt (.d (.tuple (A ++ t' :: B))) (DSc nums k' []) → ∃ v k', callC F__law_spoilt [.cel 0, .d (.tuple ds)] (DSc nums k c) = .ok (.d v) (DSc nums k' c) ∧ Good v ∧ k ≤ k' ∧ k' ≤ k + 10 := fun t' k' h1 h2 h3 h4 => ⟨_, k', run _ _ h4, put t' h1, h2, h3⟩
    have ten : SD 1 (.tuple [.str g, .int 10000]) := sd_tup (by simpa using ⟨gs, sd_int 10000⟩) (by omega)
    have ten0 : SD 1 (.tuple [.str g0, .int 10000]) := sd_tup (by simpa using ⟨g0s, sd_int 10000⟩) (by omega)
    have one : SD 1 (.tuple [.str g, .int 1]) := sd_tup (by simpa using ⟨gs, sd_int 1⟩) (by omega)
    rcases (by omega : q = 6 ∨ q = 7 ∨ q = 8 ∨ q = 9 ∨ q = 10 ∨ q = 11 ∨ q = 12 ∨ q = 13) with rfl | rfl | rfl | rfl | rfl | rfl | rfl | rfl
    · refine mk _ (k + 3) (e8 (.tuple (ps ++ [.tuple [.str g, .int 1]])) ((sd_tup (n := 1) (fun x hx => ?_) (by omega)).mono (by omega))) (by omega) (by omega) ?_
      · rcases List.mem_append.1 hx with hx | hx
        · exact psm x hx
        · rw [List.mem_singleton.1 hx]; exact one
      · simp [i6, k5, f6, zP, c1, c2, zA, zB, -callC_, -cutD1, -cutD2, -cutD3]
    · refine mk _ (k + 3) (e8 (.tuple [.tuple [.str g, .int 10000]]) ((sd_tup (n := 1) (by simpa using ten) (by omega)).mono (by omega))) (by omega) (by omega) ?_
      simp [i6, k5, f6, c1, c2, zA, zB, -callC_, -cutD1, -cutD2, -cutD3]
    · refine mk (.tuple [.str "treaty", .str nm, xa, xb, .str "omega", .tuple [.tuple [.str g0, .int 10000]], kd, pr]) (k + 3) (sd_tup (n := 5) (by simpa using ⟨s0.mono (by omega), s1.mono (by omega), s2.mono (by omega), s3.mono (by omega), (sd_lit "omega" (by decide)).mono (by omega), (sd_tup (n := 1) (by simpa using ten0) (by omega)).mono (by omega), s6.mono (by omega), s7.mono (by omega)⟩) (by omega)) (by omega) (by omega) ?_
      simp [i6, at0, k4, f6, c1, c2, zA, zB, -callC_, -cutD1, -cutD2, -cutD3]
    · refine mk (.tuple [.str "treaty", .str nm, xb, xa, .str g, .tuple ps, kd, pr]) (k + 3) (sd_tup (n := 5) (by simpa using ⟨s0.mono (by omega), s1.mono (by omega), s3.mono (by omega), s2.mono (by omega), gs.mono (by omega), s5.mono (by omega), s6.mono (by omega), s7.mono (by omega)⟩) (by omega)) (by omega) (by omega) ?_
      simp [i6, k2, f4, c1, c2, zA, zB, -callC_, -cutD1, -cutD2, -cutD3]
    · refine mk (.list [.str "treaty", .str nm, xa, xb, .str g, .tuple ps, kd, pr]) (k + 3) (sd_lst (n := 5) (by simpa using ⟨s0.mono (by omega), s1.mono (by omega), s2.mono (by omega), s3.mono (by omega), gs.mono (by omega), s5.mono (by omega), s6.mono (by omega), s7.mono (by omega)⟩) (by omega)) (by omega) (by omega) ?_
      simp [i6, c1, c2, zA, zB, -callC_, -cutD1, -cutD2, -cutD3]
    · obtain ⟨y, sy, hy⟩ := atI_mod (xs := [.int 9, .int 8, .bool true]) (P := SD 0) (dr nums (k + 3)) 3 rfl (by simp) (by
        intro x hx
        simp only [List.mem_cons, List.not_mem_nil, or_false] at hx
        rcases hx with rfl | rfl | rfl
        · exact sd_int _
        · exact sd_int _
        · exact sd_bl _)
      refine mk (.tuple [.str "treaty", .str nm, xa, xb, .str g, .tuple ps, .tuple [.str "year", .int 5, .int 1, y, .int 0], pr]) (k + 4) (sd_tup (n := 5) (by simpa using ⟨s0.mono (by omega), s1.mono (by omega), s2.mono (by omega), s3.mono (by omega), gs.mono (by omega), s5.mono (by omega), (sd_tup (n := 0) (by simpa using ⟨sd_lit "year" (by decide), sd_int 5, sd_int 1, sy, sd_int 0⟩) (by omega)).mono (by omega), s7.mono (by omega)⟩) (by omega)) (by omega) (by omega) ?_
      simp [i6, d3, hy, k6, f7, c1, c2, zA, zB, -callC_, -cutD1, -cutD2, -cutD3]
    · have pq : ∃ n i, ∃ r, ps = .tuple [.str n, .int i] :: r := by
        have l := (hd a _ ge).tp
        rw [et] at l
        have hsh : sharesP (.tuple ps) = true := by
          have l' : (decide (("treaty" : Str) = "treaty") && (isName (.str nm) && (isNum xa 0 36500 && (isNum xb 0 36500 && (leI xa xb && (isName (.str g) && (sharesP (.tuple ps) && (!(decide (strD (.str g) ∈ (itsD (.tuple ps)).map fst0)) && (kindP kd && isNum pr 0 1000000000000))))))))) = true := l
          simp only [Bool.and_eq_true] at l'
          exact l'.2.2.2.2.2.2.1
        obtain ⟨ps', e', h1, _⟩ := sharesP_is hsh
        cases e'
        cases ps with
        | nil => simp at h1
        | cons z r =>
          rw [List.all_cons, Bool.and_eq_true] at pp
          obtain ⟨n, i, rfl, _⟩ := pairP_is pp.1
          exact ⟨n, i, r, rfl⟩
      obtain ⟨n, i, r, rfl⟩ := pq
      have ns : SD 0 (.str n) := by
        have := (psm _ (List.mem_cons_self ..)).1.mem (x := .str n) (by simp)
        exact ⟨this, by simp [PyData.depth]⟩
      have z7 : ds.length + 1 ≤ sizeLine := size_ok (by omega)
      refine ⟨_, k + 3, run (.tuple (ds ++ [.tuple [.str "treaty", .str "back", .int 0, .int 9, .str n, .tuple [.tuple [.str g, .int 10000]], .tuple [.str "part", .int 1], .int 0]])) _ ?_, .inl ⟨_, rfl, by simp; omega, (sd_tup (n := 6) (fun x hx => ?_) (by omega)).1⟩, by omega, by omega⟩
      · simp [i6, z7, -callC_]
      · rcases List.mem_append.1 hx with hx | hx
        · exact (sds x hx).mono (by omega)
        · rw [List.mem_singleton.1 hx]
          exact sd_tup (n := 5) (by simpa using ⟨s0.mono (by omega), (sd_lit "back" (by decide)).mono (by omega), (sd_int 0).mono (by omega), (sd_int 9).mono (by omega), ns.mono (by omega), (sd_tup (n := 1) (by simpa using ten) (by omega)).mono (by omega), (sd_tup (n := 0) (by simpa using ⟨sd_lit "part" (by decide), sd_int 1⟩) (by omega)).mono (by omega), (sd_int 0).mono (by omega)⟩) (by omega)
    · have t1 : cutD ds none (some 1) = ds.take 1 := cutD_to ds 1
      have z7 : ds.length + 1 ≤ sizeLine := size_ok (by omega)
      have z8 : ds.length + (ds.take 1).length ≤ sizeLine := size_ok (by rw [List.length_take]; omega)
      have g1 : Good (.tuple (ds ++ ds.take 1)) := .inl ⟨_, rfl, by rw [List.length_append, List.length_take]; omega, (sd_tup (n := 6) (fun x hx => by
        rcases List.mem_append.1 hx with hx | hx
        · exact (sds x hx).mono (by omega)
        · exact (sds x (List.mem_of_mem_take hx)).mono (by omega)) (by omega)).1⟩
      have g3 : Good (.tuple (ds ++ [.none])) := .inl ⟨_, rfl, by rw [List.length_append]; simp; omega, (sd_tup (n := 6) (fun x hx => by
        rcases List.mem_append.1 hx with hx | hx
        · exact (sds x hx).mono (by omega)
        · rw [List.mem_singleton.1 hx]; exact sd_non.mono (by omega)) (by omega)).1⟩
      generalize ds.take 1 = D1 at *
      obtain ⟨v, gv', hv⟩ := atI_mod (xs := [.tuple (ds ++ D1), .list ds, .tuple (ds ++ [.none]), .none, .int 5]) (P := Good) (dr nums (k + 3)) 5 rfl (by simp) (by
        intro x hx
        simp only [List.mem_cons, List.not_mem_nil, or_false] at hx
        rcases hx with rfl | rfl | rfl | rfl | rfl
        · exact g1
        · exact .inr fun _ z => by cases z
        · exact g3
        · exact .inr fun _ z => by cases z
        · exact .inr fun _ z => by cases z)
      refine ⟨v, k + 4, run v _ ?_, gv', by omega, by omega⟩
      simp [t1, z7, z8, d3, hv, -callC_]
end
theorem sTry_ {i : Nat} {known sub : Str → Bool} {h : Str → Addr → G} {g : G} {ρ : List S} {cs : Store} : sTry i known sub h g ρ cs = match g ρ cs with
  | .er c ρ' cs' => if known c = true then (if sub c = true then hAs i h c ρ' cs' else .er c ρ' cs') else .no
  | o => o := rfl
theorem check_ {v : D} {b : Bool} (r : F_are_treaties [.d v] [] = .ok (.d (.bool b)) []) : F_check_treaties [.d v] [] = if b = true then .ok (.d .none) [] else .er "BadTreaty" [] := by
  cases b <;> simp [F_check_treaties, B_check_treaties, r]
theorem refused_ {v : D} {b : Bool} (r : F_are_treaties [.d v] [] = .ok (.d (.bool b)) []) : F__law_refused [.d v] [] = .ok (if b = true then .own (.lst [.str "taken"]) else .d (.list [.str "refused"])) [] := by
  have r' := check_ r
  cases b with
  | true =>
    simp at r'
    simp [F__law_refused, B__law_refused, sTry_, r']
  | false =>
    simp at r'
    have k1 : exKnown "BadTreaty" = true := rfl
    have k2 : exSub_BadTreaty "BadTreaty" = true := rfl
    have k3 : exSub_BadArgument "BadTreaty" = false := rfl
    have k4 : exSub_BadWords "BadTreaty" = false := rfl
    have k6 : exSub_BadForm "BadTreaty" = false := rfl
    have k7 : exSub_BadRecord "BadTreaty" = false := rfl
    have k8 : exSub_WhatbefellError "BadTreaty" = true := rfl
    have hh := hAs_of (i := 1) (h := fun c a => (gSeq (sIf (tOrM (tNotM (tT (eIsE 1 a (exSub_WhatbefellError c)))) (tOrM (tT (eIsE 1 a (exSub_BadArgument c))) (tT (eIsE 1 a (exSub_BadWords c))))) (sRet (eLst (aCons (eC (.bool false)) aNil))) gNil)
      (sRet (eRv (eIf (tAndM (tNotM (tT (eIsE 1 a (exSub_BadForm c)))) (tNotM (tT (eIsE 1 a (exSub_BadRecord c))))) (eFrz (eLst (aCons (eC (.str "refused")) aNil))) (eFrz (eLst (aCons (eC (.bool false)) aNil)))))))) (c := "BadTreaty") (ρ := [.d v, .no]) (cs := []) (o := .rt (.d (.list [.str "refused"])) []) (fun a => by
      simp [eIsE, k3, k4, k6, k7, k8])
    simp [F__law_refused, B__law_refused, sTry_, r', k1, k2, hh]
theorem both_ {v : D} (h : Good v) : F_are_treaties [.d v] [] = .ok (.d (.bool (TR v))) [] ∧ F__law_are_treaties [.d v] [] = .ok (.d (.bool (TR v))) [] := by
  rcases h with ⟨xs, rfl, hl, hs⟩ | h
  · exact ⟨are_treaties_ hs hl, law_treaties_ hs hl⟩
  · exact ⟨are_treaties_no h, law_treaties_no h⟩
theorem ne_same (s : String) : neD (.list [.str s]) (.list [.str s]) = some false := by
  have sh : SeqAt.shaped (.list [.str (Str.ofString s)]) = true := by
    have := names_shaped (l := [Str.ofString s]) (by simp)
    simpa using this
  unfold neD
  rw [eqD_sh sh sh]
  simp [PyData.eqv, PyData.eqvAll]
section
variable {nums : List Int} (hI : InR nums)
include hI
theorem turns {ds : List D} (hd : ∀ (i : Nat) (d : D), ds[i]? = some d → DT i d) (l1 : 1 ≤ ds.length) (l5 : ds.length ≤ 5) (s0 : S) : ∀ (js : List Int) (k : Nat) (s3 s4 : S), k + 10 * js.length < 1000000 → ∃ ρ' cs', gFor (gtN 3) (gSeq (sSet 4 (eFrz (eCallC F__law_spoilt (aCons (eV 1) (aCons (eV 2) aNil)))))
      (sIf (op2 neD (eFrz (eCall F__law_refused (aCons (eV 4) aNil))) (eBin ixD (eFrz (eLst (aCons (eFrz (eLst (aCons (eC (.str "refused")) aNil))) (aCons (eFrz (eLst (aCons (eC (.str "taken")) aNil))) aNil)))) (eCd intG (aCons (eFrz (eCall F__law_are_treaties (aCons (eV 4) aNil))) aNil)))) (sRet (eRv (eC (.bool false)))) gNil)) (js.map .int) [s0, .cel 0, .d (.tuple ds), s3, s4] (DSc nums k []) = .nx ρ' cs'
  | [], k, s3, s4, _ => ⟨_, _, rfl⟩
  | j :: js, k, s3, s4, hk => by
    rw [List.length_cons] at hk
    obtain ⟨v, k', e, g, q1, q2⟩ := spoilt_ hI hd l1 l5 k (by omega) []
    obtain ⟨b1, b2⟩ := both_ g
    have rf := refused_ b1
    have n1 := ne_same "taken"
    have n2 := ne_same "refused"
    obtain ⟨ρ', cs', e2⟩ := turns hd l1 l5 s0 js k' (.d (.int j)) (.d v) (by omega)
    refine ⟨ρ', cs', ?_⟩
    rw [List.map_cons, gFor_cons]
    cases hb : TR v with
    | true =>
      rw [hb] at rf b2
      simp at rf
      simp [e, rf, b2, n1, e2, -callC_]
    | false =>
      rw [hb] at rf b2
      simp at rf
      simp [e, rf, b2, n2, e2, -callC_]
end
theorem law_true (K : PySem.W.Frag) (ns : List Int) (h : ns.length ≤ 63) : ∃ cs', F_law [.d (.list (ns.map .int))] [] = .ok (.d (.bool true)) cs' := by
  obtain ⟨nums, e, h1, h2⟩ := numbers_ ns (by omega)
  have d0 : callC F__law_draw [.cel 0] (DSc nums 0 []) = .ok (.d (.int (dr nums 0))) (DSc nums 1 []) := drc h1 (by omega) _ rfl
  obtain ⟨a, ha, ea⟩ := modN h1 0 (n := 5) (by decide)
  rw [show ((5 : Nat) : Int) = 5 from rfl] at ea
  obtain ⟨ds, k1, f, q1, q2, q3, q4⟩ := treaties_ h1 (many := 1 + a) (by omega) (by omega) 1 (by omega) []
  rw [show ((1 + a : Nat) : Int) = 1 + (a : Int) by omega] at f
  have tr := TR_drawn q2 (by omega)
  have gd : Good (.tuple ds) := .inl ⟨ds, rfl, by omega, (sd_tup (n := 3) (fun x hx => by
    obtain ⟨i, hi, e⟩ := List.mem_iff_getElem.1 hx
    exact (q2 i x (by rw [List.getElem?_eq_getElem hi, e])).sd) (by omega)).1⟩
  have c1 := check_ (both_ gd).1
  rw [tr] at c1
  have tr0 : TR (.tuple []) = true := TR_drawn (ds := []) (by simp) (by simp)
  have gd0 : Good (.tuple []) := .inl ⟨[], rfl, by simp, (sd_tup (n := 0) (by simp) (by omega)).1⟩
  have c2 := check_ (both_ gd0).1
  rw [tr0] at c2
  simp at c1 c2
  obtain ⟨ρ', cs', t⟩ := turns h1 q2 (by omega) (by omega) (.d (.list (ns.map .int))) ((List.range 6).map fun (k : Nat) => 0 + (k : Int)) k1 .no .no (by simp; omega)
  rw [← rngD_map] at t
  rw [show DSc nums 0 [] = [.lst [.list (nums.map .int), .int 0]] from rfl] at d0
  simp [F_law, B_law, e, d0, ea, f, c1, c2, t, -callC_]
end Law

set_option Elab.async false
set_option linter.all false
set_option maxRecDepth 100000
set_option maxHeartbeats 4000000
namespace Law
open PySem L2 Dn
/-! the text by places -/
def top (i : Nat) : Stmt := PySem.Challenge.pw_whatbefell_k41_treaties_are_checked.main.body.getD i (.Pass ⟨0, 0, 0, 0⟩)
abbrev st_is_number : Stmt := top 12
abbrev st_is_name : Stmt := top 13
abbrev st_is_day : Stmt := top 14
abbrev st_is_money : Stmt := top 15
abbrev st_is_tuple : Stmt := top 16
abbrev st_are_unlike : Stmt := top 17
abbrev st_are_shares : Stmt := top 18
abbrev st_is_kind : Stmt := top 20
abbrev st_is_treaty : Stmt := top 21
abbrev st_givers_first : Stmt := top 22
abbrev st_are_treaties : Stmt := top 23
abbrev st_check_treaties : Stmt := top 24
abbrev st__law_mixed : Stmt := top 26
abbrev st__law_numbers : Stmt := top 27
abbrev st__law_draw : Stmt := top 28
abbrev st__law_equal : Stmt := top 29
abbrev st__law_all_equal : Stmt := top 30
abbrev st__law_in_order : Stmt := top 31
abbrev st__law_takers : Stmt := top 32
abbrev st__law_amount : Stmt := top 33
abbrev st__law_shares : Stmt := top 34
abbrev st__law_kind : Stmt := top 35
abbrev st__law_treaties : Stmt := top 36
abbrev st__law_is_number : Stmt := top 37
abbrev st__law_is_name : Stmt := top 38
abbrev st__law_are_shares : Stmt := top 39
abbrev st__law_is_kind : Stmt := top 40
abbrev st__law_is_treaty : Stmt := top 41
abbrev st__law_are_treaties : Stmt := top 42
abbrev st__law_spoilt : Stmt := top 43
abbrev st__law_refused : Stmt := top 44
abbrev st_law : Stmt := top 45
structure Tx (K : PySem.W.Frag) (mg : PySem.Str → Option Value) : Prop where
  z_bool : mg "bool" = none
  z_int : mg "int" = none
  z_isinstance : mg "isinstance" = none
  z_len : mg "len" = none
  z_list : mg "list" = none
  z_max : mg "max" = none
  z_min : mg "min" = none
  z_range : mg "range" = none
  z_set : mg "set" = none
  z_sorted : mg "sorted" = none
  z_str : mg "str" = none
  z_sum : mg "sum" = none
  z_tuple : mg "tuple" = none
  m_LETTERS : ∃ t, mg "LETTERS" = some (.str "abcdefghijklmnopqrstuvwxyz" t)
  m_FIGURES : ∃ t, mg "FIGURES" = some (.str "0123456789" t)
  m_MONEY : ∃ t, mg "MONEY" = some (.int (1000000000000) t)
  m_LAST : ∃ t, mg "LAST" = some (.int (36500) t)
  x_WhatbefellError : Exf K mg "WhatbefellError"
  x_BadForm : Exf K mg "BadForm"
  x_BadRecord : Exf K mg "BadRecord"
  x_BadWords : Exf K mg "BadWords"
  x_BadTreaty : Exf K mg "BadTreaty"
  x_BadArgument : Exf K mg "BadArgument"
  e_WhatbefellError : ExcC K (He.ga K "WhatbefellError")
  e_BadForm : ExcC K (He.ga K "BadForm")
  e_BadRecord : ExcC K (He.ga K "BadRecord")
  e_BadWords : ExcC K (He.ga K "BadWords")
  e_BadTreaty : ExcC K (He.ga K "BadTreaty")
  e_BadArgument : ExcC K (He.ga K "BadArgument")
  k_WhatbefellError_BadArgument : PySem.W.kitOne K (.ref (He.ga K "WhatbefellError")) (.ref (He.ga K "BadArgument")) = some false
  k_BadForm_BadArgument : PySem.W.kitOne K (.ref (He.ga K "BadForm")) (.ref (He.ga K "BadArgument")) = some false
  k_BadRecord_BadArgument : PySem.W.kitOne K (.ref (He.ga K "BadRecord")) (.ref (He.ga K "BadArgument")) = some false
  k_BadWords_BadArgument : PySem.W.kitOne K (.ref (He.ga K "BadWords")) (.ref (He.ga K "BadArgument")) = some false
  k_BadTreaty_BadArgument : PySem.W.kitOne K (.ref (He.ga K "BadTreaty")) (.ref (He.ga K "BadArgument")) = some false
  k_BadArgument_BadArgument : PySem.W.kitOne K (.ref (He.ga K "BadArgument")) (.ref (He.ga K "BadArgument")) = some true
  k_WhatbefellError_BadForm : PySem.W.kitOne K (.ref (He.ga K "WhatbefellError")) (.ref (He.ga K "BadForm")) = some false
  k_BadForm_BadForm : PySem.W.kitOne K (.ref (He.ga K "BadForm")) (.ref (He.ga K "BadForm")) = some true
  k_BadRecord_BadForm : PySem.W.kitOne K (.ref (He.ga K "BadRecord")) (.ref (He.ga K "BadForm")) = some false
  k_BadWords_BadForm : PySem.W.kitOne K (.ref (He.ga K "BadWords")) (.ref (He.ga K "BadForm")) = some false
  k_BadTreaty_BadForm : PySem.W.kitOne K (.ref (He.ga K "BadTreaty")) (.ref (He.ga K "BadForm")) = some false
  k_BadArgument_BadForm : PySem.W.kitOne K (.ref (He.ga K "BadArgument")) (.ref (He.ga K "BadForm")) = some false
  k_WhatbefellError_BadRecord : PySem.W.kitOne K (.ref (He.ga K "WhatbefellError")) (.ref (He.ga K "BadRecord")) = some false
  k_BadForm_BadRecord : PySem.W.kitOne K (.ref (He.ga K "BadForm")) (.ref (He.ga K "BadRecord")) = some false
  k_BadRecord_BadRecord : PySem.W.kitOne K (.ref (He.ga K "BadRecord")) (.ref (He.ga K "BadRecord")) = some true
  k_BadWords_BadRecord : PySem.W.kitOne K (.ref (He.ga K "BadWords")) (.ref (He.ga K "BadRecord")) = some false
  k_BadTreaty_BadRecord : PySem.W.kitOne K (.ref (He.ga K "BadTreaty")) (.ref (He.ga K "BadRecord")) = some false
  k_BadArgument_BadRecord : PySem.W.kitOne K (.ref (He.ga K "BadArgument")) (.ref (He.ga K "BadRecord")) = some false
  s_WhatbefellError_BadTreaty : PySem.W.exmOne K (.ref (He.ga K "WhatbefellError")) (.ref (He.ga K "BadTreaty")) = some false
  s_BadForm_BadTreaty : PySem.W.exmOne K (.ref (He.ga K "BadForm")) (.ref (He.ga K "BadTreaty")) = some false
  s_BadRecord_BadTreaty : PySem.W.exmOne K (.ref (He.ga K "BadRecord")) (.ref (He.ga K "BadTreaty")) = some false
  s_BadWords_BadTreaty : PySem.W.exmOne K (.ref (He.ga K "BadWords")) (.ref (He.ga K "BadTreaty")) = some false
  s_BadTreaty_BadTreaty : PySem.W.exmOne K (.ref (He.ga K "BadTreaty")) (.ref (He.ga K "BadTreaty")) = some true
  s_BadArgument_BadTreaty : PySem.W.exmOne K (.ref (He.ga K "BadArgument")) (.ref (He.ga K "BadTreaty")) = some false
  k_WhatbefellError_BadWords : PySem.W.kitOne K (.ref (He.ga K "WhatbefellError")) (.ref (He.ga K "BadWords")) = some false
  k_BadForm_BadWords : PySem.W.kitOne K (.ref (He.ga K "BadForm")) (.ref (He.ga K "BadWords")) = some false
  k_BadRecord_BadWords : PySem.W.kitOne K (.ref (He.ga K "BadRecord")) (.ref (He.ga K "BadWords")) = some false
  k_BadWords_BadWords : PySem.W.kitOne K (.ref (He.ga K "BadWords")) (.ref (He.ga K "BadWords")) = some true
  k_BadTreaty_BadWords : PySem.W.kitOne K (.ref (He.ga K "BadTreaty")) (.ref (He.ga K "BadWords")) = some false
  k_BadArgument_BadWords : PySem.W.kitOne K (.ref (He.ga K "BadArgument")) (.ref (He.ga K "BadWords")) = some false
  k_WhatbefellError_WhatbefellError : PySem.W.kitOne K (.ref (He.ga K "WhatbefellError")) (.ref (He.ga K "WhatbefellError")) = some true
  k_BadForm_WhatbefellError : PySem.W.kitOne K (.ref (He.ga K "BadForm")) (.ref (He.ga K "WhatbefellError")) = some true
  k_BadRecord_WhatbefellError : PySem.W.kitOne K (.ref (He.ga K "BadRecord")) (.ref (He.ga K "WhatbefellError")) = some true
  k_BadWords_WhatbefellError : PySem.W.kitOne K (.ref (He.ga K "BadWords")) (.ref (He.ga K "WhatbefellError")) = some true
  k_BadTreaty_WhatbefellError : PySem.W.kitOne K (.ref (He.ga K "BadTreaty")) (.ref (He.ga K "WhatbefellError")) = some true
  k_BadArgument_WhatbefellError : PySem.W.kitOne K (.ref (He.ga K "BadArgument")) (.ref (He.ga K "WhatbefellError")) = some true
  d_is_number : Dfn K mg "is_number" st_is_number ["value", "low", "high"]
  d_is_name : Dfn K mg "is_name" st_is_name ["value"]
  d_is_day : Dfn K mg "is_day" st_is_day ["value"]
  d_is_money : Dfn K mg "is_money" st_is_money ["value"]
  d_is_tuple : Dfn K mg "is_tuple" st_is_tuple ["value", "low", "high"]
  d_are_unlike : Dfn K mg "are_unlike" st_are_unlike ["values"]
  d_are_shares : Dfn K mg "are_shares" st_are_shares ["value"]
  d_is_kind : Dfn K mg "is_kind" st_is_kind ["value"]
  d_is_treaty : Dfn K mg "is_treaty" st_is_treaty ["value"]
  d_givers_first : Dfn K mg "givers_first" st_givers_first ["treaties"]
  d_are_treaties : Dfn K mg "are_treaties" st_are_treaties ["value"]
  d_check_treaties : Dfn K mg "check_treaties" st_check_treaties ["value"]
  d__law_mixed : Dfn K mg "_law_mixed" st__law_mixed ["number", "k"]
  d__law_numbers : Dfn K mg "_law_numbers" st__law_numbers ["script"]
  d__law_draw : Dfn K mg "_law_draw" st__law_draw ["draws"]
  d__law_equal : Dfn K mg "_law_equal" st__law_equal ["actual", "due"]
  d__law_all_equal : Dfn K mg "_law_all_equal" st__law_all_equal ["actual", "due"]
  d__law_in_order : Dfn K mg "_law_in_order" st__law_in_order ["treaties", "names"]
  d__law_takers : Dfn K mg "_law_takers" st__law_takers ["treaties"]
  d__law_amount : Dfn K mg "_law_amount" st__law_amount ["draws"]
  d__law_shares : Dfn K mg "_law_shares" st__law_shares ["draws", "names", "many"]
  d__law_kind : Dfn K mg "_law_kind" st__law_kind ["draws"]
  d__law_treaties : Dfn K mg "_law_treaties" st__law_treaties ["draws", "many"]
  d__law_is_number : Dfn K mg "_law_is_number" st__law_is_number ["value", "low", "high"]
  d__law_is_name : Dfn K mg "_law_is_name" st__law_is_name ["value"]
  d__law_are_shares : Dfn K mg "_law_are_shares" st__law_are_shares ["value"]
  d__law_is_kind : Dfn K mg "_law_is_kind" st__law_is_kind ["value"]
  d__law_is_treaty : Dfn K mg "_law_is_treaty" st__law_is_treaty ["value"]
  d__law_are_treaties : Dfn K mg "_law_are_treaties" st__law_are_treaties ["value"]
  d__law_spoilt : Dfn K mg "_law_spoilt" st__law_spoilt ["draws", "treaties"]
  d__law_refused : Dfn K mg "_law_refused" st__law_refused ["value"]
  d_law : Dfn K mg "law" st_law ["script"]
theorem sc_is_number : FnScope ["value", "low", "high"] ["value", "low", "high"] (defScope st_is_number) := ⟨rfl, rfl, rfl, by decide +kernel, rfl, by decide +kernel, by decide +kernel⟩
theorem sc_is_name : FnScope ["value", "sign"] ["value"] (defScope st_is_name) := ⟨rfl, rfl, rfl, by decide +kernel, rfl, by decide +kernel, by decide +kernel⟩
theorem sc_is_day : FnScope ["value"] ["value"] (defScope st_is_day) := ⟨rfl, rfl, rfl, by decide +kernel, rfl, by decide +kernel, by decide +kernel⟩
theorem sc_is_money : FnScope ["value"] ["value"] (defScope st_is_money) := ⟨rfl, rfl, rfl, by decide +kernel, rfl, by decide +kernel, by decide +kernel⟩
theorem sc_is_tuple : FnScope ["value", "low", "high"] ["value", "low", "high"] (defScope st_is_tuple) := ⟨rfl, rfl, rfl, by decide +kernel, rfl, by decide +kernel, by decide +kernel⟩
theorem sc_are_unlike : FnScope ["values"] ["values"] (defScope st_are_unlike) := ⟨rfl, rfl, rfl, by decide +kernel, rfl, by decide +kernel, by decide +kernel⟩
theorem sc_are_shares : FnScope ["value", "pair"] ["value"] (defScope st_are_shares) := ⟨rfl, rfl, rfl, by decide +kernel, rfl, by decide +kernel, by decide +kernel⟩
theorem sc_is_kind : FnScope ["value"] ["value"] (defScope st_is_kind) := ⟨rfl, rfl, rfl, by decide +kernel, rfl, by decide +kernel, by decide +kernel⟩
theorem sc_is_treaty : FnScope ["value", "pair"] ["value"] (defScope st_is_treaty) := ⟨rfl, rfl, rfl, by decide +kernel, rfl, by decide +kernel, by decide +kernel⟩
theorem sc_givers_first : FnScope ["treaties", "givers", "treaty", "name", "share", "found", "ready", "one"] ["treaties"] (defScope st_givers_first) := ⟨rfl, rfl, rfl, by decide +kernel, rfl, by decide +kernel, by decide +kernel⟩
theorem sc_are_treaties : FnScope ["value", "one"] ["value"] (defScope st_are_treaties) := ⟨rfl, rfl, rfl, by decide +kernel, rfl, by decide +kernel, by decide +kernel⟩
theorem sc_check_treaties : FnScope ["value"] ["value"] (defScope st_check_treaties) := ⟨rfl, rfl, rfl, by decide +kernel, rfl, by decide +kernel, by decide +kernel⟩
theorem sc__law_mixed : FnScope ["number", "k", "step"] ["number", "k"] (defScope st__law_mixed) := ⟨rfl, rfl, rfl, by decide +kernel, rfl, by decide +kernel, by decide +kernel⟩
theorem sc__law_numbers : FnScope ["script", "numbers", "cell", "rest", "k"] ["script"] (defScope st__law_numbers) := ⟨rfl, rfl, rfl, by decide +kernel, rfl, by decide +kernel, by decide +kernel⟩
theorem sc__law_draw : FnScope ["draws", "at", "first"] ["draws"] (defScope st__law_draw) := ⟨rfl, rfl, rfl, by decide +kernel, rfl, by decide +kernel, by decide +kernel⟩
theorem sc__law_equal : FnScope ["actual", "due"] ["actual", "due"] (defScope st__law_equal) := ⟨rfl, rfl, rfl, by decide +kernel, rfl, by decide +kernel, by decide +kernel⟩
theorem sc__law_all_equal : FnScope ["actual", "due", "k"] ["actual", "due"] (defScope st__law_all_equal) := ⟨rfl, rfl, rfl, by decide +kernel, rfl, by decide +kernel, by decide +kernel⟩
theorem sc__law_in_order : FnScope ["treaties", "names", "left", "found", "turn", "company", "givers", "treaty", "pair", "one"] ["treaties", "names"] (defScope st__law_in_order) := ⟨rfl, rfl, rfl, by decide +kernel, rfl, by decide +kernel, by decide +kernel⟩
theorem sc__law_takers : FnScope ["treaties", "found", "treaty", "pair"] ["treaties"] (defScope st__law_takers) := ⟨rfl, rfl, rfl, by decide +kernel, rfl, by decide +kernel, by decide +kernel⟩
theorem sc__law_amount : FnScope ["draws"] ["draws"] (defScope st__law_amount) := ⟨rfl, rfl, rfl, by decide +kernel, rfl, by decide +kernel, by decide +kernel⟩
theorem sc__law_shares : FnScope ["draws", "names", "many", "order", "found", "left", "k", "name", "share", "one"] ["draws", "names", "many"] (defScope st__law_shares) := ⟨rfl, rfl, rfl, by decide +kernel, rfl, by decide +kernel, by decide +kernel⟩
theorem sc__law_kind : FnScope ["draws", "a", "b"] ["draws"] (defScope st__law_kind) := ⟨rfl, rfl, rfl, by decide +kernel, rfl, by decide +kernel, by decide +kernel⟩
theorem sc__law_treaties : FnScope ["draws", "many", "names", "found", "k", "at", "takers", "first", "last", "shares"] ["draws", "many"] (defScope st__law_treaties) := ⟨rfl, rfl, rfl, by decide +kernel, rfl, by decide +kernel, by decide +kernel⟩
theorem sc__law_is_number : FnScope ["value", "low", "high"] ["value", "low", "high"] (defScope st__law_is_number) := ⟨rfl, rfl, rfl, by decide +kernel, rfl, by decide +kernel, by decide +kernel⟩
theorem sc__law_is_name : FnScope ["value", "sign"] ["value"] (defScope st__law_is_name) := ⟨rfl, rfl, rfl, by decide +kernel, rfl, by decide +kernel, by decide +kernel⟩
theorem sc__law_are_shares : FnScope ["value", "names", "total", "pair"] ["value"] (defScope st__law_are_shares) := ⟨rfl, rfl, rfl, by decide +kernel, rfl, by decide +kernel, by decide +kernel⟩
theorem sc__law_is_kind : FnScope ["value", "number"] ["value"] (defScope st__law_is_kind) := ⟨rfl, rfl, rfl, by decide +kernel, rfl, by decide +kernel, by decide +kernel⟩
theorem sc__law_is_treaty : FnScope ["value", "pair"] ["value"] (defScope st__law_is_treaty) := ⟨rfl, rfl, rfl, by decide +kernel, rfl, by decide +kernel, by decide +kernel⟩
theorem sc__law_are_treaties : FnScope ["value", "one", "names", "companies"] ["value"] (defScope st__law_are_treaties) := ⟨rfl, rfl, rfl, by decide +kernel, rfl, by decide +kernel, by decide +kernel⟩
theorem sc__law_spoilt : FnScope ["draws", "treaties", "at", "treaty", "pick", "place", "odd"] ["draws", "treaties"] (defScope st__law_spoilt) := ⟨rfl, rfl, rfl, by decide +kernel, rfl, by decide +kernel, by decide +kernel⟩
theorem sc__law_refused : FnScope ["value", "e"] ["value"] (defScope st__law_refused) := ⟨rfl, rfl, rfl, by decide +kernel, rfl, by decide +kernel, by decide +kernel⟩
theorem sc_law : FnScope ["script", "draws", "treaties", "turn", "value"] ["script"] (defScope st_law) := ⟨rfl, rfl, rfl, by decide +kernel, rfl, by decide +kernel, by decide +kernel⟩
section
variable {P : Program} {w : World} {K : PySem.W.Frag} {mg : PySem.Str → Option Value} {base : Heap}
theorem ex_cls (T : Tx K mg) : ∀ c cls, exKnown c = true → mg c = some cls → cls = .ref (He.ga K c) ∧ ExcC K (He.ga K c) := by
  intro c cls h e
  simp only [exKnown, Bool.or_eq_true, beq_iff_eq] at h
  rcases h with rfl | rfl | rfl | rfl | rfl | rfl
  · exact ⟨Option.some.inj (e.symm.trans T.x_WhatbefellError.g), T.e_WhatbefellError⟩
  · exact ⟨Option.some.inj (e.symm.trans T.x_BadForm.g), T.e_BadForm⟩
  · exact ⟨Option.some.inj (e.symm.trans T.x_BadRecord.g), T.e_BadRecord⟩
  · exact ⟨Option.some.inj (e.symm.trans T.x_BadWords.g), T.e_BadWords⟩
  · exact ⟨Option.some.inj (e.symm.trans T.x_BadTreaty.g), T.e_BadTreaty⟩
  · exact ⟨Option.some.inj (e.symm.trans T.x_BadArgument.g), T.e_BadArgument⟩
theorem ex_kit_BadArgument (T : Tx K mg) : ∀ c, exKnown c = true → PySem.W.kitOne K (.ref (He.ga K c)) (.ref (He.ga K "BadArgument")) = some (exSub_BadArgument c) := by
  intro c h
  simp only [exKnown, Bool.or_eq_true, beq_iff_eq] at h
  rcases h with rfl | rfl | rfl | rfl | rfl | rfl
  · exact T.k_WhatbefellError_BadArgument
  · exact T.k_BadForm_BadArgument
  · exact T.k_BadRecord_BadArgument
  · exact T.k_BadWords_BadArgument
  · exact T.k_BadTreaty_BadArgument
  · exact T.k_BadArgument_BadArgument
theorem ex_kit_BadForm (T : Tx K mg) : ∀ c, exKnown c = true → PySem.W.kitOne K (.ref (He.ga K c)) (.ref (He.ga K "BadForm")) = some (exSub_BadForm c) := by
  intro c h
  simp only [exKnown, Bool.or_eq_true, beq_iff_eq] at h
  rcases h with rfl | rfl | rfl | rfl | rfl | rfl
  · exact T.k_WhatbefellError_BadForm
  · exact T.k_BadForm_BadForm
  · exact T.k_BadRecord_BadForm
  · exact T.k_BadWords_BadForm
  · exact T.k_BadTreaty_BadForm
  · exact T.k_BadArgument_BadForm
theorem ex_kit_BadRecord (T : Tx K mg) : ∀ c, exKnown c = true → PySem.W.kitOne K (.ref (He.ga K c)) (.ref (He.ga K "BadRecord")) = some (exSub_BadRecord c) := by
  intro c h
  simp only [exKnown, Bool.or_eq_true, beq_iff_eq] at h
  rcases h with rfl | rfl | rfl | rfl | rfl | rfl
  · exact T.k_WhatbefellError_BadRecord
  · exact T.k_BadForm_BadRecord
  · exact T.k_BadRecord_BadRecord
  · exact T.k_BadWords_BadRecord
  · exact T.k_BadTreaty_BadRecord
  · exact T.k_BadArgument_BadRecord
theorem ex_sub_BadTreaty (T : Tx K mg) : ∀ c cls, exKnown c = true → mg c = some cls → PySem.W.exmOne K cls (.ref (He.ga K "BadTreaty")) = some (exSub_BadTreaty c) := by
  intro c cls h e
  simp only [exKnown, Bool.or_eq_true, beq_iff_eq] at h
  rcases h with rfl | rfl | rfl | rfl | rfl | rfl
  · cases e.symm.trans T.x_WhatbefellError.g; exact T.s_WhatbefellError_BadTreaty
  · cases e.symm.trans T.x_BadForm.g; exact T.s_BadForm_BadTreaty
  · cases e.symm.trans T.x_BadRecord.g; exact T.s_BadRecord_BadTreaty
  · cases e.symm.trans T.x_BadWords.g; exact T.s_BadWords_BadTreaty
  · cases e.symm.trans T.x_BadTreaty.g; exact T.s_BadTreaty_BadTreaty
  · cases e.symm.trans T.x_BadArgument.g; exact T.s_BadArgument_BadTreaty
theorem ex_kit_BadWords (T : Tx K mg) : ∀ c, exKnown c = true → PySem.W.kitOne K (.ref (He.ga K c)) (.ref (He.ga K "BadWords")) = some (exSub_BadWords c) := by
  intro c h
  simp only [exKnown, Bool.or_eq_true, beq_iff_eq] at h
  rcases h with rfl | rfl | rfl | rfl | rfl | rfl
  · exact T.k_WhatbefellError_BadWords
  · exact T.k_BadForm_BadWords
  · exact T.k_BadRecord_BadWords
  · exact T.k_BadWords_BadWords
  · exact T.k_BadTreaty_BadWords
  · exact T.k_BadArgument_BadWords
theorem ex_kit_WhatbefellError (T : Tx K mg) : ∀ c, exKnown c = true → PySem.W.kitOne K (.ref (He.ga K c)) (.ref (He.ga K "WhatbefellError")) = some (exSub_WhatbefellError c) := by
  intro c h
  simp only [exKnown, Bool.or_eq_true, beq_iff_eq] at h
  rcases h with rfl | rfl | rfl | rfl | rfl | rfl
  · exact T.k_WhatbefellError_WhatbefellError
  · exact T.k_BadForm_WhatbefellError
  · exact T.k_BadRecord_WhatbefellError
  · exact T.k_BadWords_WhatbefellError
  · exact T.k_BadTreaty_WhatbefellError
  · exact T.k_BadArgument_WhatbefellError
theorem ok_is_number (T : Tx K mg) : Okf P w K mg base 1 "is_number" ["value", "low", "high"] F_is_number :=
  T.d_is_number.ok sc_is_number 0 rfl fun cdv A outer s H E hr tk po =>
    (dss_one (dst_ret ((de_and (de_isa (de_name 0) T.z_isinstance T.z_int (.inl rfl) bt_int) (de_and (de_not (de_isa (de_name 0) T.z_isinstance T.z_bool (.inr (.inl rfl)) bt_bool)) (de_one (de_chn le_ok le_ok (de_name 1) (de_name 0) (de_name 2)))))).rv))
theorem ok_is_name (T : Tx K mg) : Okf P w K mg base 1 "is_name" ["value"] F_is_name :=
  T.d_is_name.ok sc_is_name 1 rfl fun cdv A outer s H E hr tk po =>
    (dss_cons (dst_if (dw_or (dt_not (dt_tru (de_isa (de_name 0) T.z_isinstance T.z_str (.inr (.inr (.inl rfl))) bt_str))) (dw_or (dt_not (dt_chn le_ok le_ok de_int (de_callB len_ok T.z_len bt_len (da_cons (de_name 0) da_nil)) de_int)) (dw_or1 (dt_cmp (nin_ok (hu65 hr)) (de_ix (de_name 0) de_int) (de_gS T.m_LETTERS))))).dt (dss_one (dst_ret (de_bl).rv)) dss_nil)
    (dss_one (dst_ret ((de_cmp (eq_ok hr.units) ((do_lc [("sign", 1)] sc_is_name.nd (di_any (de_name 0)) (fun _ _ _ _ _ => (dgb_name 1 sc_is_name.nd)) (fun _ _ _ _ _ => (dts_one (dw_and (dt_cmp (nin_ok (hu65 hr)) (de_name 1) (de_gS T.m_LETTERS)) (dw_and1 (dt_cmp (nin_ok (hu65 hr)) (de_name 1) (de_gS T.m_FIGURES)))).dt)) (fun _ _ _ _ _ => (de_name 1)))).frz ((do_lst da_nil)).frz)).rv)))
theorem ok_is_day (T : Tx K mg) : Okf P w K mg base 2 "is_day" ["value"] F_is_day :=
  T.d_is_day.ok sc_is_day 0 rfl fun cdv A outer s H E hr tk po =>
    (dss_one (dst_ret (do_f (ok_is_number T) (hr.mono (by decide)) tk (da_cons (de_name 0) (da_cons de_int (da_cons (de_gI T.m_LAST) da_nil))) (alenS (alenS (alenS alen0))))))
theorem ok_is_money (T : Tx K mg) : Okf P w K mg base 2 "is_money" ["value"] F_is_money :=
  T.d_is_money.ok sc_is_money 0 rfl fun cdv A outer s H E hr tk po =>
    (dss_one (dst_ret (do_f (ok_is_number T) (hr.mono (by decide)) tk (da_cons (de_name 0) (da_cons de_int (da_cons (de_gI T.m_MONEY) da_nil))) (alenS (alenS (alenS alen0))))))
theorem ok_is_tuple (T : Tx K mg) : Okf P w K mg base 1 "is_tuple" ["value", "low", "high"] F_is_tuple :=
  T.d_is_tuple.ok sc_is_tuple 0 rfl fun cdv A outer s H E hr tk po =>
    (dss_one (dst_ret ((de_and (de_isa (de_name 0) T.z_isinstance T.z_tuple (.inr (.inr (.inr (.inr (.inl rfl))))) bt_tuple) (de_one (de_chn le_ok le_ok (de_name 1) (de_callB len_ok T.z_len bt_len (da_cons (de_name 0) da_nil)) (de_name 2))))).rv))
theorem ok_are_unlike (T : Tx K mg) : Okf P w K mg base 1 "are_unlike" ["values"] F_are_unlike :=
  T.d_are_unlike.ok sc_are_unlike 0 rfl fun cdv A outer s H E hr tk po =>
    (dss_one (dst_ret ((de_cmp (eq_ok hr.units) (de_lenSet T.z_len T.z_set (de_name 0)) (de_callB len_ok T.z_len bt_len (da_cons (de_name 0) da_nil)))).rv))
theorem ok_are_shares (T : Tx K mg) : Okf P w K mg base 2 "are_shares" ["value"] F_are_shares :=
  T.d_are_shares.ok sc_are_shares 1 rfl fun cdv A outer s H E hr tk po =>
    (dss_cons (dst_if (dt_not (dt_tru ((do_f (ok_is_tuple T) (hr.mono (by decide)) tk (da_cons (de_name 0) (da_cons de_int (da_cons de_int da_nil))) (alenS (alenS (alenS alen0))))).frz)) (dss_one (dst_ret (de_bl).rv)) dss_nil)
    (dss_cons (dst_for po (di_any (de_name 0)) (dg_name 1 sc_are_shares.nd) (dss_one (dst_if (dw_or (dt_not (dt_tru ((do_f (ok_is_tuple T) (hr.mono (by decide)) tk (da_cons (de_name 1) (da_cons de_int (da_cons de_int da_nil))) (alenS (alenS (alenS alen0))))).frz)) (dw_or (dt_not (dt_tru ((do_f (ok_is_name T) (hr.mono (by decide)) tk (da_cons (de_ix (de_name 1) de_int) da_nil) (alenS alen0))).frz)) (dw_or1 (dt_not (dt_tru ((do_f (ok_is_number T) (hr.mono (by decide)) tk (da_cons (de_ix (de_name 1) de_int) (da_cons de_int (da_cons de_int da_nil))) (alenS (alenS (alenS alen0))))).frz))))).dt (dss_one (dst_ret (de_bl).rv)) dss_nil)))
    (dss_one (dst_ret ((de_and ((do_f (ok_are_unlike T) (hr.mono (by decide)) tk (da_cons ((do_lc [("pair", 1)] sc_are_shares.nd (di_any (de_name 0)) (fun _ _ _ _ _ => (dgb_name 1 sc_are_shares.nd)) (fun _ _ _ _ _ => dts_nil) (fun _ _ _ _ _ => (de_ix (de_name 1) de_int)))).frz da_nil) (alenS alen0))).frz (de_one (de_cmp (eq_ok hr.units) (de_callB (sum_ok rfl) T.z_sum bt_sum (da_cons ((do_lc [("pair", 1)] sc_are_shares.nd (di_any (de_name 0)) (fun _ _ _ _ _ => (dgb_name 1 sc_are_shares.nd)) (fun _ _ _ _ _ => dts_nil) (fun _ _ _ _ _ => (de_ix (de_name 1) de_int)))).frz da_nil)) de_int)))).rv))))
theorem ok_is_kind (T : Tx K mg) : Okf P w K mg base 3 "is_kind" ["value"] F_is_kind :=
  T.d_is_kind.ok sc_is_kind 0 rfl fun cdv A outer s H E hr tk po =>
    (dss_cons (dst_if (dw_or (dt_not (dt_tru (de_isa (de_name 0) T.z_isinstance T.z_tuple (.inr (.inr (.inr (.inr (.inl rfl))))) bt_tuple))) (dw_or (dt_cmp lt_ok (de_callB len_ok T.z_len bt_len (da_cons (de_name 0) da_nil)) de_int) (dw_or1 (dt_not (dt_tru (de_isa (de_ix (de_name 0) de_int) T.z_isinstance T.z_str (.inr (.inr (.inl rfl))) bt_str)))))).dt (dss_one (dst_ret (de_bl).rv)) dss_nil)
    (dss_cons (dst_if (dt_cmp (eq_ok hr.units) (de_ix (de_name 0) de_int) de_str) (dss_one (dst_ret ((de_and (de_cmp (eq_ok hr.units) (de_callB len_ok T.z_len bt_len (da_cons (de_name 0) da_nil)) de_int) (de_one ((do_f (ok_is_number T) (hr.mono (by decide)) tk (da_cons (de_ix (de_name 0) de_int) (da_cons de_int (da_cons de_int da_nil))) (alenS (alenS (alenS alen0))))).frz))).rv)) dss_nil)
    (dss_cons (dst_if (dt_cmp (in_ok (hu65 hr)) (de_ix (de_name 0) de_int) (de_tup (da_cons de_str (da_cons de_str da_nil)))) (dss_one (dst_ret ((de_and (de_cmp (eq_ok hr.units) (de_callB len_ok T.z_len bt_len (da_cons (de_name 0) da_nil)) de_int) (de_and ((do_f (ok_is_money T) (hr.mono (by decide)) tk (da_cons (de_ix (de_name 0) de_int) da_nil) (alenS alen0))).frz (de_one ((do_f (ok_is_money T) (hr.mono (by decide)) tk (da_cons (de_ix (de_name 0) de_int) da_nil) (alenS alen0))).frz)))).rv)) dss_nil)
    (dss_cons (dst_if (dw_or (dt_cmp (ne_ok hr.units) (de_ix (de_name 0) de_int) de_str) (dw_or (dt_cmp (ne_ok hr.units) (de_callB len_ok T.z_len bt_len (da_cons (de_name 0) da_nil)) de_int) (dw_or (dt_not (dt_tru ((do_f (ok_is_money T) (hr.mono (by decide)) tk (da_cons (de_ix (de_name 0) de_int) da_nil) (alenS alen0))).frz)) (dw_or1 (dt_not (dt_tru ((do_f (ok_is_money T) (hr.mono (by decide)) tk (da_cons (de_ix (de_name 0) de_int) da_nil) (alenS alen0))).frz)))))).dt (dss_one (dst_ret (de_bl).rv)) dss_nil)
    (dss_one (dst_ret ((de_and ((do_f (ok_is_number T) (hr.mono (by decide)) tk (da_cons (de_ix (de_name 0) de_int) (da_cons de_int (da_cons de_int da_nil))) (alenS (alenS (alenS alen0))))).frz (de_one ((do_f (ok_is_number T) (hr.mono (by decide)) tk (da_cons (de_ix (de_name 0) de_int) (da_cons de_int (da_cons de_int da_nil))) (alenS (alenS (alenS alen0))))).frz))).rv))))))
theorem ok_is_treaty (T : Tx K mg) : Okf P w K mg base 4 "is_treaty" ["value"] F_is_treaty :=
  T.d_is_treaty.ok sc_is_treaty 1 rfl fun cdv A outer s H E hr tk po =>
    (dss_cons (dst_if (dw_or (dt_not (dt_tru ((do_f (ok_is_tuple T) (hr.mono (by decide)) tk (da_cons (de_name 0) (da_cons de_int (da_cons de_int da_nil))) (alenS (alenS (alenS alen0))))).frz)) (dw_or (dt_not (dt_tru (de_isa (de_ix (de_name 0) de_int) T.z_isinstance T.z_str (.inr (.inr (.inl rfl))) bt_str))) (dw_or (dt_cmp (ne_ok hr.units) (de_ix (de_name 0) de_int) de_str) (dw_or1 (dt_not (dt_tru ((do_f (ok_is_name T) (hr.mono (by decide)) tk (da_cons (de_ix (de_name 0) de_int) da_nil) (alenS alen0))).frz)))))).dt (dss_one (dst_ret (de_bl).rv)) dss_nil)
    (dss_cons (dst_if (dw_or (dt_not (dt_tru ((do_f (ok_is_day T) (hr.mono (by decide)) tk (da_cons (de_ix (de_name 0) de_int) da_nil) (alenS alen0))).frz)) (dw_or (dt_not (dt_tru ((do_f (ok_is_day T) (hr.mono (by decide)) tk (da_cons (de_ix (de_name 0) de_int) da_nil) (alenS alen0))).frz)) (dw_or (dt_cmp gt_ok (de_ix (de_name 0) de_int) (de_ix (de_name 0) de_int)) (dw_or1 (dt_not (dt_tru ((do_f (ok_is_name T) (hr.mono (by decide)) tk (da_cons (de_ix (de_name 0) de_int) da_nil) (alenS alen0))).frz)))))).dt (dss_one (dst_ret (de_bl).rv)) dss_nil)
    (dss_cons (dst_if (dw_or (dt_not (dt_tru ((do_f (ok_are_shares T) (hr.mono (by decide)) tk (da_cons (de_ix (de_name 0) de_int) da_nil) (alenS alen0))).frz)) (dw_or1 (dt_cmp (in_ok (hu65 hr)) (de_ix (de_name 0) de_int) ((do_lc [("pair", 1)] sc_is_treaty.nd (di_any (de_ix (de_name 0) de_int)) (fun _ _ _ _ _ => (dgb_name 1 sc_is_treaty.nd)) (fun _ _ _ _ _ => dts_nil) (fun _ _ _ _ _ => (de_ix (de_name 1) de_int)))).frz))).dt (dss_one (dst_ret (de_bl).rv)) dss_nil)
    (dss_one (dst_ret ((de_and ((do_f (ok_is_kind T) (hr.mono (by decide)) tk (da_cons (de_ix (de_name 0) de_int) da_nil) (alenS alen0))).frz (de_one ((do_f (ok_is_money T) (hr.mono (by decide)) tk (da_cons (de_ix (de_name 0) de_int) da_nil) (alenS alen0))).frz))).rv)))))
theorem ok_givers_first (T : Tx K mg) : Okf P w K mg base 1 "givers_first" ["treaties"] F_givers_first :=
  T.d_givers_first.ok sc_givers_first 7 rfl fun cdv A outer s H E hr tk po =>
    (dss_cons (dst_new 1 sc_givers_first.nd do_dic0)
    (dss_cons (dst_for po (di_any (de_name 0)) (dg_name 2 sc_givers_first.nd) (dss_cons (dst_subK (hu1 hr) (de_get2 (hu1 hr) (de_name 1) (de_ix (de_name 2) de_int) ((do_lst da_nil)).frz) (de_name 1) (de_ix (de_name 2) de_int))
      (dss_one (dst_for po (di_any (de_ix (de_name 2) de_int)) (dg_tup 2 (dgs_cons (dg_name 3 sc_givers_first.nd) (dgs_cons (dg_name 4 sc_givers_first.nd) dgs_nil)) (gts_lenS (gts_lenS gts_len0))) (dss_one (dst_subK (hu1 hr) (de_op add_ok (de_get2 (hu1 hr) (de_name 1) (de_name 3) ((do_lst da_nil)).frz) ((do_lst (da_cons (de_ix (de_name 2) de_int) da_nil))).frz) (de_name 1) (de_name 3)))))))
    (dss_cons (dst_new 5 sc_givers_first.nd (do_lst da_nil))
    (dss_cons (dst_while (fun _ _ => 100) po (dt_cmp lt_ok (de_callB len_ok T.z_len bt_len (da_cons (de_name 5) da_nil)) (de_lenK (de_name 1) T.z_len)) (dss_cons (dst_setLc 6 [("name", 3)] sc_givers_first.nd (di_any (de_sortK (de_name 1) T.z_sorted)) (fun _ _ _ _ _ => (dgb_name 3 sc_givers_first.nd)) (fun _ _ _ _ _ => (dts_one (dt_cmp (nin_ok (hu65 hr)) (de_name 3) (de_name 5)))) (fun _ _ _ _ _ => (de_name 3)))
      (dss_cons (dst_setLc 6 [("name", 3)] sc_givers_first.nd (di_any (de_name 6)) (fun _ _ _ _ _ => (dgb_name 3 sc_givers_first.nd)) (fun _ _ _ _ _ => (dts_one (dt_cmp (eq_ok hr.units) ((do_lc [("one", 7)] sc_givers_first.nd (di_any (de_ixK (hu1 hr) (de_name 1) (de_name 3))) (fun _ _ _ _ _ => (dgb_name 7 sc_givers_first.nd)) (fun _ _ _ _ _ => (dts_one (dt_cmp (nin_ok (hu65 hr)) (de_name 7) (de_name 5)))) (fun _ _ _ _ _ => (de_name 7)))).frz ((do_lst da_nil)).frz))) (fun _ _ _ _ _ => (de_name 3)))
      (dss_cons (dst_if (dt_not (dt_tru (de_name 6))) (dss_one (dst_ret (de_non).rv)) dss_nil)
      (dss_one (dst_exp (de_mt PySem.F.slot_list_append PySem.F.type_list_append app_ok (de_name 5) (da_cons (de_ix (de_name 6) de_int) da_nil))))))))
    (dss_one (dst_ret ((de_name 5)).rv))))))
theorem ok_are_treaties (T : Tx K mg) : Okf P w K mg base 5 "are_treaties" ["value"] F_are_treaties :=
  T.d_are_treaties.ok sc_are_treaties 1 rfl fun cdv A outer s H E hr tk po =>
    (dss_cons (dst_if (dw_or (dt_not (dt_tru ((do_f (ok_is_tuple T) (hr.mono (by decide)) tk (da_cons (de_name 0) (da_cons de_int (da_cons de_int da_nil))) (alenS (alenS (alenS alen0))))).frz)) (dw_or1 (dt_tru ((do_lc [("one", 1)] sc_are_treaties.nd (di_any (de_name 0)) (fun _ _ _ _ _ => (dgb_name 1 sc_are_treaties.nd)) (fun _ _ _ _ _ => (dts_one (dt_not (dt_tru ((do_f (ok_is_treaty T) (hr.mono (by decide)) takesWf (da_cons (de_name 1) da_nil) (alenS alen0))).frz)))) (fun _ _ _ _ _ => (de_name 1)))).frz))).dt (dss_one (dst_ret (de_bl).rv)) dss_nil)
    (dss_one (dst_ret ((de_and ((do_f (ok_are_unlike T) (hr.mono (by decide)) tk (da_cons ((do_lc [("one", 1)] sc_are_treaties.nd (di_any (de_name 0)) (fun _ _ _ _ _ => (dgb_name 1 sc_are_treaties.nd)) (fun _ _ _ _ _ => dts_nil) (fun _ _ _ _ _ => (de_ix (de_name 1) de_int)))).frz da_nil) (alenS alen0))).frz (de_one (de_isnn ((do_f (ok_givers_first T) (hr.mono (by decide)) tk (da_cons (de_name 0) da_nil) (alenS alen0))).frz)))).rv)))
theorem ok_check_treaties (T : Tx K mg) : Okf P w K mg base 6 "check_treaties" ["value"] F_check_treaties :=
  T.d_check_treaties.ok sc_check_treaties 0 rfl fun cdv A outer s H E hr tk po =>
    (dss_one (dst_if (dt_not (dt_tru ((do_f (ok_are_treaties T) (hr.mono (by decide)) tk (da_cons (de_name 0) da_nil) (alenS alen0))).frz)) (dss_one (dst_rs T.x_BadTreaty tk)) dss_nil))
theorem ok__law_mixed (T : Tx K mg) : Okf P w K mg base 1 "_law_mixed" ["number", "k"] F__law_mixed :=
  T.d__law_mixed.ok sc__law_mixed 1 rfl fun cdv A outer s H E hr tk po =>
    (dss_cons (dst_set 2 sc__law_mixed.nd (de_op mod_ok (de_op add_ok (de_op add_ok (de_op mul_ok (de_name 0) de_int) (de_op mul_ok (de_name 1) de_int)) de_int) de_int))
    (dss_one (dst_ret ((de_op mod_ok (de_op add_ok (de_op mul_ok (de_name 2) (de_op add_ok (de_op fdiv_ok (de_name 2) de_int) de_int)) (de_name 1)) de_int)).rv)))
theorem ok__law_numbers (T : Tx K mg) : Okf P w K mg base 2 "_law_numbers" ["script"] F__law_numbers :=
  T.d__law_numbers.ok sc__law_numbers 4 rfl fun cdv A outer s H E hr tk po =>
    (dss_cons (dst_new 1 sc__law_numbers.nd (do_lst da_nil))
    (dss_cons (dst_for po (di_any (de_name 0)) (dg_name 2 sc__law_numbers.nd) (dss_one (dst_if (dt_cmp ge_ok (de_name 2) (de_op pow_ok de_int de_int)) (dss_cons (dst_set 3 sc__law_numbers.nd (de_name 2))
        (dss_one (dst_for po (di_rng de_int T.z_range) (dg_name 4 sc__law_numbers.nd) (dss_one (dst_if (dt_cmp gt_ok (de_name 3) de_int) (dss_cons (dst_exp (de_mt PySem.F.slot_list_append PySem.F.type_list_append app_ok (de_name 1) (da_cons (de_op mod_ok (de_name 3) de_int) da_nil)))
            (dss_one (dst_set 3 sc__law_numbers.nd (de_op fdiv_ok (de_name 3) de_int)))) dss_nil))))) (dss_cons (dst_exp (de_mt PySem.F.slot_list_append PySem.F.type_list_append app_ok (de_name 1) (da_cons (de_op mod_ok (de_name 2) de_int) da_nil)))
        (dss_one (dst_for po (di_rng de_int T.z_range) (dg_name 4 sc__law_numbers.nd) (dss_one (dst_exp (de_mt PySem.F.slot_list_append PySem.F.type_list_append app_ok (de_name 1) (da_cons (de_op mod_ok ((do_f (ok__law_mixed T) (hr.mono (by decide)) tk (da_cons ((do_f (ok__law_mixed T) (hr.mono (by decide)) tk (da_cons (de_op mod_ok (de_name 2) de_int) (da_cons (de_name 4) da_nil)) (alenS (alenS alen0)))).frz (da_cons (de_op add_ok (de_name 4) de_int) da_nil)) (alenS (alenS alen0)))).frz de_int) da_nil))))))))))
    (dss_one (dst_ret ((de_name 1)).rv))))
theorem ok__law_draw (T : Tx K mg) : Okf P w K mg base 2 "_law_draw" ["draws"] F__law_draw :=
  T.d__law_draw.ok sc__law_draw 2 rfl fun cdv A outer s H E hr tk po =>
    (dss_cons (dst_set 1 sc__law_draw.nd (de_ix (de_name 0) de_int))
    (dss_cons (dst_sub (de_op add_ok (de_name 1) de_int) (de_name 0) de_int)
    (dss_cons (dst_if (dt_cmp lt_ok (de_name 1) (de_callB len_ok T.z_len bt_len (da_cons (de_ix (de_name 0) de_int) da_nil))) (dss_one (dst_ret ((de_ix (de_ix (de_name 0) de_int) (de_name 1))).rv)) dss_nil)
    (dss_cons (dst_set 2 sc__law_draw.nd (de_op add_ok de_int (de_name 1)))
    (dss_cons (dst_if (dt_cmp gt_ok (de_callB len_ok T.z_len bt_len (da_cons (de_ix (de_name 0) de_int) da_nil)) de_int) (dss_one (dst_set 2 sc__law_draw.nd (de_op add_ok (de_name 2) (de_op mul_ok de_int (de_ix (de_ix (de_name 0) de_int) de_int))))) dss_nil)
    (dss_one (dst_ret ((de_op mod_ok ((do_f (ok__law_mixed T) (hr.mono (by decide)) tk (da_cons ((do_f (ok__law_mixed T) (hr.mono (by decide)) tk (da_cons (de_name 2) (da_cons (de_name 1) da_nil)) (alenS (alenS alen0)))).frz (da_cons de_int da_nil)) (alenS (alenS alen0)))).frz de_int)).rv)))))))
theorem st_ok__law_all_equal {k : Nat} (hk : 0 ≤ k) {f__law_all_equal : List S → M Rv} {f__law_equal : List S → M Rv} (T : Tx K mg) (h__law_all_equal : Okf P w K mg base k "_law_all_equal" ["actual", "due"] f__law_all_equal) (h__law_equal : Okf P w K mg base k "_law_equal" ["actual", "due"] f__law_equal) : Okf P w K mg base (k + 1) "_law_all_equal" ["actual", "due"] (runG 1 (B__law_all_equal f__law_all_equal f__law_equal)) :=
  T.d__law_all_equal.ok sc__law_all_equal 1 rfl fun cdv A outer s H E hr tk po =>
    (dss_cons (dst_for po (di_rng (de_callB len_ok T.z_len bt_len (da_cons (de_name 1) da_nil)) T.z_range) (dg_name 2 sc__law_all_equal.nd) (dss_one (dst_if (dt_not (dt_tru ((do_f h__law_equal hr tk (da_cons (de_ix (de_name 0) (de_name 2)) (da_cons (de_ix (de_name 1) (de_name 2)) da_nil)) (alenS (alenS alen0)))).frz)) (dss_one (dst_ret (de_bl).rv)) dss_nil)))
    (dss_one (dst_ret (de_bl).rv)))
theorem st_ok__law_equal {k : Nat} (hk : 0 ≤ k) {f__law_all_equal : List S → M Rv} {f__law_equal : List S → M Rv} (T : Tx K mg) (h__law_all_equal : Okf P w K mg base k "_law_all_equal" ["actual", "due"] f__law_all_equal) (h__law_equal : Okf P w K mg base k "_law_equal" ["actual", "due"] f__law_equal) : Okf P w K mg base (k + 1) "_law_equal" ["actual", "due"] (runG 0 (B__law_equal f__law_all_equal f__law_equal)) :=
  T.d__law_equal.ok sc__law_equal 0 rfl fun cdv A outer s H E hr tk po =>
    (dss_cons (dst_if (dt_tru (de_isa (de_name 1) T.z_isinstance T.z_list (.inr (.inr (.inr (.inl rfl)))) bt_list)) (dss_cons (dst_if (dw_or (dt_not (dt_tru (de_isa (de_name 0) T.z_isinstance T.z_list (.inr (.inr (.inr (.inl rfl)))) bt_list))) (dw_or1 (dt_cmp (ne_ok hr.units) (de_callB len_ok T.z_len bt_len (da_cons (de_name 0) da_nil)) (de_callB len_ok T.z_len bt_len (da_cons (de_name 1) da_nil))))).dt (dss_one (dst_ret (de_bl).rv)) dss_nil)
      (dss_one (dst_ret (do_f h__law_all_equal hr tk (da_cons (de_name 0) (da_cons (de_name 1) da_nil)) (alenS (alenS alen0)))))) dss_nil)
    (dss_cons (dst_if (dt_tru (de_isa (de_name 1) T.z_isinstance T.z_tuple (.inr (.inr (.inr (.inr (.inl rfl))))) bt_tuple)) (dss_cons (dst_if (dw_or (dt_not (dt_tru (de_isa (de_name 0) T.z_isinstance T.z_tuple (.inr (.inr (.inr (.inr (.inl rfl))))) bt_tuple))) (dw_or1 (dt_cmp (ne_ok hr.units) (de_callB len_ok T.z_len bt_len (da_cons (de_name 0) da_nil)) (de_callB len_ok T.z_len bt_len (da_cons (de_name 1) da_nil))))).dt (dss_one (dst_ret (de_bl).rv)) dss_nil)
      (dss_one (dst_ret (do_f h__law_all_equal hr tk (da_cons (de_name 0) (da_cons (de_name 1) da_nil)) (alenS (alenS alen0)))))) dss_nil)
    (dss_cons (dst_if (dt_tru (de_isa (de_name 1) T.z_isinstance T.z_bool (.inr (.inl rfl)) bt_bool)) (dss_one (dst_ret ((de_and (de_isa (de_name 0) T.z_isinstance T.z_bool (.inr (.inl rfl)) bt_bool) (de_one (de_cmp (eq_ok hr.units) (de_name 0) (de_name 1))))).rv)) dss_nil)
    (dss_cons (dst_if (dt_tru (de_isa (de_name 1) T.z_isinstance T.z_int (.inl rfl) bt_int)) (dss_one (dst_ret ((de_and (de_isa (de_name 0) T.z_isinstance T.z_int (.inl rfl) bt_int) (de_and (de_not (de_isa (de_name 0) T.z_isinstance T.z_bool (.inr (.inl rfl)) bt_bool)) (de_one (de_cmp (eq_ok hr.units) (de_name 0) (de_name 1)))))).rv)) dss_nil)
    (dss_cons (dst_if (dt_tru (de_isa (de_name 1) T.z_isinstance T.z_str (.inr (.inr (.inl rfl))) bt_str)) (dss_one (dst_ret ((de_and (de_isa (de_name 0) T.z_isinstance T.z_str (.inr (.inr (.inl rfl))) bt_str) (de_one (de_cmp (eq_ok hr.units) (de_name 0) (de_name 1))))).rv)) dss_nil)
    (dss_one (dst_ret ((de_isn (de_name 0))).rv)))))))
theorem oks__law_all_equal__law_equal (T : Tx K mg) : ∀ n, Okf P w K mg base (0 + n) "_law_all_equal" ["actual", "due"] (F__law_all_equal n) ∧ Okf P w K mg base (0 + n) "_law_equal" ["actual", "due"] (F__law_equal n)
  | 0 => ⟨T.d__law_all_equal.ok0, T.d__law_equal.ok0⟩
  | n + 1 => have ih := oks__law_all_equal__law_equal T n; ⟨st_ok__law_all_equal (Nat.le_add_right _ _) T ih.1 ih.2, st_ok__law_equal (Nat.le_add_right _ _) T ih.1 ih.2⟩
theorem ok__law_all_equal (T : Tx K mg) (n : Nat) : Okf P w K mg base (0 + n) "_law_all_equal" ["actual", "due"] (F__law_all_equal n) := (oks__law_all_equal__law_equal T n).1
theorem ok__law_equal (T : Tx K mg) (n : Nat) : Okf P w K mg base (0 + n) "_law_equal" ["actual", "due"] (F__law_equal n) := (oks__law_all_equal__law_equal T n).2
theorem ok__law_takers (T : Tx K mg) : Okf P w K mg base 1 "_law_takers" ["treaties"] F__law_takers :=
  T.d__law_takers.ok sc__law_takers 3 rfl fun cdv A outer s H E hr tk po =>
    (dss_cons (dst_set 1 sc__law_takers.nd ((do_lst da_nil)).frz)
    (dss_cons (dst_for po (di_any (de_name 0)) (dg_name 2 sc__law_takers.nd) (dss_one (dst_set 1 sc__law_takers.nd (de_op add_ok (de_name 1) ((do_lc [("pair", 3)] sc__law_takers.nd (di_any (de_ix (de_name 2) de_int)) (fun _ _ _ _ _ => (dgb_name 3 sc__law_takers.nd)) (fun _ _ _ _ _ => dts_nil) (fun _ _ _ _ _ => (de_ix (de_name 3) de_int)))).frz))))
    (dss_one (dst_ret ((de_name 1)).rv))))
theorem ok__law_in_order (T : Tx K mg) : Okf P w K mg base 2 "_law_in_order" ["treaties", "names"] F__law_in_order :=
  T.d__law_in_order.ok sc__law_in_order 8 rfl fun cdv A outer s H E hr tk po =>
    (dss_cons (dst_set 2 sc__law_in_order.nd (de_sortedSet T.z_sorted T.z_set (de_op add_ok (de_op add_ok (de_name 1) ((do_lc [("treaty", 7)] sc__law_in_order.nd (di_any (de_name 0)) (fun _ _ _ _ _ => (dgb_name 7 sc__law_in_order.nd)) (fun _ _ _ _ _ => dts_nil) (fun _ _ _ _ _ => (de_ix (de_name 7) de_int)))).frz) ((do_f (ok__law_takers T) (hr.mono (by decide)) tk (da_cons (de_name 0) da_nil) (alenS alen0))).frz)))
    (dss_cons (dst_new 3 sc__law_in_order.nd (do_lst da_nil))
    (dss_cons (dst_for po (di_rng (de_callB len_ok T.z_len bt_len (da_cons (de_name 2) da_nil)) T.z_range) (dg_name 4 sc__law_in_order.nd) (dss_one (dst_for po (di_any (de_name 2)) (dg_name 5 sc__law_in_order.nd) (dss_cons (dst_setLc 6 [("treaty", 7)] sc__law_in_order.nd (di_any (de_name 0)) (fun _ _ _ _ _ => (dgb_name 7 sc__law_in_order.nd)) (fun _ _ _ _ _ => (dts_one (dt_cmp (in_ok (hu65 hr)) (de_name 5) ((do_lc [("pair", 8)] sc__law_in_order.nd (di_any (de_ix (de_name 7) de_int)) (fun _ _ _ _ _ => (dgb_name 8 sc__law_in_order.nd)) (fun _ _ _ _ _ => dts_nil) (fun _ _ _ _ _ => (de_ix (de_name 8) de_int)))).frz))) (fun _ _ _ _ _ => (de_ix (de_name 7) de_int)))
        (dss_one (dst_if (dw_and (dt_cmp (nin_ok (hu65 hr)) (de_name 5) (de_name 3)) (dw_and1 (dt_cmp (eq_ok hr.units) (de_callB len_ok T.z_len bt_len (da_cons ((do_lc [("one", 9)] sc__law_in_order.nd (di_any (de_name 6)) (fun _ _ _ _ _ => (dgb_name 9 sc__law_in_order.nd)) (fun _ _ _ _ _ => (dts_one (dt_cmp (nin_ok (hu65 hr)) (de_name 9) (de_name 3)))) (fun _ _ _ _ _ => (de_name 9)))).frz da_nil)) de_int))).dt (dss_one (dst_exp (de_mt PySem.F.slot_list_append PySem.F.type_list_append app_ok (de_name 3) (da_cons (de_name 5) da_nil)))) dss_nil))))))
    (dss_one (dst_ret ((de_name 3)).rv)))))
theorem ok__law_amount (T : Tx K mg) : Okf P w K mg base 3 "_law_amount" ["draws"] F__law_amount :=
  T.d__law_amount.ok sc__law_amount 0 rfl fun cdv A outer s H E hr tk po =>
    (dss_one (dst_ret ((de_op mul_ok (de_ix ((do_lst (da_cons de_int (da_cons de_int (da_cons de_int (da_cons de_int (da_cons de_int (da_cons de_int (da_cons de_int (da_cons de_int (da_cons de_int (da_cons de_int da_nil)))))))))))).frz (de_op mod_ok ((do_fC (ok__law_draw T) (hr.mono (by decide)) tk (da_cons (de_name 0) da_nil) (alenS alen0))).frz de_int)) (de_op add_ok de_int (de_op mod_ok ((do_fC (ok__law_draw T) (hr.mono (by decide)) tk (da_cons (de_name 0) da_nil) (alenS alen0))).frz de_int)))).rv))
theorem ok__law_shares (T : Tx K mg) : Okf P w K mg base 3 "_law_shares" ["draws", "names", "many"] F__law_shares :=
  T.d__law_shares.ok sc__law_shares 7 rfl fun cdv A outer s H E hr tk po =>
    (dss_cons (dst_set 3 sc__law_shares.nd (de_callT list_ok T.z_list bt_list (da_cons (de_name 1) da_nil)))
    (dss_cons (dst_new 4 sc__law_shares.nd (do_lst da_nil))
    (dss_cons (dst_set 5 sc__law_shares.nd de_int)
    (dss_cons (dst_for po (di_rng (de_name 2) T.z_range) (dg_name 6 sc__law_shares.nd) (dss_cons (dst_set 7 sc__law_shares.nd (de_ix (de_name 3) (de_op mod_ok ((do_fC (ok__law_draw T) (hr.mono (by decide)) tk (da_cons (de_name 0) da_nil) (alenS alen0))).frz (de_callB len_ok T.z_len bt_len (da_cons (de_name 3) da_nil)))))
      (dss_cons (dst_setLc 3 [("one", 9)] sc__law_shares.nd (di_any (de_name 3)) (fun _ _ _ _ _ => (dgb_name 9 sc__law_shares.nd)) (fun _ _ _ _ _ => (dts_one (dt_cmp (ne_ok hr.units) (de_name 9) (de_name 7)))) (fun _ _ _ _ _ => (de_name 9)))
      (dss_cons (dst_set 8 sc__law_shares.nd (de_name 5))
      (dss_cons (dst_if (dt_cmp lt_ok (de_name 6) (de_op sub_ok (de_name 2) de_int)) (dss_cons (dst_set 8 sc__law_shares.nd (de_ix ((do_lst (da_cons de_int (da_cons de_int (da_cons de_int (da_cons de_int (da_cons de_int (da_cons de_int da_nil)))))))).frz (de_op mod_ok ((do_fC (ok__law_draw T) (hr.mono (by decide)) tk (da_cons (de_name 0) da_nil) (alenS alen0))).frz de_int)))
        (dss_one (dst_set 8 sc__law_shares.nd (de_callB (max_ok rfl) T.z_max bt_max (da_cons de_int (da_cons (de_callB (min_ok rfl) T.z_min bt_min (da_cons (de_name 8) (da_cons (de_op sub_ok (de_name 5) (de_op sub_ok (de_op sub_ok (de_name 2) de_int) (de_name 6))) da_nil))) da_nil)))))) dss_nil)
      (dss_cons (dst_set 5 sc__law_shares.nd (de_op sub_ok (de_name 5) (de_name 8)))
      (dss_one (dst_exp (de_mt PySem.F.slot_list_append PySem.F.type_list_append app_ok (de_name 4) (da_cons (de_tup (da_cons (de_name 7) (da_cons (de_name 8) da_nil))) da_nil))))))))))
    (dss_one (dst_ret ((de_callT tuple_ok T.z_tuple bt_tuple (da_cons (de_name 4) da_nil))).rv))))))
theorem ok__law_kind (T : Tx K mg) : Okf P w K mg base 4 "_law_kind" ["draws"] F__law_kind :=
  T.d__law_kind.ok sc__law_kind 2 rfl fun cdv A outer s H E hr tk po =>
    (dss_cons (dst_par 1 2 sc__law_kind.nd ((do_fC (ok__law_amount T) (hr.mono (by decide)) tk (da_cons (de_name 0) da_nil) (alenS alen0))).frz ((do_fC (ok__law_amount T) (hr.mono (by decide)) tk (da_cons (de_name 0) da_nil) (alenS alen0))).frz)
    (dss_one (dst_ret ((de_ix ((do_lst (da_cons (de_tup (da_cons de_str (da_cons (de_ix ((do_lst (da_cons de_int (da_cons de_int (da_cons de_int (da_cons de_int (da_cons de_int da_nil))))))).frz (de_op mod_ok ((do_fC (ok__law_draw T) (hr.mono (by decide)) tk (da_cons (de_name 0) da_nil) (alenS alen0))).frz de_int)) da_nil))) (da_cons (de_tup (da_cons de_str (da_cons (de_name 1) (da_cons (de_name 2) da_nil)))) (da_cons (de_tup (da_cons de_str (da_cons (de_op mul_ok de_int (de_name 1)) (da_cons (de_name 2) da_nil)))) (da_cons (de_tup (da_cons de_str (da_cons (de_op mul_ok de_int (de_name 1)) (da_cons (de_name 2) (da_cons (de_op mod_ok ((do_fC (ok__law_draw T) (hr.mono (by decide)) tk (da_cons (de_name 0) da_nil) (alenS alen0))).frz de_int) (da_cons de_int da_nil)))))) da_nil)))))).frz (de_op mod_ok ((do_fC (ok__law_draw T) (hr.mono (by decide)) tk (da_cons (de_name 0) da_nil) (alenS alen0))).frz de_int))).rv)))
theorem ok__law_treaties (T : Tx K mg) : Okf P w K mg base 5 "_law_treaties" ["draws", "many"] F__law_treaties :=
  T.d__law_treaties.ok sc__law_treaties 8 rfl fun cdv A outer s H E hr tk po =>
    (dss_cons (dst_set 2 sc__law_treaties.nd ((do_lst (da_cons de_str (da_cons de_str (da_cons de_str (da_cons de_str (da_cons de_str (da_cons de_str da_nil)))))))).frz)
    (dss_cons (dst_new 3 sc__law_treaties.nd (do_lst da_nil))
    (dss_cons (dst_for po (di_rng (de_name 1) T.z_range) (dg_name 4 sc__law_treaties.nd) (dss_cons (dst_set 5 sc__law_treaties.nd (de_op mod_ok ((do_fC (ok__law_draw T) (hr.mono (by decide)) tk (da_cons (de_name 0) da_nil) (alenS alen0))).frz de_int))
      (dss_cons (dst_set 6 sc__law_treaties.nd (de_sl (de_name 2) (dpo_some (de_callB (max_ok rfl) T.z_max bt_max (da_cons (de_op add_ok (de_name 5) de_int) (da_cons (de_op add_ok de_int (de_op mod_ok ((do_fC (ok__law_draw T) (hr.mono (by decide)) tk (da_cons (de_name 0) da_nil) (alenS alen0))).frz de_int)) da_nil)))) dpo_none))
      (dss_cons (dst_set 7 sc__law_treaties.nd (de_ix ((do_lst (da_cons de_int (da_cons de_int (da_cons de_int da_nil))))).frz (de_op mod_ok ((do_fC (ok__law_draw T) (hr.mono (by decide)) tk (da_cons (de_name 0) da_nil) (alenS alen0))).frz de_int)))
      (dss_cons (dst_set 8 sc__law_treaties.nd (de_op add_ok (de_name 7) (de_ix ((do_lst (da_cons de_int (da_cons de_int (da_cons de_int da_nil))))).frz (de_op mod_ok ((do_fC (ok__law_draw T) (hr.mono (by decide)) tk (da_cons (de_name 0) da_nil) (alenS alen0))).frz de_int))))
      (dss_cons (dst_set 9 sc__law_treaties.nd ((do_fC (ok__law_shares T) (hr.mono (by decide)) tk (da_cons (de_name 0) (da_cons (de_name 6) (da_cons (de_op add_ok de_int (de_op mod_ok ((do_fC (ok__law_draw T) (hr.mono (by decide)) tk (da_cons (de_name 0) da_nil) (alenS alen0))).frz (de_callB (min_ok rfl) T.z_min bt_min (da_cons de_int (da_cons (de_callB len_ok T.z_len bt_len (da_cons (de_name 6) da_nil)) da_nil))))) da_nil))) (alenS (alenS (alenS alen0))))).frz)
      (dss_one (dst_exp (de_mt PySem.F.slot_list_append PySem.F.type_list_append app_ok (de_name 3) (da_cons (de_tup (da_cons de_str (da_cons (de_op add_ok de_str (de_callT str_ok T.z_str bt_str (da_cons (de_name 4) da_nil))) (da_cons (de_name 7) (da_cons (de_name 8) (da_cons (de_ix (de_name 2) (de_name 5)) (da_cons (de_name 9) (da_cons ((do_fC (ok__law_kind T) (hr.mono (by decide)) tk (da_cons (de_name 0) da_nil) (alenS alen0))).frz (da_cons (de_ix ((do_lst (da_cons de_int (da_cons de_int (da_cons de_int da_nil))))).frz (de_op mod_ok ((do_fC (ok__law_draw T) (hr.mono (by decide)) tk (da_cons (de_name 0) da_nil) (alenS alen0))).frz de_int)) da_nil))))))))) da_nil))))))))))
    (dss_one (dst_ret ((de_callT tuple_ok T.z_tuple bt_tuple (da_cons (de_name 3) da_nil))).rv)))))
theorem ok__law_is_number (T : Tx K mg) : Okf P w K mg base 1 "_law_is_number" ["value", "low", "high"] F__law_is_number :=
  T.d__law_is_number.ok sc__law_is_number 0 rfl fun cdv A outer s H E hr tk po =>
    (dss_one (dst_ret ((de_and (de_isa (de_name 0) T.z_isinstance T.z_int (.inl rfl) bt_int) (de_and (de_not (de_isa (de_name 0) T.z_isinstance T.z_bool (.inr (.inl rfl)) bt_bool)) (de_one (de_chn le_ok le_ok (de_name 1) (de_name 0) (de_name 2)))))).rv))
theorem ok__law_is_name (T : Tx K mg) : Okf P w K mg base 1 "_law_is_name" ["value"] F__law_is_name :=
  T.d__law_is_name.ok sc__law_is_name 1 rfl fun cdv A outer s H E hr tk po =>
    (dss_cons (dst_if (dw_or (dt_not (dt_tru (de_isa (de_name 0) T.z_isinstance T.z_str (.inr (.inr (.inl rfl))) bt_str))) (dw_or (dt_not (dt_chn le_ok le_ok de_int (de_callB len_ok T.z_len bt_len (da_cons (de_name 0) da_nil)) de_int)) (dw_or1 (dt_cmp (nin_ok (hu65 hr)) (de_ix (de_name 0) de_int) de_str)))).dt (dss_one (dst_ret (de_bl).rv)) dss_nil)
    (dss_one (dst_ret ((de_cmp (eq_ok hr.units) (de_callB len_ok T.z_len bt_len (da_cons ((do_lc [("sign", 1)] sc__law_is_name.nd (di_any (de_name 0)) (fun _ _ _ _ _ => (dgb_name 1 sc__law_is_name.nd)) (fun _ _ _ _ _ => (dts_one (dt_cmp (nin_ok (hu65 hr)) (de_name 1) de_str))) (fun _ _ _ _ _ => (de_name 1)))).frz da_nil)) de_int)).rv)))
theorem ok__law_are_shares (T : Tx K mg) : Okf P w K mg base 2 "_law_are_shares" ["value"] F__law_are_shares :=
  T.d__law_are_shares.ok sc__law_are_shares 3 rfl fun cdv A outer s H E hr tk po =>
    (dss_cons (dst_if (dw_or (dt_not (dt_tru (de_isa (de_name 0) T.z_isinstance T.z_tuple (.inr (.inr (.inr (.inr (.inl rfl))))) bt_tuple))) (dw_or1 (dt_not (dt_chn le_ok le_ok de_int (de_callB len_ok T.z_len bt_len (da_cons (de_name 0) da_nil)) de_int)))).dt (dss_one (dst_ret (de_bl).rv)) dss_nil)
    (dss_cons (dst_new 1 sc__law_are_shares.nd (do_lst da_nil))
    (dss_cons (dst_set 2 sc__law_are_shares.nd de_int)
    (dss_cons (dst_for po (di_any (de_name 0)) (dg_name 3 sc__law_are_shares.nd) (dss_cons (dst_if (dw_or (dt_not (dt_tru (de_isa (de_name 3) T.z_isinstance T.z_tuple (.inr (.inr (.inr (.inr (.inl rfl))))) bt_tuple))) (dw_or (dt_cmp (ne_ok hr.units) (de_callB len_ok T.z_len bt_len (da_cons (de_name 3) da_nil)) de_int) (dw_or (dt_not (dt_tru ((do_f (ok__law_is_name T) (hr.mono (by decide)) tk (da_cons (de_ix (de_name 3) de_int) da_nil) (alenS alen0))).frz)) (dw_or1 (dt_not (dt_tru ((do_f (ok__law_is_number T) (hr.mono (by decide)) tk (da_cons (de_ix (de_name 3) de_int) (da_cons de_int (da_cons de_int da_nil))) (alenS (alenS (alenS alen0))))).frz)))))).dt (dss_one (dst_ret (de_bl).rv)) dss_nil)
      (dss_cons (dst_exp (de_mt PySem.F.slot_list_append PySem.F.type_list_append app_ok (de_name 1) (da_cons (de_ix (de_name 3) de_int) da_nil)))
      (dss_one (dst_set 2 sc__law_are_shares.nd (de_op add_ok (de_name 2) (de_ix (de_name 3) de_int)))))))
    (dss_one (dst_ret ((de_and (de_cmp (eq_ok hr.units) (de_name 2) de_int) (de_one (de_cmp (eq_ok hr.units) (de_lenSet T.z_len T.z_set (de_name 1)) (de_callB len_ok T.z_len bt_len (da_cons (de_name 1) da_nil)))))).rv))))))
theorem ok__law_is_kind (T : Tx K mg) : Okf P w K mg base 2 "_law_is_kind" ["value"] F__law_is_kind :=
  T.d__law_is_kind.ok sc__law_is_kind 1 rfl fun cdv A outer s H E hr tk po =>
    (dss_cons (dst_if (dw_or (dt_not (dt_tru (de_isa (de_name 0) T.z_isinstance T.z_tuple (.inr (.inr (.inr (.inr (.inl rfl))))) bt_tuple))) (dw_or (dt_cmp lt_ok (de_callB len_ok T.z_len bt_len (da_cons (de_name 0) da_nil)) de_int) (dw_or1 (dt_not (dt_tru (de_isa (de_ix (de_name 0) de_int) T.z_isinstance T.z_str (.inr (.inr (.inl rfl))) bt_str)))))).dt (dss_one (dst_ret (de_bl).rv)) dss_nil)
    (dss_cons (dst_if (dt_cmp (eq_ok hr.units) (de_ix (de_name 0) de_int) de_str) (dss_one (dst_ret ((de_and (de_cmp (eq_ok hr.units) (de_callB len_ok T.z_len bt_len (da_cons (de_name 0) da_nil)) de_int) (de_one ((do_f (ok__law_is_number T) (hr.mono (by decide)) tk (da_cons (de_ix (de_name 0) de_int) (da_cons de_int (da_cons de_int da_nil))) (alenS (alenS (alenS alen0))))).frz))).rv)) dss_nil)
    (dss_cons (dst_for po (di_any (de_sl (de_name 0) (dpo_some de_int) (dpo_some de_int))) (dg_name 1 sc__law_is_kind.nd) (dss_one (dst_if (dt_not (dt_tru ((do_f (ok__law_is_number T) (hr.mono (by decide)) tk (da_cons (de_name 1) (da_cons de_int (da_cons (de_op pow_ok de_int de_int) da_nil))) (alenS (alenS (alenS alen0))))).frz)) (dss_one (dst_ret (de_bl).rv)) dss_nil)))
    (dss_cons (dst_if (dt_cmp (in_ok (hu65 hr)) (de_ix (de_name 0) de_int) (de_tup (da_cons de_str (da_cons de_str da_nil)))) (dss_one (dst_ret ((de_cmp (eq_ok hr.units) (de_callB len_ok T.z_len bt_len (da_cons (de_name 0) da_nil)) de_int)).rv)) dss_nil)
    (dss_one (dst_ret ((de_and (de_cmp (eq_ok hr.units) (de_ix (de_name 0) de_int) de_str) (de_and (de_cmp (eq_ok hr.units) (de_callB len_ok T.z_len bt_len (da_cons (de_name 0) da_nil)) de_int) (de_and ((do_f (ok__law_is_number T) (hr.mono (by decide)) tk (da_cons (de_ix (de_name 0) de_int) (da_cons de_int (da_cons de_int da_nil))) (alenS (alenS (alenS alen0))))).frz (de_one ((do_f (ok__law_is_number T) (hr.mono (by decide)) tk (da_cons (de_ix (de_name 0) de_int) (da_cons de_int (da_cons de_int da_nil))) (alenS (alenS (alenS alen0))))).frz))))).rv))))))
theorem ok__law_is_treaty (T : Tx K mg) : Okf P w K mg base 3 "_law_is_treaty" ["value"] F__law_is_treaty :=
  T.d__law_is_treaty.ok sc__law_is_treaty 1 rfl fun cdv A outer s H E hr tk po =>
    (dss_cons (dst_if (dw_or (dt_not (dt_tru (de_isa (de_name 0) T.z_isinstance T.z_tuple (.inr (.inr (.inr (.inr (.inl rfl))))) bt_tuple))) (dw_or (dt_cmp (ne_ok hr.units) (de_callB len_ok T.z_len bt_len (da_cons (de_name 0) da_nil)) de_int) (dw_or (dt_not (dt_tru (de_isa (de_ix (de_name 0) de_int) T.z_isinstance T.z_str (.inr (.inr (.inl rfl))) bt_str))) (dw_or1 (dt_cmp (ne_ok hr.units) (de_ix (de_name 0) de_int) de_str))))).dt (dss_one (dst_ret (de_bl).rv)) dss_nil)
    (dss_cons (dst_if (dw_or (dt_not (dt_tru ((do_f (ok__law_is_name T) (hr.mono (by decide)) tk (da_cons (de_ix (de_name 0) de_int) da_nil) (alenS alen0))).frz)) (dw_or (dt_not (dt_tru ((do_f (ok__law_is_number T) (hr.mono (by decide)) tk (da_cons (de_ix (de_name 0) de_int) (da_cons de_int (da_cons de_int da_nil))) (alenS (alenS (alenS alen0))))).frz)) (dw_or1 (dt_not (dt_tru ((do_f (ok__law_is_number T) (hr.mono (by decide)) tk (da_cons (de_ix (de_name 0) de_int) (da_cons de_int (da_cons de_int da_nil))) (alenS (alenS (alenS alen0))))).frz))))).dt (dss_one (dst_ret (de_bl).rv)) dss_nil)
    (dss_cons (dst_if (dw_or (dt_cmp gt_ok (de_ix (de_name 0) de_int) (de_ix (de_name 0) de_int)) (dw_or (dt_not (dt_tru ((do_f (ok__law_is_name T) (hr.mono (by decide)) tk (da_cons (de_ix (de_name 0) de_int) da_nil) (alenS alen0))).frz)) (dw_or1 (dt_not (dt_tru ((do_f (ok__law_are_shares T) (hr.mono (by decide)) tk (da_cons (de_ix (de_name 0) de_int) da_nil) (alenS alen0))).frz))))).dt (dss_one (dst_ret (de_bl).rv)) dss_nil)
    (dss_one (dst_ret ((de_and (de_cmp (nin_ok (hu65 hr)) (de_ix (de_name 0) de_int) ((do_lc [("pair", 1)] sc__law_is_treaty.nd (di_any (de_ix (de_name 0) de_int)) (fun _ _ _ _ _ => (dgb_name 1 sc__law_is_treaty.nd)) (fun _ _ _ _ _ => dts_nil) (fun _ _ _ _ _ => (de_ix (de_name 1) de_int)))).frz) (de_and ((do_f (ok__law_is_kind T) (hr.mono (by decide)) tk (da_cons (de_ix (de_name 0) de_int) da_nil) (alenS alen0))).frz (de_one ((do_f (ok__law_is_number T) (hr.mono (by decide)) tk (da_cons (de_ix (de_name 0) de_int) (da_cons de_int (da_cons (de_op pow_ok de_int de_int) da_nil))) (alenS (alenS (alenS alen0))))).frz)))).rv)))))
theorem ok__law_are_treaties (T : Tx K mg) : Okf P w K mg base 4 "_law_are_treaties" ["value"] F__law_are_treaties :=
  T.d__law_are_treaties.ok sc__law_are_treaties 3 rfl fun cdv A outer s H E hr tk po =>
    (dss_cons (dst_if (dw_or (dt_not (dt_tru (de_isa (de_name 0) T.z_isinstance T.z_tuple (.inr (.inr (.inr (.inr (.inl rfl))))) bt_tuple))) (dw_or1 (dt_cmp gt_ok (de_callB len_ok T.z_len bt_len (da_cons (de_name 0) da_nil)) de_int))).dt (dss_one (dst_ret (de_bl).rv)) dss_nil)
    (dss_cons (dst_for po (di_any (de_name 0)) (dg_name 1 sc__law_are_treaties.nd) (dss_one (dst_if (dt_not (dt_tru ((do_f (ok__law_is_treaty T) (hr.mono (by decide)) tk (da_cons (de_name 1) da_nil) (alenS alen0))).frz)) (dss_one (dst_ret (de_bl).rv)) dss_nil)))
    (dss_cons (dst_setLc 2 [("one", 1)] sc__law_are_treaties.nd (di_any (de_name 0)) (fun _ _ _ _ _ => (dgb_name 1 sc__law_are_treaties.nd)) (fun _ _ _ _ _ => dts_nil) (fun _ _ _ _ _ => (de_ix (de_name 1) de_int)))
    (dss_cons (dst_set 3 sc__law_are_treaties.nd (de_sortedSet T.z_sorted T.z_set (de_op add_ok ((do_lc [("one", 1)] sc__law_are_treaties.nd (di_any (de_name 0)) (fun _ _ _ _ _ => (dgb_name 1 sc__law_are_treaties.nd)) (fun _ _ _ _ _ => dts_nil) (fun _ _ _ _ _ => (de_ix (de_name 1) de_int)))).frz ((do_f (ok__law_takers T) (hr.mono (by decide)) tk (da_cons (de_name 0) da_nil) (alenS alen0))).frz)))
    (dss_one (dst_ret ((de_and (de_cmp (eq_ok hr.units) (de_lenSet T.z_len T.z_set (de_name 2)) (de_callB len_ok T.z_len bt_len (da_cons (de_name 2) da_nil))) (de_one (de_cmp (eq_ok hr.units) (de_callB len_ok T.z_len bt_len (da_cons ((do_f (ok__law_in_order T) (hr.mono (by decide)) tk (da_cons (de_name 0) (da_cons ((do_lst da_nil)).frz da_nil)) (alenS (alenS alen0)))).frz da_nil)) (de_callB len_ok T.z_len bt_len (da_cons (de_name 3) da_nil)))))).rv))))))
theorem ok__law_spoilt (T : Tx K mg) : Okf P w K mg base 3 "_law_spoilt" ["draws", "treaties"] F__law_spoilt :=
  T.d__law_spoilt.ok sc__law_spoilt 5 rfl fun cdv A outer s H E hr tk po =>
    (dss_cons (dst_set 2 sc__law_spoilt.nd (de_op mod_ok ((do_fC (ok__law_draw T) (hr.mono (by decide)) tk (da_cons (de_name 0) da_nil) (alenS alen0))).frz (de_callB len_ok T.z_len bt_len (da_cons (de_name 1) da_nil))))
    (dss_cons (dst_set 3 sc__law_spoilt.nd (de_ix (de_name 1) (de_name 2)))
    (dss_cons (dst_set 4 sc__law_spoilt.nd (de_op mod_ok ((do_fC (ok__law_draw T) (hr.mono (by decide)) tk (da_cons (de_name 0) da_nil) (alenS alen0))).frz de_int))
    (dss_cons (dst_set 5 sc__law_spoilt.nd (de_op mod_ok ((do_fC (ok__law_draw T) (hr.mono (by decide)) tk (da_cons (de_name 0) da_nil) (alenS alen0))).frz de_int))
    (dss_cons (dst_set 6 sc__law_spoilt.nd ((do_lst (da_cons de_non (da_cons (de_neg de_int) (da_cons de_bl (da_cons de_str (da_cons de_str (da_cons de_str (da_cons (de_tup da_nil) (da_cons de_int (da_cons (de_op add_ok (de_op pow_ok de_int de_int) de_int) (da_cons de_str (da_cons de_str (da_cons (de_tup (da_cons de_str da_nil)) (da_cons (de_tup (da_cons de_str (da_cons de_int da_nil))) (da_cons (de_tup (da_cons de_str (da_cons de_int da_nil))) da_nil)))))))))))))))).frz)
    (dss_cons (dst_if (dt_cmp lt_ok (de_name 4) de_int) (dss_one (dst_set 3 sc__law_spoilt.nd (de_op add_ok (de_op add_ok (de_sl (de_name 3) dpo_none (dpo_some (de_name 5))) (de_tup (da_cons (de_ix (de_name 6) (de_op mod_ok ((do_fC (ok__law_draw T) (hr.mono (by decide)) tk (da_cons (de_name 0) da_nil) (alenS alen0))).frz de_int)) da_nil))) (de_sl (de_name 3) (dpo_some (de_op add_ok (de_name 5) de_int)) dpo_none)))) (dss_one (dst_if (dt_cmp (eq_ok hr.units) (de_name 4) de_int) (dss_one (dst_set 3 sc__law_spoilt.nd (de_op add_ok (de_op add_ok (de_sl (de_name 3) dpo_none (dpo_some de_int)) (de_tup (da_cons (de_op add_ok (de_ix (de_name 3) de_int) (de_tup (da_cons (de_tup (da_cons (de_ix (de_name 3) de_int) (da_cons de_int da_nil))) da_nil))) da_nil))) (de_sl (de_name 3) (dpo_some de_int) dpo_none)))) (dss_one (dst_if (dt_cmp (eq_ok hr.units) (de_name 4) de_int) (dss_one (dst_set 3 sc__law_spoilt.nd (de_op add_ok (de_op add_ok (de_sl (de_name 3) dpo_none (dpo_some de_int)) (de_tup (da_cons (de_tup (da_cons (de_tup (da_cons (de_ix (de_name 3) de_int) (da_cons de_int da_nil))) da_nil)) da_nil))) (de_sl (de_name 3) (dpo_some de_int) dpo_none)))) (dss_one (dst_if (dt_cmp (eq_ok hr.units) (de_name 4) de_int) (dss_one (dst_set 3 sc__law_spoilt.nd (de_op add_ok (de_op add_ok (de_sl (de_name 3) dpo_none (dpo_some de_int)) (de_tup (da_cons de_str (da_cons (de_tup (da_cons (de_tup (da_cons (de_ix (de_ix (de_name 1) de_int) de_int) (da_cons de_int da_nil))) da_nil)) da_nil)))) (de_sl (de_name 3) (dpo_some de_int) dpo_none)))) (dss_one (dst_if (dt_cmp (eq_ok hr.units) (de_name 4) de_int) (dss_one (dst_set 3 sc__law_spoilt.nd (de_op add_ok (de_op add_ok (de_sl (de_name 3) dpo_none (dpo_some de_int)) (de_tup (da_cons (de_ix (de_name 3) de_int) (da_cons (de_ix (de_name 3) de_int) da_nil)))) (de_sl (de_name 3) (dpo_some de_int) dpo_none)))) (dss_one (dst_if (dt_cmp (eq_ok hr.units) (de_name 4) de_int) (dss_one (dst_set 3 sc__law_spoilt.nd (de_callT list_ok T.z_list bt_list (da_cons (de_name 3) da_nil)))) (dss_one (dst_if (dt_cmp (eq_ok hr.units) (de_name 4) de_int) (dss_one (dst_set 3 sc__law_spoilt.nd (de_op add_ok (de_op add_ok (de_sl (de_name 3) dpo_none (dpo_some de_int)) (de_tup (da_cons (de_tup (da_cons de_str (da_cons de_int (da_cons de_int (da_cons (de_ix ((do_lst (da_cons de_int (da_cons de_int (da_cons de_bl da_nil))))).frz (de_op mod_ok ((do_fC (ok__law_draw T) (hr.mono (by decide)) tk (da_cons (de_name 0) da_nil) (alenS alen0))).frz de_int)) (da_cons de_int da_nil)))))) da_nil))) (de_sl (de_name 3) (dpo_some de_int) dpo_none)))) (dss_one (dst_if (dt_cmp (eq_ok hr.units) (de_name 4) de_int) (dss_one (dst_ret ((de_op add_ok (de_name 1) (de_tup (da_cons (de_tup (da_cons de_str (da_cons de_str (da_cons de_int (da_cons de_int (da_cons (de_ix (de_ix (de_ix (de_name 3) de_int) de_int) de_int) (da_cons (de_tup (da_cons (de_tup (da_cons (de_ix (de_name 3) de_int) (da_cons de_int da_nil))) da_nil)) (da_cons (de_tup (da_cons de_str (da_cons de_int da_nil))) (da_cons de_int da_nil))))))))) da_nil)))).rv)) (dss_one (dst_ret ((de_ix ((do_lst (da_cons (de_op add_ok (de_name 1) (de_sl (de_name 1) dpo_none (dpo_some de_int))) (da_cons (de_callT list_ok T.z_list bt_list (da_cons (de_name 1) da_nil)) (da_cons (de_op add_ok (de_name 1) (de_tup (da_cons de_non da_nil))) (da_cons de_non (da_cons de_int da_nil))))))).frz (de_op mod_ok ((do_fC (ok__law_draw T) (hr.mono (by decide)) tk (da_cons (de_name 0) da_nil) (alenS alen0))).frz de_int))).rv)))))))))))))))))
    (dss_one (dst_ret ((de_op add_ok (de_op add_ok (de_sl (de_name 1) dpo_none (dpo_some (de_name 2))) (de_tup (da_cons (de_name 3) da_nil))) (de_sl (de_name 1) (dpo_some (de_op add_ok (de_name 2) de_int)) dpo_none))).rv))))))))
theorem ok__law_refused (T : Tx K mg) : Okf P w K mg base 7 "_law_refused" ["value"] F__law_refused :=
  T.d__law_refused.ok sc__law_refused 1 rfl fun cdv A outer s H E hr tk po =>
    (dss_cons (dst_try 1 sc__law_refused.nd tk ⟨rfl, by decide, .inl T.x_BadTreaty.g⟩ (ex_sub_BadTreaty T) (fun _ _ _ tk po => (dss_one (dst_exp ((do_f (ok_check_treaties T) (hr.mono (by decide)) tk (da_cons (de_name 0) da_nil) (alenS alen0))).frz))) (fun a oe cls pn c kn ec hz hf => by
      obtain ⟨rfl, hE⟩ := ex_cls T c cls kn ec
      exact (dss_cons (dst_if (dw_or (dt_not (dt_tru (de_isE 1 hE hz hf (ex_kit_WhatbefellError T c kn) T.z_isinstance T.x_WhatbefellError.g))) (dw_or (dt_tru (de_isE 1 hE hz hf (ex_kit_BadArgument T c kn) T.z_isinstance T.x_BadArgument.g)) (dw_or1 (dt_tru (de_isE 1 hE hz hf (ex_kit_BadWords T c kn) T.z_isinstance T.x_BadWords.g))))).dt (dss_one (dst_ret (do_lst (da_cons de_bl da_nil)))) dss_nil)
      (dss_one (dst_ret ((de_if (dw_and (dt_not (dt_tru (de_isE 1 hE hz hf (ex_kit_BadForm T c kn) T.z_isinstance T.x_BadForm.g))) (dw_and1 (dt_not (dt_tru (de_isE 1 hE hz hf (ex_kit_BadRecord T c kn) T.z_isinstance T.x_BadRecord.g))))).dt ((do_lst (da_cons de_str da_nil))).frz ((do_lst (da_cons de_bl da_nil))).frz)).rv)))))
    (dss_one (dst_ret (do_lst (da_cons de_str da_nil)))))
theorem law_fn {fd : FuncData} (T : Tx K mg) (Fd : FunD K "law" "law" (defArgs st_law) (defBody st_law) (defScope st_law) [] [] (He.ga K "law") fd) : FnOk P w K mg base (L2.CX P w) 8 (He.ga K "law") fd ["script"] (spE mg 1 (F_law)) :=
  def_ok Fd sc_law 4 rfl fun cdv A outer s H E hr tk po =>
    (dss_cons (dst_new 1 sc_law.nd (do_lst (da_cons ((do_f (ok__law_numbers T) (hr.mono (by decide)) tk (da_cons (de_name 0) da_nil) (alenS alen0))).frz (da_cons de_int da_nil))))
    (dss_cons (dst_set 2 sc_law.nd ((do_fC (ok__law_treaties T) (hr.mono (by decide)) tk (da_cons (de_name 1) (da_cons (de_op add_ok de_int (de_op mod_ok ((do_fC (ok__law_draw T) (hr.mono (by decide)) tk (da_cons (de_name 1) da_nil) (alenS alen0))).frz de_int)) da_nil)) (alenS (alenS alen0)))).frz)
    (dss_cons (dst_if (dw_or (dt_isnn ((do_f (ok_check_treaties T) (hr.mono (by decide)) tk (da_cons (de_name 2) da_nil) (alenS alen0))).frz) (dw_or1 (dt_isnn ((do_f (ok_check_treaties T) (hr.mono (by decide)) tk (da_cons (de_tup da_nil) da_nil) (alenS alen0))).frz))).dt (dss_one (dst_ret (de_bl).rv)) dss_nil)
    (dss_cons (dst_for po (di_rng de_int T.z_range) (dg_name 3 sc_law.nd) (dss_cons (dst_set 4 sc_law.nd ((do_fC (ok__law_spoilt T) (hr.mono (by decide)) tk (da_cons (de_name 1) (da_cons (de_name 2) da_nil)) (alenS (alenS alen0)))).frz)
      (dss_one (dst_if (dt_cmp (ne_ok hr.units) ((do_f (ok__law_refused T) (hr.mono (by decide)) tk (da_cons (de_name 4) da_nil) (alenS alen0))).frz (de_ix ((do_lst (da_cons ((do_lst (da_cons de_str da_nil))).frz (da_cons ((do_lst (da_cons de_str da_nil))).frz da_nil)))).frz (de_callT int_ok T.z_int bt_int (da_cons ((do_f (ok__law_are_treaties T) (hr.mono (by decide)) tk (da_cons (de_name 4) da_nil) (alenS alen0))).frz da_nil)))) (dss_one (dst_ret (de_bl).rv)) dss_nil))))
    (dss_one (dst_ret (de_bl).rv))))))
end
end Law

set_option Elab.async false
set_option linter.all false
set_option maxRecDepth 100000
set_option maxHeartbeats 4000000
namespace Law
open PySem L2 Dn
def fan : List He.Fa := [.glo "is_number", .glo "is_name", .glo "is_day", .glo "is_money", .glo "is_tuple", .glo "are_unlike", .glo "are_shares", .glo "is_kind", .glo "is_treaty", .glo "givers_first", .glo "are_treaties", .glo "check_treaties", .glo "_law_mixed", .glo "_law_numbers", .glo "_law_draw", .glo "_law_equal", .glo "_law_all_equal", .glo "_law_in_order", .glo "_law_takers", .glo "_law_amount", .glo "_law_shares", .glo "_law_kind", .glo "_law_treaties", .glo "_law_is_number", .glo "_law_is_name", .glo "_law_are_shares", .glo "_law_is_kind", .glo "_law_is_treaty", .glo "_law_are_treaties", .glo "_law_spoilt", .glo "_law_refused", .glo "law", .free "bool", .free "int", .free "isinstance", .free "len", .free "list", .free "max", .free "min", .free "range", .free "set", .free "sorted", .free "str", .free "sum", .free "tuple", .str "LETTERS" "abcdefghijklmnopqrstuvwxyz", .str "FIGURES" "0123456789", .int "MONEY" (1000000000000), .int "LAST" (36500), .glo "WhatbefellError", .exc "WhatbefellError", .glo "BadForm", .exc "BadForm", .glo "BadRecord", .exc "BadRecord", .glo "BadWords", .exc "BadWords", .glo "BadTreaty", .exc "BadTreaty", .glo "BadArgument", .exc "BadArgument", .exm "WhatbefellError" "BadTreaty" false, .exm "BadForm" "BadTreaty" false, .exm "BadRecord" "BadTreaty" false, .exm "BadWords" "BadTreaty" false, .exm "BadTreaty" "BadTreaty" true, .exm "BadArgument" "BadTreaty" false]
def fbl (K : PySem.W.Frag) : List Bool := [excB K "WhatbefellError", excB K "BadForm", excB K "BadRecord", excB K "BadWords", excB K "BadTreaty", excB K "BadArgument", kitB K "WhatbefellError" "BadArgument" false, kitB K "BadForm" "BadArgument" false, kitB K "BadRecord" "BadArgument" false, kitB K "BadWords" "BadArgument" false, kitB K "BadTreaty" "BadArgument" false, kitB K "BadArgument" "BadArgument" true, kitB K "WhatbefellError" "BadForm" false, kitB K "BadForm" "BadForm" true, kitB K "BadRecord" "BadForm" false, kitB K "BadWords" "BadForm" false, kitB K "BadTreaty" "BadForm" false, kitB K "BadArgument" "BadForm" false, kitB K "WhatbefellError" "BadRecord" false, kitB K "BadForm" "BadRecord" false, kitB K "BadRecord" "BadRecord" true, kitB K "BadWords" "BadRecord" false, kitB K "BadTreaty" "BadRecord" false, kitB K "BadArgument" "BadRecord" false, kitB K "WhatbefellError" "BadWords" false, kitB K "BadForm" "BadWords" false, kitB K "BadRecord" "BadWords" false, kitB K "BadWords" "BadWords" true, kitB K "BadTreaty" "BadWords" false, kitB K "BadArgument" "BadWords" false, kitB K "WhatbefellError" "WhatbefellError" true, kitB K "BadForm" "WhatbefellError" true, kitB K "BadRecord" "WhatbefellError" true, kitB K "BadWords" "WhatbefellError" true, kitB K "BadTreaty" "WhatbefellError" true, kitB K "BadArgument" "WhatbefellError" true]
def fbn (K : PySem.W.Frag) : Bool := (fbl K).all id
theorem fbn_at {K : PySem.W.Frag} (h : fbn K = true) (i : Nat) {b : Bool} (e : (fbl K)[i]? = some b) : b = true := by
  unfold fbn at h
  rw [List.all_eq_true] at h
  exact h b (List.mem_of_getElem? e)
def fnn : List He.DefD := [dfd "is_number" st_is_number, dfd "is_name" st_is_name, dfd "is_day" st_is_day, dfd "is_money" st_is_money, dfd "is_tuple" st_is_tuple, dfd "are_unlike" st_are_unlike, dfd "are_shares" st_are_shares, dfd "is_kind" st_is_kind, dfd "is_treaty" st_is_treaty, dfd "givers_first" st_givers_first, dfd "are_treaties" st_are_treaties, dfd "check_treaties" st_check_treaties, dfd "_law_mixed" st__law_mixed, dfd "_law_numbers" st__law_numbers, dfd "_law_draw" st__law_draw, dfd "_law_equal" st__law_equal, dfd "_law_all_equal" st__law_all_equal, dfd "_law_in_order" st__law_in_order, dfd "_law_takers" st__law_takers, dfd "_law_amount" st__law_amount, dfd "_law_shares" st__law_shares, dfd "_law_kind" st__law_kind, dfd "_law_treaties" st__law_treaties, dfd "_law_is_number" st__law_is_number, dfd "_law_is_name" st__law_is_name, dfd "_law_are_shares" st__law_are_shares, dfd "_law_is_kind" st__law_is_kind, dfd "_law_is_treaty" st__law_is_treaty, dfd "_law_are_treaties" st__law_are_treaties, dfd "_law_spoilt" st__law_spoilt, dfd "_law_refused" st__law_refused, dfd "law" st_law]
abbrev R : PySem.W.OpenRow := PySem.W.OpenLaw.row PySem.Challenge.rw_whatbefell_k41_treaties_are_checked
def loo0 : List PySem.Str := ["WhatbefellError", "BadForm", "BadRecord", "BadWords", "BadTreaty", "BadArgument", "LETTERS", "FIGURES", "MONEY", "LAST", "is_number", "is_name", "is_day", "is_money", "is_tuple", "are_unlike", "are_shares", "is_kind", "is_treaty", "givers_first"]
def loo1 : List PySem.Str := ["are_treaties", "check_treaties", "_law_mixed", "_law_numbers", "_law_draw", "_law_equal", "_law_all_equal", "_law_in_order", "_law_takers", "_law_amount", "_law_shares", "_law_kind", "_law_treaties", "_law_is_number", "_law_is_name", "_law_are_shares", "_law_is_kind", "_law_is_treaty", "_law_are_treaties", "_law_spoilt"]
def loo2 : List PySem.Str := ["_law_refused"]
def loo : List PySem.Str := loo0 ++ loo1 ++ loo2
theorem run (w : World) : HandSHeadRun.RunEq R (PySem.W.view R.prog [45]) (hookL 5 fan fnn fbn) (obL 5 fan fnn fbn) 6000 loo w := by
  intro os
  kernel_rfl
theorem tx_of {K : PySem.W.Frag} {mg : PySem.Str → Option Value} {h : Heap} (X : K.In h) (G : h.Ns mainGlobals mg) (c : He.SaysD fan fnn K) (cb : fbn K = true) : Tx K mg where
  z_bool := He.free_ok X G (c.fact 32 rfl)
  z_int := He.free_ok X G (c.fact 33 rfl)
  z_isinstance := He.free_ok X G (c.fact 34 rfl)
  z_len := He.free_ok X G (c.fact 35 rfl)
  z_list := He.free_ok X G (c.fact 36 rfl)
  z_max := He.free_ok X G (c.fact 37 rfl)
  z_min := He.free_ok X G (c.fact 38 rfl)
  z_range := He.free_ok X G (c.fact 39 rfl)
  z_set := He.free_ok X G (c.fact 40 rfl)
  z_sorted := He.free_ok X G (c.fact 41 rfl)
  z_str := He.free_ok X G (c.fact 42 rfl)
  z_sum := He.free_ok X G (c.fact 43 rfl)
  z_tuple := He.free_ok X G (c.fact 44 rfl)
  m_LETTERS := He.str_ok X G (c.fact 45 rfl)
  m_FIGURES := He.str_ok X G (c.fact 46 rfl)
  m_MONEY := He.int_ok X G (c.fact 47 rfl)
  m_LAST := He.int_ok X G (c.fact 48 rfl)
  x_WhatbefellError := exf_of X G c 49 50 rfl rfl
  x_BadForm := exf_of X G c 51 52 rfl rfl
  x_BadRecord := exf_of X G c 53 54 rfl rfl
  x_BadWords := exf_of X G c 55 56 rfl rfl
  x_BadTreaty := exf_of X G c 57 58 rfl rfl
  x_BadArgument := exf_of X G c 59 60 rfl rfl
  e_WhatbefellError := excB_ok (fbn_at cb 0 rfl)
  e_BadForm := excB_ok (fbn_at cb 1 rfl)
  e_BadRecord := excB_ok (fbn_at cb 2 rfl)
  e_BadWords := excB_ok (fbn_at cb 3 rfl)
  e_BadTreaty := excB_ok (fbn_at cb 4 rfl)
  e_BadArgument := excB_ok (fbn_at cb 5 rfl)
  k_WhatbefellError_BadArgument := kitB_ok (fbn_at cb 6 rfl)
  k_BadForm_BadArgument := kitB_ok (fbn_at cb 7 rfl)
  k_BadRecord_BadArgument := kitB_ok (fbn_at cb 8 rfl)
  k_BadWords_BadArgument := kitB_ok (fbn_at cb 9 rfl)
  k_BadTreaty_BadArgument := kitB_ok (fbn_at cb 10 rfl)
  k_BadArgument_BadArgument := kitB_ok (fbn_at cb 11 rfl)
  k_WhatbefellError_BadForm := kitB_ok (fbn_at cb 12 rfl)
  k_BadForm_BadForm := kitB_ok (fbn_at cb 13 rfl)
  k_BadRecord_BadForm := kitB_ok (fbn_at cb 14 rfl)
  k_BadWords_BadForm := kitB_ok (fbn_at cb 15 rfl)
  k_BadTreaty_BadForm := kitB_ok (fbn_at cb 16 rfl)
  k_BadArgument_BadForm := kitB_ok (fbn_at cb 17 rfl)
  k_WhatbefellError_BadRecord := kitB_ok (fbn_at cb 18 rfl)
  k_BadForm_BadRecord := kitB_ok (fbn_at cb 19 rfl)
  k_BadRecord_BadRecord := kitB_ok (fbn_at cb 20 rfl)
  k_BadWords_BadRecord := kitB_ok (fbn_at cb 21 rfl)
  k_BadTreaty_BadRecord := kitB_ok (fbn_at cb 22 rfl)
  k_BadArgument_BadRecord := kitB_ok (fbn_at cb 23 rfl)
  k_WhatbefellError_BadWords := kitB_ok (fbn_at cb 24 rfl)
  k_BadForm_BadWords := kitB_ok (fbn_at cb 25 rfl)
  k_BadRecord_BadWords := kitB_ok (fbn_at cb 26 rfl)
  k_BadWords_BadWords := kitB_ok (fbn_at cb 27 rfl)
  k_BadTreaty_BadWords := kitB_ok (fbn_at cb 28 rfl)
  k_BadArgument_BadWords := kitB_ok (fbn_at cb 29 rfl)
  k_WhatbefellError_WhatbefellError := kitB_ok (fbn_at cb 30 rfl)
  k_BadForm_WhatbefellError := kitB_ok (fbn_at cb 31 rfl)
  k_BadRecord_WhatbefellError := kitB_ok (fbn_at cb 32 rfl)
  k_BadWords_WhatbefellError := kitB_ok (fbn_at cb 33 rfl)
  k_BadTreaty_WhatbefellError := kitB_ok (fbn_at cb 34 rfl)
  k_BadArgument_WhatbefellError := kitB_ok (fbn_at cb 35 rfl)
  s_WhatbefellError_BadTreaty := He.exm_ok (c.fact 61 rfl)
  s_BadForm_BadTreaty := He.exm_ok (c.fact 62 rfl)
  s_BadRecord_BadTreaty := He.exm_ok (c.fact 63 rfl)
  s_BadWords_BadTreaty := He.exm_ok (c.fact 64 rfl)
  s_BadTreaty_BadTreaty := He.exm_ok (c.fact 65 rfl)
  s_BadArgument_BadTreaty := He.exm_ok (c.fact 66 rfl)
  d_is_number := dfn_of X G c 0 0 rfl rfl fun _ _ _ _ _ _ us hl => match us, hl with | [_, _, _], _ => rfl
  d_is_name := dfn_of X G c 1 1 rfl rfl fun _ _ _ _ _ _ us hl => match us, hl with | [_], _ => rfl
  d_is_day := dfn_of X G c 2 2 rfl rfl fun _ _ _ _ _ _ us hl => match us, hl with | [_], _ => rfl
  d_is_money := dfn_of X G c 3 3 rfl rfl fun _ _ _ _ _ _ us hl => match us, hl with | [_], _ => rfl
  d_is_tuple := dfn_of X G c 4 4 rfl rfl fun _ _ _ _ _ _ us hl => match us, hl with | [_, _, _], _ => rfl
  d_are_unlike := dfn_of X G c 5 5 rfl rfl fun _ _ _ _ _ _ us hl => match us, hl with | [_], _ => rfl
  d_are_shares := dfn_of X G c 6 6 rfl rfl fun _ _ _ _ _ _ us hl => match us, hl with | [_], _ => rfl
  d_is_kind := dfn_of X G c 7 7 rfl rfl fun _ _ _ _ _ _ us hl => match us, hl with | [_], _ => rfl
  d_is_treaty := dfn_of X G c 8 8 rfl rfl fun _ _ _ _ _ _ us hl => match us, hl with | [_], _ => rfl
  d_givers_first := dfn_of X G c 9 9 rfl rfl fun _ _ _ _ _ _ us hl => match us, hl with | [_], _ => rfl
  d_are_treaties := dfn_of X G c 10 10 rfl rfl fun _ _ _ _ _ _ us hl => match us, hl with | [_], _ => rfl
  d_check_treaties := dfn_of X G c 11 11 rfl rfl fun _ _ _ _ _ _ us hl => match us, hl with | [_], _ => rfl
  d__law_mixed := dfn_of X G c 12 12 rfl rfl fun _ _ _ _ _ _ us hl => match us, hl with | [_, _], _ => rfl
  d__law_numbers := dfn_of X G c 13 13 rfl rfl fun _ _ _ _ _ _ us hl => match us, hl with | [_], _ => rfl
  d__law_draw := dfn_of X G c 14 14 rfl rfl fun _ _ _ _ _ _ us hl => match us, hl with | [_], _ => rfl
  d__law_equal := dfn_of X G c 15 15 rfl rfl fun _ _ _ _ _ _ us hl => match us, hl with | [_, _], _ => rfl
  d__law_all_equal := dfn_of X G c 16 16 rfl rfl fun _ _ _ _ _ _ us hl => match us, hl with | [_, _], _ => rfl
  d__law_in_order := dfn_of X G c 17 17 rfl rfl fun _ _ _ _ _ _ us hl => match us, hl with | [_, _], _ => rfl
  d__law_takers := dfn_of X G c 18 18 rfl rfl fun _ _ _ _ _ _ us hl => match us, hl with | [_], _ => rfl
  d__law_amount := dfn_of X G c 19 19 rfl rfl fun _ _ _ _ _ _ us hl => match us, hl with | [_], _ => rfl
  d__law_shares := dfn_of X G c 20 20 rfl rfl fun _ _ _ _ _ _ us hl => match us, hl with | [_, _, _], _ => rfl
  d__law_kind := dfn_of X G c 21 21 rfl rfl fun _ _ _ _ _ _ us hl => match us, hl with | [_], _ => rfl
  d__law_treaties := dfn_of X G c 22 22 rfl rfl fun _ _ _ _ _ _ us hl => match us, hl with | [_, _], _ => rfl
  d__law_is_number := dfn_of X G c 23 23 rfl rfl fun _ _ _ _ _ _ us hl => match us, hl with | [_, _, _], _ => rfl
  d__law_is_name := dfn_of X G c 24 24 rfl rfl fun _ _ _ _ _ _ us hl => match us, hl with | [_], _ => rfl
  d__law_are_shares := dfn_of X G c 25 25 rfl rfl fun _ _ _ _ _ _ us hl => match us, hl with | [_], _ => rfl
  d__law_is_kind := dfn_of X G c 26 26 rfl rfl fun _ _ _ _ _ _ us hl => match us, hl with | [_], _ => rfl
  d__law_is_treaty := dfn_of X G c 27 27 rfl rfl fun _ _ _ _ _ _ us hl => match us, hl with | [_], _ => rfl
  d__law_are_treaties := dfn_of X G c 28 28 rfl rfl fun _ _ _ _ _ _ us hl => match us, hl with | [_], _ => rfl
  d__law_spoilt := dfn_of X G c 29 29 rfl rfl fun _ _ _ _ _ _ us hl => match us, hl with | [_, _], _ => rfl
  d__law_refused := dfn_of X G c 30 30 rfl rfl fun _ _ _ _ _ _ us hl => match us, hl with | [_], _ => rfl
  d_law := dfn_of X G c 31 31 rfl rfl fun _ _ _ _ _ _ us hl => match us, hl with | [_], _ => rfl
end Law
open PySem PySem.W PySem.Calls PyProof.Rows
set_option maxHeartbeats 0 in
theorem PySem.Challenge.cw_whatbefell_k41_treaties_are_checked_holds : PySem.Challenge.rw_whatbefell_k41_treaties_are_checked.Holds := by
  w_on; o_law
  refine HandSHeadRun.head_any (r := OpenLaw.row PySem.Challenge.rw_whatbefell_k41_treaties_are_checked) (q := view (OpenLaw.row PySem.Challenge.rw_whatbefell_k41_treaties_are_checked).prog [45]) (H := Dn.hookL 5 Law.fan Law.fnn Law.fbn) (ob := Dn.obL 5 Law.fan Law.fnn Law.fbn) (M := 6000) (loose := Law.loo) (d := HandSHeadRun.topDef (OpenLaw.row PySem.Challenge.rw_whatbefell_k41_treaties_are_checked).prog 45) (kwd := []) (Dn.obL_eq 5 Law.fan Law.fnn Law.fbn)
    (by kernel_rfl) (fun s => by kernel_rfl) Law.run (by kernel_rfl) (by kernel_rfl) (by kernel_rfl) (by rfl) (by first | assumption | decide +kernel) (by decide +kernel) ⟨rfl, rfl, rfl, rfl, rfl, by decide +kernel⟩ ?hw ?hc
  case hw => w_witness2
  case hc =>
    refine Dn.law_end (l := PySem.Challenge.rw_whatbefell_k41_treaties_are_checked) (n := 63) (k := 8) (x := "script") (F := fun K => Law.F_law) rfl (by decide) (by kernel_rfl) ⟨rfl, by decide, by decide⟩ ?_ (fun K ns h => Law.law_true K ns h)
    intro w mg h K X c cb G
    have T : Law.Tx K mg := Law.tx_of X G c cb
    have e : (HandSHeadRun.topDef (OpenLaw.row PySem.Challenge.rw_whatbefell_k41_treaties_are_checked).prog 45).name = ("law" : PySem.Str) := by kernel_rfl
    rw [e]
    obtain ⟨fd, F⟩ := c.def_ 31 (d := Dn.dfd "law" Law.st_law) rfl
    have b := L2.FunD.bindsA (ps := ["script"]) F fun _ _ _ _ _ _ us hl => match us, hl with | [_], _ => rfl
    refine ⟨fd, T.d_law.g, fun s v => b s [v] rfl, fun base _ _ => ?_⟩
    exact Law.law_fn T F
